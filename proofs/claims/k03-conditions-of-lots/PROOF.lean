import PyProof.Rows.All
import Wide.All
import OpenK.AllK
import Wide.FinOn
import HandS.ForMost
import HandS.ForExc
import HandS.Walk
import HandS.TupAny
import HandS.IsInst
import HandS.Conv
import HandS.SetFor
import HandS.SortOrd
import HandS.SortRule
import KE.LtSeq
import KE.GoesEnum
import HandS.TupMul
import HandS.Style
import PyProof.InstEq
import HandS.OwnEq
import PyProof.ListStr
import HandS.Dict
import HandS.ExcInit
import HandS.ExcField
import HandS.ExcIs
import HandS.Small
import HandS.Text
import PySem.Challenge.RW_narrowahead_k03_whole_conditions_of_lots
set_option Elab.async false
set_option linter.all false
set_option maxRecDepth 100000
set_option maxHeartbeats 4000000
/-! Nz1: pure data, how it lies in the heap, cells that one def alone may change, the state of a body. -/
namespace Nz
open PySem L2

/-! ### data -/
inductive D where
  | non
  | bl (b : Bool)
  | int (i : Int)
  | str (x : Str)
  | tup (ds : List D)
  | lst (ds : List D)
  | obj (c : Nat) (ds : List D)
  | frz (ds : List D)
  | ty (n : String)
  | cls (c : Nat)
  | edc
deriving Inhabited

structure Gi where
  K : PySem.W.Frag
  cls : Nat → Addr
  att : Nat → List Str

mutual
inductive Rep (G : Gi) (F : Hp) : V → D → Prop
  | non : Rep G F .non .non
  | bl (b : Bool) : Rep G F (.bl b) (.bl b)
  | int (i : Int) : Rep G F (.int i) (.int i)
  | str (x : Str) : Rep G F (.str x) (.str x)
  | tup {a : Addr} {xs : List V} {ds : List D} : SqT G.K F a xs → Reps G F xs ds → Rep G F (.ref a) (.tup ds)
  | lst {a : Addr} {xs : List V} {ds : List D} : F a = some (.lst xs) → Reps G F xs ds → Rep G F (.ref a) (.lst ds)
  | frz {a : Addr} {xs : List V} {ds : List D} : SqL G.K F a xs → Reps G F xs ds → Rep G F (.ref a) (.frz ds)
  | ty (n : String) : Rep G F (.ty n) (.ty n)
  | cls (c : Nat) : Rep G F (.ref (G.cls c)) (.cls c)
  | edc {a : Addr} : F a = some (.dK []) → Rep G F (.ref a) .edc
  | obj {a dx : Addr} {c : Nat} {fs : List (Str × V)} {ds : List D} : F a = some (.ins (G.cls c) dx fs) → fs.map (·.1) = G.att c → Reps G F (fs.map (·.2)) ds → Rep G F (.ref a) (.obj c ds)
inductive Reps (G : Gi) (F : Hp) : List V → List D → Prop
  | nil : Reps G F [] []
  | cons {v : V} {vs : List V} {d : D} {ds : List D} : Rep G F v d → Reps G F vs ds → Reps G F (v :: vs) (d :: ds)
end

def Sub (F H : Hp) : Prop := ∀ a o, F a = some o → H a = some o
theorem Sub.rfl {F : Hp} : Sub F F := fun _ _ h => h
theorem Sub.trans {F H J : Hp} (a : Sub F H) (b : Sub H J) : Sub F J := fun p o h => b p o (a p o h)
theorem Sub.new {F : Hp} {p : Addr} {o : HO} (h : F p = none) : Sub F (upd F p o) := fun a u e => by
  rw [upd_ne (ne_of_none e h)]; exact e
theorem Sub.upd {F H : Hp} {p : Addr} {o : HO} (e : Sub F H) (h : F p = none) : Sub F (L2.upd H p o) := fun a u q => by
  rw [upd_ne (ne_of_none q h)]; exact e a u q
theorem Sub.free {F H : Hp} {p : Addr} (e : Sub F H) (h : H p = none) : F p = none := by
  cases q : F p with
  | none => rfl
  | some o => rw [e p o q] at h; cases h
theorem sub_sqL {K : PySem.W.Frag} {F H : Hp} {a : Addr} {xs : List V} (e : Sub F H) (h : SqL K F a xs) : SqL K H a xs := by
  rcases h with (h | ⟨o, h⟩) | h
  · exact .inl (.inl (e _ _ h))
  · exact .inl (.inr ⟨o, e _ _ h⟩)
  · exact .inr h
theorem sub_sqT {K : PySem.W.Frag} {F H : Hp} {a : Addr} {xs : List V} (e : Sub F H) (h : SqT K F a xs) : SqT K H a xs := by
  rcases h with (h | ⟨o, h⟩) | h
  · exact .inl (.inl (e _ _ h))
  · exact .inl (.inr ⟨o, e _ _ h⟩)
  · exact .inr h
section
variable {G : Gi} {F F' H : Hp}
mutual
theorem Rep.mono (e : Sub F F') : ∀ (d : D) {v : V}, Rep G F v d → Rep G F' v d
  | .non, _, h => by cases h; exact .non
  | .bl b, _, h => by cases h; exact .bl b
  | .int i, _, h => by cases h; exact .int i
  | .str x, _, h => by cases h; exact .str x
  | .tup ds, _, h => by
    cases h with
    | tup h1 h2 => exact .tup (sub_sqT e h1) (Reps.mono e ds h2)
  | .lst ds, _, h => by
    cases h with
    | lst h1 h2 => exact .lst (e _ _ h1) (Reps.mono e ds h2)
  | .frz ds, _, h => by
    cases h with
    | frz h1 h2 => exact .frz (sub_sqL e h1) (Reps.mono e ds h2)
  | .ty n, _, h => by cases h; exact .ty n
  | .cls c, _, h => by cases h; exact .cls c
  | .edc, _, h => by
    cases h with
    | edc h1 => exact .edc (e _ _ h1)
  | .obj c ds, _, h => by
    cases h with
    | obj h1 h2 h3 => exact .obj (e _ _ h1) h2 (Reps.mono e ds h3)
theorem Reps.mono (e : Sub F F') : ∀ (ds : List D) {vs : List V}, Reps G F vs ds → Reps G F' vs ds
  | [], _, h => by cases h; exact .nil
  | d :: ds, _, h => by
    cases h with
    | cons h1 h2 => exact .cons (Rep.mono e d h1) (Reps.mono e ds h2)
end
theorem Reps.length : ∀ {vs : List V} {ds : List D}, Reps G F vs ds → vs.length = ds.length
  | _, _, .nil => rfl
  | _, _, .cons _ t => congrArg (· + 1) (Reps.length t)
theorem Reps.append : ∀ {vs ws : List V} {ds es : List D}, Reps G F vs ds → Reps G F ws es → Reps G F (vs ++ ws) (ds ++ es)
  | _, _, _, _, .nil, q => q
  | _, _, _, _, .cons h t, q => .cons h (Reps.append t q)
theorem Reps.get : ∀ {vs : List V} {ds : List D} {i : Nat} {d : D}, Reps G F vs ds → ds[i]? = some d → ∃ v, vs[i]? = some v ∧ Rep G F v d
  | _, _, _, _, .nil, e => by simp at e
  | _, _, 0, _, .cons h _, e => by simp at e; subst e; exact ⟨_, rfl, h⟩
  | _, _, i + 1, _, .cons _ t, e => by
    obtain ⟨v, h1, h2⟩ := Reps.get (i := i) t (by simpa using e)
    exact ⟨v, by simpa using h1, h2⟩
theorem Reps.get' : ∀ {vs : List V} {ds : List D} {i : Nat} {v : V}, Reps G F vs ds → vs[i]? = some v → ∃ d, ds[i]? = some d ∧ Rep G F v d
  | _, _, _, _, .nil, e => by simp at e
  | _, _, 0, _, .cons h _, e => by simp at e; subst e; exact ⟨_, rfl, h⟩
  | _, _, i + 1, _, .cons _ t, e => by
    obtain ⟨v, h1, h2⟩ := Reps.get' (i := i) t (by simpa using e)
    exact ⟨v, by simpa using h1, h2⟩
theorem Reps.take : ∀ {vs : List V} {ds : List D} (n : Nat), Reps G F vs ds → Reps G F (vs.take n) (ds.take n)
  | _, _, 0, _ => .nil
  | _, _, _ + 1, .nil => .nil
  | _, _, n + 1, .cons h t => .cons h (Reps.take n t)
theorem Reps.drop : ∀ {vs : List V} {ds : List D} (n : Nat), Reps G F vs ds → Reps G F (vs.drop n) (ds.drop n)
  | _, _, 0, h => h
  | _, _, _ + 1, .nil => .nil
  | _, _, n + 1, .cons _ t => Reps.drop n t
theorem Reps.set {v : V} {d : D} (r : Rep G F v d) : ∀ {vs : List V} {ds : List D} (i : Nat), Reps G F vs ds → Reps G F (vs.set i v) (ds.set i d)
  | _, _, _, .nil => .nil
  | _, _, 0, .cons _ t => .cons r t
  | _, _, i + 1, .cons h t => .cons h (Reps.set r i t)
theorem Reps.reverse : ∀ {vs : List V} {ds : List D}, Reps G F vs ds → Reps G F vs.reverse ds.reverse
  | _, _, .nil => .nil
  | _, _, .cons h t => by
    rw [List.reverse_cons, List.reverse_cons]
    exact (Reps.reverse t).append (.cons h .nil)
theorem Reps.eraseIdx : ∀ {vs : List V} {ds : List D} (i : Nat), Reps G F vs ds → Reps G F (vs.eraseIdx i) (ds.eraseIdx i)
  | _, _, _, .nil => by simpa using Reps.nil
  | _, _, 0, .cons _ t => by simpa using t
  | _, _, i + 1, .cons h t => by simpa using Reps.cons h (Reps.eraseIdx i t)
theorem Reps.dropLast {vs : List V} {ds : List D} (h : Reps G F vs ds) : Reps G F vs.dropLast ds.dropLast := by
  rw [List.dropLast_eq_take, List.dropLast_eq_take, h.length]
  exact h.take _
theorem Reps.one {v : V} {d : D} (h : Rep G F v d) : Reps G F [v] [d] := .cons h .nil
end

/-! ### cells: what one body alone may change -/
inductive Cell where
  | lst (ds : List D)
  | ins (c : Nat) (fs : List (Str × D))
  | dic (fs : List (Str × D))
def Cell.dat : Cell → Option D
  | .lst ds => some (.lst ds)
  | .ins _ _ => none
  | .dic _ => none
/-- .. when it is new: an empty dict too -/
def Cell.datN : Cell → Option D
  | .lst ds => some (.lst ds)
  | .ins _ _ => none
  | .dic [] => some .edc
  | .dic (_ :: _) => none
def CellRep (G : Gi) (F : Hp) (o : HO) : Cell → Prop
  | .lst ds => ∃ xs, o = .lst xs ∧ Reps G F xs ds
  | .ins c fs => ∃ dx gs, o = .ins (G.cls c) dx gs ∧ gs.map (·.1) = fs.map (·.1) ∧ Reps G F (gs.map (·.2)) (fs.map (·.2))
  | .dic fs => ∃ gs : List (Key × V), o = .dK gs ∧ gs.map (·.1) = fs.map (fun p => Sum.inr p.1) ∧ Reps G F (gs.map (·.2)) (fs.map (·.2))
theorem CellRep.mono {G : Gi} {F F' : Hp} {o : HO} (e : Sub F F') : ∀ {c : Cell}, CellRep G F o c → CellRep G F' o c
  | .lst ds, ⟨xs, h1, h2⟩ => ⟨xs, h1, h2.mono e ds⟩
  | .ins c fs, ⟨dx, gs, h1, h2, h3⟩ => ⟨dx, gs, h1, h2, h3.mono e _⟩
  | .dic fs, ⟨gs, h1, h2, h3⟩ => ⟨gs, h1, h2, h3.mono e _⟩

/-- a slot: nothing known | data | a cell of this body's own | a cell that a caller lends, to be changed | one that is lent to be read -/
inductive Sl where
  | no
  | d (x : D)
  | own (c : Cell)
  | io (c : Cell)
  | rd (c : Cell)
abbrev Env := List Sl
def Sl.cell? : Sl → Option Cell
  | .own c => some c
  | .io c => some c
  | .rd c => some c
  | _ => none
def Sl.mut? : Sl → Option Cell
  | .own c => some c
  | .io c => some c
  | _ => none

/-- the entry of a body: its heap, its data, the cells that may be changed, the arguments -/
structure Bs where
  H0 : Hp
  F0 : Hp
  A : Addr → Prop
  R : Nat → Addr → Prop
  vs : Nat → Option V

/-- the address that slot i holds -/
abbrev At (σ : L2.St) (i : Nat) (p : Addr) : Prop := σ[i]? = some (some (V.ref p))

structure StOk (G : Gi) (B : Bs) (F H : Hp) (σ : L2.St) (ρ : Env) : Prop where
  ff : Sub B.F0 F
  fh : Sub F H
  keep : ∀ a o, B.H0 a = some o → ¬ B.A a → H a = some o
  grow : ∀ a o, F a = some o → B.F0 a = some o ∨ B.H0 a = none
  dat : ∀ (i : Nat) (d : D), ρ[i]? = some (.d d) → ∃ v, σ[i]? = some (some v) ∧ Rep G F v d
  own : ∀ (i : Nat) (c : Cell), ρ[i]? = some (.own c) → ∃ p o, At σ i p ∧ F p = none ∧ H p = some o ∧ CellRep G F o c ∧ B.H0 p = none
  io : ∀ (i : Nat) (c : Cell), ρ[i]? = some (.io c) → ∃ p o, At σ i p ∧ B.vs i = some (V.ref p) ∧ B.A p ∧ F p = none ∧ H p = some o ∧ CellRep G F o c
  rd : ∀ (i : Nat) (c : Cell), ρ[i]? = some (.rd c) → ∃ p o, At σ i p ∧ B.vs i = some (V.ref p) ∧ ¬ B.A p ∧ B.R i p ∧ B.H0 p = some o ∧ CellRep G F o c
  dist : ∀ (i j : Nat) (c c' : Cell) (p : Addr), i ≠ j → ρ[i]? = some (.own c) → (ρ[j]? = some (.own c') ∨ ρ[j]? = some (.io c')) → At σ i p → ¬ At σ j p
  distI : ∀ (i j : Nat) (c c' : Cell) (p : Addr), i ≠ j → ρ[i]? = some (.io c) → ρ[j]? = some (.io c') → At σ i p → ¬ At σ j p
  len : σ.length = ρ.length
  in0 : ∀ a, B.A a → B.F0 a = none ∧ ∃ o, B.H0 a = some o
  sub0 : Sub B.F0 B.H0
  inR : ∀ i a, B.R i a → ∃ o, B.H0 a = some o
  all : ∀ a, B.A a → ∃ (i : Nat) (c : Cell), ρ[i]? = some (.io c) ∧ B.vs i = some (V.ref a)

section
variable {G : Gi} {B : Bs} {F H F' H' : Hp} {σ : L2.St} {ρ ρ' : Env}

theorem StOk.fresh0 (S : StOk G B F H σ ρ) {p : Addr} (h : H p = none) (ha : ¬ B.A p) : B.H0 p = none := by
  cases q : B.H0 p with
  | none => rfl
  | some o => rw [S.keep p o q ha] at h; cases h
theorem StOk.there (S : StOk G B F H σ ρ) {a : Addr} (h : B.A a) : ∃ o, H a = some o := by
  obtain ⟨i, c, e, hv⟩ := S.all a h
  obtain ⟨p, o, _, h2, _, _, h5, _⟩ := S.io i c e
  rw [hv] at h2; cases h2
  exact ⟨o, h5⟩
theorem StOk.new0 (S : StOk G B F H σ ρ) {p : Addr} (h : H p = none) : B.H0 p = none := by
  refine S.fresh0 h fun ha => ?_
  obtain ⟨o, e⟩ := S.there ha
  rw [e] at h; cases h

/-- a new object is laid, as data -/
theorem StOk.laid (S : StOk G B F H σ ρ) {p : Addr} {o : HO} (h : H p = none) : StOk G B (upd F p o) (upd H p o) σ ρ := by
  have hf : F p = none := S.fh.free h
  have e : Sub F (upd F p o) := Sub.new hf
  have h0 := S.new0 h
  have ne : ∀ {q u}, H q = some u → q ≠ p := fun hq => ne_of_none hq h
  refine ⟨S.ff.trans e, fun a u q => ?_, fun a u q na => ?_, fun a u q => ?_, fun i d q => ?_, fun i c q => ?_, fun i c q => ?_, fun i c q => ?_, S.dist, S.distI, S.len, S.in0, S.sub0, S.inR, S.all⟩
  · by_cases ha : a = p
    · subst ha; rw [upd_same] at q ⊢; exact q
    · rw [upd_ne ha] at q ⊢; exact S.fh a u q
  · rw [upd_ne (ne_of_none q h0)]; exact S.keep a u q na
  · by_cases ha : a = p
    · subst ha; exact .inr h0
    · rw [upd_ne ha] at q; exact S.grow a u q
  · obtain ⟨v, h1, h2⟩ := S.dat i d q
    exact ⟨v, h1, h2.mono e d⟩
  · obtain ⟨a, u, h1, h2, h3, h4, h5⟩ := S.own i c q
    exact ⟨a, u, h1, by rw [upd_ne (ne h3)]; exact h2, by rw [upd_ne (ne h3)]; exact h3, h4.mono e, h5⟩
  · obtain ⟨a, u, h1, h2, h3, h4, h5, h6⟩ := S.io i c q
    exact ⟨a, u, h1, h2, h3, by rw [upd_ne (ne h5)]; exact h4, by rw [upd_ne (ne h5)]; exact h5, h6.mono e⟩
  · obtain ⟨a, u, h1, hv, h2, hr, h3, h4⟩ := S.rd i c q
    exact ⟨a, u, h1, hv, h2, hr, h3, h4.mono e⟩
/-- a new object is laid and left beside the data (a cell that no slot holds yet) -/
theorem StOk.beside (S : StOk G B F H σ ρ) {p : Addr} {o : HO} (h : H p = none) : StOk G B F (upd H p o) σ ρ := by
  have h0 := S.new0 h
  have ne : ∀ {q u}, H q = some u → q ≠ p := fun hq => ne_of_none hq h
  refine ⟨S.ff, fun a u q => by rw [upd_ne (ne (S.fh a u q))]; exact S.fh a u q, fun a u q na => by rw [upd_ne (ne_of_none q h0)]; exact S.keep a u q na, S.grow, S.dat, fun i c q => ?_, fun i c q => ?_, S.rd, S.dist, S.distI, S.len, S.in0, S.sub0, S.inR, S.all⟩
  · obtain ⟨a, u, h1, h2, h3, h4, h5⟩ := S.own i c q
    exact ⟨a, u, h1, h2, by rw [upd_ne (ne h3)]; exact h3, h4, h5⟩
  · obtain ⟨a, u, h1, h2, h3, h4, h5, h6⟩ := S.io i c q
    exact ⟨a, u, h1, h2, h3, h4, by rw [upd_ne (ne h5)]; exact h5, h6⟩

theorem set_get {α : Type} {l : List α} {i j : Nat} {x y : α} (h : (l.set i x)[j]? = some y) : (i = j ∧ x = y ∧ i < l.length) ∨ (i ≠ j ∧ l[j]? = some y) := by
  by_cases e : i = j
  · subst e
    by_cases hl : i < l.length
    · rw [List.getElem?_set_self hl] at h; exact .inl ⟨rfl, Option.some.inj h, hl⟩
    · rw [List.getElem?_eq_none (by simpa using hl)] at h; cases h
  · rw [List.getElem?_set_ne e] at h; exact .inr ⟨e, h⟩
theorem lt_of_get {α : Type} {l : List α} {i : Nat} {x : α} (h : l[i]? = some x) : i < l.length := (List.getElem?_eq_some_iff.mp h).1

/-- the cell at slot i becomes data -/
theorem StOk.freeze {i : Nat} {c : Cell} {d : D} (S : StOk G B F H σ ρ) (q : ρ[i]? = some (.own c)) (hd : c.dat = some d) : ∃ p o, At σ i p ∧ H p = some o ∧ F p = none ∧ Rep G (upd F p o) (V.ref p) d ∧ StOk G B (upd F p o) H σ (ρ.set i (.d d)) := by
  obtain ⟨p, o, h1, h2, h3, h4, h5⟩ := S.own i c q
  have e : Sub F (upd F p o) := Sub.new h2
  have r : Rep G (upd F p o) (V.ref p) d := by
    cases c with
    | lst ds =>
      cases hd
      obtain ⟨xs, rfl, hx⟩ := h4
      exact .lst upd_same (hx.mono e _)
    | ins c fs => cases hd
    | dic fs => cases hd
  refine ⟨p, o, h1, h3, h2, r, S.ff.trans e, fun a u w => ?_, S.keep, fun a u w => ?_, fun j d' w => ?_, fun j c' w => ?_, fun j c' w => ?_, fun j c' w => ?_, fun j k c' c'' b ne w1 w2 => ?_, fun j k c' c'' b ne w1 w2 => ?_, by rw [List.length_set]; exact S.len, S.in0, S.sub0, S.inR, fun a ha => ?_⟩
  · by_cases ha : a = p
    · subst ha; rw [upd_same] at w; cases w; exact h3
    · rw [upd_ne ha] at w; exact S.fh a u w
  · by_cases ha : a = p
    · subst ha; exact .inr h5
    · rw [upd_ne ha] at w; exact S.grow a u w
  · rcases set_get w with ⟨rfl, w, _⟩ | ⟨_, w⟩
    · cases w; exact ⟨_, h1, r⟩
    · obtain ⟨v, g1, g2⟩ := S.dat j d' w; exact ⟨v, g1, g2.mono e d'⟩
  · rcases set_get w with ⟨rfl, w, _⟩ | ⟨ne, w⟩
    · cases w
    · obtain ⟨a, u, g1, g2, g3, g4, g5⟩ := S.own j c' w
      have na : a ≠ p := fun z => by subst z; exact S.dist i j c c' a ne q (.inl w) h1 g1
      exact ⟨a, u, g1, by rw [upd_ne na]; exact g2, g3, g4.mono e, g5⟩
  · rcases set_get w with ⟨rfl, w, _⟩ | ⟨ne, w⟩
    · cases w
    · obtain ⟨a, u, g1, g2, g3, g4, g5, g6⟩ := S.io j c' w
      have na : a ≠ p := fun z => by subst z; exact S.dist i j c c' a ne q (.inr w) h1 g1
      exact ⟨a, u, g1, g2, g3, by rw [upd_ne na]; exact g4, g5, g6.mono e⟩
  · rcases set_get w with ⟨rfl, w, _⟩ | ⟨ne, w⟩
    · cases w
    · obtain ⟨a, u, g1, gv, g2, gr, g3, g4⟩ := S.rd j c' w; exact ⟨a, u, g1, gv, g2, gr, g3, g4.mono e⟩
  · rcases set_get w1 with ⟨rfl, w1, _⟩ | ⟨_, w1⟩
    · cases w1
    · refine S.dist j k c' c'' b ne w1 ?_
      rcases w2 with w2 | w2 <;> rcases set_get w2 with ⟨rfl, w2, _⟩ | ⟨_, w2⟩ <;> first | cases w2 | exact .inl w2 | exact .inr w2
  · rcases set_get w1 with ⟨rfl, w1, _⟩ | ⟨_, w1⟩
    · cases w1
    · rcases set_get w2 with ⟨rfl, w2, _⟩ | ⟨_, w2⟩
      · cases w2
      · exact S.distI j k c' c'' b ne w1 w2
  · obtain ⟨j, c', e1, e2⟩ := S.all a ha
    have ne : i ≠ j := fun z => by subst z; rw [q] at e1; cases e1
    exact ⟨j, c', by rw [List.getElem?_set_ne ne]; exact e1, e2⟩

/-- data is stored at slot i (no cell that is lent to be changed) -/
theorem StOk.setD {i : Nat} {d : D} {v : V} (S : StOk G B F H σ ρ) (hi : ∀ c, ρ[i]? ≠ some (.io c)) (r : Rep G F v d) : StOk G B F H (σ.set i (some v)) (ρ.set i (.d d)) := by
  refine ⟨S.ff, S.fh, S.keep, S.grow, fun j d' w => ?_, fun j c' w => ?_, fun j c' w => ?_, fun j c' w => ?_, fun j k c' c'' b ne w1 w2 g1 g2 => ?_, fun j k c' c'' b ne w1 w2 g1 g2 => ?_, by rw [List.length_set, List.length_set]; exact S.len, S.in0, S.sub0, S.inR, fun a ha => ?_⟩
  · rcases set_get w with ⟨rfl, w, hl⟩ | ⟨ne, w⟩
    · cases w; exact ⟨v, List.getElem?_set_self (by rw [S.len]; exact hl), r⟩
    · obtain ⟨u, g1, g2⟩ := S.dat j d' w; exact ⟨u, by rw [List.getElem?_set_ne ne]; exact g1, g2⟩
  · rcases set_get w with ⟨rfl, w, hl⟩ | ⟨ne, w⟩
    · cases w
    · obtain ⟨a, u, g1, g2⟩ := S.own j c' w; exact ⟨a, u, by show (σ.set i (some v))[j]? = _; rw [List.getElem?_set_ne ne]; exact g1, g2⟩
  · rcases set_get w with ⟨rfl, w, hl⟩ | ⟨ne, w⟩
    · cases w
    · obtain ⟨a, u, g1, g2⟩ := S.io j c' w; exact ⟨a, u, by show (σ.set i (some v))[j]? = _; rw [List.getElem?_set_ne ne]; exact g1, g2⟩
  · rcases set_get w with ⟨rfl, w, hl⟩ | ⟨ne, w⟩
    · cases w
    · obtain ⟨a, u, g1, g2⟩ := S.rd j c' w; exact ⟨a, u, by show (σ.set i (some v))[j]? = _; rw [List.getElem?_set_ne ne]; exact g1, g2⟩
  · rcases set_get w1 with ⟨rfl, w1, _⟩ | ⟨n1, w1⟩
    · cases w1
    · have w2' : i ≠ k ∧ (ρ[k]? = some (.own c'') ∨ ρ[k]? = some (.io c'')) := by
        rcases w2 with w2 | w2 <;> rcases set_get w2 with ⟨rfl, w2, _⟩ | ⟨n2, w2⟩ <;> first | cases w2 | exact ⟨n2, .inl w2⟩ | exact ⟨n2, .inr w2⟩
      have g1' : (σ.set i (some v))[j]? = some (some (V.ref b)) := g1
      have g2' : (σ.set i (some v))[k]? = some (some (V.ref b)) := g2
      rw [List.getElem?_set_ne n1] at g1'
      rw [List.getElem?_set_ne w2'.1] at g2'
      exact S.dist j k c' c'' b ne w1 w2'.2 g1' g2'
  · rcases set_get w1 with ⟨rfl, w1, _⟩ | ⟨n1, w1⟩
    · cases w1
    · rcases set_get w2 with ⟨rfl, w2, _⟩ | ⟨n2, w2⟩
      · cases w2
      · have g1' : (σ.set i (some v))[j]? = some (some (V.ref b)) := g1
        have g2' : (σ.set i (some v))[k]? = some (some (V.ref b)) := g2
        rw [List.getElem?_set_ne n1] at g1'
        rw [List.getElem?_set_ne n2] at g2'
        exact S.distI j k c' c'' b ne w1 w2 g1' g2'
  · obtain ⟨j, c', e1, e2⟩ := S.all a ha
    have ne : i ≠ j := fun z => by subst z; exact hi c' e1
    exact ⟨j, c', by rw [List.getElem?_set_ne ne]; exact e1, e2⟩
end
end Nz

set_option Elab.async false
set_option linter.all false
set_option maxRecDepth 100000
set_option maxHeartbeats 4000000
/-! Nz2: what an expression computes, as a function on slots; operators, comparisons, tests, displays, calls of built-ins. -/
namespace Nz
open PySem L2

inductive Rv where
  | d (x : D)
  | slot (i : Nat)
  | new (c : Cell)
structure Ex where
  cls : Nat
  args : List D
inductive Out (α : Type) where
  | ok (a : α) (ρ : Env)
  | exc (x : Ex) (ρ : Env)
  | stuck
def Out.bind {α β : Type} : Out α → (α → Env → Out β) → Out β
  | .ok a ρ, k => k a ρ
  | .exc x ρ, _ => .exc x ρ
  | .stuck, _ => .stuck
@[simp] theorem Out.bind_ok {α β : Type} (a : α) (ρ : Env) (k : α → Env → Out β) : Out.bind (.ok a ρ) k = k a ρ := rfl
@[simp] theorem Out.bind_exc {α β : Type} (x : Ex) (ρ : Env) (k : α → Env → Out β) : Out.bind (.exc x ρ) k = .exc x ρ := rfl
@[simp] theorem Out.bind_stuck {α β : Type} (k : α → Env → Out β) : Out.bind .stuck k = .stuck := rfl
abbrev EF := Env → Out Rv
abbrev AF := Env → Out (List Rv)
abbrev TF := Env → Out Bool

/-- how an exception's class and fields lie -/
structure Xi where
  cls : Nat → Addr
  att : Nat → List Str
def ExRep (G : Gi) (Y : Xi) (F : Hp) (x : Ex) (cls : Value) (dx : Option Addr) : Prop :=
  cls = .ref (Y.cls x.cls) ∧ ((x.args = [] ∧ dx = none) ∨ ∃ a fs, dx = some a ∧ F a = some (.xd fs) ∧ fs.map (·.1) = Y.att x.cls ∧ Reps G F (fs.map (·.2)) x.args)

section
variable {G : Gi} {B : Bs} {F H F' H' : Hp} {σ : L2.St} {ρ ρ' : Env}

def RvRep (G : Gi) (B : Bs) (F H : Hp) (σ : L2.St) (ρ : Env) (u : V) : Rv → Prop
  | .d x => Rep G F u x
  | .slot i => σ[i]? = some (some u)
  | .new c => ∃ p o, u = .ref p ∧ F p = none ∧ H p = some o ∧ CellRep G F o c ∧ B.H0 p = none ∧ ∀ (i : Nat) (k : Cell), ρ[i]? = some (.own k) ∨ ρ[i]? = some (.io k) → ¬ At σ i p

/-- a cell that no slot holds becomes data -/
theorem StOk.adopt (S : StOk G B F H σ ρ) {p : Addr} {o : HO} (h2 : F p = none) (h3 : H p = some o) (h5 : B.H0 p = none) (h6 : ∀ (i : Nat) (k : Cell), ρ[i]? = some (.own k) ∨ ρ[i]? = some (.io k) → ¬ At σ i p) : StOk G B (upd F p o) H σ ρ := by
  have e : Sub F (upd F p o) := Sub.new h2
  refine ⟨S.ff.trans e, fun a u w => ?_, S.keep, fun a u w => ?_, fun j d' w => ?_, fun j c' w => ?_, fun j c' w => ?_, fun j c' w => ?_, S.dist, S.distI, S.len, S.in0, S.sub0, S.inR, S.all⟩
  · by_cases ha : a = p
    · subst ha; rw [upd_same] at w; cases w; exact h3
    · rw [upd_ne ha] at w; exact S.fh a u w
  · by_cases ha : a = p
    · subst ha; exact .inr h5
    · rw [upd_ne ha] at w; exact S.grow a u w
  · obtain ⟨v, g1, g2⟩ := S.dat j d' w; exact ⟨v, g1, g2.mono e d'⟩
  · obtain ⟨a, u, g1, g2, g3, g4, g5⟩ := S.own j c' w
    have na : a ≠ p := fun z => by subst z; exact h6 j c' (.inl w) g1
    exact ⟨a, u, g1, by rw [upd_ne na]; exact g2, g3, g4.mono e, g5⟩
  · obtain ⟨a, u, g1, g2, g3, g4, g5, g6⟩ := S.io j c' w
    have na : a ≠ p := fun z => by subst z; exact h6 j c' (.inr w) g1
    exact ⟨a, u, g1, g2, g3, by rw [upd_ne na]; exact g4, g5, g6.mono e⟩
  · obtain ⟨a, u, g1, gv, g2, gr, g3, g4⟩ := S.rd j c' w; exact ⟨a, u, g1, gv, g2, gr, g3, g4.mono e⟩
theorem cell_dat {p : Addr} {o : HO} {c : Cell} {d : D} (h4 : CellRep G F o c) (e : Sub F F') (hp : F' p = some o) (hd : c.dat = some d) : Rep G F' (.ref p) d := by
  cases c with
  | lst ds =>
    cases hd
    obtain ⟨xs, rfl, hx⟩ := h4
    exact .lst hp (hx.mono e _)
  | ins c fs => cases hd
  | dic fs => cases hd

theorem cell_datN {p : Addr} {o : HO} {c : Cell} {d : D} (h4 : CellRep G F o c) (e : Sub F F') (hp : F' p = some o) (hd : c.datN = some d) : Rep G F' (.ref p) d := by
  cases c with
  | lst ds => exact cell_dat h4 e hp hd
  | ins c fs => cases hd
  | dic fs =>
    cases fs with
    | nil =>
      cases hd
      obtain ⟨gs, rfl, h2, _⟩ := h4
      have hg : gs = [] := List.map_eq_nil_iff.mp h2
      rw [hg] at hp
      exact .edc hp
    | cons f fs => cases hd

/-- an operand at the moment of its operation: data, or a list that is read now -/
def Opd (G : Gi) (F H : Hp) (u : V) (d : D) : Prop := Rep G F u d ∨ ∃ p xs ds, u = .ref p ∧ H p = some (.lst xs) ∧ d = .lst ds ∧ Reps G F xs ds
inductive Opds (G : Gi) (F H : Hp) : List V → List D → Prop
  | nil : Opds G F H [] []
  | cons {v : V} {vs : List V} {d : D} {ds : List D} : Opd G F H v d → Opds G F H vs ds → Opds G F H (v :: vs) (d :: ds)

def resS : Option Sl → Option D
  | some (.d x) => some x
  | some (.own c) => c.dat
  | some (.io c) => c.dat
  | some (.rd c) => c.dat
  | _ => none
def res (ρ : Env) : Rv → Option D
  | .d x => some x
  | .slot i => resS ρ[i]?
  | .new c => c.dat
def ress (ρ : Env) : List Rv → Option (List D)
  | [] => some []
  | r :: rs => (res ρ r).bind fun d => (ress ρ rs).map (d :: ·)

theorem opd_cell {p : Addr} {o : HO} {c : Cell} {d : D} (hp : H p = some o) (h4 : CellRep G F o c) (hd : c.dat = some d) : Opd G F H (.ref p) d := by
  cases c with
  | lst ds =>
    cases hd
    obtain ⟨xs, rfl, hx⟩ := h4
    exact .inr ⟨p, xs, ds, rfl, hp, rfl, hx⟩
  | ins c fs => cases hd
  | dic fs => cases hd
theorem at_val {i : Nat} {u : V} {p : Addr} (h : σ[i]? = some (some u)) (g : At σ i p) : u = V.ref p := Option.some.inj (Option.some.inj (h.symm.trans g))
theorem at_inj {i : Nat} {p q : Addr} (h : At σ i p) (g : At σ i q) : p = q := V.ref.inj (at_val h g)
theorem StOk.opd (S : StOk G B F H σ ρ) {u : V} {r : Rv} {d : D} (hr : RvRep G B F H σ ρ u r) (e : res ρ r = some d) : Opd G F H u d := by
  cases r with
  | d x => cases e; exact .inl hr
  | slot i =>
    have hu : σ[i]? = some (some u) := hr
    have e' : resS ρ[i]? = some d := e
    cases q : ρ[i]? with
    | none => rw [q] at e'; cases e'
    | some sl =>
      rw [q] at e'
      cases sl with
      | no => cases e'
      | d x =>
        cases e'
        obtain ⟨v, g1, g2⟩ := S.dat i _ q
        rw [hu] at g1; cases g1; exact .inl g2
      | own c =>
        obtain ⟨p, o, g1, _, g3, g4, _⟩ := S.own i c q
        obtain rfl := at_val hu g1; exact opd_cell g3 g4 e'
      | io c =>
        obtain ⟨p, o, g1, _, _, _, g3, g4⟩ := S.io i c q
        obtain rfl := at_val hu g1; exact opd_cell g3 g4 e'
      | rd c =>
        obtain ⟨p, o, g1, _, na, _, g3, g4⟩ := S.rd i c q
        obtain rfl := at_val hu g1; exact opd_cell (S.keep p o g3 na) g4 e'
  | new c =>
    obtain ⟨p, o, rfl, _, h3, h4, _⟩ := hr
    exact opd_cell h3 h4 e

/-! ### the reading of a function -/
variable {Y : Xi} {W : WX}
def Post (G : Gi) (Y : Xi) (B : Bs) (W : WX) (σ : L2.St) (F : Hp) (Q : VK) : Out Rv → Prop
  | .ok r ρ => ∀ u F' H', Sub F F' → StOk G B F' H' σ ρ → RvRep G B F' H' σ ρ u r → Q u H'
  | .exc x ρ => ∀ cls dx F' H', Sub F F' → StOk G B F' H' σ ρ → ExRep G Y F' x cls dx → W cls dx σ H'
  | .stuck => False
def tE (G : Gi) (Y : Xi) (W : WX) (f : EF) : TE := fun σ H Q => ∃ (B : Bs) (F : Hp) (ρ : Env), StOk G B F H σ ρ ∧ Post G Y B W σ F Q (f ρ)
def PostT (G : Gi) (Y : Xi) (B : Bs) (W : WX) (σ : L2.St) (F : Hp) (Q : Bool → Hp → Prop) : Out Bool → Prop
  | .ok b ρ => ∀ F' H', Sub F F' → StOk G B F' H' σ ρ → Q b H'
  | .exc x ρ => ∀ cls dx F' H', Sub F F' → StOk G B F' H' σ ρ → ExRep G Y F' x cls dx → W cls dx σ H'
  | .stuck => False
def tT (G : Gi) (Y : Xi) (W : WX) (f : TF) : TT := fun σ H Q => ∃ (B : Bs) (F : Hp) (ρ : Env), StOk G B F H σ ρ ∧ PostT G Y B W σ F Q (f ρ)
inductive RvReps (G : Gi) (B : Bs) (F H : Hp) (σ : L2.St) (ρ : Env) : List V → List Rv → Prop
  | nil : RvReps G B F H σ ρ [] []
  | cons {u : V} {us : List V} {r : Rv} {rs : List Rv} : RvRep G B F H σ ρ u r → RvReps G B F H σ ρ us rs → RvReps G B F H σ ρ (u :: us) (r :: rs)
def PostA (G : Gi) (Y : Xi) (B : Bs) (W : WX) (σ : L2.St) (F : Hp) (Q : List V → Hp → Prop) : Out (List Rv) → Prop
  | .ok rs ρ => ∀ us F' H', Sub F F' → StOk G B F' H' σ ρ → RvReps G B F' H' σ ρ us rs → Q us H'
  | .exc x ρ => ∀ cls dx F' H', Sub F F' → StOk G B F' H' σ ρ → ExRep G Y F' x cls dx → W cls dx σ H'
  | .stuck => False
def tA (G : Gi) (Y : Xi) (W : WX) (f : AF) : TA := fun σ H Q => ∃ (B : Bs) (F : Hp) (ρ : Env), StOk G B F H σ ρ ∧ PostA G Y B W σ F Q (f ρ)

theorem Post.mono {Q Q' : VK} {o : Out Rv} (h : Post G Y B W σ F Q o) (e : Sub F F') (hq : ∀ u H1, Q u H1 → Q' u H1) : Post G Y B W σ F' Q' o := by
  cases o with
  | ok r ρ => exact fun u F1 H1 e1 S R => hq _ _ (h u F1 H1 (e.trans e1) S R)
  | exc x ρ => exact fun cls dx F1 H1 e1 => h cls dx F1 H1 (e.trans e1)
  | stuck => exact h.elim
/-- one function, then another that stands on its result -/
theorem Post.seq {f : Out Rv} {k : Rv → Env → Out Rv} {Q Q' : VK} (h : Post G Y B W σ F Q (f.bind k))
    (hk : ∀ r ρ u F' H', f = .ok r ρ → Sub F F' → StOk G B F' H' σ ρ → RvRep G B F' H' σ ρ u r → Post G Y B W σ F' Q (k r ρ) → Q' u H') : Post G Y B W σ F Q' f := by
  cases f with
  | ok r ρ => exact fun u F' H' e S R => hk r ρ u F' H' rfl e S R (Post.mono (F := F) h e fun _ _ q => q)
  | exc x ρ => exact h
  | stuck => exact h.elim
theorem Post.seqT {f : Out Rv} {k : Rv → Env → Out Bool} {Q : Bool → Hp → Prop} {Q' : VK} (h : PostT G Y B W σ F Q (f.bind k))
    (hk : ∀ r ρ u F' H', f = .ok r ρ → Sub F F' → StOk G B F' H' σ ρ → RvRep G B F' H' σ ρ u r → PostT G Y B W σ F' Q (k r ρ) → Q' u H') : Post G Y B W σ F Q' f := by
  cases f with
  | ok r ρ =>
    refine fun u F' H' e S R => hk r ρ u F' H' rfl e S R ?_
    have h' : PostT G Y B W σ F Q (k r ρ) := h
    revert h'
    cases k r ρ with
    | ok b ρ1 => exact fun h' F1 H1 e1 S1 => h' F1 H1 (e.trans e1) S1
    | exc x ρ1 => exact fun h' cls dx F1 H1 e1 => h' cls dx F1 H1 (e.trans e1)
    | stuck => exact fun h' => h'
  | exc x ρ => exact h
  | stuck => exact h.elim

/-- a fresh cell as data -/
def asD (r : Rv) (ρ : Env) : Out Rv := match r with
  | .new c => match c.datN with
    | some d => .ok (.d d) ρ
    | none => .stuck
  | r => .ok r ρ
def opd (f : EF) : EF := fun ρ => (f ρ).bind asD
theorem Post.opd {Q : VK} {o : Out Rv} (h : Post G Y B W σ F Q (o.bind asD)) : Post G Y B W σ F Q o := by
  cases o with
  | exc x ρ => exact h
  | stuck => exact h.elim
  | ok r ρ =>
    cases r with
    | d x => exact h
    | slot i => exact h
    | new c =>
      intro u F' H' e S R
      obtain ⟨p, o, rfl, h2, h3, h4, h5, h6⟩ := R
      have h' : Post G Y B W σ F Q (match c.datN with | some d => .ok (.d d) ρ | none => .stuck) := h
      cases hc : c.datN with
      | none => rw [hc] at h'; exact h'.elim
      | some d =>
        rw [hc] at h'
        have e2 : Sub F' (upd F' p o) := Sub.new h2
        exact h' _ _ _ (e.trans e2) (S.adopt h2 h3 h5 h6) (cell_datN h4 e2 upd_same hc)
theorem tE_opd {f : EF} {Q : VK} (h : tE G Y W (opd f) σ H Q) : tE G Y W f σ H Q :=
  let ⟨B, F, ρ, S, p⟩ := h
  ⟨_, F, ρ, S, p.opd⟩
/-- what asD leaves stands while data grow -/
theorem asD_stays {r : Rv} {ρ1 : Env} (h : asD r ρ1 = .ok r ρ1) {u : V} {F1 H1 F2 H2 : Hp} {ρ2 : Env} (e : Sub F1 F2) (R : RvRep G B F1 H1 σ ρ1 u r) : RvRep G B F2 H2 σ ρ2 u r := by
  cases r with
  | d x => exact Rep.mono e _ R
  | slot i => exact R
  | new c =>
    unfold asD at h
    cases hc : c.datN with
    | none => simp [hc] at h
    | some d => simp [hc] at h
def flatR : Rv → Bool
  | .new _ => false
  | _ => true
theorem asD_flat {r r' : Rv} {ρ ρ' : Env} (h : asD r ρ = .ok r' ρ') : flatR r' = true := by
  cases r with
  | d x => cases h; rfl
  | slot i => cases h; rfl
  | new c =>
    unfold asD at h
    cases hc : c.datN with
    | none => simp [hc] at h
    | some d => simp [hc] at h; rw [← h.1]; rfl
theorem opd_flat {f : EF} {r : Rv} {ρ ρ' : Env} (h : opd f ρ = .ok r ρ') : flatR r = true := by
  unfold opd at h
  cases q : f ρ with
  | ok r1 ρ1 => rw [q] at h; exact asD_flat h
  | exc x ρ1 => rw [q] at h; cases h
  | stuck => rw [q] at h; cases h
theorem flat_stays {r : Rv} (h : flatR r = true) {u : V} {F1 H1 F2 H2 : Hp} {ρ1 ρ2 : Env} (e : Sub F1 F2) (R : RvRep G B F1 H1 σ ρ1 u r) : RvRep G B F2 H2 σ ρ2 u r := by
  cases r with
  | d x => exact Rep.mono e _ R
  | slot i => exact R
  | new c => cases h

/-- what an operation on data hands back: data that is there, a new list, a new tuple -/
inductive Pr where
  | d (x : D)
  | newL (ds : List D)
  | newT (ds : List D)
def Pr.rv : Pr → Rv
  | .d x => .d x
  | .newL ds => .new (.lst ds)
  | .newT ds => .d (.tup ds)
def PrPost (G : Gi) (F H : Hp) (Q : VK) : Pr → Prop
  | .d x => ∀ u, Rep G F u x → Q u H
  | .newL ds => ∀ p xs, H p = none → Reps G F xs ds → Q (.ref p) (upd H p (.lst xs))
  | .newT ds => (∀ u, Rep G F u (.tup ds) → Q u H) ∧ ∀ p xs, H p = none → Reps G F xs ds → Q (.ref p) (upd H p (.tup xs))
theorem Post.pr (S : StOk G B F H σ ρ) {Q : VK} {pr : Pr} (h : Post G Y B W σ F Q (.ok pr.rv ρ)) : PrPost G F H Q pr := by
  cases pr with
  | d x => exact fun u R => h u F H Sub.rfl S R
  | newL ds =>
    intro p xs hp hx
    refine h _ F _ Sub.rfl (S.beside hp) ⟨p, _, rfl, S.fh.free hp, upd_same, ⟨xs, rfl, hx⟩, S.new0 hp, fun i k hk ha => ?_⟩
    rcases hk with hk | hk
    · obtain ⟨q, o, g1, _, g3, _⟩ := S.own i k hk
      obtain rfl := at_inj g1 ha; rw [hp] at g3; cases g3
    · obtain ⟨q, o, g1, _, _, _, g3, _⟩ := S.io i k hk
      obtain rfl := at_inj g1 ha; rw [hp] at g3; cases g3
  | newT ds =>
    refine ⟨fun u R => h u F H Sub.rfl S R, fun p xs hp hx => ?_⟩
    have e : Sub F (upd F p (.tup xs)) := Sub.new (S.fh.free hp)
    exact h _ _ _ e (S.laid hp) (.tup (.inl (.inl upd_same)) (hx.mono e _))

/-! ### the judgements -/
theorem PE.weak {X : Cx} {e : Expr} {t t' : TE} (h : PE X e t) (w : ∀ σ H Q, t' σ H Q → t σ H Q) : PE X e t' := ⟨fun pins s σ H Q I h' => h.run pins s σ H Q I (w σ H Q h')⟩
theorem PT.weak {X : Cx} {e : Expr} {t t' : TT} (h : PT X e t) (w : ∀ σ H Q, t' σ H Q → t σ H Q) : PT X e t' := ⟨fun pins s σ H Q I h' => h.run pins s σ H Q I (w σ H Q h')⟩
theorem PA.weak {X : Cx} {e : List Expr} {t t' : TA} (h : PA X e t) (w : ∀ σ H Q, t' σ H Q → t σ H Q) : PA X e t' := ⟨fun pos pins s σ H Q I h' => h.run pos pins s σ H Q I (w σ H Q h')⟩
theorem PS.weak {X : Cx} {e : Stmt} {t t' : TS} (h : PS X e t) (w : ∀ D σ H, t' D σ H → t D σ H) : PS X e t' := ⟨fun pins s σ H Q I h' => h.run pins s σ H Q I (w Q σ H h')⟩
theorem PSs.weak {X : Cx} {e : List Stmt} {t t' : TS} (h : PSs X e t) (w : ∀ D σ H, t' D σ H → t D σ H) : PSs X e t' := ⟨fun pins s σ H Q I h' => h.run pins s σ H Q I (w Q σ H h')⟩

/-- where one stands: the model's context X, the kinds of objects, the body's entry, what is wanted of an exception -/
structure Ctx (X : Cx) (G : Gi) (W : WX) (k : Nat) : Prop where
  hK : X.K = G.K
  calm : X.calm = true
  nd : X.N.Nodup
  tk : Takes X W
  po : PassesOwn (model X.prog X.w) X.A X.env X.xe
  room : Room k X.A

/-- an operation on values against one on data -/
def OpS (G : Gi) (r : R2) (g : D → D → Option Pr) : Prop := ∀ F H x y a b pr, Sub F H → Opd G F H x a → Opd G F H y b → g a b = some pr → ∀ Q, PrPost G F H Q pr → r x y H Q
def UnS (G : Gi) (r : V → Hp → VK → Prop) (g : D → Option Pr) : Prop := ∀ F H x a pr, Sub F H → Opd G F H x a → g a = some pr → ∀ Q, PrPost G F H Q pr → r x H Q
def CaS (G : Gi) (r : List V → Hp → VK → Prop) (g : List D → Option Pr) : Prop := ∀ F H xs ds pr, Sub F H → Opds G F H xs ds → g ds = some pr → ∀ Q, PrPost G F H Q pr → r xs H Q

def ofP (ρ : Env) : Option Pr → Out Rv
  | some pr => .ok pr.rv ρ
  | none => .stuck
/-- one operand, then the operation; two -/
def f1 (g : D → Option Pr) (fa : EF) : EF := fun ρ => (opd fa ρ).bind fun a ρ1 => ofP ρ1 ((res ρ1 a).bind g)
def f2 (g : D → D → Option Pr) (fa fb : EF) : EF := fun ρ => (opd fa ρ).bind fun a ρ1 => (opd fb ρ1).bind fun b ρ2 => ofP ρ2 ((res ρ2 a).bind fun x => (res ρ2 b).bind fun y => g x y)

theorem Post.ofP (S : StOk G B F H σ ρ) {Q : VK} {o : Option Pr} (h : Post G Y B W σ F Q (ofP ρ o)) : ∃ pr, o = some pr ∧ PrPost G F H Q pr := by
  cases o with
  | none => exact h.elim
  | some pr => exact ⟨pr, rfl, Post.pr S h⟩

theorem t1 {r : V → Hp → VK → Prop} {g : D → Option Pr} (hs : UnS G r g) {fa : EF} {Q : VK} (h : tE G Y W (f1 g fa) σ H Q) : tUn r (tE G Y W fa) σ H Q := by
  obtain ⟨B, F, ρ, S, p⟩ := h
  refine tE_opd ⟨_, F, ρ, S, Post.seq p fun a ρ1 u F1 H1 ha e1 S1 R1 p1 => ?_⟩
  obtain ⟨pr, hpr, q⟩ := Post.ofP S1 p1
  cases hra : res ρ1 a with
  | none => rw [hra] at hpr; cases hpr
  | some x =>
    rw [hra] at hpr
    exact hs F1 H1 u x pr S1.fh (S1.opd R1 hra) hpr Q q
theorem t2 {r : R2} {g : D → D → Option Pr} (hs : OpS G r g) {fa fb : EF} {Q : VK} (h : tE G Y W (f2 g fa fb) σ H Q) : tOp r (tE G Y W fa) (tE G Y W fb) σ H Q := by
  obtain ⟨B, F, ρ, S, p⟩ := h
  refine tE_opd ⟨_, F, ρ, S, Post.seq p fun a ρ1 u F1 H1 ha e1 S1 R1 p1 => ?_⟩
  refine tE_opd ⟨_, F1, ρ1, S1, Post.seq p1 fun b ρ2 v F2 H2 hb e2 S2 R2 p2 => ?_⟩
  obtain ⟨pr, hpr, q⟩ := Post.ofP S2 p2
  have R1' : RvRep G B F2 H2 σ ρ2 u a := flat_stays (opd_flat ha) e2 R1
  cases hra : res ρ2 a with
  | none => rw [hra] at hpr; cases hpr
  | some x =>
    cases hrb : res ρ2 b with
    | none => rw [hra, hrb] at hpr; cases hpr
    | some y =>
      rw [hra, hrb] at hpr
      exact hs F2 H2 u v x y pr S2.fh (S2.opd R1' hra) (S2.opd R2 hrb) hpr Q q

/-! ### names, constants -/
def fVar (i : Nat) : EF := fun ρ => match ρ[i]? with
  | some (.d x) => .ok (.d x) ρ
  | some (.no) => .stuck
  | some _ => .ok (.slot i) ρ
  | none => .stuck
def fC (d : D) : EF := fun ρ => .ok (.d d) ρ
theorem StOk.some_at (S : StOk G B F H σ ρ) {i : Nat} {c : Cell} (h : ρ[i]? = some (.own c) ∨ ρ[i]? = some (.io c) ∨ ρ[i]? = some (.rd c)) : ∃ p, At σ i p := by
  rcases h with h | h | h
  · obtain ⟨p, _, g, _⟩ := S.own i c h; exact ⟨p, g⟩
  · obtain ⟨p, _, g, _⟩ := S.io i c h; exact ⟨p, g⟩
  · obtain ⟨p, _, g, _⟩ := S.rd i c h; exact ⟨p, g⟩
theorem t_var {i : Nat} {Q : VK} (h : tE G Y W (fVar i) σ H Q) : tVar i σ H Q := by
  obtain ⟨B, F, ρ, S, p⟩ := h
  unfold fVar at p
  cases q : ρ[i]? with
  | none => simp only [q] at p; exact p.elim
  | some s =>
    cases s with
    | no => simp only [q] at p; exact p.elim
    | d x =>
      simp only [q] at p
      obtain ⟨v, g1, g2⟩ := S.dat i x q
      exact ⟨v, g1, p v F H Sub.rfl S g2⟩
    | own c =>
      simp only [q] at p
      obtain ⟨a, g⟩ := S.some_at (.inl q)
      exact ⟨_, g, p _ F H Sub.rfl S g⟩
    | io c =>
      simp only [q] at p
      obtain ⟨a, g⟩ := S.some_at (.inr (.inl q))
      exact ⟨_, g, p _ F H Sub.rfl S g⟩
    | rd c =>
      simp only [q] at p
      obtain ⟨a, g⟩ := S.some_at (.inr (.inr q))
      exact ⟨_, g, p _ F H Sub.rfl S g⟩
theorem t_c {v : V} {d : D} (hd : ∀ F, Rep G F v d) {Q : VK} (h : tE G Y W (fC d) σ H Q) : tC v σ H Q := by
  obtain ⟨B, F, ρ, S, p⟩ := h
  exact p v F H Sub.rfl S (hd F)
end

section
variable {X : Cx} {G : Gi} {Y : Xi} {B : Bs} {W : WX} {k : Nat} {a b c e : Expr} {es : List Expr} {pos : Pos} {fa fb fc : EF}
abbrev JE (X : Cx) (G : Gi) (Y : Xi) (W : WX) (e : Expr) (f : EF) : Prop := PE X e (tE G Y W f)
abbrev JT (X : Cx) (G : Gi) (Y : Xi) (W : WX) (e : Expr) (f : TF) : Prop := PT X e (tT G Y W f)
abbrev JA (X : Cx) (G : Gi) (Y : Xi) (W : WX) (es : List Expr) (f : AF) : Prop := PA X es (tA G Y W f)

theorem je_var (i : Nat) {x : Str} (hN : X.N[i]? = some x := by rfl) (hv : Vis X.env.scope x := by first | exact Or.inl rfl | exact Or.inr (Or.inl rfl) | exact Or.inr (Or.inr rfl)) (hd : (x == ("__debug__" : Str)) = false := by decide)
    (hcd : (x == ("__classdict__" : Str)) = false := by decide) : JE X G Y W (.Name x pos) (fVar i) := PE.weak (pe_var hN hv hd hcd) fun _ _ _ => t_var
theorem je_int {i : Int} {j : Nat} : JE X G Y W (.Constant (.int i) j pos) (fC (.int i)) := PE.weak pe_int fun _ _ _ => t_c fun _ => .int i
theorem je_bl {i : Bool} {j : Nat} : JE X G Y W (.Constant (.bool i) j pos) (fC (.bl i)) := PE.weak pe_bl fun _ _ _ => t_c fun _ => .bl i
theorem je_str {i : Str} {j : Nat} : JE X G Y W (.Constant (.str i) j pos) (fC (.str i)) := PE.weak pe_str fun _ _ _ => t_c fun _ => .str i
theorem je_non {j : Nat} : JE X G Y W (.Constant .none j pos) (fC .non) := PE.weak pe_non fun _ _ _ => t_c fun _ => .non
theorem je_glob {x : Str} {v : V} {u : Value} {d : D} (hm : X.mg x = some u) (r : RelV v u) (hd : ∀ F, Rep G F v d) (hg : Gl X x := by rfl) (h2 : (x == ("__debug__" : Str)) = false := by decide) : JE X G Y W (.Name x pos) (fC d) :=
  PE.weak (pe_glob hg hm r h2) fun _ _ _ => t_c hd

theorem je_bin {op : Operator} {r : R2} {g : D → D → Option Pr} (hs : OpS G r g) (ho : OpR X (binaryOp op) r) (ha : JE X G Y W a fa) (hb : JE X G Y W b fb) : JE X G Y W (.BinOp a op b pos) (f2 g fa fb) :=
  PE.weak (pe_op ho ha hb) fun _ _ _ => t2 hs
theorem je_un {op : UnaryOp} {r : V → Hp → VK → Prop} {g : D → Option Pr} (hs : UnS G r g) (ho : UnR X (unaryOp op) r) (ha : JE X G Y W a fa) : JE X G Y W (.UnaryOp op a pos) (f1 g fa) :=
  PE.weak (pe_un ho ha) fun _ _ _ => t1 hs
theorem je_cmp {op : CmpOp} {r : R2} {g : D → D → Option Pr} (hs : OpS G r g) (ho : OpR X (compareOp op) r) (ha : JE X G Y W a fa) (hb : JE X G Y W b fb) (hm : behindInMarks op b = false := by first | exact nomark _ | rfl) : JE X G Y W (.Compare a [op] [b] pos) (f2 g fa fb) :=
  PE.weak (pe_cmpR ho ha hb hm) fun _ _ _ => t2 hs
theorem je_ix {r : R2} {g : D → D → Option Pr} (hs : OpS G r g) (hr : IxR X r) (ha : JE X G Y W a fa) (hb : JE X G Y W b fb) (hp : PlainIx b := by exact fun _ _ => rfl) : JE X G Y W (.Subscript a b pos) (f2 g fa fb) :=
  PE.weak (pe_ix hr ha hb hp) fun _ _ _ => t2 hs
end
end Nz

set_option Elab.async false
set_option linter.all false
set_option maxRecDepth 100000
set_option maxHeartbeats 4000000
/-! Nz3: tests, argument lists, displays, slices, calls of built-ins and of methods that change nothing. -/
namespace Nz
open PySem L2
section
variable {G : Gi} {B : Bs} {F H F' H' : Hp} {σ : L2.St} {ρ ρ' : Env} {Y : Xi} {W : WX}

/-- a wish by what is computed -/
def PostG {α : Type} (G : Gi) (Y : Xi) (B : Bs) (W : WX) (σ : L2.St) (P : α → Env → Hp → Hp → Prop) (F : Hp) : Out α → Prop
  | .ok a ρ => ∀ F' H', Sub F F' → StOk G B F' H' σ ρ → P a ρ F' H'
  | .exc x ρ => ∀ cls dx F' H', Sub F F' → StOk G B F' H' σ ρ → ExRep G Y F' x cls dx → W cls dx σ H'
  | .stuck => False
theorem Post.g {Q : VK} {o : Out Rv} (h : Post G Y B W σ F Q o) : PostG G Y B W σ (fun r ρ F' H' => ∀ u, RvRep G B F' H' σ ρ u r → Q u H') F o := by
  cases o with
  | ok r ρ => exact fun F' H' e S u R => h u F' H' e S R
  | exc x ρ => exact h
  | stuck => exact h
theorem Post.ofG {Q : VK} {o : Out Rv} (h : PostG G Y B W σ (fun r ρ F' H' => ∀ u, RvRep G B F' H' σ ρ u r → Q u H') F o) : Post G Y B W σ F Q o := by
  cases o with
  | ok r ρ => exact fun u F' H' e S R => h F' H' e S u R
  | exc x ρ => exact h
  | stuck => exact h
theorem PostT.g {Q : Bool → Hp → Prop} {o : Out Bool} (h : PostT G Y B W σ F Q o) : PostG G Y B W σ (fun b _ _ H' => Q b H') F o := by
  cases o <;> exact h
theorem PostT.ofG {Q : Bool → Hp → Prop} {o : Out Bool} (h : PostG G Y B W σ (fun b _ _ H' => Q b H') F o) : PostT G Y B W σ F Q o := by
  cases o <;> exact h
theorem PostA.g {Q : List V → Hp → Prop} {o : Out (List Rv)} (h : PostA G Y B W σ F Q o) : PostG G Y B W σ (fun rs ρ F' H' => ∀ us, RvReps G B F' H' σ ρ us rs → Q us H') F o := by
  cases o with
  | ok r ρ => exact fun F' H' e S u R => h u F' H' e S R
  | exc x ρ => exact h
  | stuck => exact h
theorem PostA.ofG {Q : List V → Hp → Prop} {o : Out (List Rv)} (h : PostG G Y B W σ (fun rs ρ F' H' => ∀ us, RvReps G B F' H' σ ρ us rs → Q us H') F o) : PostA G Y B W σ F Q o := by
  cases o with
  | ok r ρ => exact fun u F' H' e S R => h F' H' e S u R
  | exc x ρ => exact h
  | stuck => exact h
theorem PostG.imp {α : Type} {P P' : α → Env → Hp → Hp → Prop} {o : Out α} (h : PostG G Y B W σ P F o) (hp : ∀ a ρ F' H', Sub F F' → StOk G B F' H' σ ρ → P a ρ F' H' → P' a ρ F' H') : PostG G Y B W σ P' F o := by
  cases o with
  | ok a ρ => exact fun F' H' e S => hp _ _ _ _ e S (h F' H' e S)
  | exc x ρ => exact h
  | stuck => exact h
theorem PostG.mono {α : Type} {P : α → Env → Hp → Hp → Prop} {o : Out α} (h : PostG G Y B W σ P F o) (e : Sub F F') : PostG G Y B W σ P F' o := by
  cases o with
  | ok a ρ => exact fun F1 H1 e1 S => h F1 H1 (e.trans e1) S
  | exc x ρ => exact fun cls dx F1 H1 e1 => h cls dx F1 H1 (e.trans e1)
  | stuck => exact h
theorem PostG.seq {α β : Type} {f : Out α} {k : α → Env → Out β} {P : β → Env → Hp → Hp → Prop} {P' : α → Env → Hp → Hp → Prop} (h : PostG G Y B W σ P F (f.bind k))
    (hk : ∀ a ρ F' H', f = .ok a ρ → Sub F F' → StOk G B F' H' σ ρ → PostG G Y B W σ P F' (k a ρ) → P' a ρ F' H') : PostG G Y B W σ P' F f := by
  cases f with
  | ok a ρ => exact fun F' H' e S => hk a ρ F' H' rfl e S (PostG.mono (F := F) h e)
  | exc x ρ => exact h
  | stuck => exact h

/-! ### tests -/
def isB (ρ : Env) : Option D → Out Bool
  | some (.bl b) => .ok b ρ
  | _ => .stuck
def fT (f : EF) : TF := fun ρ => (opd f ρ).bind fun r ρ1 => isB ρ1 (res ρ1 r)
theorem isB_ok {o : Option D} {P : Bool → Env → Hp → Hp → Prop} (h : PostG G Y B W σ P F (isB ρ o)) : ∃ b, o = some (.bl b) ∧ PostG G Y B W σ P F (.ok b ρ) := by
  cases o with
  | none => exact False.elim h
  | some d => cases d <;> first | exact ⟨_, rfl, h⟩ | exact False.elim h
theorem opd_bl {u : V} {b : Bool} (h : Opd G F H u (.bl b)) : u = .bl b := by
  rcases h with h | ⟨p, xs, ds, _, _, h, _⟩
  · cases h; rfl
  · cases h
theorem opd_int {u : V} {b : Int} (h : Opd G F H u (.int b)) : u = .int b := by
  rcases h with h | ⟨p, xs, ds, _, _, h, _⟩
  · cases h; rfl
  · cases h
theorem opd_str {u : V} {b : Str} (h : Opd G F H u (.str b)) : u = .str b := by
  rcases h with h | ⟨p, xs, ds, _, _, h, _⟩
  · cases h; rfl
  · cases h
theorem opd_non {u : V} (h : Opd G F H u .non) : u = .non := by
  rcases h with h | ⟨p, xs, ds, _, _, h, _⟩
  · cases h; rfl
  · cases h
theorem opd_lst {u : V} {ds : List D} (e : Sub F H) (h : Opd G F H u (.lst ds)) : ∃ a xs, u = .ref a ∧ H a = some (.lst xs) ∧ Reps G F xs ds := by
  rcases h with h | ⟨p, xs, ds', rfl, hp, h, hx⟩
  · cases h with
    | lst h1 h2 => exact ⟨_, _, rfl, e _ _ h1, h2⟩
  · cases h; exact ⟨p, xs, rfl, hp, hx⟩
theorem opd_tup {u : V} {ds : List D} (e : Sub F H) (h : Opd G F H u (.tup ds)) : ∃ a xs, u = .ref a ∧ SqT G.K H a xs ∧ Reps G F xs ds := by
  rcases h with h | ⟨p, xs, ds', rfl, hp, h, hx⟩
  · cases h with
    | tup h1 h2 => exact ⟨_, _, rfl, sub_sqT e h1, h2⟩
  · cases h
theorem opd_obj {u : V} {c : Nat} {ds : List D} (e : Sub F H) (h : Opd G F H u (.obj c ds)) : ∃ a dx fs, u = .ref a ∧ H a = some (.ins (G.cls c) dx fs) ∧ fs.map (·.1) = G.att c ∧ Reps G F (fs.map (·.2)) ds := by
  rcases h with h | ⟨p, xs, ds', rfl, hp, h, hx⟩
  · cases h with
    | obj h1 h2 h3 => exact ⟨_, _, _, rfl, e _ _ h1, h2, h3⟩
  · cases h

theorem tT_tE {f : EF} {Q : Bool → Hp → Prop} (h : tT G Y W (fT f) σ H Q) : tE G Y W f σ H fun x H1 => ∃ c, x = .bl c ∧ Q c H1 := by
  obtain ⟨B, F, ρ, S, p⟩ := h
  refine tE_opd ⟨_, F, ρ, S, Post.ofG (PostG.seq p.g fun r ρ1 F1 H1 hr e1 S1 p1 u R => ?_)⟩
  obtain ⟨b, hb, p2⟩ := isB_ok p1
  exact ⟨b, opd_bl (S1.opd R hb), p2 F1 H1 Sub.rfl S1⟩
def gAnd (f g : TF) : TF := fun ρ => (f ρ).bind fun b ρ1 => if b then g ρ1 else .ok false ρ1
def gOr (f g : TF) : TF := fun ρ => (f ρ).bind fun b ρ1 => if b then .ok true ρ1 else g ρ1
def gNot (f : TF) : TF := fun ρ => (f ρ).bind fun b ρ1 => .ok (!b) ρ1
def fAnd (f : EF) (g : EF) : EF := fun ρ => (fT f ρ).bind fun b ρ1 => if b then g ρ1 else .ok (.d (.bl false)) ρ1
def fOr (f : EF) (g : EF) : EF := fun ρ => (fT f ρ).bind fun b ρ1 => if b then .ok (.d (.bl true)) ρ1 else g ρ1
def fNot (f : EF) : EF := fun ρ => (fT f ρ).bind fun b ρ1 => .ok (.d (.bl !b)) ρ1
def fIf (t : TF) (f g : EF) : EF := fun ρ => (t ρ).bind fun b ρ1 => if b then f ρ1 else g ρ1
theorem t_and {f g : TF} {Q : Bool → Hp → Prop} (h : tT G Y W (gAnd f g) σ H Q) : tAnd (tT G Y W f) (tT G Y W g) σ H Q := by
  obtain ⟨B, F, ρ, S, p⟩ := h
  refine ⟨_, F, ρ, S, PostT.ofG (PostG.seq p.g fun b ρ1 F1 H1 _ e1 S1 p1 => ?_)⟩
  cases b with
  | true => exact iteT ⟨_, F1, ρ1, S1, PostT.ofG p1⟩
  | false => exact iteF (p1 F1 H1 Sub.rfl S1)
theorem t_or {f g : TF} {Q : Bool → Hp → Prop} (h : tT G Y W (gOr f g) σ H Q) : tOr (tT G Y W f) (tT G Y W g) σ H Q := by
  obtain ⟨B, F, ρ, S, p⟩ := h
  refine ⟨_, F, ρ, S, PostT.ofG (PostG.seq p.g fun b ρ1 F1 H1 _ e1 S1 p1 => ?_)⟩
  cases b with
  | true => exact iteT (p1 F1 H1 Sub.rfl S1)
  | false => exact iteF ⟨_, F1, ρ1, S1, PostT.ofG p1⟩
theorem t_not {f : TF} {Q : Bool → Hp → Prop} (h : tT G Y W (gNot f) σ H Q) : tNot (tT G Y W f) σ H Q := by
  obtain ⟨B, F, ρ, S, p⟩ := h
  exact ⟨_, F, ρ, S, PostT.ofG (PostG.seq p.g fun b ρ1 F1 H1 _ e1 S1 p1 => p1 F1 H1 Sub.rfl S1)⟩
theorem tE_T {f : EF} {k : Bool → Env → Out Rv} {Q : VK} {Q' : VK} (S : StOk G B F H σ ρ) (p : Post G Y B W σ F Q ((fT f ρ).bind k))
    (hk : ∀ b ρ1 F1 H1, Sub F F1 → StOk G B F1 H1 σ ρ1 → Post G Y B W σ F1 Q (k b ρ1) → Q' (.bl b) H1) : tE G Y W f σ H Q' := by
  have h1 : tT G Y W (fT f) σ H fun b H1 => Q' (.bl b) H1 := ⟨_, F, ρ, S, PostT.ofG (PostG.seq p.g fun b ρ1 F1 H1 _ e1 S1 p1 => hk b ρ1 F1 H1 e1 S1 (Post.ofG p1))⟩
  obtain ⟨B2, F2, ρ2, S2, p2⟩ := tT_tE h1
  refine ⟨_, F2, ρ2, S2, ?_⟩
  refine Post.mono p2 Sub.rfl fun u H1 hu => ?_
  obtain ⟨c, rfl, q⟩ := hu
  exact q
theorem t_andV {f g : EF} {Q : VK} (h : tE G Y W (fAnd f g) σ H Q) : tAndV (tE G Y W f) (tE G Y W g) σ H Q := by
  obtain ⟨B, F, ρ, S, p⟩ := h
  refine tE_T S p fun b ρ1 F1 H1 e1 S1 p1 => ⟨b, rfl, ?_⟩
  cases b with
  | true => exact iteT ⟨_, F1, ρ1, S1, p1⟩
  | false => exact iteF (p1 _ F1 H1 Sub.rfl S1 (.bl false))
theorem t_orV {f g : EF} {Q : VK} (h : tE G Y W (fOr f g) σ H Q) : tOrV (tE G Y W f) (tE G Y W g) σ H Q := by
  obtain ⟨B, F, ρ, S, p⟩ := h
  refine tE_T S p fun b ρ1 F1 H1 e1 S1 p1 => ⟨b, rfl, ?_⟩
  cases b with
  | true => exact iteT (p1 _ F1 H1 Sub.rfl S1 (.bl true))
  | false => exact iteF ⟨_, F1, ρ1, S1, p1⟩
theorem t_notV {f : EF} {Q : VK} (h : tE G Y W (fNot f) σ H Q) : tNotV (tE G Y W f) σ H Q := by
  obtain ⟨B, F, ρ, S, p⟩ := h
  exact tE_T S p fun b ρ1 F1 H1 e1 S1 p1 => ⟨b, rfl, p1 _ F1 H1 Sub.rfl S1 (.bl _)⟩
theorem t_if {t : TF} {f g : EF} {Q : VK} (h : tE G Y W (fIf t f g) σ H Q) : tIf (tT G Y W t) (tE G Y W f) (tE G Y W g) σ H Q := by
  obtain ⟨B, F, ρ, S, p⟩ := h
  refine ⟨_, F, ρ, S, PostT.ofG (PostG.seq p.g fun b ρ1 F1 H1 _ e1 S1 p1 => ?_)⟩
  cases b with
  | true => exact iteT ⟨_, F1, ρ1, S1, Post.ofG p1⟩
  | false => exact iteF ⟨_, F1, ρ1, S1, Post.ofG p1⟩

/-! ### argument lists -/
def fNil : AF := fun ρ => .ok [] ρ
def fCons (f : EF) (g : AF) : AF := fun ρ => (opd f ρ).bind fun r ρ1 => (g ρ1).bind fun rs ρ2 => .ok (r :: rs) ρ2
theorem t_nil {Q : List V → Hp → Prop} (h : tA G Y W fNil σ H Q) : tNil σ H Q := by
  obtain ⟨B, F, ρ, S, p⟩ := h
  exact p [] F H Sub.rfl S .nil
theorem t_cons {f : EF} {g : AF} {Q : List V → Hp → Prop} (h : tA G Y W (fCons f g) σ H Q) : tCons (tE G Y W f) (tA G Y W g) σ H Q := by
  obtain ⟨B, F, ρ, S, p⟩ := h
  refine tE_opd ⟨_, F, ρ, S, Post.ofG (PostG.seq p.g fun r ρ1 F1 H1 hr e1 S1 p1 u R => ?_)⟩
  refine ⟨_, F1, ρ1, S1, PostA.ofG (PostG.seq p1 fun rs ρ2 F2 H2 _ e2 S2 p2 us Rs => ?_)⟩
  exact p2 F2 H2 Sub.rfl S2 _ (.cons (flat_stays (opd_flat hr) e2 R) Rs)
/-- operands that are kept: own cells become data -/
def frz (r : Rv) (ρ : Env) : Out D := match r with
  | .d x => .ok x ρ
  | .slot i => match ρ[i]? with
    | some (.d x) => .ok x ρ
    | some (.own c) => match c.dat with
      | some d => .ok d (ρ.set i (.d d))
      | none => .stuck
    | _ => .stuck
  | .new _ => .stuck
def frzs : List Rv → Env → Out (List D)
  | [], ρ => .ok [] ρ
  | r :: rs, ρ => (frz r ρ).bind fun d ρ1 => (frzs rs ρ1).bind fun ds ρ2 => .ok (d :: ds) ρ2
theorem rv_flat {r : Rv} (h : flatR r = true) {u : V} {F1 H1 F2 H2 : Hp} {ρ1 ρ2 : Env} (e : Sub F1 F2) (R : RvRep G B F1 H1 σ ρ1 u r) : RvRep G B F2 H2 σ ρ2 u r := flat_stays h e R
theorem frz_ok {r : Rv} {d : D} {u : V} (S : StOk G B F H σ ρ) (R : RvRep G B F H σ ρ u r) (h : frz r ρ = .ok d ρ') : ∃ F', Sub F F' ∧ StOk G B F' H σ ρ' ∧ Rep G F' u d := by
  cases r with
  | d x => cases h; exact ⟨F, Sub.rfl, S, R⟩
  | new c => cases h
  | slot i =>
    have hu : σ[i]? = some (some u) := R
    unfold frz at h
    cases q : ρ[i]? with
    | none => simp [q] at h
    | some sl =>
      cases sl with
      | no => simp [q] at h
      | io c => simp [q] at h
      | rd c => simp [q] at h
      | d x =>
        simp [q] at h
        obtain ⟨rfl, rfl⟩ := h
        obtain ⟨v, g1, g2⟩ := S.dat i _ q
        rw [hu] at g1; cases g1
        exact ⟨F, Sub.rfl, S, g2⟩
      | own c =>
        simp only [q] at h
        cases hc : c.dat with
        | none => simp [hc] at h
        | some d' =>
          simp [hc] at h
          obtain ⟨rfl, rfl⟩ := h
          obtain ⟨p, o, g1, g2, g3, g4, g5⟩ := S.freeze q hc
          obtain rfl := at_val hu g1
          exact ⟨_, Sub.new g3, g5, g4⟩
theorem RvReps.all_flat {rs : List Rv} (h : rs.all flatR = true) {F1 H1 F2 H2 : Hp} {ρ1 ρ2 : Env} (e : Sub F1 F2) : ∀ {us : List V}, RvReps G B F1 H1 σ ρ1 us rs → RvReps G B F2 H2 σ ρ2 us rs := by
  induction rs with
  | nil => intro us R; cases R; exact .nil
  | cons r rs ih =>
    intro us R
    simp only [List.all_cons, Bool.and_eq_true] at h
    cases R with
    | cons R1 R2 => exact .cons (flat_stays h.1 e R1) (ih h.2 R2)
theorem frzs_ok : ∀ {rs : List Rv} {ds : List D} {us : List V} {F : Hp} {ρ ρ' : Env}, StOk G B F H σ ρ → rs.all flatR = true → RvReps G B F H σ ρ us rs → frzs rs ρ = .ok ds ρ' → ∃ F', Sub F F' ∧ StOk G B F' H σ ρ' ∧ Reps G F' us ds
  | [], _, _, F, _, _, S, _, R, h => by cases R; cases h; exact ⟨F, Sub.rfl, S, .nil⟩
  | r :: rs, _, _, F, ρ, _, S, hf, R, h => by
    simp only [List.all_cons, Bool.and_eq_true] at hf
    cases R with
    | cons R1 R2 =>
      unfold frzs at h
      cases q : frz r ρ with
      | exc x ρ1 => rw [q] at h; cases h
      | stuck => rw [q] at h; cases h
      | ok d ρ1 =>
        rw [q] at h
        obtain ⟨F1, e1, S1, r1⟩ := frz_ok S R1 q
        have h' : (frzs rs ρ1).bind (fun ds ρ2 => .ok (d :: ds) ρ2) = .ok _ _ := h
        cases q2 : frzs rs ρ1 with
        | exc x ρ2 => rw [q2] at h'; cases h'
        | stuck => rw [q2] at h'; cases h'
        | ok ds ρ2 =>
          rw [q2] at h'
          cases h'
          obtain ⟨F2, e2, S2, r2⟩ := frzs_ok S1 hf.2 (R2.all_flat hf.2 e1) q2
          exact ⟨F2, e1.trans e2, S2, .cons (r1.mono e2 _) r2⟩
/-- lists whose results are no fresh cells -/
def Flat (g : AF) : Prop := ∀ ρ rs ρ', g ρ = .ok rs ρ' → rs.all flatR = true
theorem flat_nil : Flat fNil := fun ρ rs ρ' h => by cases h; rfl
theorem flat_cons {f : EF} {g : AF} (hg : Flat g) : Flat (fCons f g) := fun ρ rs ρ' h => by
  unfold fCons at h
  cases q : opd f ρ with
  | exc x ρ1 => rw [q] at h; cases h
  | stuck => rw [q] at h; cases h
  | ok r ρ1 =>
    rw [q] at h
    have h' : (g ρ1).bind (fun rs ρ2 => .ok (r :: rs) ρ2) = .ok rs ρ' := h
    cases q2 : g ρ1 with
    | exc x ρ2 => rw [q2] at h'; cases h'
    | stuck => rw [q2] at h'; cases h'
    | ok rs2 ρ2 =>
      rw [q2] at h'
      cases h'
      simp only [List.all_cons, Bool.and_eq_true]
      exact ⟨opd_flat q, hg _ _ _ q2⟩

theorem frzs_post {rs : List Rv} {us : List V} {β : Type} {k : List D → Env → Out β} {P : β → Env → Hp → Hp → Prop} (S : StOk G B F H σ ρ) (hf : rs.all flatR = true) (R : RvReps G B F H σ ρ us rs) (h : PostG G Y B W σ P F ((frzs rs ρ).bind k))
    : ∃ ds ρ' F', frzs rs ρ = .ok ds ρ' ∧ Sub F F' ∧ StOk G B F' H σ ρ' ∧ Reps G F' us ds ∧ PostG G Y B W σ P F' (k ds ρ') := by
  have nx : ∀ (rs : List Rv) (ρ ρ' : Env) (x : Ex), frzs rs ρ ≠ .exc x ρ' := by
    intro rs
    induction rs with
    | nil => intro ρ ρ' x h; cases h
    | cons r rs ih =>
      intro ρ ρ' x h
      unfold frzs at h
      have n1 : ∀ (y : Ex) (ρ1 : Env), frz r ρ ≠ .exc y ρ1 := by
        intro y ρ1 h
        unfold frz at h
        split at h <;> first | cases h | (split at h <;> first | cases h | (split at h <;> cases h))
      cases q : frz r ρ with
      | exc y ρ1 => exact n1 y ρ1 q
      | stuck => rw [q] at h; cases h
      | ok d ρ1 =>
        rw [q] at h
        have h' : (frzs rs ρ1).bind (fun ds ρ2 => .ok (d :: ds) ρ2) = .exc x ρ' := h
        cases q2 : frzs rs ρ1 with
        | exc y ρ2 => exact ih _ _ _ q2
        | stuck => rw [q2] at h'; cases h'
        | ok ds ρ2 => rw [q2] at h'; cases h'
  cases q : frzs rs ρ with
  | exc x ρ1 => exact (nx _ _ _ _ q).elim
  | stuck => rw [q] at h; exact False.elim h
  | ok ds ρ1 =>
    rw [q] at h
    obtain ⟨F1, e1, S1, r1⟩ := frzs_ok S hf R q
    exact ⟨ds, ρ1, F1, rfl, e1, S1, r1, PostG.mono (F := F) h e1⟩

/-- written tuples and lists -/
def lim {α : Type} (n : Nat) (o : Out α) : Out α := if n ≤ 100000 then o else .stuck
theorem lim_ok {α : Type} {n : Nat} {o : Out α} {P : α → Env → Hp → Hp → Prop} (h : PostG G Y B W σ P F (lim n o)) : n ≤ sizeLine ∧ PostG G Y B W σ P F o := by
  unfold lim at h
  split at h
  · rename_i q; exact ⟨Nat.le_trans q (by decide), h⟩
  · exact False.elim h
def fTup (g : AF) : EF := fun ρ => (g ρ).bind fun rs ρ1 => (frzs rs ρ1).bind fun ds ρ2 => lim ds.length (.ok (.d (.tup ds)) ρ2)
def fLst (g : AF) : EF := fun ρ => (g ρ).bind fun rs ρ1 => (frzs rs ρ1).bind fun ds ρ2 => lim ds.length (.ok (.new (.lst ds)) ρ2)
theorem t_tup {g : AF} (hg : Flat g) {Q : VK} (h : tE G Y W (fTup g) σ H Q) : tTup (tA G Y W g) σ H Q := by
  obtain ⟨B, F, ρ, S, p⟩ := h
  refine ⟨_, F, ρ, S, PostA.ofG (PostG.seq p.g fun rs ρ1 F1 H1 hr e1 S1 p1 us R => ?_)⟩
  obtain ⟨ds, ρ2, F2, _, e2, S2, r2, p2⟩ := frzs_post S1 (hg _ _ _ hr) R p1
  obtain ⟨hl, p3⟩ := lim_ok p2
  exact ⟨by rw [r2.length]; exact hl, fun q hq => (Post.pr (pr := .newT ds) S2 (Post.ofG p3)).2 q us hq r2⟩
theorem t_lst {g : AF} (hg : Flat g) {Q : VK} (h : tE G Y W (fLst g) σ H Q) : tLst (tA G Y W g) σ H Q := by
  obtain ⟨B, F, ρ, S, p⟩ := h
  refine ⟨_, F, ρ, S, PostA.ofG (PostG.seq p.g fun rs ρ1 F1 H1 hr e1 S1 p1 us R => ?_)⟩
  obtain ⟨ds, ρ2, F2, _, e2, S2, r2, p2⟩ := frzs_post S1 (hg _ _ _ hr) R p1
  obtain ⟨hl, p3⟩ := lim_ok p2
  exact ⟨by rw [r2.length]; exact hl, fun q hq => Post.pr (pr := .newL ds) S2 (Post.ofG p3) q us hq r2⟩

/-! ### slices -/
abbrev OF := Env → Out (Option Int)
def tO (G : Gi) (Y : Xi) (W : WX) (f : OF) : TO := fun σ H Q => ∃ (B : Bs) (F : Hp) (ρ : Env), StOk G B F H σ ρ ∧ PostG G Y B W σ (fun o _ _ H' => Q o H') F (f ρ)
def isI (ρ : Env) : Option D → Out (Option Int)
  | some (.int i) => .ok (some i) ρ
  | _ => .stuck
def fPart (f : EF) : OF := fun ρ => (opd f ρ).bind fun r ρ1 => isI ρ1 (res ρ1 r)
def fNo : OF := fun ρ => .ok none ρ
theorem isI_ok {o : Option D} {P : Option Int → Env → Hp → Hp → Prop} (h : PostG G Y B W σ P F (isI ρ o)) : ∃ b, o = some (.int b) ∧ PostG G Y B W σ P F (.ok (some b) ρ) := by
  cases o with
  | none => exact False.elim h
  | some d => cases d <;> first | exact ⟨_, rfl, h⟩ | exact False.elim h
theorem t_part {f : EF} {Q : Option Int → Hp → Prop} (h : tO G Y W (fPart f) σ H Q) : tPart (tE G Y W f) σ H Q := by
  obtain ⟨B, F, ρ, S, p⟩ := h
  refine tE_opd ⟨_, F, ρ, S, Post.ofG (PostG.seq p fun r ρ1 F1 H1 hr e1 S1 p1 u R => ?_)⟩
  obtain ⟨b, hb, p2⟩ := isI_ok p1
  exact ⟨b, opd_int (S1.opd R hb), p2 F1 H1 Sub.rfl S1⟩
theorem t_nopart {Q : Option Int → Hp → Prop} (h : tO G Y W fNo σ H Q) : tNoPart σ H Q := by
  obtain ⟨B, F, ρ, S, p⟩ := h
  exact p F H Sub.rfl S
def SlS (G : Gi) (r : V → Option Int → Option Int → Hp → VK → Prop) (g : D → Option Int → Option Int → Option Pr) : Prop := ∀ F H x a lo hi pr, Sub F H → Opd G F H x a → g a lo hi = some pr → ∀ Q, PrPost G F H Q pr → r x lo hi H Q
def fSl (g : D → Option Int → Option Int → Option Pr) (fa : EF) (lo hi : OF) : EF := fun ρ => (opd fa ρ).bind fun a ρ1 => (lo ρ1).bind fun l ρ2 => (hi ρ2).bind fun u ρ3 => ofP ρ3 ((res ρ3 a).bind fun x => g x l u)
theorem t_sl {r : V → Option Int → Option Int → Hp → VK → Prop} {g : D → Option Int → Option Int → Option Pr} (hs : SlS G r g) {fa : EF} {lo hi : OF} {Q : VK} (h : tE G Y W (fSl g fa lo hi) σ H Q) : tSl r (tE G Y W fa) (tO G Y W lo) (tO G Y W hi) σ H Q := by
  obtain ⟨B, F, ρ, S, p⟩ := h
  refine tE_opd ⟨_, F, ρ, S, Post.ofG (PostG.seq p.g fun a ρ1 F1 H1 ha e1 S1 p1 u R => ?_)⟩
  refine ⟨_, F1, ρ1, S1, PostG.seq p1 fun l ρ2 F2 H2 _ e2 S2 p2 => ?_⟩
  refine ⟨_, F2, ρ2, S2, PostG.seq p2 fun v ρ3 F3 H3 _ e3 S3 p3 => ?_⟩
  obtain ⟨pr, hpr, q⟩ := Post.ofP S3 (Post.ofG p3)
  have R' : RvRep G B F3 H3 σ ρ3 u a := flat_stays (opd_flat ha) (e2.trans e3) R
  cases hra : res ρ3 a with
  | none => rw [hra] at hpr; cases hpr
  | some x =>
    rw [hra] at hpr
    exact hs F3 H3 u x l v pr S3.fh (S3.opd R' hra) hpr Q q

/-! ### calls of built-ins -/
def fBlt (g : List D → Option Pr) (fs : AF) : EF := fun ρ => (fs ρ).bind fun rs ρ1 => ofP ρ1 ((ress ρ1 rs).bind g)
theorem StOk.opds (S : StOk G B F H σ ρ) : ∀ {rs : List Rv} {us : List V} {ds : List D}, RvReps G B F H σ ρ us rs → ress ρ rs = some ds → Opds G F H us ds
  | [], _, _, R, h => by cases R; cases h; exact .nil
  | r :: rs, _, _, R, h => by
    cases R with
    | cons R1 R2 =>
      unfold ress at h
      cases q : res ρ r with
      | none => rw [q] at h; cases h
      | some d =>
        rw [q] at h
        have h' : (ress ρ rs).map (d :: ·) = some _ := h
        cases q2 : ress ρ rs with
        | none => rw [q2] at h'; cases h'
        | some ds2 =>
          rw [q2] at h'
          cases h'
          exact .cons (S.opd R1 q) (S.opds R2 q2)
theorem t_blt {r : List V → Hp → VK → Prop} {g : List D → Option Pr} (hs : CaS G r g) {fs : AF} {Q : VK} (h : tE G Y W (fBlt g fs) σ H Q) : tCB r (tA G Y W fs) σ H Q := by
  obtain ⟨B, F, ρ, S, p⟩ := h
  refine ⟨_, F, ρ, S, PostA.ofG (PostG.seq p.g fun rs ρ1 F1 H1 hr e1 S1 p1 us R => ?_)⟩
  obtain ⟨pr, hpr, q⟩ := Post.ofP S1 (Post.ofG p1)
  cases hrs : ress ρ1 rs with
  | none => rw [hrs] at hpr; cases hpr
  | some ds =>
    rw [hrs] at hpr
    exact hs F1 H1 us ds pr S1.fh (S1.opds R hrs) hpr Q q
/-- a method of a built-in type that changes nothing -/
def MeS (G : Gi) (T : String) (r : V → List V → Hp → VK → Prop) (g : D → List D → Option Pr) : Prop := ∀ F H x a xs ds pr, Sub F H → Opd G F H x a → Opds G F H xs ds → g a ds = some pr → tyV G.K T x H ∧ ∀ Q, PrPost G F H Q pr → r x xs H Q
def TyS (G : Gi) (T : String) (tq : D → Bool) : Prop := ∀ F H x a, Sub F H → Opd G F H x a → tq a = true → tyV G.K T x H
def fMe (tq : D → Bool) (g : D → List D → Option Pr) (fo : EF) (fs : AF) : EF := fun ρ => (opd fo ρ).bind fun a ρ1 => if (res ρ1 a).any tq then (fs ρ1).bind fun rs ρ2 => ofP ρ2 ((res ρ2 a).bind fun x => (ress ρ2 rs).bind fun ds => g x ds) else .stuck
end

section
variable {X : Cx} {G : Gi} {Y : Xi} {B : Bs} {W : WX} {k : Nat} {a b c e : Expr} {es : List Expr} {pos : Pos} {fa fb fc : EF} {ta tb : TF} {fs : AF} {rest : List Expr}
theorem jt_val (h : JE X G Y W e fa) (he : ∀ whole, isTrue e X.env whole = (do let v ← whole; standAt e.pos; holding [v] (truthy v)) := by intro _; rfl) : JT X G Y W e (fT fa) :=
  PT.weak (pt_val h he) fun _ _ _ => tT_tE
theorem jt_cmp {op : CmpOp} {r : R2} {g : D → D → Option Pr} (hs : OpS G r g) (ho : OpR X (compareOp op) r) (ha : JE X G Y W a fa) (hb : JE X G Y W b fb) (hm : behindInMarks op b = false := by first | exact nomark _ | rfl) : JT X G Y W (.Compare a [op] [b] pos) (fT (f2 g fa fb)) :=
  PT.weak (pt_cmpR ho ha hb hm) fun _ _ _ h => t2 hs (tT_tE h)
theorem jt_not (h : JT X G Y W a ta) : JT X G Y W (.UnaryOp .Not a pos) (gNot ta) := PT.weak (pt_not h) fun _ _ _ => t_not
abbrev JW (X : Cx) (G : Gi) (Y : Xi) (W : WX) (e : Expr) (f : TF) : Prop := PW X e (tT G Y W f)
theorem PW.weak {X : Cx} {e : Expr} {t t' : TT} (h : PW X e t) (w : ∀ σ H Q, t' σ H Q → t σ H Q) : PW X e t' := ⟨fun whole pins s σ H Q I h' => h.run whole pins s σ H Q I (w σ H Q h')⟩
theorem jw_and1 (h : JT X G Y W a ta) : JW X G Y W (.BoolOp .And [a] pos) ta := pw_and1 h
theorem jw_or1 (h : JT X G Y W a ta) : JW X G Y W (.BoolOp .Or [a] pos) ta := pw_or1 h
theorem jw_and (h : JT X G Y W a ta) (h2 : JW X G Y W (.BoolOp .And (b :: rest) pos) tb) : JW X G Y W (.BoolOp .And (a :: b :: rest) pos) (gAnd ta tb) := PW.weak (pw_and h h2) fun _ _ _ => t_and
theorem jw_or (h : JT X G Y W a ta) (h2 : JW X G Y W (.BoolOp .Or (b :: rest) pos) tb) : JW X G Y W (.BoolOp .Or (a :: b :: rest) pos) (gOr ta tb) := PW.weak (pw_or h h2) fun _ _ _ => t_or
theorem jt_w (h : JW X G Y W e ta) : JT X G Y W e ta := PW.pt h
theorem je_one {op : BoolOp} (h : JE X G Y W a fa) : JE X G Y W (.BoolOp op [a] pos) fa := pe_one h
theorem je_and (h : JE X G Y W a fa) (h2 : JE X G Y W (.BoolOp .And (b :: rest) pos) fb) : JE X G Y W (.BoolOp .And (a :: b :: rest) pos) (fAnd fa fb) := PE.weak (pe_and h h2) fun _ _ _ => t_andV
theorem je_or (h : JE X G Y W a fa) (h2 : JE X G Y W (.BoolOp .Or (b :: rest) pos) fb) : JE X G Y W (.BoolOp .Or (a :: b :: rest) pos) (fOr fa fb) := PE.weak (pe_or h h2) fun _ _ _ => t_orV
theorem je_not (h : JE X G Y W a fa) : JE X G Y W (.UnaryOp .Not a pos) (fNot fa) := PE.weak (pe_not h) fun _ _ _ => t_notV
theorem je_if (ht : JT X G Y W c ta) (h : JE X G Y W a fa) (h2 : JE X G Y W b fb) : JE X G Y W (.IfExp c a b pos) (fIf ta fa fb) := PE.weak (pe_ifExp ht h h2) fun _ _ _ => t_if
theorem ja_nil : JA X G Y W [] fNil := PA.weak pa_nil fun _ _ _ => t_nil
theorem ja_cons (h : JE X G Y W e fa) (h2 : JA X G Y W es fs) (hs : starEach (e :: es) X.env = (false, eval e X.env) :: starEach es X.env := by rfl) : JA X G Y W (e :: es) (fCons fa fs) := PA.weak (pa_cons h h2 hs) fun _ _ _ => t_cons
theorem je_tup {x1} (hf : Flat fs) (h : JA X G Y W es fs) : JE X G Y W (.Tuple es x1 pos) (fTup fs) := PE.weak (pe_tup h) fun _ _ _ => t_tup hf
theorem je_lst (hf : Flat fs) (h : JA X G Y W es fs) : JE X G Y W (.List es pos) (fLst fs) := PE.weak (pe_lst h) fun _ _ _ => t_lst hf
theorem PO.weak {X : Cx} {e : Option Expr} {t t' : TO} (h : PO X e t) (w : ∀ σ H Q, t' σ H Q → t σ H Q) : PO X e t' := ⟨fun pins s σ H Q I h' => h.run pins s σ H Q I (w σ H Q h')⟩
abbrev JO (X : Cx) (G : Gi) (Y : Xi) (W : WX) (e : Option Expr) (f : OF) : Prop := PO X e (tO G Y W f)
theorem jo_none : JO X G Y W none fNo := PO.weak po_none fun _ _ _ => t_nopart
theorem jo_some (h : JE X G Y W e fa) : JO X G Y W (some e) (fPart fa) := PO.weak (po_some h) fun _ _ _ => t_part
theorem je_sl {r : V → Option Int → Option Int → Hp → VK → Prop} {g : D → Option Int → Option Int → Option Pr} {lo hi : Option Expr} {fl fh : OF} {p2 : Pos} (hs : SlS G r g) (hr : SlR X r) (h : JE X G Y W e fa) (hl : JO X G Y W lo fl) (hh : JO X G Y W hi fh) :
    JE X G Y W (.Subscript e (.Slice lo hi none p2) pos) (fSl g fa fl fh) := PE.weak (pe_slice hr h hl hh) fun _ _ _ => t_sl hs
theorem je_blt {id : String} {x : Str} {p : Pos} {r : List V → Hp → VK → Prop} {g : List D → Option Pr} (hs : CaS G r g) (hc : CallR X (.builtin id) r) (hm : X.mg x = none) (hv : bootBuiltins x = some (.builtin id)) (h : JA X G Y W (e :: es) fs) (hg : Gl X x := by rfl)
    (hn : x ≠ "__name__" := by decide) (hdb : (x == ("__debug__" : Str)) = false := by decide) (he : starEach (e :: es) X.env = (false, eval e X.env) :: starEach es X.env := by rfl) (hpl : (backTo pos (starEach es X.env)).any (·.1) = false := by rfl) : JE X G Y W (.Call (.Name x p) (e :: es) [] pos) (fBlt g fs) :=
  PE.weak (pe_callB hc hg hm hv h hn hdb he hpl) fun _ _ _ => t_blt hs
theorem je_bty {T : String} {x : Str} {p : Pos} {r : List V → Hp → VK → Prop} {g : List D → Option Pr} (hs : CaS G r g) (hc : CallR X (.type T) r) (hm : X.mg x = none) (hv : bootBuiltins x = some (.type T)) (h : JA X G Y W (e :: es) fs) (hg : Gl X x := by rfl)
    (hn : x ≠ "__name__" := by decide) (hdb : (x == ("__debug__" : Str)) = false := by decide) (he : starEach (e :: es) X.env = (false, eval e X.env) :: starEach es X.env := by rfl) (hpl : (backTo pos (starEach es X.env)).any (·.1) = false := by rfl) : JE X G Y W (.Call (.Name x p) (e :: es) [] pos) (fBlt g fs) :=
  PE.weak (pe_callTy hc hg hm hv h hn hdb he hpl) fun _ _ _ => t_blt hs
end
end Nz

set_option Elab.async false
set_option linter.all false
set_option maxRecDepth 100000
set_option maxHeartbeats 4000000
/-! Nz4: statements: stores, returns, branches, changes of own lists. -/
namespace Nz
open PySem L2
theorem Out.bind_assoc {α β γ : Type} (o : Out α) (f : α → Env → Out β) (g : β → Env → Out γ) : (o.bind f).bind g = o.bind fun a ρ => (f a ρ).bind g := by
  cases o <;> rfl
inductive Fl where
  | next
  | brk
  | cont
  | ret (r : Rv)
abbrev SF := Env → Out Fl
section
variable {G : Gi} {B : Bs} {F H F' H' : Hp} {σ : L2.St} {ρ ρ' : Env} {Y : Xi} {W : WX}

/-- a fresh cell is stored at slot i -/
theorem StOk.setOwn {i : Nat} {c : Cell} {u : V} (S : StOk G B F H σ ρ) (hi : ∀ c, ρ[i]? ≠ some (.io c)) (R : RvRep G B F H σ ρ u (.new c)) : StOk G B F H (σ.set i (some u)) (ρ.set i (.own c)) := by
  obtain ⟨p, o, rfl, h2, h3, h4, h5, h6⟩ := R
  refine ⟨S.ff, S.fh, S.keep, S.grow, fun j d' w => ?_, fun j c' w => ?_, fun j c' w => ?_, fun j c' w => ?_, fun j k c' c'' b ne w1 w2 g1 g2 => ?_, fun j k c' c'' b ne w1 w2 g1 g2 => ?_, by rw [List.length_set, List.length_set]; exact S.len, S.in0, S.sub0, S.inR, fun a ha => ?_⟩
  · rcases set_get w with ⟨rfl, w, hl⟩ | ⟨ne, w⟩
    · cases w
    · obtain ⟨u, g1, g2⟩ := S.dat j d' w; exact ⟨u, by rw [List.getElem?_set_ne ne]; exact g1, g2⟩
  · rcases set_get w with ⟨rfl, w, hl⟩ | ⟨ne, w⟩
    · cases w; exact ⟨p, o, List.getElem?_set_self (by rw [S.len]; exact hl), h2, h3, h4, h5⟩
    · obtain ⟨a, u, g1, g2⟩ := S.own j c' w; exact ⟨a, u, by show (σ.set i _)[j]? = _; rw [List.getElem?_set_ne ne]; exact g1, g2⟩
  · rcases set_get w with ⟨rfl, w, hl⟩ | ⟨ne, w⟩
    · cases w
    · obtain ⟨a, u, g1, g2⟩ := S.io j c' w; exact ⟨a, u, by show (σ.set i _)[j]? = _; rw [List.getElem?_set_ne ne]; exact g1, g2⟩
  · rcases set_get w with ⟨rfl, w, hl⟩ | ⟨ne, w⟩
    · cases w
    · obtain ⟨a, u, g1, g2⟩ := S.rd j c' w; exact ⟨a, u, by show (σ.set i _)[j]? = _; rw [List.getElem?_set_ne ne]; exact g1, g2⟩
  · have g1' : (σ.set i (some (V.ref p)))[j]? = some (some (V.ref b)) := g1
    have g2' : (σ.set i (some (V.ref p)))[k]? = some (some (V.ref b)) := g2
    rcases set_get w1 with ⟨rfl, w1, hl⟩ | ⟨n1, w1⟩
    · rw [List.getElem?_set_self (by rw [S.len]; exact hl)] at g1'
      cases g1'
      rw [List.getElem?_set_ne ne] at g2'
      refine h6 k c'' ?_ g2'
      rcases w2 with w2 | w2 <;> rw [List.getElem?_set_ne ne] at w2
      · exact .inl w2
      · exact .inr w2
    · rw [List.getElem?_set_ne n1] at g1'
      by_cases e : i = k
      · subst e
        rcases w2 with w2 | w2 <;> rcases set_get w2 with ⟨_, w2, hl⟩ | ⟨n2, w2⟩
        · rw [List.getElem?_set_self (by rw [S.len]; exact hl)] at g2'
          cases g2'
          exact h6 j c' (.inl w1) g1'
        · exact n2 rfl
        · cases w2
        · exact n2 rfl
      · rw [List.getElem?_set_ne e] at g2'
        rcases w2 with w2 | w2 <;> rw [List.getElem?_set_ne e] at w2
        · exact S.dist j k c' c'' b ne w1 (.inl w2) g1' g2'
        · exact S.dist j k c' c'' b ne w1 (.inr w2) g1' g2'
  · rcases set_get w1 with ⟨rfl, w1, _⟩ | ⟨n1, w1⟩
    · cases w1
    · rcases set_get w2 with ⟨rfl, w2, _⟩ | ⟨n2, w2⟩
      · cases w2
      · have g1' : (σ.set i (some (V.ref p)))[j]? = some (some (V.ref b)) := g1
        have g2' : (σ.set i (some (V.ref p)))[k]? = some (some (V.ref b)) := g2
        rw [List.getElem?_set_ne n1] at g1'
        rw [List.getElem?_set_ne n2] at g2'
        exact S.distI j k c' c'' b ne w1 w2 g1' g2'
  · obtain ⟨j, c', e1, e2⟩ := S.all a ha
    have ne : i ≠ j := fun z => by subst z; exact hi c' e1
    exact ⟨j, c', by rw [List.getElem?_set_ne ne]; exact e1, e2⟩
/-- slot i is forgotten -/
theorem StOk.release {i : Nat} (S : StOk G B F H σ ρ) (hi : ∀ c, ρ[i]? ≠ some (.io c)) : StOk G B F H σ (ρ.set i .no) := by
  refine ⟨S.ff, S.fh, S.keep, S.grow, fun j d' w => ?_, fun j c' w => ?_, fun j c' w => ?_, fun j c' w => ?_, fun j k c' c'' b ne w1 w2 g1 g2 => ?_, fun j k c' c'' b ne w1 w2 g1 g2 => ?_, by rw [List.length_set]; exact S.len, S.in0, S.sub0, S.inR, fun a ha => ?_⟩
  · rcases set_get w with ⟨rfl, w, hl⟩ | ⟨ne, w⟩
    · cases w
    · exact S.dat j d' w
  · rcases set_get w with ⟨rfl, w, hl⟩ | ⟨ne, w⟩
    · cases w
    · exact S.own j c' w
  · rcases set_get w with ⟨rfl, w, hl⟩ | ⟨ne, w⟩
    · cases w
    · exact S.io j c' w
  · rcases set_get w with ⟨rfl, w, hl⟩ | ⟨ne, w⟩
    · cases w
    · exact S.rd j c' w
  · rcases set_get w1 with ⟨rfl, w1, _⟩ | ⟨n1, w1⟩
    · cases w1
    · refine S.dist j k c' c'' b ne w1 ?_ g1 g2
      rcases w2 with w2 | w2 <;> rcases set_get w2 with ⟨rfl, w2, _⟩ | ⟨n2, w2⟩ <;> first | cases w2 | exact .inl w2 | exact .inr w2
  · rcases set_get w1 with ⟨rfl, w1, _⟩ | ⟨n1, w1⟩
    · cases w1
    · rcases set_get w2 with ⟨rfl, w2, _⟩ | ⟨n2, w2⟩
      · cases w2
      · exact S.distI j k c' c'' b ne w1 w2 g1 g2
  · obtain ⟨j, c', e1, e2⟩ := S.all a ha
    have ne : i ≠ j := fun z => by subst z; exact hi c' e1
    exact ⟨j, c', by rw [List.getElem?_set_ne ne]; exact e1, e2⟩
def Sl.put : Sl → Cell → Option Sl
  | .own _, c => some (.own c)
  | .io _, c => some (.io c)
  | _, _ => none
/-- the cell at slot i is changed -/
theorem StOk.change {i : Nat} {sl sl' : Sl} {c' : Cell} {p : Addr} {o' : HO} (S : StOk G B F H σ ρ) (q : ρ[i]? = some sl) (hs : sl.put c' = some sl') (hp : At σ i p) (r : CellRep G F o' c') : StOk G B F (upd H p o') σ (ρ.set i sl') := by
  have hil : i < ρ.length := lt_of_get q
  have key : (∃ c, sl = .own c ∧ sl' = .own c' ∧ F p = none ∧ (∃ o, H p = some o) ∧ B.H0 p = none) ∨ (∃ c, sl = .io c ∧ sl' = .io c' ∧ F p = none ∧ (∃ o, H p = some o) ∧ B.A p ∧ B.vs i = some (.ref p)) := by
    cases sl with
    | own c =>
      cases hs
      obtain ⟨a, o, g1, g2, g3, g4, g5⟩ := S.own i c q
      obtain rfl := at_inj g1 hp
      exact .inl ⟨c, rfl, rfl, g2, ⟨o, g3⟩, g5⟩
    | io c =>
      cases hs
      obtain ⟨a, o, g1, g2, g3, g4, g5, g6⟩ := S.io i c q
      obtain rfl := at_inj g1 hp
      exact .inr ⟨c, rfl, rfl, g4, ⟨o, g5⟩, g3, g2⟩
    | no => cases hs
    | d x => cases hs
    | rd c => cases hs
  have hF : F p = none := by rcases key with ⟨_, _, _, h, _⟩ | ⟨_, _, _, h, _⟩ <;> exact h
  have hown : ∀ (j : Nat) (c : Cell) (a : Addr), i ≠ j → (ρ[j]? = some (.own c) ∨ ρ[j]? = some (.io c)) → At σ j a → a ≠ p := by
    intro j c a ne w g z
    subst z
    rcases key with ⟨k, rfl, _⟩ | ⟨k, rfl, _⟩
    · exact S.dist i j k c a ne q w hp g
    · rcases w with w | w
      · exact S.dist j i c k a (Ne.symm ne) w (.inr q) g hp
      · exact S.distI i j k c a ne q w hp g
  refine ⟨S.ff, fun a u w => ?_, fun a u w na => ?_, S.grow, fun j d' w => ?_, fun j k w => ?_, fun j k w => ?_, fun j k w => ?_, fun j k c1 c2 b ne w1 w2 g1 g2 => ?_, fun j k c1 c2 b ne w1 w2 g1 g2 => ?_, by rw [List.length_set]; exact S.len, S.in0, S.sub0, S.inR, fun a ha => ?_⟩
  · rw [upd_ne (ne_of_none w hF)]; exact S.fh a u w
  · have : a ≠ p := by
      intro z; subst z
      rcases key with ⟨_, _, _, _, _, h0⟩ | ⟨_, _, _, _, _, ha, _⟩
      · rw [h0] at w; cases w
      · exact na ha
    rw [upd_ne this]; exact S.keep a u w na
  · rcases set_get w with ⟨rfl, w, _⟩ | ⟨ne, w⟩
    · rcases key with ⟨_, _, rfl, _⟩ | ⟨_, _, rfl, _⟩ <;> cases w
    · exact S.dat j d' w
  · rcases set_get w with ⟨rfl, w, _⟩ | ⟨ne, w⟩
    · rcases key with ⟨_, _, rfl, _, _, h0⟩ | ⟨_, _, rfl, _⟩
      · cases w; exact ⟨p, o', hp, hF, upd_same, r, h0⟩
      · cases w
    · obtain ⟨a, u, g1, g2, g3, g4, g5⟩ := S.own j k w
      exact ⟨a, u, g1, g2, by rw [upd_ne (hown j k a ne (.inl w) g1)]; exact g3, g4, g5⟩
  · rcases set_get w with ⟨rfl, w, _⟩ | ⟨ne, w⟩
    · rcases key with ⟨_, _, rfl, _⟩ | ⟨_, _, rfl, _, _, ha, hv⟩
      · cases w
      · cases w; exact ⟨p, o', hp, hv, ha, hF, upd_same, r⟩
    · obtain ⟨a, u, g1, g2, g3, g4, g5, g6⟩ := S.io j k w
      exact ⟨a, u, g1, g2, g3, g4, by rw [upd_ne (hown j k a ne (.inr w) g1)]; exact g5, g6⟩
  · rcases set_get w with ⟨rfl, w, _⟩ | ⟨ne, w⟩
    · rcases key with ⟨_, _, rfl, _⟩ | ⟨_, _, rfl, _⟩ <;> cases w
    · exact S.rd j k w
  · have old : ∀ (m : Nat) (cc : Cell), (ρ.set i sl')[m]? = some (.own cc) → ∃ c0, ρ[m]? = some (.own c0) := by
      intro m cc w
      rcases set_get w with ⟨rfl, w, _⟩ | ⟨_, w⟩
      · rcases key with ⟨c0, rfl, rfl, _⟩ | ⟨c0, rfl, rfl, _⟩
        · exact ⟨c0, q⟩
        · cases w
      · exact ⟨cc, w⟩
    have oldI : ∀ (m : Nat) (cc : Cell), (ρ.set i sl')[m]? = some (.io cc) → ∃ c0, ρ[m]? = some (.io c0) := by
      intro m cc w
      rcases set_get w with ⟨rfl, w, _⟩ | ⟨_, w⟩
      · rcases key with ⟨c0, rfl, rfl, _⟩ | ⟨c0, rfl, rfl, _⟩
        · cases w
        · exact ⟨c0, q⟩
      · exact ⟨cc, w⟩
    obtain ⟨c1', w1'⟩ := old j c1 w1
    rcases w2 with w2 | w2
    · obtain ⟨c2', w2'⟩ := old k c2 w2
      exact S.dist j k c1' c2' b ne w1' (.inl w2') g1 g2
    · obtain ⟨c2', w2'⟩ := oldI k c2 w2
      exact S.dist j k c1' c2' b ne w1' (.inr w2') g1 g2
  · have oldI : ∀ (m : Nat) (cc : Cell), (ρ.set i sl')[m]? = some (.io cc) → ∃ c0, ρ[m]? = some (.io c0) := by
      intro m cc w
      rcases set_get w with ⟨rfl, w, _⟩ | ⟨_, w⟩
      · rcases key with ⟨c0, rfl, rfl, _⟩ | ⟨c0, rfl, rfl, _⟩
        · cases w
        · exact ⟨c0, q⟩
      · exact ⟨cc, w⟩
    obtain ⟨c1', w1'⟩ := oldI j c1 w1
    obtain ⟨c2', w2'⟩ := oldI k c2 w2
    exact S.distI j k c1' c2' b ne w1' w2' g1 g2
  · obtain ⟨j, k, e1, e2⟩ := S.all a ha
    by_cases e : i = j
    · subst e
      rcases key with ⟨_, rfl, _⟩ | ⟨_, rfl, rfl, _⟩
      · rw [q] at e1; cases e1
      · exact ⟨i, c', List.getElem?_set_self hil, e2⟩
    · exact ⟨j, k, by rw [List.getElem?_set_ne e]; exact e1, e2⟩

/-! ### the reading of a statement -/
def PostS (G : Gi) (Y : Xi) (B : Bs) (W : WX) (D : Ends) (F : Hp) : Out Fl → Prop
  | .ok .next ρ => ∀ σ' F' H', Sub F F' → StOk G B F' H' σ' ρ → D.nx σ' H'
  | .ok .brk ρ => ∀ σ' F' H', Sub F F' → StOk G B F' H' σ' ρ → D.bk σ' H'
  | .ok .cont ρ => ∀ σ' F' H', Sub F F' → StOk G B F' H' σ' ρ → D.ct σ' H'
  | .ok (.ret r) ρ => ∀ u σ' F' H', Sub F F' → StOk G B F' H' σ' ρ → RvRep G B F' H' σ' ρ u r → D.rt u H'
  | .exc x ρ => ∀ cls dx σ' F' H', Sub F F' → StOk G B F' H' σ' ρ → ExRep G Y F' x cls dx → W cls dx σ' H'
  | .stuck => False
def tS (G : Gi) (Y : Xi) (W : WX) (f : SF) : TS := fun D σ H => ∃ (B : Bs) (F : Hp) (ρ : Env), StOk G B F H σ ρ ∧ PostS G Y B W D F (f ρ)
theorem PostS.mono {D : Ends} {o : Out Fl} (h : PostS G Y B W D F o) (e : Sub F F') : PostS G Y B W D F' o := by
  cases o with
  | ok a ρ =>
    cases a with
    | next => exact fun σ F1 H1 e1 S => h σ F1 H1 (e.trans e1) S
    | brk => exact fun σ F1 H1 e1 S => h σ F1 H1 (e.trans e1) S
    | cont => exact fun σ F1 H1 e1 S => h σ F1 H1 (e.trans e1) S
    | ret r => exact fun u σ F1 H1 e1 S => h u σ F1 H1 (e.trans e1) S
  | exc x ρ => exact fun cls dx σ F1 H1 e1 => h cls dx σ F1 H1 (e.trans e1)
  | stuck => exact h
/-- an expression within a statement -/
theorem PostS.seqG {α : Type} {D : Ends} {f : Out α} {k : α → Env → Out Fl} {P' : α → Env → Hp → Hp → Prop} (h : PostS G Y B W D F (f.bind k))
    (hk : ∀ a ρ F' H', f = .ok a ρ → Sub F F' → StOk G B F' H' σ ρ → PostS G Y B W D F' (k a ρ) → P' a ρ F' H') : PostG G Y B W σ P' F f := by
  cases f with
  | ok a ρ => exact fun F' H' e S => hk a ρ F' H' rfl e S (PostS.mono (F := F) h e)
  | exc x ρ => exact fun cls dx F' H' e S R => h cls dx σ F' H' e S R
  | stuck => exact h

def seqK (g : SF) (fl : Fl) (ρ : Env) : Out Fl := match fl with
  | .next => g ρ
  | fl => .ok fl ρ
def fSeq (f g : SF) : SF := fun ρ => (f ρ).bind (seqK g)
def fSkip : SF := fun ρ => .ok .next ρ
def fBrk : SF := fun ρ => .ok .brk ρ
def fCont : SF := fun ρ => .ok .cont ρ
def fIfS (t : TF) (f g : SF) : SF := fun ρ => (t ρ).bind fun b ρ1 => if b then f ρ1 else g ρ1
def fDrop (f : EF) : SF := fun ρ => (f ρ).bind fun _ ρ1 => .ok .next ρ1
def noIo (ρ : Env) (i : Nat) : Bool := match ρ[i]? with
  | some (.io _) => false
  | some _ => true
  | none => false
theorem noIo_ne {i : Nat} (h : noIo ρ i = true) : ∀ c, ρ[i]? ≠ some (.io c) := fun c e => by
  unfold noIo at h; rw [e] at h; cases h
def store (i : Nat) (r : Rv) (ρ : Env) : Out Unit := if noIo ρ i then (match r with
  | .d x => .ok () (ρ.set i (.d x))
  | .new c => .ok () (ρ.set i (.own c))
  | .slot j => (frz (.slot j) ρ).bind fun d ρ1 => if noIo ρ1 i then .ok () (ρ1.set i (.d d)) else .stuck) else .stuck
def fAsg (i : Nat) (f : EF) : SF := fun ρ => (f ρ).bind fun r ρ1 => (store i r ρ1).bind fun _ ρ2 => .ok .next ρ2
def retK (r : Rv) (ρ : Env) : Out Fl := match r with
  | .slot j => match ρ[j]? with
    | some (.own c) => .ok (.ret (.new c)) (ρ.set j .no)
    | some (.d x) => .ok (.ret (.d x)) ρ
    | _ => .stuck
  | r => .ok (.ret r) ρ
def fRet (f : EF) : SF := fun ρ => (f ρ).bind retK
def fRetN : SF := fun ρ => .ok (.ret (.d .non)) ρ

theorem t_seq {f g : SF} {D : Ends} (h : tS G Y W (fSeq f g) D σ H) : tSeq (tS G Y W f) (tS G Y W g) D σ H := by
  obtain ⟨B, F, ρ, S, p⟩ := h
  refine ⟨_, F, ρ, S, ?_⟩
  have p' : PostS G Y B W D F ((f ρ).bind (seqK g)) := p
  revert p'
  cases f ρ with
  | stuck => exact fun p => p
  | exc x ρ1 => exact fun p => p
  | ok fl ρ1 =>
    cases fl with
    | next => exact fun p σ' F' H' e S' => ⟨_, F', ρ1, S', PostS.mono (F := F) p e⟩
    | brk => exact fun p => p
    | cont => exact fun p => p
    | ret r => exact fun p => p
theorem t_skip {D : Ends} (h : tS G Y W fSkip D σ H) : tNext D σ H := by
  obtain ⟨B, F, ρ, S, p⟩ := h
  exact p σ F H Sub.rfl S
theorem t_brk {D : Ends} (h : tS G Y W fBrk D σ H) : tBreak D σ H := by
  obtain ⟨B, F, ρ, S, p⟩ := h
  exact p σ F H Sub.rfl S
theorem t_cont {D : Ends} (h : tS G Y W fCont D σ H) : tCont D σ H := by
  obtain ⟨B, F, ρ, S, p⟩ := h
  exact p σ F H Sub.rfl S
theorem t_ifS {t : TF} {f g : SF} {D : Ends} (h : tS G Y W (fIfS t f g) D σ H) : tIfS (tT G Y W t) (tS G Y W f) (tS G Y W g) D σ H := by
  obtain ⟨B, F, ρ, S, p⟩ := h
  refine ⟨_, F, ρ, S, PostT.ofG (PostS.seqG p fun b ρ1 F1 H1 _ e1 S1 p1 => ?_)⟩
  cases b with
  | true => exact iteT ⟨_, F1, ρ1, S1, p1⟩
  | false => exact iteF ⟨_, F1, ρ1, S1, p1⟩
theorem t_drop {f : EF} {D : Ends} (h : tS G Y W (fDrop f) D σ H) : tDrop (tE G Y W f) D σ H := by
  obtain ⟨B, F, ρ, S, p⟩ := h
  exact ⟨_, F, ρ, S, Post.ofG (PostS.seqG p fun r ρ1 F1 H1 _ e1 S1 p1 u R => p1 σ F1 H1 Sub.rfl S1)⟩
theorem frz_no_exc {r : Rv} {x : Ex} : frz r ρ ≠ .exc x ρ' := by
  intro h
  unfold frz at h
  split at h <;> first | cases h | (split at h <;> first | cases h | (split at h <;> cases h))
theorem frz_post {r : Rv} {u : V} {β : Type} {k : D → Env → Out β} (S : StOk G B F H σ ρ) (R : RvRep G B F H σ ρ u r) {Pp : Out β → Hp → Prop} (hst : ∀ F, ¬ Pp .stuck F) (hm : ∀ o F F', Sub F F' → Pp o F → Pp o F') (h : Pp ((frz r ρ).bind k) F) :
    ∃ d ρ' F', frz r ρ = .ok d ρ' ∧ Sub F F' ∧ StOk G B F' H σ ρ' ∧ Rep G F' u d ∧ Pp (k d ρ') F' := by
  cases q : frz r ρ with
  | exc x ρ1 => exact (frz_no_exc q).elim
  | stuck => rw [q] at h; exact (hst _ h).elim
  | ok d ρ1 =>
    rw [q] at h
    obtain ⟨F1, e1, S1, r1⟩ := frz_ok S R q
    exact ⟨d, ρ1, F1, rfl, e1, S1, r1, hm _ _ _ e1 h⟩
theorem store_ok {i : Nat} {r : Rv} {u : V} (S : StOk G B F H σ ρ) (R : RvRep G B F H σ ρ u r) {D : Ends} {k : Env → Out Fl} (h : PostS G Y B W D F ((store i r ρ).bind fun _ ρ2 => k ρ2)) : ∃ ρ' F', Sub F F' ∧ StOk G B F' H (σ.set i (some u)) ρ' ∧ PostS G Y B W D F' (k ρ') := by
  unfold store at h
  by_cases hio : noIo ρ i = true
  · rw [if_pos hio] at h
    cases r with
    | d x => exact ⟨_, F, Sub.rfl, S.setD (noIo_ne hio) R, h⟩
    | new c => exact ⟨_, F, Sub.rfl, S.setOwn (noIo_ne hio) R, h⟩
    | slot j =>
      have h' : PostS G Y B W D F (((frz (.slot j) ρ).bind fun d ρ1 => if noIo ρ1 i then Out.ok () (ρ1.set i (.d d)) else .stuck).bind fun _ ρ2 => k ρ2) := h
      rw [Out.bind_assoc] at h'
      obtain ⟨d, ρ1, F1, hq, e1, S1, r1, p⟩ := frz_post (Pp := fun o F => PostS G Y B W D F o) S R (fun _ h => h) (fun _ _ _ e h => h.mono e) h'
      by_cases hio1 : noIo ρ1 i = true
      · rw [if_pos hio1] at p
        exact ⟨_, F1, e1, S1.setD (noIo_ne hio1) r1, p⟩
      · rw [if_neg hio1] at p; exact False.elim p
  · rw [if_neg hio] at h; exact False.elim h
theorem t_asg {i : Nat} {f : EF} {D : Ends} (h : tS G Y W (fAsg i f) D σ H) : tAsg (tE G Y W f) (gName i) D σ H := by
  obtain ⟨B, F, ρ, S, p⟩ := h
  refine ⟨_, F, ρ, S, Post.ofG (PostS.seqG p fun r ρ1 F1 H1 _ e1 S1 p1 u R => ?_)⟩
  obtain ⟨ρ2, F2, e2, S2, p2⟩ := store_ok S1 R p1
  exact p2 _ F2 H1 Sub.rfl S2
theorem t_ret {f : EF} {D : Ends} (h : tS G Y W (fRet f) D σ H) : tRet (tE G Y W f) D σ H := by
  obtain ⟨B, F, ρ, S, p⟩ := h
  refine ⟨_, F, ρ, S, Post.ofG (PostS.seqG p fun r ρ1 F1 H1 _ e1 S1 p1 u R => ?_)⟩
  cases r with
  | d x => exact p1 u σ F1 H1 Sub.rfl S1 R
  | new c => exact p1 u σ F1 H1 Sub.rfl S1 R
  | slot j =>
    have hu : σ[j]? = some (some u) := R
    unfold retK at p1
    cases q : ρ1[j]? with
    | none => simp only [q] at p1; exact False.elim p1
    | some sl =>
      cases sl with
      | no => simp only [q] at p1; exact False.elim p1
      | io c => simp only [q] at p1; exact False.elim p1
      | rd c => simp only [q] at p1; exact False.elim p1
      | d x =>
        simp only [q] at p1
        obtain ⟨v, g1, g2⟩ := S1.dat j _ q
        rw [hu] at g1; cases g1
        exact p1 u σ F1 H1 Sub.rfl S1 g2
      | own c =>
        simp only [q] at p1
        obtain ⟨a, o, g1, g2, g3, g4, g5⟩ := S1.own j c q
        obtain rfl := at_val hu g1
        have ni : ∀ k, ρ1[j]? ≠ some (.io k) := fun k e => by rw [q] at e; cases e
        refine p1 _ σ F1 H1 Sub.rfl (S1.release ni) ⟨a, o, rfl, g2, g3, g4, g5, fun m k hk ha => ?_⟩
        have hne : j ≠ m := fun z => by
          subst z
          rw [List.getElem?_set_self (lt_of_get q)] at hk
          rcases hk with hk | hk <;> cases hk
        rw [List.getElem?_set_ne hne] at hk
        exact S1.dist j m c k a hne q hk g1 ha
theorem t_retN {D : Ends} (h : tS G Y W fRetN D σ H) : tRetN D σ H := by
  obtain ⟨B, F, ρ, S, p⟩ := h
  exact p _ σ F H Sub.rfl S .non

/-! ### an own list is changed by a method -/
def MutS (G : Gi) (r : V → List V → Hp → VK → Prop) (m : List D → List D → Option (List D × D)) : Prop := ∀ F H p xs ds vs as ds' z, Sub F H → F p = none → H p = some (.lst xs) → Reps G F xs ds → Reps G F vs as → m ds as = some (ds', z) →
  ∀ Q : VK, (∀ u xs', Reps G F xs' ds' → Rep G F u z → Q u (upd H p (.lst xs'))) → r (.ref p) vs H Q
def MutAt (G : Gi) (F H : Hp) (r : V → List V → Hp → VK → Prop) (m : List D → List D → Option (List D × D)) (vs : List V) (as : List D) : Prop := ∀ p xs ds ds' z, F p = none → H p = some (.lst xs) → Reps G F xs ds → m ds as = some (ds', z) →
  ∀ Q : VK, (∀ u xs', Reps G F xs' ds' → Rep G F u z → Q u (upd H p (.lst xs'))) → r (.ref p) vs H Q
theorem MutS.at {r : V → List V → Hp → VK → Prop} {m : List D → List D → Option (List D × D)} (h : MutS G r m) {vs : List V} {as : List D} (e : Sub F H) (ra : Reps G F vs as) : MutAt G F H r m vs as := fun p xs ds ds' z h1 h2 h3 h4 => h F H p xs ds vs as ds' z e h1 h2 h3 ra h4
def lstAt (ρ : Env) (i : Nat) : Bool := match ρ[i]? with
  | some (.own (.lst _)) => true
  | some (.io (.lst _)) => true
  | _ => false
def mutAt (i : Nat) (m : List D → List D → Option (List D × D)) (as : List D) (ρ : Env) : Out Rv := match ρ[i]? with
  | some (.own (.lst ds)) => match m ds as with
    | some (ds', z) => .ok (.d z) (ρ.set i (.own (.lst ds')))
    | none => .stuck
  | some (.io (.lst ds)) => match m ds as with
    | some (ds', z) => .ok (.d z) (ρ.set i (.io (.lst ds')))
    | none => .stuck
  | _ => .stuck
def fMut (m : List D → List D → Option (List D × D)) (i : Nat) (fs : AF) : EF := fun ρ => if lstAt ρ i then (fs ρ).bind fun rs ρ2 => (frzs rs ρ2).bind fun as ρ3 => mutAt i m as ρ3 else .stuck
theorem lstAt_ok {i : Nat} (S : StOk G B F H σ ρ) (h : lstAt ρ i = true) : ∃ p xs ds, At σ i p ∧ F p = none ∧ H p = some (.lst xs) ∧ Reps G F xs ds ∧ (ρ[i]? = some (.own (.lst ds)) ∨ ρ[i]? = some (.io (.lst ds))) := by
  unfold lstAt at h
  cases q : ρ[i]? with
  | none => simp [q] at h
  | some sl =>
    cases sl with
    | no => simp [q] at h
    | d x => simp [q] at h
    | rd c => simp [q] at h
    | own c =>
      cases c with
      | ins k fs => simp [q] at h
      | dic fs => simp [q] at h
      | lst ds =>
        obtain ⟨p, o, g1, g2, g3, ⟨xs, rfl, hx⟩, g5⟩ := S.own i _ q
        exact ⟨p, xs, ds, g1, g2, g3, hx, .inl rfl⟩
    | io c =>
      cases c with
      | ins k fs => simp [q] at h
      | dic fs => simp [q] at h
      | lst ds =>
        obtain ⟨p, o, g1, _, _, g2, g3, ⟨xs, rfl, hx⟩⟩ := S.io i _ q
        exact ⟨p, xs, ds, g1, g2, g3, hx, .inr rfl⟩
theorem mutAt_ok {i : Nat} {r : V → List V → Hp → VK → Prop} {m : List D → List D → Option (List D × D)} {as : List D} {vs : List V} (hm : MutAt G F H r m vs as) {u : V} {Q : VK} (S : StOk G B F H σ ρ) (hu : σ[i]? = some (some u)) (h : Post G Y B W σ F Q (mutAt i m as ρ)) : r u vs H Q := by
  unfold mutAt at h
  cases q : ρ[i]? with
  | none => simp only [q] at h; exact False.elim h
  | some sl =>
    cases sl with
    | no => simp only [q] at h; exact False.elim h
    | d x => simp only [q] at h; exact False.elim h
    | rd c => simp only [q] at h; exact False.elim h
    | own c =>
      cases c with
      | ins k fs => simp only [q] at h; exact False.elim h
      | dic fs => simp only [q] at h; exact False.elim h
      | lst ds =>
        simp only [q] at h
        obtain ⟨p, o, g1, g2, g3, ⟨xs, rfl, hx⟩, g5⟩ := S.own i _ q
        obtain rfl := at_val hu g1
        cases e : m ds as with
        | none => simp only [e] at h; exact False.elim h
        | some z =>
          simp only [e] at h
          exact hm p xs ds z.1 z.2 g2 g3 hx e Q fun w xs' hx' hw => h w F _ Sub.rfl (S.change q rfl g1 ⟨xs', rfl, hx'⟩) hw
    | io c =>
      cases c with
      | ins k fs => simp only [q] at h; exact False.elim h
      | dic fs => simp only [q] at h; exact False.elim h
      | lst ds =>
        simp only [q] at h
        obtain ⟨p, o, g1, _, _, g2, g3, ⟨xs, rfl, hx⟩⟩ := S.io i _ q
        obtain rfl := at_val hu g1
        cases e : m ds as with
        | none => simp only [e] at h; exact False.elim h
        | some z =>
          simp only [e] at h
          exact hm p xs ds z.1 z.2 g2 g3 hx e Q fun w xs' hx' hw => h w F _ Sub.rfl (S.change q rfl g1 ⟨xs', rfl, hx'⟩) hw
theorem t_mut {i : Nat} {r : V → List V → Hp → VK → Prop} {m : List D → List D → Option (List D × D)} (hm : MutS G r m) {fs : AF} (hf : Flat fs) {Q : VK} (h : tE G Y W (fMut m i fs) σ H Q) : tBM G.K "list" r (tVar i) (tA G Y W fs) σ H Q := by
  obtain ⟨B, F, ρ, S, p⟩ := h
  unfold fMut at p
  by_cases hl : lstAt ρ i = true
  · rw [if_pos hl] at p
    obtain ⟨a, xs, ds, g1, g2, g3, g4, g5⟩ := lstAt_ok S hl
    refine ⟨_, g1, .inl ⟨rfl, xs, .inl (.inl g3)⟩, B, F, ρ, S, PostA.ofG (PostG.seq p.g fun rs ρ1 F1 H1 hr e1 S1 p1 us R => ?_)⟩
    obtain ⟨as, ρ2, F2, _, e2, S2, r2, p2⟩ := frzs_post S1 (hf _ _ _ hr) R p1
    exact mutAt_ok (hm.at S2.fh r2) S2 g1 (Post.ofG p2)
  · rw [if_neg hl] at p; exact False.elim p
theorem t_mut0 {i : Nat} {r : V → List V → Hp → VK → Prop} {m : List D → List D → Option (List D × D)} (hm : MutS G r m) {Q : VK} (h : tE G Y W (fMut m i fNil) σ H Q) : tBM0 G.K "list" r (tVar i) σ H Q := by
  obtain ⟨B, F, ρ, S, p⟩ := h
  unfold fMut at p
  by_cases hl : lstAt ρ i = true
  · rw [if_pos hl] at p
    obtain ⟨a, xs, ds, g1, g2, g3, g4, g5⟩ := lstAt_ok S hl
    exact ⟨_, g1, .inl ⟨rfl, xs, .inl (.inl g3)⟩, mutAt_ok (hm.at S.fh .nil) S g1 p⟩
  · rw [if_neg hl] at p; exact False.elim p
/-- x[i] = e -/
def fSetI (f : EF) (i : Nat) (fi : EF) : SF := fun ρ => (opd f ρ).bind fun r ρ1 => (frz r ρ1).bind fun d ρ2 => if lstAt ρ2 i then (opd fi ρ2).bind fun j ρ3 => (mutAt i (fun ds _ => match res ρ3 j with
  | some (.int k) => (ixN ds.length k).map fun n => (ds.set n d, .non)
  | _ => none) [] ρ3).bind fun _ ρ4 => .ok .next ρ4 else .stuck
theorem t_setI {f fi : EF} {i : Nat} {D : Ends} (h : tS G Y W (fSetI f i fi) D σ H) : tAsg (tE G Y W f) (gSub (tVar i) (tE G Y W fi) rSetL) D σ H := by
  obtain ⟨B, F, ρ, S, p⟩ := h
  refine tE_opd ⟨_, F, ρ, S, Post.ofG (PostS.seqG p fun r ρ1 F1 H1 _ e1 S1 p1 u R => ?_)⟩
  obtain ⟨d, ρ2, F2, _, e2, S2, r2, p2⟩ := frz_post (Pp := fun o F => PostS G Y B W D F o) S1 R (fun _ h => h) (fun _ _ _ e h => h.mono e) p1
  by_cases hl : lstAt ρ2 i = true
  · rw [if_pos hl] at p2
    obtain ⟨a, xs, ds, g1, _⟩ := lstAt_ok S2 hl
    refine ⟨_, g1, tE_opd ⟨_, F2, ρ2, S2, Post.ofG (PostS.seqG p2 fun j ρ3 F3 H3 _ e3 S3 p3 w Rj => ?_)⟩⟩
    have lift : Post G Y B W σ F3 (fun _ H4 => D.nx σ H4) (mutAt i (fun ds _ => match res ρ3 j with
        | some (.int k) => (ixN ds.length k).map fun n => (ds.set n d, .non)
        | _ => none) [] ρ3) := Post.ofG (PostS.seqG p3 fun z ρ4 F4 H4 _ e4 S4 p4 _ _ => p4 σ F4 H4 Sub.rfl S4)
    cases hj : res ρ3 j with
    | none =>
      simp only [hj] at lift
      unfold mutAt at lift
      split at lift <;> exact False.elim lift
    | some dj =>
      cases dj with
      | int k =>
        have hw := opd_int (S3.opd Rj hj)
        subst hw
        simp only [hj] at lift
        have M : MutAt G F3 H3 (fun o _ H Q => rSetL o (.int k) u H fun H' => Q .non H') (fun ds _ => (ixN ds.length k).map fun n => (ds.set n d, .non)) [] [] := by
          intro p xs ds ds' z hp hH hx hm Q hq
          cases hn : ixN ds.length k with
          | none => simp [hn] at hm
          | some n =>
            simp [hn] at hm
            obtain ⟨rfl, rfl⟩ := hm
            exact ⟨p, xs, k, n, rfl, rfl, hH, by rw [hx.length]; exact hn, hq _ _ (hx.set (r2.mono e3 _) n) .non⟩
        have fin := mutAt_ok M S3 g1 lift
        exact fin
      | _ => 
        simp only [hj] at lift
        unfold mutAt at lift
        split at lift <;> exact False.elim lift
  · rw [if_neg hl] at p2; exact False.elim p2
end
end Nz

set_option Elab.async false
set_option linter.all false
set_option maxRecDepth 100000
set_option maxHeartbeats 4000000
/-! Nz5: targets, what is walked, for, while, list comprehensions. -/
namespace Nz
open PySem L2
section
variable {G : Gi} {B : Bs} {F H F' H' : Hp} {σ : L2.St} {ρ ρ' : Env} {Y : Xi} {W : WX}

/-! ### targets -/
abbrev GF := D → Env → Option Env
abbrev GFs := List D → Env → Option Env
def PostU (G : Gi) (B : Bs) (vs : List Nat) (σ : L2.St) (F : Hp) (Q : L2.St → Hp → Prop) : Option Env → Prop
  | some ρ => ∀ σ' F' H', wipe σ' vs = wipe σ vs → Sub F F' → StOk G B F' H' σ' ρ → Q σ' H'
  | none => False
def tG (G : Gi) (vs : List Nat) (t : GF) : TG := fun v σ H Q => ∃ (B : Bs) (F : Hp) (ρ : Env) (d : D), StOk G B F H σ ρ ∧ Rep G F v d ∧ PostU G B vs σ F Q (t d ρ)
def tGs (G : Gi) (ws : List Nat) (t : GFs) : TGs := fun vs σ H Q => ∃ (B : Bs) (F : Hp) (ρ : Env) (ds : List D), StOk G B F H σ ρ ∧ Reps G F vs ds ∧ PostU G B ws σ F Q (t ds ρ)
def gfName (i : Nat) : GF := fun d ρ => if noIo ρ i then some (ρ.set i (.d d)) else none
def gfNil : GFs := fun ds ρ => match ds with
  | [] => some ρ
  | _ => none
def gfCons (t : GF) (u : GFs) : GFs := fun ds ρ => match ds with
  | d :: r => (t d ρ).bind fun ρ1 => u r ρ1
  | [] => none
def gfTup (n : Nat) (u : GFs) : GF := fun d ρ => match d with
  | .tup ds => if ds.length = n then u ds ρ else none
  | _ => none
theorem PostU.mono {ws : List Nat} {Q : L2.St → Hp → Prop} {o : Option Env} (h : PostU G B ws σ F Q o) (e : Sub F F') : PostU G B ws σ F' Q o := by
  cases o with
  | none => exact h
  | some ρ => exact fun σ F1 H1 w e1 S => h σ F1 H1 w (e.trans e1) S
theorem wipe_set {i : Nat} {x : Option V} : ∀ {vs : List Nat}, i ∈ vs → wipe (σ.set i x) vs = wipe σ vs := by
  intro vs hi
  have comm : ∀ (vs : List Nat), wipe (σ.set i x) vs = if i ∈ vs then wipe σ vs else (wipe σ vs).set i x := by
    intro vs
    induction vs with
    | nil => simp [wipe]
    | cons v vs ih =>
      show (wipe (σ.set i x) vs).set v none = _
      rw [ih]
      by_cases hv : i ∈ vs
      · rw [if_pos hv, if_pos (List.mem_cons_of_mem _ hv)]; rfl
      · rw [if_neg hv]
        by_cases e : i = v
        · subst e
          rw [if_pos List.mem_cons_self, List.set_set]; rfl
        · rw [if_neg (by simp [e, hv]), List.set_comm _ _ e]; rfl
  rw [comm vs, if_pos hi]
theorem tg_name {i : Nat} {ws : List Nat} (hi : i ∈ ws) {v : V} {Q : L2.St → Hp → Prop} (h : tG G ws (gfName i) v σ H Q) : gName i v σ H Q := by
  obtain ⟨B, F, ρ, d, S, r, p⟩ := h
  unfold gfName at p
  by_cases q : noIo ρ i = true
  · rw [if_pos q] at p
    exact p _ F H (wipe_set hi) Sub.rfl (S.setD (noIo_ne q) r)
  · rw [if_neg q] at p; exact False.elim p
theorem tg_nil {ws : List Nat} {vs : List V} {Q : L2.St → Hp → Prop} (h : tGs G ws gfNil vs σ H Q) : gNil vs σ H Q := by
  obtain ⟨B, F, ρ, ds, S, r, p⟩ := h
  cases ds with
  | nil => cases r; exact ⟨rfl, p _ F H rfl Sub.rfl S⟩
  | cons d ds => exact False.elim p
theorem tg_cons {ws : List Nat} {t : GF} {u : GFs} {vs : List V} {Q : L2.St → Hp → Prop} (h : tGs G ws (gfCons t u) vs σ H Q) : gCons (tG G ws t) (tGs G ws u) vs σ H Q := by
  obtain ⟨B, F, ρ, ds, S, r, p⟩ := h
  cases ds with
  | nil => exact False.elim p
  | cons d ds =>
    cases r with
    | cons r1 r2 =>
      refine ⟨_, _, rfl, B, F, ρ, d, S, r1, ?_⟩
      have p' : PostU G B ws σ F Q ((t d ρ).bind fun ρ1 => u ds ρ1) := p
      revert p'
      cases t d ρ with
      | none => exact fun p => p
      | some ρ1 =>
        intro p σ' F' H' w e S'
        refine ⟨B, F', ρ1, ds, S', r2.mono e _, ?_⟩
        have p2 : PostU G B ws σ F Q (u ds ρ1) := p
        revert p2
        cases u ds ρ1 with
        | none => exact fun p => p
        | some ρ2 => exact fun p σ2 F2 H2 w2 e2 S2 => p σ2 F2 H2 (w2.trans w) (e.trans e2) S2
theorem tg_tup {n : Nat} {ws : List Nat} {u : GFs} {v : V} {Q : L2.St → Hp → Prop} (h : tG G ws (gfTup n u) v σ H Q) : gTup G.K n (tGs G ws u) v σ H Q := by
  obtain ⟨B, F, ρ, d, S, r, p⟩ := h
  cases d with
  | tup ds =>
    cases r with
    | tup h1 h2 =>
      unfold gfTup at p
      by_cases q : ds.length = n
      · simp only [if_pos q] at p
        exact ⟨_, _, rfl, sub_sqT S.fh h1, by rw [h2.length]; exact q, B, F, ρ, ds, S, h2, p⟩
      · simp only [if_neg q] at p; exact False.elim p
  | _ => exact False.elim p

/-! ### what is walked -/
inductive Src where
  | items (ds : List D)
  | lend (i : Nat) (ds : List D)
abbrev IF := Env → Out Src
/-- n turns; the i-th gives ds[i], at most with new data -/
def Gives (G : Gi) (B : Bs) (J : It) (ds : List D) (F : Hp) : Prop := Walk J ds.length (fun H => ∃ F1 σ ρ, Sub F F1 ∧ StOk G B F1 H σ ρ) fun i H x H' => ∃ d, ds[i]? = some d ∧ ∀ (B2 : Bs) (F1 : Hp) (σ : L2.St) (ρ : Env), Sub F F1 → StOk G B2 F1 H σ ρ → ∃ F2, Sub F1 F2 ∧ StOk G B2 F2 H' σ ρ ∧ Rep G F2 x d
def tI (G : Gi) (Y : Xi) (W : WX) (f : IF) : TI := fun σ H R => ∃ (B : Bs) (F : Hp) (ρ : Env), StOk G B F H σ ρ ∧ PostG G Y B W σ (fun src ρ' F' H' => match src with
  | .items ds => ∀ J, Gives G B J ds F' → R J H'
  | .lend i ds => ∀ a xs, ρ'[i]? = some (.own (.lst ds)) → At σ i a → H' a = some (.lst xs) → Reps G F' xs ds → R (Itl G.K a) H') F (f ρ)
theorem gives_list {a : Addr} {xs : List V} {ds : List D} (h : SqL G.K F a xs) (r : Reps G F xs ds) : Gives G B (Itl G.K a) ds F := by
  have w := walk_list (K := G.K) (a := a) (xs := xs)
  rw [r.length] at w
  refine w.mono (fun H ⟨F1, σ, ρ, e, S⟩ => sub_sqL (e.trans S.fh) h) fun i H x H' hi e y => ?_
  obtain ⟨rfl, hx⟩ := y
  obtain ⟨d, hd, rd⟩ := r.get' hx
  exact ⟨d, hd, fun B2 F1 σ ρ e1 S => ⟨F1, Sub.rfl, S, rd.mono e1 _⟩⟩
theorem gives_tup {a : Addr} {xs : List V} {ds : List D} (h : SqT G.K F a xs) (r : Reps G F xs ds) : Gives G B (Itt G.K a) ds F := by
  have w := walk_tup (K := G.K) (a := a) (xs := xs)
  rw [r.length] at w
  refine w.mono (fun H ⟨F1, σ, ρ, e, S⟩ => sub_sqT (e.trans S.fh) h) fun i H x H' hi e y => ?_
  obtain ⟨rfl, hx⟩ := y
  obtain ⟨d, hd, rd⟩ := r.get' hx
  exact ⟨d, hd, fun B2 F1 σ ρ e1 S => ⟨F1, Sub.rfl, S, rd.mono e1 _⟩⟩
def signs (z : Str) : List D := z.cps.toList.map fun c => .str ⟨#[c]⟩
theorem gives_str {z : Str} : Gives G B (Its z) (signs z) F := by
  have w := walk_str (z := z)
  have hl : (signs z).length = z.cps.size := by unfold signs; simp
  unfold Gives
  rw [hl]
  refine w.mono (fun H e => trivial) fun i H x H' hi e y => ?_
  obtain ⟨rfl, c, hc, rfl⟩ := y
  refine ⟨.str ⟨#[c]⟩, ?_, fun B2 F1 σ ρ e1 S => ⟨F1, Sub.rfl, S, .str _⟩⟩
  unfold signs
  rw [List.getElem?_map, Array.getElem?_toList, hc]
  rfl
def upto (lo : Int) (n : Nat) : List D := (List.range n).map fun i => .int (lo + (i : Nat))
theorem gives_range {lo : Int} {n : Nat} : Gives G B (Itr lo n) (upto lo n) F := by
  have w := walk_range (lo := lo) (n := n)
  have hl : (upto lo n).length = n := by unfold upto; simp
  unfold Gives
  rw [hl]
  refine w.mono (fun H e => trivial) fun i H x H' hi e y => ?_
  obtain ⟨rfl, rfl⟩ := y
  refine ⟨.int (lo + (i : Nat)), ?_, fun B2 F1 σ ρ e1 S => ⟨F1, Sub.rfl, S, .int _⟩⟩
  unfold upto
  rw [List.getElem?_map, List.getElem?_range hi]
  rfl
def intsDown (lo : Int) (n : Nat) : List D := (List.range n).map fun i => .int (lo - (i : Nat))
theorem gives_down {lo : Int} {n : Nat} : Gives G B (Itc lo (-1) n) (intsDown lo n) F := by
  have w := walk_rangeC (lo := lo) (c := -1) (n := n)
  have hl : (intsDown lo n).length = n := by unfold intsDown; simp
  unfold Gives
  rw [hl]
  refine w.mono (fun H e => trivial) fun i H x H' hi e y => ?_
  obtain ⟨rfl, rfl⟩ := y
  have e0 : lo + (i : Int) * (-1) = lo - (i : Int) := by omega
  refine ⟨.int (lo - (i : Nat)), ?_, fun B2 F1 σ ρ e1 S => ⟨F1, Sub.rfl, S, by show Rep G F1 (.int (lo + (i : Int) * (-1))) _; rw [e0]; exact .int _⟩⟩
  unfold intsDown
  rw [List.getElem?_map, List.getElem?_range hi]
  rfl

/-- the pass through the data -/
def turnK (loop : Env → Out Fl) (fl : Fl) (ρ : Env) : Out Fl := match fl with
  | .next => loop ρ
  | .cont => loop ρ
  | .brk => .ok .next ρ
  | .ret r => .ok (.ret r) ρ
def ofO (o : Option Env) : Out Unit := match o with
  | some ρ => .ok () ρ
  | none => .stuck
def loopL (t : GF) (b : SF) : List D → Env → Out Fl
  | [], ρ => .ok .next ρ
  | d :: ds, ρ => (ofO (t d ρ)).bind fun _ ρ1 => (b ρ1).bind fun fl ρ2 => turnK (loopL t b ds) fl ρ2
/-- slot i lent to be read, for a while -/
def back (i : Nat) (ρ : Env) : Env := match ρ[i]? with
  | some (.rd c) => ρ.set i (.own c)
  | _ => ρ
def mapEnv {α : Type} (h : Env → Env) : Out α → Out α
  | .ok a ρ => .ok a (h ρ)
  | .exc x ρ => .exc x (h ρ)
  | .stuck => .stuck
def forK (t : GF) (b : SF) (src : Src) (ρ : Env) : Out Fl := match src with
  | .items ds => loopL t b ds ρ
  | .lend i ds => mapEnv (back i) (loopL t b ds (ρ.set i (.rd (.lst ds))))
def fFor (f : IF) (t : GF) (b : SF) : SF := fun ρ => (f ρ).bind (forK t b)

/-- a turn: the target, then the body -/
theorem turn_ok {ws : List Nat} {t : GF} {b : SF} {loop : Env → Out Fl} {d : D} {E : Ends} {Nx : L2.St → Hp → Prop} {x : V} (S : StOk G B F H σ ρ) (r : Rep G F x d) (p : PostS G Y B W E F ((ofO (t d ρ)).bind fun _ ρ1 => (b ρ1).bind fun fl ρ2 => turnK loop fl ρ2))
    (hn : ∀ F' σ' H' ρ', Sub F F' → StOk G B F' H' σ' ρ' → PostS G Y B W E F' (loop ρ') → Nx σ' H') : tG G ws t x σ H fun σ2 H2 => tS G Y W b { E with nx := Nx, ct := Nx, bk := E.nx } σ2 H2 := by
  refine ⟨B, F, ρ, d, S, r, ?_⟩
  revert p
  cases t d ρ with
  | none => exact fun p => p
  | some ρ1 =>
    intro p σ1 F1 H1 _ e1 S1
    refine ⟨B, F1, ρ1, S1, ?_⟩
    have p1 : PostS G Y B W E F1 ((b ρ1).bind fun fl ρ2 => turnK loop fl ρ2) := PostS.mono (F := F) p e1
    revert p1
    cases b ρ1 with
    | stuck => exact fun p => p
    | exc x ρ2 => exact fun p => p
    | ok fl ρ2 =>
      cases fl with
      | next => exact fun p σ2 F2 H2 e2 S2 => hn F2 σ2 H2 ρ2 (e1.trans e2) S2 (PostS.mono (F := F1) p e2)
      | cont => exact fun p σ2 F2 H2 e2 S2 => hn F2 σ2 H2 ρ2 (e1.trans e2) S2 (PostS.mono (F := F1) p e2)
      | brk => exact fun p σ2 F2 H2 e2 S2 => p σ2 F2 H2 e2 S2
      | ret r => exact fun p => p

def Bs.hid (B : Bs) (p : Addr) (o : HO) : Bs := { B with H0 := upd B.H0 p o }
def Bs.lnt (B : Bs) (p : Addr) (o : HO) (i : Nat) : Bs := { B.hid p o with R := fun j a => (j = i ∧ a = p) ∨ B.R j a, vs := fun j => if j = i then some (V.ref p) else B.vs j }
/-- a cell beside all slots is kept, and known to be -/
theorem StOk.hide (S : StOk G B F H σ ρ) {p : Addr} {o : HO} (h1 : F p = none) (h2 : H p = some o) (h3 : B.H0 p = none) (h4 : ∀ (i : Nat) (k : Cell), ρ[i]? = some (.own k) ∨ ρ[i]? = some (.io k) → ¬ At σ i p) : StOk G (B.hid p o) F H σ ρ ∧
    ∀ F' H' σ' ρ', StOk G (B.hid p o) F' H' σ' ρ' → StOk G B F' H' σ' ρ' ∧ F' p = none ∧ H' p = some o ∧ ∀ (i : Nat) (k : Cell), ρ'[i]? = some (.own k) ∨ ρ'[i]? = some (.io k) → ¬ At σ' i p := by
  have nA : ¬ B.A p := fun ha => by obtain ⟨_, u, e⟩ := S.in0 p ha; rw [h3] at e; cases e
  have nR : ∀ i, ¬ B.R i p := fun i ha => by obtain ⟨u, e⟩ := S.inR i p ha; rw [h3] at e; cases e
  have hF0 : B.F0 p = none := by
    cases q : B.F0 p with
    | none => rfl
    | some u => rw [S.sub0 p u q] at h3; cases h3
  refine ⟨⟨S.ff, S.fh, fun a u w na => ?_, fun a u w => ?_, S.dat, fun i c w => ?_, S.io, fun i c w => ?_, S.dist, S.distI, S.len, fun a ha => ?_, fun a u w => ?_, fun i a ha => ?_, S.all⟩, fun F' H' σ' ρ' T => ⟨⟨T.ff, T.fh, fun a u w na => ?_, fun a u w => ?_, T.dat, fun i c w => ?_, T.io, fun i c w => ?_, T.dist, T.distI, T.len, S.in0, S.sub0, S.inR, T.all⟩, ?_, ?_, ?_⟩⟩
  · by_cases e : a = p
    · subst e
      have w' : upd B.H0 a o a = some u := w
      rw [upd_same] at w'; cases w'; exact h2
    · have w' : upd B.H0 p o a = some u := w
      rw [upd_ne e] at w'; exact S.keep a u w' na
  · have ne : a ≠ p := ne_of_none w h1
    rcases S.grow a u w with z | z
    · exact .inl z
    · exact .inr (by show upd B.H0 p o a = none; rw [upd_ne ne]; exact z)
  · obtain ⟨a, u, g1, g2, g3, g4, g5⟩ := S.own i c w
    have ne : a ≠ p := fun z => by subst z; exact h4 i c (.inl w) g1
    exact ⟨a, u, g1, g2, g3, g4, by show upd B.H0 p o a = none; rw [upd_ne ne]; exact g5⟩
  · obtain ⟨a, u, g1, gv, g2, g3, g4, g5⟩ := S.rd i c w
    exact ⟨a, u, g1, gv, g2, g3, by show upd B.H0 p o a = some u; rw [upd_ne (ne_of_none g4 h3)]; exact g4, g5⟩
  · obtain ⟨z, u, e⟩ := S.in0 a ha
    exact ⟨z, u, by show upd B.H0 p o a = some u; rw [upd_ne (ne_of_none e h3)]; exact e⟩
  · show upd B.H0 p o a = some u
    rw [upd_ne (ne_of_none w hF0)]; exact S.sub0 a u w
  · obtain ⟨u, e⟩ := S.inR i a ha
    exact ⟨u, by show upd B.H0 p o a = some u; rw [upd_ne (ne_of_none e h3)]; exact e⟩
  · exact T.keep a u (by show upd B.H0 p o a = some u; rw [upd_ne (ne_of_none w h3)]; exact w) na
  · rcases T.grow a u w with z | z
    · exact .inl z
    · refine .inr ?_
      have z' : upd B.H0 p o a = none := z
      by_cases e : a = p
      · subst e; exact h3
      · rw [upd_ne e] at z'; exact z'
  · obtain ⟨a, u, g1, g2, g3, g4, g5⟩ := T.own i c w
    refine ⟨a, u, g1, g2, g3, g4, ?_⟩
    have z' : upd B.H0 p o a = none := g5
    by_cases e : a = p
    · subst e; exact h3
    · rw [upd_ne e] at z'; exact z'
  · obtain ⟨a, u, g1, gv, g2, g3, g4, g5⟩ := T.rd i c w
    have ne : a ≠ p := fun z => by subst z; exact nR i g3
    have z' : upd B.H0 p o a = some u := g4
    rw [upd_ne ne] at z'
    exact ⟨a, u, g1, gv, g2, g3, z', g5⟩
  · cases q : F' p with
    | none => rfl
    | some u =>
      rcases T.grow p u q with z | z
      · have z' : B.F0 p = some u := z
        rw [hF0] at z'; cases z'
      · have z' : upd B.H0 p o p = none := z
        rw [upd_same] at z'; cases z'
  · exact T.keep p o upd_same nA
  · intro i k hk ha
    rcases hk with hk | hk
    · obtain ⟨a, u, g1, g2, g3, g4, g5⟩ := T.own i k hk
      obtain rfl := at_inj g1 ha
      have z' : upd B.H0 a o a = none := g5
      rw [upd_same] at z'; cases z'
    · obtain ⟨a, u, g1, g2, g3, _⟩ := T.io i k hk
      obtain rfl := at_inj g1 ha
      exact nA g3
theorem set_same {α : Type} {l : List α} {i : Nat} {x : α} (h : l[i]? = some x) : l.set i x = l := by
  apply List.ext_getElem?
  intro j
  by_cases e : i = j
  · subst e; rw [List.getElem?_set_self (lt_of_get h), h]
  · rw [List.getElem?_set_ne e]
/-- the cell at slot i is lent to be read, and comes back -/
theorem StOk.lend {i : Nat} {c : Cell} {p : Addr} {o : HO} (S : StOk G B F H σ ρ) (q : ρ[i]? = some (.own c)) (hp : At σ i p) (ho : H p = some o) : StOk G (B.lnt p o i) F H σ (ρ.set i (.rd c)) ∧
    ∀ F' H' σ' ρ', StOk G (B.lnt p o i) F' H' σ' ρ' → StOk G B F' H' σ' (back i ρ') ∧ ∀ u r, RvRep G (B.lnt p o i) F' H' σ' ρ' u r → RvRep G B F' H' σ' (back i ρ') u r := by
  have ni : ∀ k, ρ[i]? ≠ some (.io k) := fun k e => by rw [q] at e; cases e
  obtain ⟨a, o', g1, g2, g3, g4, g5⟩ := S.own i c q
  obtain rfl := at_inj g1 hp
  rw [ho] at g3; cases g3
  have hne : ∀ {j : Nat} {sl : Sl}, (ρ.set i .no)[j]? = some sl → sl ≠ .no → i ≠ j := fun {j sl} e n z => by
    subst z
    rw [List.getElem?_set_self (lt_of_get q)] at e
    exact n (Option.some.inj e).symm
  have beside : ∀ (j : Nat) (k : Cell), (ρ.set i .no)[j]? = some (.own k) ∨ (ρ.set i .no)[j]? = some (.io k) → ¬ At σ j a := fun j k hk ha => by
    have ne : i ≠ j := by rcases hk with hk | hk <;> exact hne hk (by intro z; cases z)
    rw [List.getElem?_set_ne ne] at hk
    exact S.dist i j c k a ne q hk g1 ha
  obtain ⟨S2, bk⟩ := (S.release ni).hide g2 ho g5 beside
  have nA : ¬ B.A a := fun ha => by
    obtain ⟨_, u, e⟩ := S.in0 a ha
    rw [g5] at e; cases e
  constructor
  · refine ⟨S2.ff, S2.fh, S2.keep, S2.grow, fun j d w => ?_, fun j k w => ?_, fun j k w => ?_, fun j k w => ?_, fun j m k k' b ne w1 w2 => ?_, fun j m k k' b ne w1 w2 => ?_, by rw [List.length_set]; exact S.len, S2.in0, S2.sub0, fun j b hb => ?_, fun b hb => ?_⟩
    · rcases set_get w with ⟨rfl, w, _⟩ | ⟨ne, w⟩
      · cases w
      · exact S2.dat j d (by rw [List.getElem?_set_ne ne]; exact w)
    · rcases set_get w with ⟨rfl, w, _⟩ | ⟨ne, w⟩
      · cases w
      · exact S2.own j k (by rw [List.getElem?_set_ne ne]; exact w)
    · rcases set_get w with ⟨rfl, w, _⟩ | ⟨ne, w⟩
      · cases w
      · obtain ⟨b, u, k1, k2, k3⟩ := S2.io j k (by rw [List.getElem?_set_ne ne]; exact w)
        exact ⟨b, u, k1, by show (if j = i then _ else _) = _; rw [if_neg (Ne.symm ne)]; exact k2, k3⟩
    · rcases set_get w with ⟨rfl, w, _⟩ | ⟨ne, w⟩
      · cases w
        exact ⟨a, o, hp, if_pos rfl, nA, .inl ⟨rfl, rfl⟩, upd_same, g4⟩
      · obtain ⟨b, u, k1, k2, k3, k4, k5⟩ := S2.rd j k (by rw [List.getElem?_set_ne ne]; exact w)
        exact ⟨b, u, k1, by show (if j = i then _ else _) = _; rw [if_neg (Ne.symm ne)]; exact k2, k3, .inr k4, k5⟩
    · rcases set_get w1 with ⟨rfl, w1, _⟩ | ⟨n1, w1⟩
      · cases w1
      · refine S.dist j m k k' b ne w1 ?_
        rcases w2 with w2 | w2 <;> rcases set_get w2 with ⟨rfl, w2, _⟩ | ⟨_, w2⟩ <;> first | cases w2 | exact .inl w2 | exact .inr w2
    · rcases set_get w1 with ⟨rfl, w1, _⟩ | ⟨n1, w1⟩
      · cases w1
      · rcases set_get w2 with ⟨rfl, w2, _⟩ | ⟨n2, w2⟩
        · cases w2
        · exact S.distI j m k k' b ne w1 w2
    · rcases hb with ⟨_, rfl⟩ | hb
      · exact ⟨o, upd_same⟩
      · exact S2.inR j b hb
    · obtain ⟨j, k, e1, e2⟩ := S.all b hb
      have ne : i ≠ j := fun z => by subst z; rw [q] at e1; cases e1
      exact ⟨j, k, by rw [List.getElem?_set_ne ne]; exact e1, by show (if j = i then _ else _) = _; rw [if_neg (Ne.symm ne)]; exact e2⟩
  · intro F' H' σ' ρ' T
    -- without slot i the base is the hidden one
    have low : ∀ (ρ2 : Env), (∀ (j : Nat) (sl : Sl), ρ2[j]? = some sl → sl ≠ .no → j ≠ i ∧ ρ'[j]? = some sl) → (∀ (j : Nat) (k : Cell), ρ'[j]? = some (.io k) → ρ2[j]? = some (.io k)) → ρ2.length = ρ'.length → StOk G (B.hid a o) F' H' σ' ρ2 := by
      intro ρ2 hsub hio hl
      refine ⟨T.ff, T.fh, T.keep, T.grow, fun j d w => T.dat j d (hsub j _ w (by intro z; cases z)).2, fun j k w => T.own j k (hsub j _ w (by intro z; cases z)).2, fun j k w => ?_, fun j k w => ?_, fun j m k k' b ne w1 w2 => ?_, fun j m k k' b ne w1 w2 => ?_, by rw [hl]; exact T.len, S2.in0, S2.sub0, S2.inR, fun b hb => ?_⟩
      · obtain ⟨n, w'⟩ := hsub j _ w (by intro z; cases z)
        obtain ⟨b, u, k1, k2, k3⟩ := T.io j k w'
        have k2' : (if j = i then some (V.ref a) else B.vs j) = some (V.ref b) := k2
        rw [if_neg n] at k2'
        exact ⟨b, u, k1, k2', k3⟩
      · obtain ⟨n, w'⟩ := hsub j _ w (by intro z; cases z)
        obtain ⟨b, u, k1, k2, k3, k4, k5⟩ := T.rd j k w'
        have k2' : (if j = i then some (V.ref a) else B.vs j) = some (V.ref b) := k2
        rw [if_neg n] at k2'
        rcases k4 with ⟨z, _⟩ | k4
        · exact (n z).elim
        · exact ⟨b, u, k1, k2', k3, k4, k5⟩
      · have e1 := (hsub j _ w1 (by intro z; cases z)).2
        rcases w2 with w2 | w2
        · exact T.dist j m k k' b ne e1 (.inl (hsub m _ w2 (by intro z; cases z)).2)
        · exact T.dist j m k k' b ne e1 (.inr (hsub m _ w2 (by intro z; cases z)).2)
      · exact T.distI j m k k' b ne (hsub j _ w1 (by intro z; cases z)).2 (hsub m _ w2 (by intro z; cases z)).2
      · obtain ⟨j, k, e1, e2⟩ := T.all b hb
        have e2' : (if j = i then some (V.ref a) else B.vs j) = some (V.ref b) := e2
        by_cases e : j = i
        · rw [if_pos e] at e2'
          cases e2'
          exact (nA hb).elim
        · rw [if_neg e] at e2'
          exact ⟨j, k, hio j k e1, e2'⟩
    have nio : ∀ k, ρ'[i]? ≠ some (.io k) := fun k e => by
      obtain ⟨b, u, k1, k2, k3, _⟩ := T.io i k e
      have k2' : (if i = i then some (V.ref a) else B.vs i) = some (V.ref b) := k2
      rw [if_pos rfl] at k2'
      cases k2'
      exact nA k3
    have nfresh : ∀ u r ρ2, (∀ (j : Nat) (k : Cell), ρ2[j]? = some (.own k) ∨ ρ2[j]? = some (.io k) → (j = i ∧ At σ' i a) ∨ ρ'[j]? = some (.own k) ∨ ρ'[j]? = some (.io k)) → RvRep G (B.lnt a o i) F' H' σ' ρ' u r → RvRep G B F' H' σ' ρ2 u r := by
      intro u r ρ2 hs R
      cases r with
      | d x => exact R
      | slot j => exact R
      | new k =>
        obtain ⟨b, w, rfl, k2, k3, k4, k5, k6⟩ := R
        have k5' : upd B.H0 a o b = none := k5
        have nb : b ≠ a := fun z => by subst z; rw [upd_same] at k5'; cases k5'
        rw [upd_ne nb] at k5'
        refine ⟨b, w, rfl, k2, k3, k4, k5', fun j m hm hb => ?_⟩
        rcases hs j m hm with ⟨rfl, hz⟩ | hz
        · exact nb (at_inj hb hz)
        · exact k6 j m hz hb
    by_cases hq : ∃ k, ρ'[i]? = some (.rd k)
    · obtain ⟨k, hk⟩ := hq
      obtain ⟨b, u, k1, k2, _, _, k5, k6⟩ := T.rd i k hk
      have k2' : (if i = i then some (V.ref a) else B.vs i) = some (V.ref b) := k2
      rw [if_pos rfl] at k2'
      cases k2'
      have k5' : upd B.H0 a o a = some u := k5
      rw [upd_same] at k5'
      cases k5'
      have T2 := low (ρ'.set i .no) (fun j sl w n => by
        rcases set_get w with ⟨rfl, w, _⟩ | ⟨ne, w⟩
        · exact (n w.symm).elim
        · exact ⟨Ne.symm ne, w⟩) (fun j m w => by
          have ne : i ≠ j := fun z => by subst z; rw [hk] at w; cases w
          rw [List.getElem?_set_ne ne]; exact w) (List.length_set ..)
      obtain ⟨T3, f1, f2, f3⟩ := bk _ _ _ _ T2
      have hb : back i ρ' = ρ'.set i (.own k) := by unfold back; rw [hk]
      have R3 : RvRep G B F' H' σ' (ρ'.set i .no) (V.ref a) (.new k) := ⟨a, o, rfl, f1, f2, k6, g5, f3⟩
      have T4 := T3.setOwn (i := i) (fun m e => by rw [List.getElem?_set_self (lt_of_get hk)] at e; cases e) R3
      rw [set_same k1, List.set_set] at T4
      rw [hb]
      refine ⟨T4, fun u r R => nfresh u r _ (fun j m hm => ?_) R⟩
      by_cases e : i = j
      · subst e; exact .inl ⟨rfl, k1⟩
      · rw [List.getElem?_set_ne e] at hm; exact .inr hm
    · have hb : back i ρ' = ρ' := by
        unfold back
        split
        · rename_i k hk; exact (hq ⟨k, hk⟩).elim
        · rfl
      rw [hb]
      -- slot i holds no lent cell: it may stay
      have T2 : StOk G (B.hid a o) F' H' σ' ρ' := by
        have T1 := low (ρ'.set i .no) (fun j sl w n => by
          rcases set_get w with ⟨rfl, w, _⟩ | ⟨ne, w⟩
          · exact (n w.symm).elim
          · exact ⟨Ne.symm ne, w⟩) (fun j m w => by
            have ne : i ≠ j := fun z => by subst z; exact nio m w
            rw [List.getElem?_set_ne ne]; exact w) (List.length_set ..)
        refine ⟨T.ff, T.fh, T.keep, T.grow, T.dat, T.own, fun j k w => ?_, fun j k w => ?_, T.dist, T.distI, T.len, S2.in0, S2.sub0, S2.inR, fun b hb => ?_⟩
        · have ne : i ≠ j := fun z => by subst z; exact nio k w
          exact T1.io j k (by rw [List.getElem?_set_ne ne]; exact w)
        · have ne : i ≠ j := fun z => by subst z; exact hq ⟨k, w⟩
          exact T1.rd j k (by rw [List.getElem?_set_ne ne]; exact w)
        · obtain ⟨j, k, e1, e2⟩ := T1.all b hb
          rcases set_get e1 with ⟨rfl, w, _⟩ | ⟨ne, w⟩
          · cases w
          · exact ⟨j, k, w, e2⟩
      exact ⟨(bk _ _ _ _ T2).1, fun u r R => nfresh u r _ (fun j m hm => .inr hm) R⟩
theorem gives_kept {a : Addr} {xs : List V} {ds : List D} (h : B.H0 a = some (.lst xs)) (na : ¬ B.A a) (r : Reps G F xs ds) : Gives G B (Itl G.K a) ds F := by
  have w := walk_list (K := G.K) (a := a) (xs := xs)
  rw [r.length] at w
  refine w.mono (fun H ⟨F1, σ, ρ, e, S⟩ => .inl (.inl (S.keep a _ h na))) fun i H x H' hi e y => ?_
  obtain ⟨rfl, hx⟩ := y
  obtain ⟨d, hd, rd⟩ := r.get' hx
  exact ⟨d, hd, fun B2 F1 σ ρ e1 S => ⟨F1, Sub.rfl, S, rd.mono e1 _⟩⟩
theorem PostS.back {i : Nat} {B2 : Bs} {E : Ends} {o : Out Fl} (hb : ∀ F' H' σ' ρ', StOk G B2 F' H' σ' ρ' → StOk G B F' H' σ' (back i ρ') ∧ ∀ u r, RvRep G B2 F' H' σ' ρ' u r → RvRep G B F' H' σ' (back i ρ') u r)
    (h : PostS G Y B W E F (mapEnv (Nz.back i) o)) : PostS G Y B2 W E F o := by
  cases o with
  | stuck => exact h
  | exc x ρ => exact fun cls dx σ F' H' e S R => h cls dx σ F' H' e (hb _ _ _ _ S).1 R
  | ok fl ρ =>
    cases fl with
    | next => exact fun σ F' H' e S => h σ F' H' e (hb _ _ _ _ S).1
    | brk => exact fun σ F' H' e S => h σ F' H' e (hb _ _ _ _ S).1
    | cont => exact fun σ F' H' e S => h σ F' H' e (hb _ _ _ _ S).1
    | ret r => exact fun u σ F' H' e S R => h u σ F' H' e (hb _ _ _ _ S).1 ((hb _ _ _ _ S).2 u r R)
theorem for_items {ws : List Nat} {t : GF} {b : SF} {E : Ends} {J : It} {ds : List D} (hJ : Gives G B J ds F) (S : StOk G B F H σ ρ) (p : PostS G Y B W E F (loopL t b ds ρ)) :
    ∃ Wd : Nat → Nat → L2.St → Hp → Prop, (∃ m, Wd 0 m σ H) ∧ ∀ i m σ H, Wd i m σ H →
      (J.stop i H ∧ E.nx σ H) ∨ (J.go i H ∧ ∃ N : L2.St → Hp → Prop, (∀ σ' H', N σ' H' → ∃ m', m' < m ∧ Wd (i + 1) m' σ' H') ∧ ∀ x H', J.yld i H x H' → tG G ws t x σ H' fun σ2 H2 => tS G Y W b { E with nx := N, ct := N, bk := E.nx } σ2 H2) := by
  refine for_it hJ (fun i σ' H' => ∃ F' ρ', Sub F F' ∧ StOk G B F' H' σ' ρ' ∧ PostS G Y B W E F' (loopL t b (ds.drop i) ρ')) ⟨F, ρ, Sub.rfl, S, p⟩ (fun i σ' H' _ ⟨F', ρ', e, S', _⟩ => ⟨F', σ', ρ', e, S'⟩) ?_ ?_
  · rintro i x σ' H2 H3 hi ⟨F2, ρ2, e2, S2, p3⟩ ⟨d, hd, hy⟩
    obtain ⟨F3, e3, S3, r3⟩ := hy B F2 σ' ρ2 e2 S2
    have hdr : ds.drop i = d :: ds.drop (i + 1) := by
      have hlt : i < ds.length := lt_of_get hd
      rw [List.drop_eq_getElem_cons hlt]
      congr 1
      rw [List.getElem?_eq_getElem hlt] at hd
      exact Option.some.inj hd
    rw [hdr] at p3
    exact turn_ok S3 r3 (PostS.mono (F := F2) p3 e3) fun F4 σ4 H4 ρ4 e4 S4 p4 => ⟨F4, ρ4, (e2.trans e3).trans e4, S4, p4⟩
  · rintro σ' H2 ⟨F2, ρ2, e2, S2, p3⟩
    rw [List.drop_length] at p3
    exact p3 σ' F2 H2 Sub.rfl S2
theorem t_for {ws : List Nat} {f : IF} {t : GF} {b : SF} {E : Ends} (h : tS G Y W (fFor f t b) E σ H) : tFor (tI G Y W f) (tG G ws t) (tS G Y W b) E σ H := by
  obtain ⟨B, F, ρ, S, p⟩ := h
  refine ⟨B, F, ρ, S, PostS.seqG p fun src ρ1 F1 H1 _ e1 S1 p1 => ?_⟩
  cases src with
  | items ds => exact fun J hJ => for_items hJ S1 p1
  | lend i ds =>
    intro a xs q ha hx r
    obtain ⟨S2, bk⟩ := S1.lend q ha hx
    have nA : ¬ (B.lnt a (.lst xs) i).A a := fun z => by
      obtain ⟨b', o', k1, k2, k3, k4, k5⟩ := S1.own i _ q
      obtain rfl := at_inj k1 ha
      obtain ⟨_, u, e⟩ := S1.in0 _ z
      rw [k5] at e; cases e
    have e0 : (B.lnt a (.lst xs) i).H0 a = some (.lst xs) := upd_same
    exact for_items (gives_kept e0 nA r) S2 (PostS.back bk p1)
end
end Nz

set_option Elab.async false
set_option linter.all false
set_option maxRecDepth 100000
set_option maxHeartbeats 4000000
/-! Nz6: iterables of a program's expressions, while, list comprehensions. -/
namespace Nz
open PySem L2
section
variable {G : Gi} {B : Bs} {F H F' H' : Hp} {σ : L2.St} {ρ ρ' : Env} {Y : Xi} {W : WX}

/-! ### a list, a tuple, a text walked -/
def slotSrc (i : Nat) (o : Option Sl) (ρ : Env) : Out Src := match o with
  | some (.own (.lst ds)) => .ok (.lend i ds) ρ
  | some (.rd (.lst ds)) => .ok (.items ds) ρ
  | _ => .stuck
def seqSrc (r : Rv) (ρ : Env) : Out Src := match r with
  | .d (.lst ds) => .ok (.items ds) ρ
  | .d (.tup ds) => .ok (.items ds) ρ
  | .d (.str z) => .ok (.items (signs z)) ρ
  | .slot i => slotSrc i ρ[i]? ρ
  | _ => .stuck
def fSeqI (fa : EF) : IF := fun ρ => (opd fa ρ).bind seqSrc
theorem seqI_cases {fa : EF} {R : It → Hp → Prop} (h : tI G Y W (fSeqI fa) σ H R) : iList G.K (tE G Y W fa) σ H R ∨ iTup G.K (tE G Y W fa) σ H R ∨ iStr (tE G Y W fa) σ H R := by
  obtain ⟨B, F, ρ, S, p⟩ := h
  unfold fSeqI at p
  cases ho : opd fa ρ with
  | stuck => rw [ho] at p; exact False.elim p
  | exc x ρ1 =>
    rw [ho] at p
    refine .inl (tE_opd ⟨B, F, ρ, S, ?_⟩)
    rw [ho]
    exact p
  | ok r ρ1 =>
    rw [ho] at p
    cases r with
    | new c => exact False.elim p
    | d x =>
      cases x with
      | lst ds =>
        refine .inl (tE_opd ⟨B, F, ρ, S, ?_⟩)
        rw [ho]
        intro u F1 H1 e S1 R1
        cases R1 with
        | lst h1 h2 => exact ⟨_, rfl, ⟨_, .inl (.inl (S1.fh _ _ h1))⟩, p F1 H1 e S1 _ (gives_list (.inl (.inl h1)) h2)⟩
      | tup ds =>
        refine .inr (.inl (tE_opd ⟨B, F, ρ, S, ?_⟩))
        rw [ho]
        intro u F1 H1 e S1 R1
        cases R1 with
        | tup h1 h2 => exact ⟨_, rfl, ⟨_, sub_sqT S1.fh h1⟩, p F1 H1 e S1 _ (gives_tup h1 h2)⟩
      | str z =>
        refine .inr (.inr (tE_opd ⟨B, F, ρ, S, ?_⟩))
        rw [ho]
        intro u F1 H1 e S1 R1
        cases R1
        exact ⟨z, rfl, p F1 H1 e S1 _ gives_str⟩
      | _ => exact False.elim p
    | slot i =>
      have p' : PostG G Y B W σ (fun src ρ' F' H' => match src with
        | .items ds => ∀ J, Gives G B J ds F' → R J H'
        | .lend i ds => ∀ a xs, ρ'[i]? = some (.own (.lst ds)) → At σ i a → H' a = some (.lst xs) → Reps G F' xs ds → R (Itl G.K a) H') F (slotSrc i ρ1[i]? ρ1) := p
      refine .inl (tE_opd ⟨B, F, ρ, S, ?_⟩)
      rw [ho]
      intro u F1 H1 e S1 R1
      have hu : σ[i]? = some (some u) := R1
      cases q : ρ1[i]? with
      | none => rw [q] at p'; exact False.elim p'
      | some sl =>
        rw [q] at p'
        cases sl with
        | no => exact False.elim p'
        | d x => exact False.elim p'
        | io c => exact False.elim p'
        | own c =>
          cases c with
          | ins k fs => exact False.elim p'
          | dic fs => exact False.elim p'
          | lst ds =>
            obtain ⟨a, o, g1, g2, g3, ⟨xs, rfl, hx⟩, g5⟩ := S1.own i _ q
            obtain rfl := at_val hu g1
            exact ⟨a, rfl, ⟨xs, .inl (.inl g3)⟩, p' F1 H1 e S1 a xs q g1 g3 hx⟩
        | rd c =>
          cases c with
          | ins k fs => exact False.elim p'
          | dic fs => exact False.elim p'
          | lst ds =>
            obtain ⟨a, o, g1, gv, na, _, g3, ⟨xs, rfl, hx⟩⟩ := S1.rd i _ q
            obtain rfl := at_val hu g1
            exact ⟨a, rfl, ⟨xs, .inl (.inl (S1.keep a _ g3 na))⟩, p' F1 H1 e S1 _ (gives_kept g3 na hx)⟩

/-! ### ranges -/
def small (j : Int) : Bool := decide (j.natAbs ≤ 1000000)
def rngSrc1 (o : Option (List D)) (ρ : Env) : Out Src := match o with
  | some [.int j] => if small j then .ok (.items (upto 0 j.toNat)) ρ else .stuck
  | _ => .stuck
def rngSrc2 (o : Option (List D)) (ρ : Env) : Out Src := match o with
  | some [.int i, .int j] => if small i && small j then .ok (.items (upto i (j - i).toNat)) ρ else .stuck
  | _ => .stuck
def rngSrc3 (o : Option (List D)) (ρ : Env) : Out Src := match o with
  | some [.int i, .int j, .int c] => if small i && small j && decide (c = -1) then .ok (.items (intsDown i (i - j).toNat)) ρ else .stuck
  | _ => .stuck
def fRng1 (fs : AF) : IF := fun ρ => (fs ρ).bind fun rs ρ1 => rngSrc1 (ress ρ1 rs) ρ1
def fRng2 (fs : AF) : IF := fun ρ => (fs ρ).bind fun rs ρ1 => rngSrc2 (ress ρ1 rs) ρ1
def fRng3 (fs : AF) : IF := fun ρ => (fs ρ).bind fun rs ρ1 => rngSrc3 (ress ρ1 rs) ρ1
theorem small_of {j : Int} (h : small j = true) : -(2 ^ 62) ≤ j ∧ j < 2 ^ 62 := by
  have := of_decide_eq_true h
  constructor <;> omega
theorem opds1 {us : List V} {d : D} (h : Opds G F H us [d]) : ∃ u, us = [u] ∧ Opd G F H u d := by
  cases h with
  | cons h1 h2 => cases h2; exact ⟨_, rfl, h1⟩
theorem opds2 {us : List V} {d e : D} (h : Opds G F H us [d, e]) : ∃ u v, us = [u, v] ∧ Opd G F H u d ∧ Opd G F H v e := by
  cases h with
  | cons h1 h2 =>
    cases h2 with
    | cons h2 h3 => cases h3; exact ⟨_, _, rfl, h1, h2⟩
theorem opds3 {us : List V} {d e f : D} (h : Opds G F H us [d, e, f]) : ∃ u v w, us = [u, v, w] ∧ Opd G F H u d ∧ Opd G F H v e ∧ Opd G F H w f := by
  cases h with
  | cons h1 h2 =>
    cases h2 with
    | cons h2 h3 =>
      cases h3 with
      | cons h3 h4 => cases h4; exact ⟨_, _, _, rfl, h1, h2, h3⟩
theorem t_rng1 {fs : AF} {R : It → Hp → Prop} (h : tI G Y W (fRng1 fs) σ H R) : iRng1 (tA G Y W fs) σ H R := by
  obtain ⟨B, F, ρ, S, p⟩ := h
  refine ⟨B, F, ρ, S, PostA.ofG (PostG.seq p fun rs ρ1 F1 H1 _ e1 S1 p1 us Rs => ?_)⟩
  cases q : ress ρ1 rs with
  | none => rw [q] at p1; exact False.elim p1
  | some ds =>
    rw [q] at p1
    unfold rngSrc1 at p1
    split at p1
    · rename_i j e
      cases e
      obtain ⟨u, rfl, hu⟩ := opds1 (S1.opds Rs q)
      obtain rfl := opd_int hu
      by_cases hs : small j = true
      · rw [if_pos hs] at p1
        obtain ⟨h1, h2⟩ := small_of hs
        exact ⟨j, rfl, h1, h2, p1 F1 H1 Sub.rfl S1 _ gives_range⟩
      · rw [if_neg hs] at p1; exact False.elim p1
    · exact False.elim p1
theorem t_rng2 {fs : AF} {R : It → Hp → Prop} (h : tI G Y W (fRng2 fs) σ H R) : iRng2 (tA G Y W fs) σ H R := by
  obtain ⟨B, F, ρ, S, p⟩ := h
  refine ⟨B, F, ρ, S, PostA.ofG (PostG.seq p fun rs ρ1 F1 H1 _ e1 S1 p1 us Rs => ?_)⟩
  cases q : ress ρ1 rs with
  | none => rw [q] at p1; exact False.elim p1
  | some ds =>
    rw [q] at p1
    unfold rngSrc2 at p1
    split at p1
    · rename_i i j e
      cases e
      obtain ⟨u, v, rfl, hu, hv⟩ := opds2 (S1.opds Rs q)
      obtain rfl := opd_int hu
      obtain rfl := opd_int hv
      by_cases hs : (small i && small j) = true
      · rw [if_pos hs] at p1
        rw [Bool.and_eq_true] at hs
        obtain ⟨h1, h2⟩ := small_of hs.1
        obtain ⟨h3, h4⟩ := small_of hs.2
        exact ⟨i, j, rfl, ⟨h1, h2, h3, h4⟩, p1 F1 H1 Sub.rfl S1 _ gives_range⟩
      · rw [if_neg hs] at p1; exact False.elim p1
    · exact False.elim p1
theorem t_rng3 {fs : AF} {R : It → Hp → Prop} (h : tI G Y W (fRng3 fs) σ H R) : iRng3 (tA G Y W fs) σ H R := by
  obtain ⟨B, F, ρ, S, p⟩ := h
  refine ⟨B, F, ρ, S, PostA.ofG (PostG.seq p fun rs ρ1 F1 H1 _ e1 S1 p1 us Rs => ?_)⟩
  cases q : ress ρ1 rs with
  | none => rw [q] at p1; exact False.elim p1
  | some ds =>
    rw [q] at p1
    unfold rngSrc3 at p1
    split at p1
    · rename_i i j c e
      cases e
      obtain ⟨u, v, z, rfl, hu, hv, hz⟩ := opds3 (S1.opds Rs q)
      obtain rfl := opd_int hu
      obtain rfl := opd_int hv
      obtain rfl := opd_int hz
      by_cases hs : (small i && small j && decide (c = -1)) = true
      · rw [if_pos hs] at p1
        simp only [Bool.and_eq_true, decide_eq_true_eq] at hs
        obtain ⟨⟨hs1, hs2⟩, rfl⟩ := hs
        obtain ⟨h1, h2⟩ := small_of hs1
        obtain ⟨h3, h4⟩ := small_of hs2
        exact ⟨i, j, -1, _, rfl, RgC.neg h1 h2 h3 h4, p1 F1 H1 Sub.rfl S1 _ gives_down⟩
      · rw [if_neg hs] at p1; exact False.elim p1
    · exact False.elim p1

/-! ### while -/
def loopW (t : TF) (b : SF) : Nat → Env → Out Fl
  | 0, _ => .stuck
  | n + 1, ρ => (t ρ).bind fun c ρ1 => if c then (b ρ1).bind fun fl ρ2 => turnK (loopW t b n) fl ρ2 else .ok .next ρ1
def fWhile (n : Nat) (t : TF) (b : SF) : SF := loopW t b n
theorem t_while {n : Nat} {t : TF} {b : SF} {E : Ends} (h : tS G Y W (fWhile n t b) E σ H) : tWhile (tT G Y W t) (tS G Y W b) E σ H := by
  obtain ⟨B, F, ρ, S, p⟩ := h
  refine ⟨fun m σ' H' => ∃ F' ρ', StOk G B F' H' σ' ρ' ∧ PostS G Y B W E F' (loopW t b m ρ'), ⟨n, F, ρ, S, p⟩, ?_⟩
  rintro m σ1 H1 ⟨F1, ρ1, S1, p1⟩
  cases m with
  | zero => exact False.elim p1
  | succ m =>
    refine ⟨B, F1, ρ1, S1, PostT.ofG (PostS.seqG p1 fun c ρ2 F2 H2 _ e2 S2 p2 => ?_)⟩
    cases c with
    | false => exact iteF (p2 σ1 F2 H2 Sub.rfl S2)
    | true =>
      refine iteT ⟨fun σ' H' => ∃ F' ρ', StOk G B F' H' σ' ρ' ∧ PostS G Y B W E F' (loopW t b m ρ'), fun σ' H' q => ⟨m, Nat.lt_succ_self m, q⟩, B, F2, ρ2, S2, ?_⟩
      have p3 : PostS G Y B W E F2 ((b ρ2).bind fun fl ρ3 => turnK (loopW t b m) fl ρ3) := p2
      revert p3
      cases b ρ2 with
      | stuck => exact fun p => p
      | exc x ρ3 => exact fun p => p
      | ok fl ρ3 =>
        cases fl with
        | next => exact fun p σ3 F3 H3 e3 S3 => ⟨F3, ρ3, S3, PostS.mono (F := F2) p e3⟩
        | cont => exact fun p σ3 F3 H3 e3 S3 => ⟨F3, ρ3, S3, PostS.mono (F := F2) p e3⟩
        | brk => exact fun p => p
        | ret r => exact fun p => p
end
end Nz

set_option Elab.async false
set_option linter.all false
set_option maxRecDepth 100000
set_option maxHeartbeats 4000000
/-! Nz7: list comprehensions. -/
namespace Nz
open PySem L2
def noX {α : Type} : Out α → Out α
  | .exc _ _ => .stuck
  | o => o
def wipeE (ρ : Env) : List Nat → Env
  | [] => ρ
  | v :: vs => (wipeE ρ vs).set v .no
def restoreE (ρ1 ρ2 : Env) : List Nat → Env
  | [] => ρ2
  | v :: vs => (restoreE ρ1 ρ2 vs).set v ((ρ1[v]?).getD .no)
def plainAt (ρ : Env) (v : Nat) : Bool := match ρ[v]? with
  | some .no => true
  | some (.d _) => true
  | _ => false
def compL (t : GF) (c : TF) (e : EF) (vs : List Nat) : List D → List D → Env → Out (List D)
  | [], acc, ρ => .ok acc ρ
  | d :: ds, acc, ρ => (ofO (t d ρ)).bind fun _ ρ1 => (c ρ1).bind fun b ρ2 =>
    if b then (opd e ρ2).bind fun r ρ3 => (frz r ρ3).bind fun x ρ4 => lim acc.length (if vs.all (noIo ρ4) then compL t c e vs ds (acc ++ [x]) (wipeE ρ4 vs) else .stuck)
    else if vs.all (noIo ρ2) then compL t c e vs ds acc (wipeE ρ2 vs) else .stuck
def compI (t : GF) (c : TF) (e : EF) (vs : List Nat) (ds : List D) (ρ : Env) : Out Rv := if vs.all (plainAt ρ) then (noX (compL t c e vs ds [] (wipeE ρ vs))).bind fun acc ρ2 => .ok (.new (.lst acc)) (restoreE ρ ρ2 vs) else .stuck
def compK (t : GF) (c : TF) (e : EF) (vs : List Nat) (src : Src) (ρ : Env) : Out Rv := match src with
  | .items ds => compI t c e vs ds ρ
  | .lend i ds => mapEnv (back i) (compI t c e vs ds (ρ.set i (.rd (.lst ds))))
def fComp (f : IF) (t : GF) (c : TF) (e : EF) (vs : List Nat) : EF := fun ρ => (f ρ).bind (compK t c e vs)
def gTrue : TF := fun ρ => .ok true ρ

section
variable {G : Gi} {B : Bs} {F H F' H' : Hp} {σ : L2.St} {ρ ρ' : Env} {Y : Xi} {W : WX}
abbrev W0 : WX := fun _ _ _ _ => False
theorem wipeE_get {v : Nat} : ∀ {vs : List Nat} {sl : Sl}, (wipeE ρ vs)[v]? = some sl → (v ∈ vs ∧ sl = .no) ∨ (v ∉ vs ∧ ρ[v]? = some sl)
  | [], sl, h => .inr ⟨by simp, h⟩
  | w :: vs, sl, h => by
    unfold wipeE at h
    rcases set_get h with ⟨rfl, h, _⟩ | ⟨ne, h⟩
    · exact .inl ⟨List.mem_cons_self, h.symm⟩
    · rcases wipeE_get h with ⟨m, e⟩ | ⟨m, e⟩
      · exact .inl ⟨List.mem_cons_of_mem _ m, e⟩
      · exact .inr ⟨by simp only [List.mem_cons, not_or]; exact ⟨Ne.symm ne, m⟩, e⟩
theorem wipeE_out {v : Nat} : ∀ {vs : List Nat}, v ∉ vs → (wipeE ρ vs)[v]? = ρ[v]?
  | [], _ => rfl
  | w :: vs, h => by
    simp only [List.mem_cons, not_or] at h
    unfold wipeE
    rw [List.getElem?_set_ne (Ne.symm h.1)]
    exact wipeE_out h.2
theorem wipeE_len : ∀ {vs : List Nat}, (wipeE ρ vs).length = ρ.length
  | [] => rfl
  | w :: vs => by unfold wipeE; rw [List.length_set]; exact wipeE_len
theorem restoreE_len : ∀ {vs : List Nat}, (restoreE ρ ρ' vs).length = ρ'.length
  | [] => rfl
  | w :: vs => by unfold restoreE; rw [List.length_set]; exact restoreE_len
theorem restoreE_get {v : Nat} : ∀ {vs : List Nat} {sl : Sl}, (restoreE ρ ρ' vs)[v]? = some sl → (v ∈ vs ∧ sl = (ρ[v]?).getD .no) ∨ (v ∉ vs ∧ ρ'[v]? = some sl)
  | [], sl, h => .inr ⟨by simp, h⟩
  | w :: vs, sl, h => by
    unfold restoreE at h
    rcases set_get h with ⟨rfl, h, _⟩ | ⟨ne, h⟩
    · exact .inl ⟨List.mem_cons_self, h.symm⟩
    · rcases restoreE_get h with ⟨m, e⟩ | ⟨m, e⟩
      · exact .inl ⟨List.mem_cons_of_mem _ m, e⟩
      · exact .inr ⟨by simp only [List.mem_cons, not_or]; exact ⟨Ne.symm ne, m⟩, e⟩
theorem restoreE_out {v : Nat} : ∀ {vs : List Nat}, v ∉ vs → (restoreE ρ ρ' vs)[v]? = ρ'[v]?
  | [], _ => rfl
  | w :: vs, h => by
    simp only [List.mem_cons, not_or] at h
    unfold restoreE
    rw [List.getElem?_set_ne (Ne.symm h.1)]
    exact restoreE_out h.2
/-- slots forgotten, the frame's and the data's -/
theorem StOk.wiped {vs : List Nat} (S : StOk G B F H σ ρ) (hc : vs.all (noIo ρ) = true) : StOk G B F H (wipe σ vs) (wipeE ρ vs) := by
  have hio : ∀ v ∈ vs, ∀ c, ρ[v]? ≠ some (.io c) := fun v hv => noIo_ne (List.all_eq_true.mp hc v hv)
  have old : ∀ {v : Nat} {sl : Sl}, (wipeE ρ vs)[v]? = some sl → sl ≠ .no → v ∉ vs ∧ ρ[v]? = some sl := fun h n => by
    rcases wipeE_get h with ⟨_, e⟩ | h
    · exact (n e).elim
    · exact h
  have at' : ∀ {v : Nat} {x : Option V}, v ∉ vs → σ[v]? = some x → (wipe σ vs)[v]? = some x := fun nv h => by rw [wipe_out nv]; exact h
  refine ⟨S.ff, S.fh, S.keep, S.grow, fun j d w => ?_, fun j k w => ?_, fun j k w => ?_, fun j k w => ?_, fun j m k k' b ne w1 w2 g1 g2 => ?_, fun j m k k' b ne w1 w2 g1 g2 => ?_, by rw [wipe_length, wipeE_len]; exact S.len, S.in0, S.sub0, S.inR, fun b hb => ?_⟩
  · obtain ⟨n, w⟩ := old w (by intro z; cases z)
    obtain ⟨v, h1, h2⟩ := S.dat j d w
    exact ⟨v, at' n h1, h2⟩
  · obtain ⟨n, w⟩ := old w (by intro z; cases z)
    obtain ⟨a, o, h1, h2⟩ := S.own j k w
    exact ⟨a, o, at' n h1, h2⟩
  · obtain ⟨n, w⟩ := old w (by intro z; cases z)
    obtain ⟨a, o, h1, h2⟩ := S.io j k w
    exact ⟨a, o, at' n h1, h2⟩
  · obtain ⟨n, w⟩ := old w (by intro z; cases z)
    obtain ⟨a, o, h1, h2⟩ := S.rd j k w
    exact ⟨a, o, at' n h1, h2⟩
  · obtain ⟨n1, w1⟩ := old w1 (by intro z; cases z)
    have g1' : (wipe σ vs)[j]? = some (some (V.ref b)) := g1
    rw [wipe_out n1] at g1'
    have g2' : (wipe σ vs)[m]? = some (some (V.ref b)) := g2
    rcases w2 with w2 | w2 <;> obtain ⟨n2, w2⟩ := old w2 (by intro z; cases z) <;> rw [wipe_out n2] at g2'
    · exact S.dist j m k k' b ne w1 (.inl w2) g1' g2'
    · exact S.dist j m k k' b ne w1 (.inr w2) g1' g2'
  · obtain ⟨n1, w1⟩ := old w1 (by intro z; cases z)
    obtain ⟨n2, w2⟩ := old w2 (by intro z; cases z)
    have g1' : (wipe σ vs)[j]? = some (some (V.ref b)) := g1
    have g2' : (wipe σ vs)[m]? = some (some (V.ref b)) := g2
    rw [wipe_out n1] at g1'
    rw [wipe_out n2] at g2'
    exact S.distI j m k k' b ne w1 w2 g1' g2'
  · obtain ⟨j, k, e1, e2⟩ := S.all b hb
    exact ⟨j, k, by rw [wipeE_out (fun hj => hio j hj k e1)]; exact e1, e2⟩
theorem StOk.restored {vs : List Nat} {ρ2 : Env} (S : StOk G B F H σ ρ) (hc : vs.all (plainAt ρ) = true) (T : StOk G B F' H' (wipe σ vs) ρ2) (e : Sub F F') (hz : ∀ v ∈ vs, noIo ρ2 v = true) : StOk G B F' H' σ (restoreE ρ ρ2 vs) := by
  have pl : ∀ v ∈ vs, ρ[v]? = some .no ∨ ∃ d, ρ[v]? = some (.d d) := fun v hv => by
    have := List.all_eq_true.mp hc v hv
    unfold plainAt at this
    cases q : ρ[v]? with
    | none => simp [q] at this
    | some sl => cases sl <;> simp_all
  have old : ∀ {v : Nat} {sl : Sl}, (restoreE ρ ρ2 vs)[v]? = some sl → (∀ d, sl ≠ .d d) → sl ≠ .no → v ∉ vs ∧ ρ2[v]? = some sl := fun {v sl} h n1 n2 => by
    rcases restoreE_get h with ⟨m, e⟩ | h
    · rcases pl v m with q | ⟨d, q⟩
      · rw [q] at e; exact (n2 e).elim
      · rw [q] at e; exact (n1 d e).elim
    · exact h
  have at' : ∀ {v : Nat} {x : Option V}, v ∉ vs → (wipe σ vs)[v]? = some x → σ[v]? = some x := fun nv h => by rw [wipe_out nv] at h; exact h
  refine ⟨T.ff, T.fh, T.keep, T.grow, fun j d w => ?_, fun j k w => ?_, fun j k w => ?_, fun j k w => ?_, fun j m k k' b ne w1 w2 g1 g2 => ?_, fun j m k k' b ne w1 w2 g1 g2 => ?_, by rw [restoreE_len, ← T.len, wipe_length], T.in0, T.sub0, T.inR, fun b hb => ?_⟩
  · rcases restoreE_get w with ⟨m, e1⟩ | ⟨m, w⟩
    · rcases pl j m with q | ⟨d', q⟩
      · rw [q] at e1; cases e1
      · rw [q] at e1
        have e2 : Sl.d d = .d d' := e1
        injection e2 with e3
        subst e3
        obtain ⟨v, h1, h2⟩ := S.dat j _ q
        exact ⟨v, h1, h2.mono e _⟩
    · obtain ⟨v, h1, h2⟩ := T.dat j d w
      exact ⟨v, at' m h1, h2⟩
  · obtain ⟨n, w⟩ := old w (by intro d z; cases z) (by intro z; cases z)
    obtain ⟨a, o, h1, h2⟩ := T.own j k w
    exact ⟨a, o, at' n h1, h2⟩
  · obtain ⟨n, w⟩ := old w (by intro d z; cases z) (by intro z; cases z)
    obtain ⟨a, o, h1, h2⟩ := T.io j k w
    exact ⟨a, o, at' n h1, h2⟩
  · obtain ⟨n, w⟩ := old w (by intro d z; cases z) (by intro z; cases z)
    obtain ⟨a, o, h1, h2⟩ := T.rd j k w
    exact ⟨a, o, at' n h1, h2⟩
  · obtain ⟨n1, w1⟩ := old w1 (by intro d z; cases z) (by intro z; cases z)
    have g1' : (wipe σ vs)[j]? = some (some (V.ref b)) := by rw [wipe_out n1]; exact g1
    rcases w2 with w2 | w2 <;> obtain ⟨n2, w2⟩ := old w2 (by intro d z; cases z) (by intro z; cases z)
    · exact T.dist j m k k' b ne w1 (.inl w2) g1' (by show (wipe σ vs)[m]? = _; rw [wipe_out n2]; exact g2)
    · exact T.dist j m k k' b ne w1 (.inr w2) g1' (by show (wipe σ vs)[m]? = _; rw [wipe_out n2]; exact g2)
  · obtain ⟨n1, w1⟩ := old w1 (by intro d z; cases z) (by intro z; cases z)
    obtain ⟨n2, w2⟩ := old w2 (by intro d z; cases z) (by intro z; cases z)
    exact T.distI j m k k' b ne w1 w2 (by show (wipe σ vs)[j]? = _; rw [wipe_out n1]; exact g1) (by show (wipe σ vs)[m]? = _; rw [wipe_out n2]; exact g2)
  · obtain ⟨j, k, e1, e2⟩ := T.all b hb
    have nj : j ∉ vs := fun hj => noIo_ne (hz j hj) k e1
    exact ⟨j, k, by rw [restoreE_out nj]; exact e1, e2⟩
/-- a cell beside the slots is changed -/
theorem StOk.touch (S : StOk G B F H σ ρ) {p : Addr} {o : HO} (h1 : F p = none) (h3 : B.H0 p = none) (h4 : ∀ (i : Nat) (k : Cell), ρ[i]? = some (.own k) ∨ ρ[i]? = some (.io k) → ¬ At σ i p) : StOk G B F (upd H p o) σ ρ := by
  refine ⟨S.ff, fun a u q => by rw [upd_ne (ne_of_none q h1)]; exact S.fh a u q, fun a u q na => by rw [upd_ne (ne_of_none q h3)]; exact S.keep a u q na, S.grow, S.dat, fun i c q => ?_, fun i c q => ?_, S.rd, S.dist, S.distI, S.len, S.in0, S.sub0, S.inR, S.all⟩
  · obtain ⟨a, u, g1, g2, g3, g4, g5⟩ := S.own i c q
    have ne : a ≠ p := fun z => by subst z; exact h4 i c (.inl q) g1
    exact ⟨a, u, g1, g2, by rw [upd_ne ne]; exact g3, g4, g5⟩
  · obtain ⟨a, u, g1, g2, g3, g4, g5, g6⟩ := S.io i c q
    have ne : a ≠ p := fun z => by subst z; exact h4 i c (.inr q) g1
    exact ⟨a, u, g1, g2, g3, g4, by rw [upd_ne ne]; exact g5, g6⟩

theorem PostG.noX {α β : Type} {f : Out α} {k : α → Env → Out β} {P : β → Env → Hp → Hp → Prop} {P' : α → Env → Hp → Hp → Prop} (h : PostG G Y B W σ P F (noX (f.bind k)))
    (hk : ∀ a ρ F' H', f = .ok a ρ → Sub F F' → StOk G B F' H' σ ρ → PostG G Y B W σ P F' (noX (k a ρ)) → P' a ρ F' H') : PostG G Y B W0 σ P' F f := by
  cases f with
  | ok a ρ => exact fun F' H' e S => hk a ρ F' H' rfl e S (PostG.mono (F := F) h e)
  | exc x ρ => exact False.elim h
  | stuck => exact False.elim h
theorem PostG.hid {α : Type} {p : Addr} {o : HO} {P P' : α → Env → Hp → Hp → Prop} {Wx : WX} {q : Out α} (bk : ∀ F' H' σ' ρ', StOk G (B.hid p o) F' H' σ' ρ' → StOk G B F' H' σ' ρ' ∧ F' p = none ∧ H' p = some o ∧ ∀ (i : Nat) (k : Cell), ρ'[i]? = some (.own k) ∨ ρ'[i]? = some (.io k) → ¬ At σ' i p)
    (h : PostG G Y B Wx σ P F q) (hp : ∀ a ρ F' H', StOk G (B.hid p o) F' H' σ ρ → P a ρ F' H' → P' a ρ F' H') : PostG G Y (B.hid p o) Wx σ P' F q := by
  cases q with
  | ok a ρ => exact fun F' H' e S => hp _ _ _ _ S (h F' H' e (bk _ _ _ _ S).1)
  | exc x ρ => exact fun cls dx F' H' e S => h cls dx F' H' e (bk _ _ _ _ S).1
  | stuck => exact h
theorem upd_id {p : Addr} {o : HO} (h : H p = some o) : upd H p o = H := by
  funext a
  by_cases e : a = p
  · subst e; rw [upd_same, h]
  · rw [upd_ne e]
/-- the state of a comprehension between two turns: the list so far stands at D -/
structure CompAt (G : Gi) (B : Bs) (σ : L2.St) (F H : Hp) (ρ : Env) (p : Addr) (acc : List D) : Prop where
  ok : StOk G B F H σ ρ
  fp : F p = none
  hp : ∃ xs, H p = some (.lst xs) ∧ Reps G F xs acc
  h0 : B.H0 p = none
  ns : ∀ (i : Nat) (k : Cell), ρ[i]? = some (.own k) ∨ ρ[i]? = some (.io k) → ¬ At σ i p

theorem frz_postG {r : Rv} {u : V} {β : Type} {k : D → Env → Out β} {P : β → Env → Hp → Hp → Prop} (S : StOk G B F H σ ρ) (R : RvRep G B F H σ ρ u r) (h : PostG G Y B W σ P F (noX ((frz r ρ).bind k))) :
    ∃ d ρ' F', frz r ρ = .ok d ρ' ∧ Sub F F' ∧ StOk G B F' H σ ρ' ∧ Rep G F' u d ∧ PostG G Y B W σ P F' (noX (k d ρ')) := by
  cases q : frz r ρ with
  | exc x ρ1 => exact (frz_no_exc q).elim
  | stuck => rw [q] at h; exact False.elim h
  | ok d ρ1 =>
    rw [q] at h
    obtain ⟨F1, e1, S1, r1⟩ := frz_ok S R q
    exact ⟨d, ρ1, F1, rfl, e1, S1, r1, PostG.mono (F := F) h e1⟩
theorem comp_items {t : GF} {c : TF} {e : EF} {vs : List Nat} {J : It} {ds : List D} {P : List D → Env → Hp → Hp → Prop} {Qd : Hp → Prop} (hJ : Gives G B J ds F) {p : Addr} (S : StOk G B F H (wipe σ vs) ρ) (hp : H p = none)
    (h : PostG G Y B W (wipe σ vs) P F (noX (compL t c e vs ds [] ρ)))
    (hd : ∀ F' H' ρ' acc, Sub F F' → CompAt G B (wipe σ vs) F' H' ρ' p acc → P acc ρ' F' H' → Qd H') :
    ∃ Wd : Nat → Nat → Hp → Prop, (∃ m, Wd 0 m (upd H p (.lst []))) ∧ ∀ i m H, Wd i m H →
      (J.stop i H ∧ Qd H) ∨ (J.go i H ∧ ∃ Nx : Hp → Prop, (∀ H', Nx H' → ∃ m', m' < m ∧ Wd (i + 1) m' H') ∧ ∀ x H', J.yld i H x H' → tG G vs t x (wipe σ vs) H' fun σ2 H2 => wipe σ2 vs = wipe σ vs ∧ tT G Y W0 c σ2 H2 fun b H3 =>
        if b = true then tE G Y W0 e σ2 H3 fun y H4 => ∃ acc, H4 p = some (.lst acc) ∧ acc.length < sizeLine ∧ Nx (upd H4 p (.lst (acc ++ [y]))) else Nx H3) := by
  have hww : ∀ (vs : List Nat), wipe (wipe σ vs) vs = wipe σ vs := by
    intro vs
    apply List.ext_getElem?
    intro j
    by_cases hj : j ∈ vs
    · have key : ∀ (τ : L2.St) (l : List Nat), j ∈ l → (wipe τ l)[j]? = if j < τ.length then some none else none := by
        intro τ l hl
        induction l with
        | nil => cases hl
        | cons v l ih =>
          unfold wipe
          by_cases hv : v = j
          · subst hv
            by_cases hlt : v < τ.length
            · rw [List.getElem?_set_self (by rw [wipe_length]; exact hlt), if_pos hlt]
            · rw [List.getElem?_eq_none (by rw [List.length_set, wipe_length]; omega), if_neg hlt]
          · rw [List.getElem?_set_ne hv]
            rcases List.mem_cons.mp hl with z | z
            · exact (hv z.symm).elim
            · exact ih z
      rw [key _ _ hj, key _ _ hj, wipe_length]
    · rw [wipe_out hj]
  refine lc_it hJ (fun i H' => ∃ F' ρ' acc, Sub F F' ∧ CompAt G B (wipe σ vs) F' H' ρ' p acc ∧ PostG G Y B W (wipe σ vs) P F' (noX (compL t c e vs (ds.drop i) acc ρ'))) ?_ (fun i H' _ ⟨F', ρ', acc, e1, C, _⟩ => ⟨F', _, ρ', e1, C.ok⟩) ?_ ?_
  · refine ⟨F, ρ, [], Sub.rfl, ⟨S.beside hp, S.fh.free hp, ⟨[], upd_same, .nil⟩, S.new0 hp, fun i k hk ha => ?_⟩, h⟩
    rcases hk with hk | hk
    · obtain ⟨a, o, g1, _, g3, _⟩ := S.own i k hk
      obtain rfl := at_inj g1 ha; rw [hp] at g3; cases g3
    · obtain ⟨a, o, g1, _, _, _, g3, _⟩ := S.io i k hk
      obtain rfl := at_inj g1 ha; rw [hp] at g3; cases g3
  · rintro i x H1 H2 hi ⟨F1, ρ1, acc, e1, C, pp⟩ ⟨d, hdi, hy⟩
    obtain ⟨xs, hxs, rxs⟩ := C.hp
    obtain ⟨S1, bk⟩ := C.ok.hide C.fp hxs C.h0 C.ns
    obtain ⟨F2, e2, S2, r2⟩ := hy _ F1 _ ρ1 e1 S1
    have hdr : ds.drop i = d :: ds.drop (i + 1) := by
      have hlt : i < ds.length := lt_of_get hdi
      rw [List.drop_eq_getElem_cons hlt]
      congr 1
      rw [List.getElem?_eq_getElem hlt] at hdi
      exact Option.some.inj hdi
    rw [hdr] at pp
    have pp2 := PostG.mono (F := F1) pp e2
    refine ⟨_, F2, ρ1, d, S2, r2, ?_⟩
    -- the end of a turn that keeps nothing, of one that keeps y
    have fin : ∀ (F' : Hp) (H' : Hp) (σ' : L2.St) (ρ' : Env) (xs' : List V) (acc' : List D), Sub F1 F' → wipe σ' vs = wipe σ vs → StOk G (B.hid p (.lst xs)) F' H' σ' ρ' → vs.all (noIo ρ') = true → Reps G F' xs' acc' →
        PostG G Y B W (wipe σ vs) P F' (noX (compL t c e vs (ds.drop (i + 1)) acc' (wipeE ρ' vs))) → ∃ F'' ρ'' acc'', Sub F F'' ∧ CompAt G B (wipe σ vs) F'' (upd H' p (.lst xs')) ρ'' p acc'' ∧ PostG G Y B W (wipe σ vs) P F'' (noX (compL t c e vs (ds.drop (i + 1)) acc'' ρ'')) := by
      intro F' H' σ' ρ' xs' acc' e' w' S' hc r' p'
      obtain ⟨T, f1, f2, f3⟩ := bk _ _ _ _ S'
      have T2 := T.wiped hc
      rw [w'] at T2
      have ns : ∀ (j : Nat) (k : Cell), (wipeE ρ' vs)[j]? = some (.own k) ∨ (wipeE ρ' vs)[j]? = some (.io k) → ¬ At (wipe σ vs) j p := by
        intro j k hk ha
        have hk' : j ∉ vs ∧ (ρ'[j]? = some (.own k) ∨ ρ'[j]? = some (.io k)) := by
          rcases hk with hk | hk <;> rcases wipeE_get hk with ⟨_, z⟩ | ⟨n, z⟩ <;> first | cases z | exact ⟨n, .inl z⟩ | exact ⟨n, .inr z⟩
        refine f3 j k hk'.2 ?_
        have ha' : (wipe σ vs)[j]? = some (some (V.ref p)) := ha
        rw [← w', wipe_out hk'.1] at ha'
        exact ha'
      exact ⟨F', _, acc', e1.trans e', ⟨T2.touch f1 C.h0 ns, f1, ⟨xs', upd_same, r'⟩, C.h0, ns⟩, p'⟩
    -- the base's own wish follows that of the hidden one
    revert pp2
    show PostG G Y B W (wipe σ vs) P F2 (noX ((ofO (t d ρ1)).bind fun _ ρ1 => (c ρ1).bind fun b ρ2 => if b then (opd e ρ2).bind fun r ρ3 => (frz r ρ3).bind fun x ρ4 => lim acc.length (if vs.all (noIo ρ4) then compL t c e vs (ds.drop (i + 1)) (acc ++ [x]) (wipeE ρ4 vs) else .stuck) else if vs.all (noIo ρ2) then compL t c e vs (ds.drop (i + 1)) acc (wipeE ρ2 vs) else .stuck)) → _
    cases t d ρ1 with
    | none => exact fun p => False.elim p
    | some ρ2 =>
      intro pp3 σ3 F3 H3 w3 e3 S3
      have w3' : wipe σ3 vs = wipe σ vs := w3.trans (hww vs)
      refine ⟨w3', _, F3, ρ2, S3, ?_⟩
      revert pp3
      show PostG G Y B W (wipe σ vs) P F2 (noX ((c ρ2).bind fun b ρ2 => if b then (opd e ρ2).bind fun r ρ3 => (frz r ρ3).bind fun x ρ4 => lim acc.length (if vs.all (noIo ρ4) then compL t c e vs (ds.drop (i + 1)) (acc ++ [x]) (wipeE ρ4 vs) else .stuck) else if vs.all (noIo ρ2) then compL t c e vs (ds.drop (i + 1)) acc (wipeE ρ2 vs) else .stuck)) → _
      cases c ρ2 with
      | stuck => exact fun p => False.elim p
      | exc x ρ3 => exact fun p => False.elim p
      | ok b ρ3 =>
        intro pp4 F4 H4 e4 S4
        cases b with
        | false =>
          refine iteF ?_
          have pp5 : PostG G Y B W (wipe σ vs) P F2 (noX (if vs.all (noIo ρ3) then compL t c e vs (ds.drop (i + 1)) acc (wipeE ρ3 vs) else .stuck)) := pp4
          by_cases hc : vs.all (noIo ρ3) = true
          · rw [if_pos hc] at pp5
            have := fin F4 H4 σ3 ρ3 xs acc (e2.trans (e3.trans e4)) w3' S4 hc (rxs.mono (e2.trans (e3.trans e4)) _) (PostG.mono (F := F2) pp5 (e3.trans e4))
            rw [upd_id ((bk _ _ _ _ S4).2.2.1)] at this
            exact this
          · rw [if_neg hc] at pp5; exact False.elim pp5
        | true =>
          refine iteT (tE_opd ⟨_, F4, ρ3, S4, ?_⟩)
          revert pp4
          show PostG G Y B W (wipe σ vs) P F2 (noX ((opd e ρ3).bind fun r ρ3 => (frz r ρ3).bind fun x ρ4 => lim acc.length (if vs.all (noIo ρ4) then compL t c e vs (ds.drop (i + 1)) (acc ++ [x]) (wipeE ρ4 vs) else .stuck))) → _
          cases opd e ρ3 with
          | stuck => exact fun p => False.elim p
          | exc x ρ4 => exact fun p => False.elim p
          | ok r ρ4 =>
            intro pp5 u F5 H5 e5 S5 R5
            have hp5 := (bk _ _ _ _ S5).2.2.1
            have pp6 : PostG G Y B W (wipe σ vs) P F2 (noX ((frz r ρ4).bind fun x ρ4 => lim acc.length (if vs.all (noIo ρ4) then compL t c e vs (ds.drop (i + 1)) (acc ++ [x]) (wipeE ρ4 vs) else .stuck))) := pp5
            cases hf : frz r ρ4 with
            | stuck => rw [hf] at pp6; exact False.elim pp6
            | exc x ρ5 => exact (frz_no_exc hf).elim
            | ok x ρ5 =>
              rw [hf] at pp6
              obtain ⟨F6, e6, S6, r6⟩ := frz_ok S5 R5 hf
              have pp7 : PostG G Y B W (wipe σ vs) P F2 (noX (lim acc.length (if vs.all (noIo ρ5) then compL t c e vs (ds.drop (i + 1)) (acc ++ [x]) (wipeE ρ5 vs) else .stuck))) := pp6
              unfold lim at pp7
              by_cases hl : acc.length ≤ 100000
              · rw [if_pos hl] at pp7
                by_cases hc : vs.all (noIo ρ5) = true
                · rw [if_pos hc] at pp7
                  have e16 : Sub F1 F6 := e2.trans (e3.trans (e4.trans (e5.trans e6)))
                  refine ⟨xs, hp5, by rw [rxs.length]; exact Nat.lt_of_le_of_lt hl (by decide), ?_⟩
                  exact fin F6 H5 σ3 ρ5 (xs ++ [u]) (acc ++ [x]) e16 w3' S6 hc ((rxs.mono e16 _).append (.one r6)) (PostG.mono (F := F2) pp7 (e3.trans (e4.trans (e5.trans e6))))
                · rw [if_neg hc] at pp7; exact False.elim pp7
              · rw [if_neg hl] at pp7; exact False.elim pp7
  · rintro H1 ⟨F1, ρ1, acc, e1, C, pp⟩
    rw [List.drop_length] at pp
    exact hd F1 H1 ρ1 acc e1 C (pp F1 H1 Sub.rfl C.ok)
theorem wipeE_noIo {vs : List Nat} {ρ : Env} {v : Nat} (hv : v ∈ vs) (hl : v < ρ.length) : noIo (wipeE ρ vs) v = true := by
  have h1 : v < (wipeE ρ vs).length := by rw [wipeE_len]; exact hl
  have h2 := List.getElem?_eq_getElem h1
  rcases wipeE_get h2 with ⟨_, e⟩ | ⟨n, _⟩
  · unfold noIo; rw [h2, e]
  · exact (n hv).elim
theorem noIo_lt {ρ : Env} {v : Nat} (h : noIo ρ v = true) : v < ρ.length := by
  unfold noIo at h
  cases q : ρ[v]? with
  | none => simp [q] at h
  | some sl => exact lt_of_get q
theorem compL_noIo {t : GF} {c : TF} {e : EF} {vs : List Nat} : ∀ {ds acc : List D} {ρ ρ' : Env} {acc' : List D}, (∀ v ∈ vs, noIo ρ v = true) → compL t c e vs ds acc ρ = .ok acc' ρ' → ∀ v ∈ vs, noIo ρ' v = true
  | [], acc, ρ, ρ', acc', h, q => by cases q; exact h
  | d :: ds, acc, ρ, ρ', acc', h, q => by
    unfold compL at q
    cases q1 : t d ρ with
    | none => rw [q1] at q; cases q
    | some ρ1 =>
      rw [q1] at q
      simp only [ofO, Out.bind_ok] at q
      cases q2 : c ρ1 with
      | stuck => rw [q2] at q; cases q
      | exc x ρ2 => rw [q2] at q; cases q
      | ok b ρ2 =>
        rw [q2] at q
        simp only [Out.bind_ok] at q
        cases b with
        | false =>
          simp only [Bool.false_eq_true, if_false] at q
          by_cases hc : vs.all (noIo ρ2) = true
          · rw [if_pos hc] at q
            exact compL_noIo (fun v hv => wipeE_noIo hv (noIo_lt (List.all_eq_true.mp hc v hv))) q
          · rw [if_neg hc] at q; cases q
        | true =>
          simp only [if_true] at q
          cases q3 : opd e ρ2 with
          | stuck => rw [q3] at q; cases q
          | exc x ρ2 => rw [q3] at q; cases q
          | ok r ρ3 =>
            rw [q3] at q
            simp only [Out.bind_ok] at q
            cases q4 : frz r ρ3 with
            | stuck => rw [q4] at q; cases q
            | exc x ρ2 => rw [q4] at q; cases q
            | ok x ρ4 =>
              rw [q4] at q
              simp only [Out.bind_ok] at q
              unfold lim at q
              by_cases hl : acc.length ≤ 100000
              · rw [if_pos hl] at q
                by_cases hc : vs.all (noIo ρ4) = true
                · rw [if_pos hc] at q
                  exact compL_noIo (fun v hv => wipeE_noIo hv (noIo_lt (List.all_eq_true.mp hc v hv))) q
                · rw [if_neg hc] at q; cases q
              · rw [if_neg hl] at q; cases q
theorem compI_hz {t : GF} {c : TF} {e : EF} {vs : List Nat} {ds : List D} {ρ ρ' : Env} {acc : List D} (q : compL t c e vs ds [] (wipeE ρ vs) = .ok acc ρ') (hc : vs.all (plainAt ρ) = true) : ∀ v ∈ vs, noIo ρ' v = true := by
  refine compL_noIo (fun v hv => wipeE_noIo hv ?_) q
  have := List.all_eq_true.mp hc v hv
  unfold plainAt at this
  cases q : ρ[v]? with
  | none => simp [q] at this
  | some sl => exact lt_of_get q
theorem compI_ok {t : GF} {c : TF} {e : EF} {vs : List Nat} {ds : List D} {Q : VK} (S : StOk G B F H σ ρ) {J : It} (hJ : Gives G B J ds F) (h : Post G Y B W σ F Q (compI t c e vs ds ρ)) :
    ∀ p, H p = none → ∃ Wd : Nat → Nat → Hp → Prop, (∃ m, Wd 0 m (upd H p (.lst []))) ∧ ∀ i m H, Wd i m H →
      (J.stop i H ∧ Q (.ref p) H) ∨ (J.go i H ∧ ∃ Nx : Hp → Prop, (∀ H', Nx H' → ∃ m', m' < m ∧ Wd (i + 1) m' H') ∧ ∀ x H', J.yld i H x H' → tG G vs t x (wipe σ vs) H' fun σ2 H2 => wipe σ2 vs = wipe σ vs ∧ tT G Y W0 c σ2 H2 fun b H3 =>
        if b = true then tE G Y W0 e σ2 H3 fun y H4 => ∃ acc, H4 p = some (.lst acc) ∧ acc.length < sizeLine ∧ Nx (upd H4 p (.lst (acc ++ [y]))) else Nx H3) := by
  intro p hp
  unfold compI at h
  by_cases hc : vs.all (plainAt ρ) = true
  · rw [if_pos hc] at h
    have hc2 : vs.all (noIo ρ) = true := by
      rw [List.all_eq_true] at hc ⊢
      intro v hv
      have := hc v hv
      unfold plainAt at this
      unfold noIo
      split at this <;> simp_all
    have S2 := S.wiped hc2
    refine comp_items (W := W) (P := fun acc ρ' F' H' => compL t c e vs ds [] (wipeE ρ vs) = .ok acc ρ' ∧ ∀ (u : V), RvRep G B F' H' σ (restoreE ρ ρ' vs) u (.new (.lst acc)) → StOk G B F' H' σ (restoreE ρ ρ' vs) → Q u H') hJ S2 hp ?_ ?_
    · cases hq : compL t c e vs ds [] (wipeE ρ vs) with
      | stuck => rw [hq] at h; exact False.elim h
      | exc x ρ1 => rw [hq] at h; exact False.elim h
      | ok acc ρ1 =>
        rw [hq] at h
        intro F' H' e' S'
        refine ⟨rfl, fun u R T => ?_⟩
        have h' : Post G Y B W σ F Q (.ok (.new (.lst acc)) (restoreE ρ ρ1 vs)) := h
        exact h' u F' H' e' T R
    · rintro F' H' ρ' acc e' C ⟨hq, k⟩
      have T : StOk G B F' H' σ (restoreE ρ ρ' vs) := S.restored hc C.ok e' (compI_hz hq hc)
      obtain ⟨xs, hxs, rxs⟩ := C.hp
      refine k _ ⟨p, _, rfl, C.fp, hxs, ⟨xs, rfl, rxs⟩, C.h0, fun i m hm ha => ?_⟩ T
      have : i ∉ vs ∧ (ρ'[i]? = some (.own m) ∨ ρ'[i]? = some (.io m)) := by
        have pl : ∀ v ∈ vs, ρ[v]? = some .no ∨ ∃ d, ρ[v]? = some (.d d) := fun v hv => by
          have := List.all_eq_true.mp hc v hv
          unfold plainAt at this
          cases q : ρ[v]? with
          | none => simp [q] at this
          | some sl => cases sl <;> simp_all
        rcases hm with hm | hm <;> rcases restoreE_get hm with ⟨hv, z⟩ | ⟨n, z⟩
        · rcases pl i hv with q | ⟨d, q⟩ <;> rw [q] at z <;> cases z
        · exact ⟨n, .inl z⟩
        · rcases pl i hv with q | ⟨d, q⟩ <;> rw [q] at z <;> cases z
        · exact ⟨n, .inr z⟩
      exact C.ns i m this.2 (by show (wipe σ vs)[i]? = _; rw [wipe_out this.1]; exact ha)
  · rw [if_neg hc] at h; exact False.elim h
theorem Post.back {i : Nat} {B2 : Bs} {Q : VK} {o : Out Rv} (hb : ∀ F' H' σ' ρ', StOk G B2 F' H' σ' ρ' → StOk G B F' H' σ' (back i ρ') ∧ ∀ u r, RvRep G B2 F' H' σ' ρ' u r → RvRep G B F' H' σ' (back i ρ') u r)
    (h : Post G Y B W σ F Q (mapEnv (Nz.back i) o)) : Post G Y B2 W σ F Q o := by
  cases o with
  | stuck => exact h
  | exc x ρ => exact fun cls dx F' H' e S R => h cls dx F' H' e (hb _ _ _ _ S).1 R
  | ok r ρ => exact fun u F' H' e S R => h u F' H' e (hb _ _ _ _ S).1 ((hb _ _ _ _ S).2 u r R)
theorem t_comp {f : IF} {t : GF} {c : TF} {e : EF} {vs : List Nat} {Q : VK} (h : tE G Y W (fComp f t c e vs) σ H Q) : tLc (tI G Y W f) (tG G vs t) (tT G Y W0 c) (tE G Y W0 e) vs σ H Q := by
  obtain ⟨B, F, ρ, S, p⟩ := h
  refine ⟨B, F, ρ, S, PostG.seq p.g fun src ρ1 F1 H1 _ e1 S1 p1 => ?_⟩
  cases src with
  | items ds => exact fun J hJ => compI_ok S1 hJ (Post.ofG p1)
  | lend i ds =>
    intro a xs q ha hx r
    obtain ⟨S2, bk⟩ := S1.lend q ha hx
    have nA : ¬ (B.lnt a (.lst xs) i).A a := fun z => by
      obtain ⟨b', o', k1, k2, k3, k4, k5⟩ := S1.own i _ q
      obtain rfl := at_inj k1 ha
      obtain ⟨_, u, e⟩ := S1.in0 _ z
      rw [k5] at e; cases e
    have e0 : (B.lnt a (.lst xs) i).H0 a = some (.lst xs) := upd_same
    exact compI_ok S2 (gives_kept e0 nA r) (Post.back bk (Post.ofG p1))
end

section
variable {X : Cx} {G : Gi} {Y : Xi} {W : WX} {k : Nat} {a b c e : Expr} {es : List Expr} {pos : Pos} {fa fb fc : EF} {ta tb : TF} {fs : AF} {rest : List Expr} {tg : Expr}
/-! ### the judgements of walks -/
theorem PI.weak {t t' : TI} (h : PI X tg e t) (w : ∀ σ H R, t' σ H R → t σ H R) : PI X tg e t' := ⟨fun pins s σ H R I h' => h.run pins s σ H R I (w σ H R h')⟩
theorem PG.weak {t t' : TG} (h : PG X e t) (w : ∀ v σ H Q, t' v σ H Q → t v σ H Q) : PG X e t' := ⟨fun pins s σ H v u Q I r h' => h.run pins s σ H v u Q I r (w v σ H Q h')⟩
theorem PGs.weak {t t' : TGs} (h : PGs X es t) (w : ∀ v σ H Q, t' v σ H Q → t v σ H Q) : PGs X es t' := ⟨fun pins s σ H v u Q I r h' => h.run pins s σ H v u Q I r (w v σ H Q h')⟩
abbrev JI (X : Cx) (G : Gi) (Y : Xi) (W : WX) (tg e : Expr) (f : IF) : Prop := PI X tg e (tI G Y W f)
abbrev JG (X : Cx) (G : Gi) (vs : List Nat) (tg : Expr) (t : GF) : Prop := PG X tg (tG G vs t)
abbrev JGs (X : Cx) (G : Gi) (vs : List Nat) (tg : List Expr) (t : GFs) : Prop := PGs X tg (tGs G vs t)
end
end Nz

set_option Elab.async false
set_option linter.all false
set_option maxRecDepth 100000
set_option maxHeartbeats 4000000
/-! Nz8: defs: what they compute, their calls, new instances, attributes. -/
namespace Nz
open PySem L2
inductive Arg where
  | d (x : D)
  | io (c : Cell)
  | rd (c : Cell)
def Arg.sl : Arg → Sl
  | .d x => .d x
  | .io c => .io c
  | .rd c => .rd c
inductive FRes where
  | d (x : D)
  | new (c : Cell)
inductive FOut where
  | ret (r : FRes) (outs : List (Option Cell))
  | exc (x : Ex) (outs : List (Option Cell))
  | stuck
abbrev Fn := List Arg → FOut

/-- the base at a def's entry -/
def entB (F H : Hp) (us : List V) (as : List Arg) : Bs := { H0 := H, F0 := F, A := fun a => ∃ (i : Nat) (c : Cell), as[i]? = some (.io c) ∧ us[i]? = some (V.ref a), R := fun i a => ∃ c, as[i]? = some (.rd c) ∧ us[i]? = some (V.ref a), vs := fun i => us[i]? }
structure EndOk (G : Gi) (B : Bs) (F F' H' : Hp) (as : List Arg) (outs : List (Option Cell)) : Prop where
  ex : Sub F F'
  st : ∃ σ' ρ', StOk G B F' H' σ' ρ' ∧ ∀ (i : Nat) (c : Cell), as[i]? = some (.io c) → ∃ c', outs[i]? = some (some c') ∧ ρ'[i]? = some (.io c')
def FrRep (G : Gi) (H F' H' : Hp) (u : V) : FRes → Prop
  | .d x => Rep G F' u x
  | .new c => ∃ p o, u = .ref p ∧ F' p = none ∧ H' p = some o ∧ CellRep G F' o c ∧ H p = none
def FPost (G : Gi) (Y : Xi) (B : Bs) (F : Hp) (as : List Arg) (Q : VK) (E : XK) : FOut → Prop
  | .ret r outs => ∀ u F' H', EndOk G B F F' H' as outs → FrRep G B.H0 F' H' u r → Q u H'
  | .exc x outs => ∀ cls dx F' H', EndOk G B F F' H' as outs → ExRep G Y F' x cls dx → E cls dx H'
  | .stuck => False
/-- a def's promise: it computes Φ -/
def spF (G : Gi) (Y : Xi) (n : Nat) (Φ : Fn) : Sp := fun us H Q E => us.length = n ∧ ∃ F as, as.length = n ∧ StOk G (entB F H us as) F H (us.map some) (as.map Arg.sl) ∧ FPost G Y (entB F H us as) F as Q E (Φ as)

def outsZ : List Arg → Env → Option (List (Option Cell))
  | [], _ => some []
  | .io _ :: as, .io c :: ρ => (outsZ as ρ).map (some c :: ·)
  | .io _ :: _, _ => none
  | _ :: as, _ :: ρ => (outsZ as ρ).map (none :: ·)
  | _ :: _, [] => none
def finE (as : List Arg) (r : FRes) (ρ : Env) : FOut := match outsZ as ρ with
  | some o => .ret r o
  | none => .stuck
def finF (as : List Arg) (o : Out Fl) : FOut := match o with
  | .ok .next ρ => finE as (.d .non) ρ
  | .ok (.ret (.d x)) ρ => finE as (.d x) ρ
  | .ok (.ret (.new c)) ρ => finE as (.new c) ρ
  | .exc x ρ => match outsZ as ρ with
    | some o => .exc x o
    | none => .stuck
  | _ => .stuck
/-- a def of np parameters and nl slots -/
def defF (np nl : Nat) (f : SF) : Fn := fun as => if as.length = np then finF as (f (as.map Arg.sl ++ List.replicate (nl - np) .no)) else .stuck

section
variable {G : Gi} {B : Bs} {F H F' H' : Hp} {σ : L2.St} {ρ ρ' : Env} {Y : Xi} {W : WX}
theorem outsZ_ok : ∀ {as : List Arg} {ρ : Env} {o : List (Option Cell)}, outsZ as ρ = some o → ∀ (i : Nat) (c : Cell), as[i]? = some (.io c) → ∃ c', o[i]? = some (some c') ∧ ρ[i]? = some (.io c')
  | [], _, _, _, i, c, h => by simp at h
  | a :: as, [], o, h, i, c, _ => by cases a <;> cases h
  | a :: as, sl :: ρ, o, h, i, c, hi => by
    have key : (∃ k m, a = .io k ∧ sl = .io m ∧ (outsZ as ρ).map (some m :: ·) = some o) ∨ ((∀ k, a ≠ .io k) ∧ (outsZ as ρ).map (none :: ·) = some o) := by
      cases a with
      | d x => exact .inr ⟨(fun k z => nomatch z), h⟩
      | rd k => exact .inr ⟨(fun k z => nomatch z), h⟩
      | io k =>
        cases sl with
        | io m => exact .inl ⟨k, m, rfl, rfl, h⟩
        | _ => cases h
    clear h
    rcases key with ⟨k, m, rfl, rfl, h⟩ | ⟨n, h⟩
    · cases q : outsZ as ρ with
      | none => rw [q] at h; cases h
      | some o2 =>
        rw [q] at h; cases h
        cases i with
        | zero => exact ⟨m, rfl, rfl⟩
        | succ i => exact outsZ_ok q i c (by simpa using hi)
    · cases q : outsZ as ρ with
      | none => rw [q] at h; cases h
      | some o2 =>
        rw [q] at h; cases h
        cases i with
        | zero => simp at hi; exact (n c hi).elim
        | succ i => exact outsZ_ok q i c (by simpa using hi)
theorem StOk.pad (S : StOk G B F H σ ρ) (n : Nat) : StOk G B F H (σ ++ List.replicate n none) (ρ ++ List.replicate n .no) := by
  have old : ∀ {j : Nat} {sl : Sl}, (ρ ++ List.replicate n .no)[j]? = some sl → sl ≠ .no → ρ[j]? = some sl := fun {j sl} h ne => by
    by_cases hj : j < ρ.length
    · rwa [List.getElem?_append_left hj] at h
    · rw [List.getElem?_append_right (by omega)] at h
      have := List.mem_of_getElem? h
      exact (ne (List.eq_of_mem_replicate this)).elim
  have up : ∀ {j : Nat} {x : Option V}, σ[j]? = some x → (σ ++ List.replicate n none)[j]? = some x := fun {j x} h => by
    rw [List.getElem?_append_left (lt_of_get h)]; exact h
  have dn : ∀ {j : Nat} {a : Addr}, j < σ.length → At (σ ++ List.replicate n none) j a → At σ j a := fun {j a} hj h => by
    have h' : (σ ++ List.replicate n none)[j]? = some (some (V.ref a)) := h
    rwa [List.getElem?_append_left hj] at h'
  refine ⟨S.ff, S.fh, S.keep, S.grow, fun j d w => ?_, fun j k w => ?_, fun j k w => ?_, fun j k w => ?_, fun j m k k' b ne w1 w2 g1 g2 => ?_, fun j m k k' b ne w1 w2 g1 g2 => ?_, by simp [S.len], S.in0, S.sub0, S.inR, fun b hb => ?_⟩
  · obtain ⟨v, h1, h2⟩ := S.dat j d (old w (by intro z; cases z)); exact ⟨v, up h1, h2⟩
  · obtain ⟨a, o, h1, h2⟩ := S.own j k (old w (by intro z; cases z)); exact ⟨a, o, up h1, h2⟩
  · obtain ⟨a, o, h1, h2⟩ := S.io j k (old w (by intro z; cases z)); exact ⟨a, o, up h1, h2⟩
  · obtain ⟨a, o, h1, h2⟩ := S.rd j k (old w (by intro z; cases z)); exact ⟨a, o, up h1, h2⟩
  · have e1 := old w1 (by intro z; cases z)
    rcases w2 with w2 | w2 <;> have e2 := old w2 (by intro z; cases z)
    · exact S.dist j m k k' b ne e1 (.inl e2) (dn (by rw [S.len]; exact lt_of_get e1) g1) (dn (by rw [S.len]; exact lt_of_get e2) g2)
    · exact S.dist j m k k' b ne e1 (.inr e2) (dn (by rw [S.len]; exact lt_of_get e1) g1) (dn (by rw [S.len]; exact lt_of_get e2) g2)
  · have e1 := old w1 (by intro z; cases z)
    have e2 := old w2 (by intro z; cases z)
    exact S.distI j m k k' b ne e1 e2 (dn (by rw [S.len]; exact lt_of_get e1) g1) (dn (by rw [S.len]; exact lt_of_get e2) g2)
  · obtain ⟨j, k, e1, e2⟩ := S.all b hb
    exact ⟨j, k, by rw [List.getElem?_append_left (lt_of_get e1)]; exact e1, e2⟩

/-- a body that computes f keeps the def's promise -/
theorem body_ok {np nl : Nat} {us : List V} {as : List Arg} {f : SF} {Q : VK} {E : XK} {N : List Str} (hN : N.length = nl) (hu : us.length = np) (hl : as.length = np) (S : StOk G (entB F H us as) F H (us.map some) (as.map Arg.sl)) (h : FPost G Y (entB F H us as) F as Q E (defF np nl f as)) :
    tS G Y (fun cls d _ H => E cls d H) f { nx := fun _ H' => Q .non H', rt := Q } (L2.start N us) H := by
  have S2 : StOk G (entB F H us as) F H (L2.start N us) (as.map Arg.sl ++ List.replicate (nl - np) .no) := by
    have := S.pad (nl - np)
    unfold L2.start
    rw [hN, hu]
    exact this
  refine ⟨entB F H us as, F, _, S2, ?_⟩
  unfold defF at h
  rw [if_pos hl] at h
  revert h
  cases f (as.map Arg.sl ++ List.replicate (nl - np) .no) with
  | stuck => exact fun h => h
  | exc x ρ =>
    intro h cls dx σ' F' H' e T R
    unfold finF at h
    cases q : outsZ as ρ with
    | none => simp only [q] at h; exact False.elim h
    | some o => simp only [q] at h; exact h cls dx F' H' ⟨e, σ', ρ, T, outsZ_ok q⟩ R
  | ok fl ρ =>
    cases fl with
    | brk => exact fun h => False.elim h
    | cont => exact fun h => False.elim h
    | next =>
      intro h σ' F' H' e T
      unfold finF finE at h
      cases q : outsZ as ρ with
      | none => simp only [q] at h; exact False.elim h
      | some o => simp only [q] at h; exact h .non F' H' ⟨e, σ', ρ, T, outsZ_ok q⟩ .non
    | ret r =>
      cases r with
      | slot i => exact fun h => False.elim h
      | d x =>
        intro h u σ' F' H' e T R
        unfold finF finE at h
        cases q : outsZ as ρ with
        | none => simp only [q] at h; exact False.elim h
        | some o => simp only [q] at h; exact h u F' H' ⟨e, σ', ρ, T, outsZ_ok q⟩ R
      | new c =>
        intro h u σ' F' H' e T R
        unfold finF finE at h
        cases q : outsZ as ρ with
        | none => simp only [q] at h; exact False.elim h
        | some o =>
          simp only [q] at h
          obtain ⟨p, ob, rfl, h2, h3, h4, h5, h6⟩ := R
          exact h _ F' H' ⟨e, σ', ρ, T, outsZ_ok q⟩ ⟨p, ob, rfl, h2, h3, h4, h5⟩

/-! ### the caller's side -/
def mkArg (m : Bool) (r : Rv) (ρ : Env) : Option Arg := match r with
  | .d x => if m then none else some (.d x)
  | .slot j => match ρ[j]? with
    | some (.d x) => if m then none else some (.d x)
    | some (.own c) => some (if m then .io c else .rd c)
    | some (.io c) => some (if m then .io c else .rd c)
    | some (.rd c) => if m then none else some (.rd c)
    | _ => none
  | .new _ => none
def mkArgs : List Bool → List Rv → Env → Option (List Arg)
  | [], [], _ => some []
  | m :: ms, r :: rs, ρ => (mkArg m r ρ).bind fun a => (mkArgs ms rs ρ).map (a :: ·)
  | _, _, _ => none
/-- no slot that is lent to be changed is handed over twice -/
def clash (rs : List Rv) (as : List Arg) (i j : Nat) : Bool := match rs[i]?, rs[j]?, as[i]? with
  | some (.slot a), some (.slot b), some (.io _) => a == b
  | _, _, _ => false
def lentOnce (rs : List Rv) (as : List Arg) : Bool := (List.range rs.length).all fun i => (List.range rs.length).all fun j => i == j || !clash rs as i j
theorem lentOnce_ok {rs : List Rv} {as : List Arg} (h : lentOnce rs as = true) {i j a b : Nat} {c : Cell} (ne : i ≠ j) (hi : rs[i]? = some (.slot a)) (hj : rs[j]? = some (.slot b)) (hc : as[i]? = some (.io c)) : a ≠ b := by
  intro z
  subst z
  have h1 := List.all_eq_true.mp h i (List.mem_range.mpr (lt_of_get hi))
  have h2 := List.all_eq_true.mp h1 j (List.mem_range.mpr (lt_of_get hj))
  unfold clash at h2
  rw [hi, hj, hc] at h2
  simp [ne] at h2
def putC (j : Nat) (c : Cell) (ρ : Env) : Env := match ρ[j]? with
  | some (.own _) => ρ.set j (.own c)
  | some (.io _) => ρ.set j (.io c)
  | _ => ρ
def upds : List Rv → List Arg → List (Option Cell) → Env → Env
  | .slot j :: rs, .io _ :: as, some c :: os, ρ => upds rs as os (putC j c ρ)
  | _ :: rs, _ :: as, _ :: os, ρ => upds rs as os ρ
  | _, _, _, ρ => ρ
def callK (rs : List Rv) (as : List Arg) (o : FOut) (ρ : Env) : Out Rv := match o with
  | .ret (.d x) outs => .ok (.d x) (upds rs as outs ρ)
  | .ret (.new c) outs => .ok (.new c) (upds rs as outs ρ)
  | .exc x outs => .exc x (upds rs as outs ρ)
  | .stuck => .stuck
def fCall (sg : List Bool) (Φ : Fn) (fs : AF) : EF := fun ρ => (fs ρ).bind fun rs ρ1 => match mkArgs sg rs ρ1 with
  | some as => if lentOnce rs as then callK rs as (Φ as) ρ1 else .stuck
  | none => .stuck
theorem mkArgs_at : ∀ {sg : List Bool} {rs : List Rv} {as : List Arg} {us : List V}, mkArgs sg rs ρ = some as → RvReps G B F H σ ρ us rs → us.length = as.length ∧ ∀ (i : Nat) (a : Arg), as[i]? = some a → ∃ r u m, rs[i]? = some r ∧ us[i]? = some u ∧ mkArg m r ρ = some a ∧ RvRep G B F H σ ρ u r
  | [], [], _, _, h, R => by cases h; cases R; exact ⟨rfl, fun i a h => by simp at h⟩
  | [], _ :: _, _, _, h, R => by cases h
  | _ :: _, [], _, _, h, R => by cases h
  | m :: ms, r :: rs, as, _, h, R => by
    cases R with
    | cons R1 R2 =>
      unfold mkArgs at h
      cases q1 : mkArg m r ρ with
      | none => rw [q1] at h; cases h
      | some a1 =>
        rw [q1] at h
        have h' : (mkArgs ms rs ρ).map (a1 :: ·) = some as := h
        cases q2 : mkArgs ms rs ρ with
        | none => rw [q2] at h'; cases h'
        | some as2 =>
          rw [q2] at h'
          cases h'
          obtain ⟨hl, ih⟩ := mkArgs_at q2 R2
          refine ⟨by simp [hl], fun i a hi => ?_⟩
          cases i with
          | zero => simp at hi; subst hi; exact ⟨r, _, m, rfl, rfl, q1, R1⟩
          | succ i => exact ih i a (by simpa using hi)
/-- what kind of slot an argument comes from -/
theorem mkArg_io {m : Bool} {r : Rv} {c : Cell} (h : mkArg m r ρ = some (.io c)) : ∃ j, r = .slot j ∧ (ρ[j]? = some (.own c) ∨ ρ[j]? = some (.io c)) := by
  unfold mkArg at h
  cases r with
  | d x => cases m <;> cases h
  | new c => cases h
  | slot j =>
    cases q : ρ[j]? with
    | none => simp [q] at h
    | some sl => cases sl <;> cases m <;> simp [q] at h <;> subst h <;> exact ⟨j, rfl, by simp [q]⟩
theorem mkArg_rd {m : Bool} {r : Rv} {c : Cell} (h : mkArg m r ρ = some (.rd c)) : ∃ j, r = .slot j ∧ (ρ[j]? = some (.own c) ∨ ρ[j]? = some (.io c) ∨ ρ[j]? = some (.rd c)) := by
  unfold mkArg at h
  cases r with
  | d x => cases m <;> cases h
  | new c => cases h
  | slot j =>
    cases q : ρ[j]? with
    | none => simp [q] at h
    | some sl => cases sl <;> cases m <;> simp [q] at h <;> subst h <;> exact ⟨j, rfl, by simp [q]⟩
theorem mkArg_d {m : Bool} {r : Rv} {x : D} {u : V} (S : StOk G B F H σ ρ) (R : RvRep G B F H σ ρ u r) (h : mkArg m r ρ = some (.d x)) : Rep G F u x := by
  unfold mkArg at h
  cases r with
  | d x => cases m <;> cases h; exact R
  | new c => cases h
  | slot j =>
    have hu : σ[j]? = some (some u) := R
    cases q : ρ[j]? with
    | none => simp [q] at h
    | some sl =>
      cases sl <;> cases m <;> simp [q] at h
      subst h
      obtain ⟨v, g1, g2⟩ := S.dat j _ q
      rw [hu] at g1; cases g1; exact g2
theorem StOk.cell (S : StOk G B F H σ ρ) {j : Nat} {c : Cell} {u : V} (hu : σ[j]? = some (some u)) (h : ρ[j]? = some (.own c) ∨ ρ[j]? = some (.io c)) : ∃ p o, u = .ref p ∧ F p = none ∧ H p = some o ∧ CellRep G F o c := by
  rcases h with h | h
  · obtain ⟨p, o, g1, g2, g3, g4, _⟩ := S.own j c h; exact ⟨p, o, at_val hu g1, g2, g3, g4⟩
  · obtain ⟨p, o, g1, _, _, g2, g3, g4⟩ := S.io j c h; exact ⟨p, o, at_val hu g1, g2, g3, g4⟩
theorem call_start {sg : List Bool} {rs : List Rv} {as : List Arg} {us : List V} (S : StOk G B F H σ ρ) (R : RvReps G B F H σ ρ us rs) (h : mkArgs sg rs ρ = some as) (h1 : lentOnce rs as = true) : StOk G (entB F H us as) F H (us.map some) (as.map Arg.sl) := by
  obtain ⟨hl, at'⟩ := mkArgs_at h R
  have arg : ∀ {i : Nat} {sl : Sl}, (as.map Arg.sl)[i]? = some sl → ∃ a, as[i]? = some a ∧ a.sl = sl := fun {i sl} w => by
    rw [List.getElem?_map] at w
    cases q : as[i]? with
    | none => rw [q] at w; cases w
    | some a => rw [q] at w; exact ⟨a, rfl, Option.some.inj w⟩
  have up : ∀ {i : Nat} {u : V}, us[i]? = some u → (us.map some)[i]? = some (some u) := fun {i u} w => by rw [List.getElem?_map, w]; rfl
  have noown : ∀ {i : Nat} {c : Cell}, (as.map Arg.sl)[i]? ≠ some (.own c) := fun {i c} w => by
    obtain ⟨a, _, e⟩ := arg w
    cases a <;> cases e
  have isio : ∀ {i : Nat} {c : Cell}, (as.map Arg.sl)[i]? = some (.io c) → as[i]? = some (.io c) := fun {i c} w => by
    obtain ⟨a, q, e⟩ := arg w
    cases a <;> cases e; exact q
  -- the slots behind two arguments
  have ioAt : ∀ {i : Nat} {c : Cell}, as[i]? = some (.io c) → ∃ j u p o, rs[i]? = some (.slot j) ∧ us[i]? = some u ∧ u = .ref p ∧ σ[j]? = some (some u) ∧ (ρ[j]? = some (.own c) ∨ ρ[j]? = some (.io c)) ∧ F p = none ∧ H p = some o ∧ CellRep G F o c := fun {i c} w => by
    obtain ⟨r, u, m, g1, g2, g3, g4⟩ := at' i _ w
    obtain ⟨j, rfl, q⟩ := mkArg_io g3
    obtain ⟨p, o, e, k1, k2, k3⟩ := S.cell g4 q
    exact ⟨j, u, p, o, g1, g2, e, g4, q, k1, k2, k3⟩
  refine ⟨Sub.rfl, S.fh, fun a o w _ => w, fun a o w => .inl w, fun i d w => ?_, fun i c w => (noown w).elim, fun i c w => ?_, fun i c w => ?_, fun i j c c' p ne w => (noown w).elim, fun i j c c' p ne w1 w2 g1 g2 => ?_, by simp [hl], fun a ha => ?_, S.fh, fun i a ha => ?_, fun a ha => ?_⟩
  · obtain ⟨a, q, e⟩ := arg w
    cases a with
    | d x =>
      cases e
      obtain ⟨r, u, m, g1, g2, g3, g4⟩ := at' i _ q
      exact ⟨u, up g2, mkArg_d S g4 g3⟩
    | io c => cases e
    | rd c => cases e
  · obtain ⟨j, u, p, o, g1, g2, rfl, g4, g5, k1, k2, k3⟩ := ioAt (isio w)
    exact ⟨p, o, up g2, g2, ⟨i, c, isio w, g2⟩, k1, k2, k3⟩
  · obtain ⟨a, q, e⟩ := arg w
    cases a with
    | d x => cases e
    | io c => cases e
    | rd c =>
      cases e
      obtain ⟨r, u, m, g1, g2, g3, g4⟩ := at' i _ q
      obtain ⟨j, rfl, hj⟩ := mkArg_rd g3
      have key : ∃ p o, u = .ref p ∧ H p = some o ∧ CellRep G F o c := by
        rcases hj with hj | hj | hj
        · obtain ⟨p, o, e, _, k2, k3⟩ := S.cell g4 (.inl hj); exact ⟨p, o, e, k2, k3⟩
        · obtain ⟨p, o, e, _, k2, k3⟩ := S.cell g4 (.inr hj); exact ⟨p, o, e, k2, k3⟩
        · obtain ⟨p, o, k1, _, k2, _, k3, k4⟩ := S.rd j c hj
          exact ⟨p, o, at_val g4 k1, S.keep p o k3 k2, k4⟩
      obtain ⟨p, o, rfl, k2, k3⟩ := key
      refine ⟨p, o, up g2, g2, ?_, ⟨c, q, g2⟩, k2, k3⟩
      rintro ⟨i', c', w', hu'⟩
      obtain ⟨j', u', p', o', n1, n2, rfl, n4, n5, _⟩ := ioAt w'
      rw [hu'] at n2; cases n2
      have ne : i' ≠ i := fun z => by subst z; rw [q] at w'; cases w'
      have nj : j' ≠ j := lentOnce_ok h1 ne n1 g1 w'
      have a1 : At σ j p := g4
      have a2 : At σ j' p := n4
      rcases hj with hj | hj | hj
      · exact S.dist j j' c c' p (Ne.symm nj) hj n5 a1 a2
      · rcases n5 with n5 | n5
        · exact S.dist j' j c' c p nj n5 (.inr hj) a2 a1
        · exact S.distI j j' c c' p (Ne.symm nj) hj n5 a1 a2
      · obtain ⟨b, o2, k1, _, k4, _, k5, _⟩ := S.rd j c hj
        obtain rfl := at_inj k1 a1
        rcases n5 with n5 | n5
        · obtain ⟨b2, o3, m1, _, _, _, m5⟩ := S.own j' c' n5
          obtain rfl := at_inj m1 a2
          rw [k5] at m5; cases m5
        · obtain ⟨b2, o3, m1, _, m3, _⟩ := S.io j' c' n5
          obtain rfl := at_inj m1 a2
          exact k4 m3
  · obtain ⟨j1, u1, p1, o1, n1, n2, rfl, n4, n5, _⟩ := ioAt (isio w1)
    obtain ⟨j2, u2, p2, o2, m1, m2, rfl, m4, m5, _⟩ := ioAt (isio w2)
    have g1' : (us.map some)[i]? = some (some (V.ref p)) := g1
    have g2' : (us.map some)[j]? = some (some (V.ref p)) := g2
    rw [up n2] at g1'
    rw [up m2] at g2'
    cases g1'
    cases g2'
    have nj : j1 ≠ j2 := lentOnce_ok h1 ne n1 m1 (isio w1)
    rcases n5 with n5 | n5
    · exact S.dist j1 j2 c c' _ nj n5 m5 n4 m4
    · rcases m5 with m5 | m5
      · exact S.dist j2 j1 c' c _ (Ne.symm nj) m5 (.inr n5) m4 n4
      · exact S.distI j1 j2 c c' _ nj n5 m5 n4 m4
  · obtain ⟨i, c, w, hu⟩ := ha
    obtain ⟨j, u, p, o, g1, g2, rfl, g4, g5, k1, k2, k3⟩ := ioAt w
    rw [hu] at g2; cases g2
    exact ⟨k1, o, k2⟩
  · obtain ⟨c, w, hu⟩ := ha
    obtain ⟨r, u, m, g1, g2, g3, g4⟩ := at' i _ w
    obtain ⟨j, rfl, hj⟩ := mkArg_rd g3
    rw [hu] at g2; cases g2
    rcases hj with hj | hj | hj
    · obtain ⟨p, o, e, _, k2, _⟩ := S.cell g4 (.inl hj); cases e; exact ⟨o, k2⟩
    · obtain ⟨p, o, e, _, k2, _⟩ := S.cell g4 (.inr hj); cases e; exact ⟨o, k2⟩
    · obtain ⟨p, o, k1, _, k2, _, k3, _⟩ := S.rd j c hj
      have e := at_val g4 k1
      cases e; exact ⟨o, S.keep _ o k3 k2⟩
  · obtain ⟨i, c, w, hu⟩ := ha
    exact ⟨i, c, by rw [List.getElem?_map, w]; rfl, hu⟩
/-- the cells that came back are written into the slots -/
theorem putC_mut {j m : Nat} {c : Cell} {k : Cell} (h : ρ[m]? = some (.own k) ∨ ρ[m]? = some (.io k)) : ∃ k', (putC j c ρ)[m]? = some (.own k') ∨ (putC j c ρ)[m]? = some (.io k') := by
  unfold putC
  cases q : ρ[j]? with
  | none => exact ⟨k, h⟩
  | some sl =>
    cases sl with
    | no => exact ⟨k, h⟩
    | d x => exact ⟨k, h⟩
    | rd x => exact ⟨k, h⟩
    | own x =>
      by_cases e : j = m
      · subst e; exact ⟨c, .inl (List.getElem?_set_self (lt_of_get q))⟩
      · refine ⟨k, ?_⟩; rw [List.getElem?_set_ne e]; exact h
    | io x =>
      by_cases e : j = m
      · subst e; exact ⟨c, .inr (List.getElem?_set_self (lt_of_get q))⟩
      · refine ⟨k, ?_⟩; rw [List.getElem?_set_ne e]; exact h
theorem upds_ok {Hf : Hp} : ∀ {rs : List Rv} {as : List Arg} {os : List (Option Cell)} {us : List V} {ρ : Env} {Hk : Hp}, StOk G B F' Hk σ ρ → as.length = rs.length →
    (∀ (i : Nat) (c : Cell), as[i]? = some (.io c) → ∃ j p c' o, rs[i]? = some (.slot j) ∧ us[i]? = some (V.ref p) ∧ At σ j p ∧ os[i]? = some (some c') ∧ Hf p = some o ∧ CellRep G F' o c' ∧ ∃ k, ρ[j]? = some (.own k) ∨ ρ[j]? = some (.io k)) →
    (∀ a, (¬ ∃ (i : Nat) (c : Cell), as[i]? = some (.io c) ∧ us[i]? = some (V.ref a)) → Hf a = Hk a) → StOk G B F' Hf σ (upds rs as os ρ)
  | [], as, os, us, ρ, Hk, S, hl, hi, hf => by
    cases as with
    | cons a as => cases hl
    | nil =>
      have e : Hf = Hk := funext fun a => hf a (by rintro ⟨i, c, h, _⟩; simp at h)
      subst e
      cases os <;> exact S
  | r :: rs, [], os, us, ρ, Hk, S, hl, hi, hf => by cases hl
  | r :: rs, a :: as, [], us, ρ, Hk, S, hl, hi, hf => by
    have e : Hf = Hk := funext fun b => hf b (by
      rintro ⟨i, c, h, _⟩
      obtain ⟨_, _, _, _, _, _, _, g, _⟩ := hi i c h
      simp at g)
    subst e
    cases r <;> cases a <;> exact S
  | r :: rs, a :: as, o :: os, us, ρ, Hk, S, hl, hi, hf => by
    have skip : (∀ c, a ≠ .io c) → upds (r :: rs) (a :: as) (o :: os) ρ = upds rs as os ρ := fun n => by
      cases r <;> cases a <;> cases o <;> first | rfl | exact (n _ rfl).elim
    by_cases ha : ∃ c, a = .io c
    · obtain ⟨c, rfl⟩ := ha
      obtain ⟨j, p, c', ob, h1, h2, h3, h4, h5, h6, k, h7⟩ := hi 0 c rfl
      simp at h1 h4
      subst h1 h4
      have S2 : StOk G B F' (upd Hk p ob) σ (putC j c' ρ) := by
        unfold putC
        rcases h7 with h7 | h7
        · rw [h7]; exact S.change h7 rfl h3 h6
        · rw [h7]; exact S.change h7 rfl h3 h6
      have e : upds (.slot j :: rs) (.io c :: as) (some c' :: os) ρ = upds rs as os (putC j c' ρ) := rfl
      rw [e]
      refine upds_ok (us := us.tail) S2 (by simpa using hl) (fun i m hm => ?_) fun b hb => ?_
      · obtain ⟨j2, p2, c2, o2, n1, n2, n3, n4, n5, n6, k2, n7⟩ := hi (i + 1) m (by simpa using hm)
        obtain ⟨k3, n8⟩ := putC_mut (j := j) (c := c') n7
        exact ⟨j2, p2, c2, o2, by simpa using n1, by rw [List.getElem?_tail]; exact n2, n3, by simpa using n4, n5, n6, k3, n8⟩
      · by_cases eb : b = p
        · subst eb; rw [upd_same]; exact h5
        · rw [upd_ne eb]
          refine hf b ?_
          rintro ⟨i, m, hm, hu⟩
          cases i with
          | zero => rw [h2] at hu; cases hu; exact eb rfl
          | succ i => exact hb ⟨i, m, by simpa using hm, by rw [List.getElem?_tail]; exact hu⟩
    · rw [skip fun c z => ha ⟨c, z⟩]
      refine upds_ok (us := us.tail) S (by simpa using hl) (fun i m hm => ?_) fun b hb => ?_
      · obtain ⟨j2, p2, c2, o2, n1, n2, n3, n4, n5, n6, n7⟩ := hi (i + 1) m (by simpa using hm)
        exact ⟨j2, p2, c2, o2, by simpa using n1, by rw [List.getElem?_tail]; exact n2, n3, by simpa using n4, n5, n6, n7⟩
      · refine hf b ?_
        rintro ⟨i, m, hm, hu⟩
        cases i with
        | zero => simp at hm; exact ha ⟨m, hm⟩
        | succ i => exact hb ⟨i, m, by simpa using hm, by rw [List.getElem?_tail]; exact hu⟩
theorem call_back {sg : List Bool} {rs : List Rv} {as : List Arg} {us : List V} {outs : List (Option Cell)} (S : StOk G B F H σ ρ) (R : RvReps G B F H σ ρ us rs) (h : mkArgs sg rs ρ = some as) (h1 : lentOnce rs as = true)
    (E : EndOk G (entB F H us as) F F' H' as outs) : StOk G B F' H' σ (upds rs as outs ρ) := by
  obtain ⟨e, σ', ρ', T, hio⟩ := E
  obtain ⟨hl, at'⟩ := mkArgs_at h R
  have S0 := call_start S R h h1
  have nA : ∀ {a o}, F' a = some o → ¬ (entB F H us as).A a := fun {a o} w ha => by
    obtain ⟨z, o2, z2⟩ := S0.in0 a ha
    rcases T.grow a o w with y | y
    · rw [show (entB F H us as).F0 a = F a from rfl] at z y; rw [z] at y; cases y
    · rw [z2] at y; cases y
  have fr : ∀ {a}, F a = none → H a ≠ none → F' a = none := fun {a} w1 w2 => by
    cases q : F' a with
    | none => rfl
    | some o =>
      rcases T.grow a o q with y | y
      · rw [show (entB F H us as).F0 a = F a from rfl, w1] at y; cases y
      · exact (w2 y).elim
  have kp : ∀ {a o}, H a = some o → ¬ (entB F H us as).A a → H' a = some o := fun {a o} w na => T.keep a o w na
  -- the heap with the lent cells as they were
  classical
  have Sm : StOk G B F' (fun a => if (entB F H us as).A a then H a else H' a) σ ρ := by
    refine ⟨S.ff.trans e, fun a o w => ?_, fun a o w na => ?_, fun a o w => ?_, fun i d w => ?_, fun i c w => ?_, fun i c w => ?_, fun i c w => ?_, S.dist, S.distI, S.len, S.in0, S.sub0, S.inR, S.all⟩
    · rw [if_neg (nA w)]; exact T.fh a o w
    · by_cases ha : (entB F H us as).A a
      · rw [if_pos ha]; exact S.keep a o w na
      · rw [if_neg ha]; exact kp (S.keep a o w na) ha
    · rcases T.grow a o w with y | y
      · exact S.grow a o y
      · exact .inr (S.new0 y)
    · obtain ⟨v, g1, g2⟩ := S.dat i d w; exact ⟨v, g1, g2.mono e _⟩
    · obtain ⟨p, o, g1, g2, g3, g4, g5⟩ := S.own i c w
      refine ⟨p, o, g1, fr g2 (by rw [g3]; exact fun z => nomatch z), ?_, g4.mono e, g5⟩
      by_cases ha : (entB F H us as).A p
      · rw [if_pos ha]; exact g3
      · rw [if_neg ha]; exact kp g3 ha
    · obtain ⟨p, o, g1, g2, g3, g4, g5, g6⟩ := S.io i c w
      refine ⟨p, o, g1, g2, g3, fr g4 (by rw [g5]; exact fun z => nomatch z), ?_, g6.mono e⟩
      by_cases ha : (entB F H us as).A p
      · rw [if_pos ha]; exact g5
      · rw [if_neg ha]; exact kp g5 ha
    · obtain ⟨p, o, g1, gv, g2, g3, g4, g5⟩ := S.rd i c w
      exact ⟨p, o, g1, gv, g2, g3, g4, g5.mono e⟩
  have hlen : as.length = rs.length := by
    clear Sm fr nA kp T hio S0 at' h1
    induction sg generalizing rs as us with
    | nil => cases rs with
      | nil => cases h; rfl
      | cons r rs => cases h
    | cons m ms ih => cases rs with
      | nil => cases h
      | cons r rs =>
        cases R with
        | cons R1 R2 =>
          unfold mkArgs at h
          cases q1 : mkArg m r ρ with
          | none => rw [q1] at h; cases h
          | some a1 =>
            rw [q1] at h
            have h' : (mkArgs ms rs ρ).map (a1 :: ·) = some as := h
            cases q2 : mkArgs ms rs ρ with
            | none => rw [q2] at h'; cases h'
            | some as2 =>
              rw [q2] at h'
              cases h'
              simp [ih R2 q2 (by simpa using hl)]
  refine upds_ok (us := us) Sm hlen (fun i c w => ?_) fun a na => ?_
  · obtain ⟨r, u, m, g1, g2, g3, g4⟩ := at' i _ w
    obtain ⟨j, rfl, q⟩ := mkArg_io g3
    obtain ⟨c', n1, n2⟩ := hio i c w
    obtain ⟨p, o, k1, k2, k3, k4, k5, k6⟩ := T.io i c' n2
    have k2' : us[i]? = some (V.ref p) := k2
    rw [g2] at k2'; cases k2'
    exact ⟨j, p, c', o, g1, g2, g4, n1, k5, k6, c, q⟩
  · exact (if_neg na).symm
end
end Nz

set_option Elab.async false
set_option linter.all false
set_option maxRecDepth 100000
set_option maxHeartbeats 4000000
/-! Nz9: the judgements of calls, instances, attributes, statements; a def's promise by its body. -/
namespace Nz
open PySem L2
section
variable {G : Gi} {B : Bs} {F H F' H' : Hp} {σ : L2.St} {ρ ρ' : Env} {Y : Xi} {W : WX}
theorem t_call {n : Nat} {sg : List Bool} {Φ : Fn} {fs : AF} (hlen : ∀ as, Φ as ≠ .stuck → as.length = n) {Q : VK} (h : tE G Y W (fCall sg Φ fs) σ H Q) : tCallS (spF G Y n Φ) (WE W) (tA G Y W fs) σ H Q := by
  obtain ⟨B, F, ρ, S, p⟩ := h
  refine ⟨B, F, ρ, S, PostA.ofG (PostG.seq p.g fun rs ρ1 F1 H1 hr e1 S1 p1 us R => ?_)⟩
  cases hq : mkArgs sg rs ρ1 with
  | none => simp only [hq] at p1; exact False.elim p1
  | some as =>
    simp only [hq] at p1
    by_cases hl : lentOnce rs as = true
    · rw [if_pos hl] at p1
      have p2 := Post.ofG p1
      have S2 := call_start S1 R hq hl
      have hul : us.length = as.length := (mkArgs_at hq R).1
      have hn : as.length = n := hlen as (fun z => by rw [z] at p2; exact False.elim p2)
      refine ⟨hul.trans hn, F1, as, hn, S2, ?_⟩
      revert p2
      cases Φ as with
      | stuck => exact fun p => p
      | exc x outs => exact fun p cls dx F' H' E R' => p cls dx F' H' E.ex (call_back S1 R hq hl E) R'
      | ret r outs =>
        cases r with
        | d x => exact fun p u F' H' E R' => p u F' H' E.ex (call_back S1 R hq hl E) R'
        | new c =>
          intro p u F' H' E R'
          obtain ⟨q, o, rfl, g2, g3, g4, g5⟩ := R'
          have T := call_back S1 R hq hl E
          refine p _ F' H' E.ex T ⟨q, o, rfl, g2, g3, g4, S1.new0 g5, fun i k hk ha => ?_⟩
          -- the new cell stands in no slot: the slots' cells were there ahead of the call
          have old : ∃ o2, H1 q = some o2 := by
            have hσ : σ[i]? = some (some (V.ref q)) := ha
            have ex : ∃ k', ρ1[i]? = some (.own k') ∨ ρ1[i]? = some (.io k') := by
              clear p E T g2 g3 g4 g5
              have back1 : ∀ (rs : List Rv) (as : List Arg) (os : List (Option Cell)) (ρ : Env), (∃ k, (upds rs as os ρ)[i]? = some (.own k) ∨ (upds rs as os ρ)[i]? = some (.io k)) → ∃ k, ρ[i]? = some (.own k) ∨ ρ[i]? = some (.io k) := by
                intro rs
                induction rs with
                | nil => intro as os ρ h; cases as <;> cases os <;> exact h
                | cons r rs ih =>
                  intro as os ρ h
                  cases as with
                  | nil => cases r <;> cases os <;> exact h
                  | cons a as =>
                    cases os with
                    | nil => cases r <;> cases a <;> exact h
                    | cons o os =>
                      have step : (upds (r :: rs) (a :: as) (o :: os) ρ = upds rs as os ρ) ∨ ∃ j c, upds (r :: rs) (a :: as) (o :: os) ρ = upds rs as os (putC j c ρ) := by
                        cases r <;> cases a <;> cases o <;> first | exact .inl rfl | exact .inr ⟨_, _, rfl⟩
                      rcases step with e | ⟨j, c, e⟩
                      · rw [e] at h; exact ih _ _ _ h
                      · rw [e] at h
                        obtain ⟨k, hk⟩ := ih _ _ _ h
                        unfold putC at hk
                        split at hk
                        · rename_i q
                          rcases hk with hk | hk <;> rcases set_get hk with ⟨rfl, z, _⟩ | ⟨_, z⟩
                          · exact ⟨_, .inl q⟩
                          · exact ⟨_, .inl z⟩
                          · cases z
                          · exact ⟨_, .inr z⟩
                        · rename_i q
                          rcases hk with hk | hk <;> rcases set_get hk with ⟨rfl, z, _⟩ | ⟨_, z⟩
                          · cases z
                          · exact ⟨_, .inl z⟩
                          · exact ⟨_, .inr q⟩
                          · exact ⟨_, .inr z⟩
                        · exact ⟨k, hk⟩
              exact back1 rs as outs ρ1 ⟨k, hk⟩
            obtain ⟨k', hk'⟩ := ex
            obtain ⟨q2, o2, e2, _, g, _⟩ := S1.cell hσ hk'
            cases e2
            exact ⟨o2, g⟩
          obtain ⟨o2, z⟩ := old
          have g5' : H1 q = none := g5
          rw [g5'] at z; cases z
    · rw [if_neg hl] at p1; exact False.elim p1

/-! ### new instances -/
/-- C(..): __init__ fills the new instance's attributes, in the order nms -/
def newK (c : Nat) (nms : List Str) (rs : List Rv) (as : List Arg) (o : FOut) (ρ : Env) : Out Rv := match o with
  | .ret (.d .non) (some (.ins c' fs) :: _) => if c' = c ∧ fs.map (·.1) = nms then .ok (.d (.obj c (fs.map (·.2)))) ρ else .stuck
  | .exc x _ => .exc x ρ
  | _ => .stuck
def allD : List Arg → Bool
  | [] => true
  | .io _ :: _ => false
  | _ :: as => allD as
def fNew (c : Nat) (nms : List Str) (n : Nat) (Φ : Fn) (fs : AF) : EF := fun ρ => (fs ρ).bind fun rs ρ1 => match mkArgs (List.replicate n false) rs ρ1 with
  | some as => if lentOnce rs as && allD as then newK c nms rs as (Φ (.io (.ins c []) :: as)) ρ1 else .stuck
  | none => .stuck
theorem allD_ok : ∀ {as : List Arg}, allD as = true → ∀ (i : Nat) (c : Cell), as[i]? ≠ some (.io c)
  | [], _, i, c, h => by simp at h
  | a :: as, h, i, c, hi => by
    cases i with
    | zero => simp at hi; subst hi; cases h
    | succ i => cases a <;> first | exact allD_ok (as := as) h i c (by simpa using hi) | cases h
theorem t_new {c n : Nat} {nms : List Str} {Φ : Fn} {fs : AF} {E : XK} (hn : G.att c = nms) (hlen : ∀ as, Φ as ≠ .stuck → as.length = n + 1) {Q : VK} (hE : ∀ cls dx H', (W cls dx σ H' → E cls dx H')) (h : tE G Y W (fNew c nms n Φ fs) σ H Q) : tMake (G.cls c) (spF G Y (n + 1) Φ) [] E (tA G Y W fs) σ H Q := by
  obtain ⟨B, F, ρ, S, p⟩ := h
  refine ⟨B, F, ρ, S, PostA.ofG (PostG.seq p.g fun rs ρ1 F1 H1 hr e1 S1 p1 us R x dx hx hdx hne => ?_)⟩
  cases hq : mkArgs (List.replicate n false) rs ρ1 with
  | none => simp only [hq] at p1; exact False.elim p1
  | some as =>
    simp only [hq] at p1
    by_cases hl : (lentOnce rs as && allD as) = true
    · rw [if_pos hl] at p1
      rw [Bool.and_eq_true] at hl
      have p2 := Post.ofG p1
      have nio := allD_ok hl.2
      have hul : us.length = as.length := (mkArgs_at hq R).1
      have hstuck : Φ (.io (.ins c []) :: as) ≠ .stuck := fun z => by rw [z] at p2; exact False.elim p2
      have hna : (Arg.io (.ins c []) :: as).length = n + 1 := hlen _ hstuck
      rw [List.append_nil]
      -- the two new objects
      have Sa : StOk G B F1 (upd H1 dx (.own x)) σ ρ1 := S1.beside hdx
      have hx' : upd H1 dx (.own x) x = none := by rw [upd_ne (Ne.symm hne)]; exact hx
      have Sb : StOk G B F1 (upd (upd H1 dx (.own x)) x (.ins (G.cls c) dx [])) σ ρ1 := Sa.beside hx'
      have C0 := call_start S1 R hq hl.1
      have fx : F1 x = none := S1.fh.free hx
      have up : Sub H1 (upd (upd H1 dx (.own x)) x (.ins (G.cls c) dx [])) := fun a o w => by
        rw [upd_ne (ne_of_none w hx), upd_ne (ne_of_none w hdx)]; exact w
      have hS : StOk G (entB F1 (upd (upd H1 dx (.own x)) x (.ins (G.cls c) dx [])) (.ref x :: us) (.io (.ins c []) :: as)) F1 (upd (upd H1 dx (.own x)) x (.ins (G.cls c) dx [])) ((V.ref x :: us).map some) ((Arg.io (.ins c []) :: as).map Arg.sl) := by
        have noA : ∀ a, (entB F1 H1 us as).A a → False := fun a ⟨i, k, w, _⟩ => nio i k w
        have isA : ∀ a, (entB F1 (upd (upd H1 dx (.own x)) x (.ins (G.cls c) dx [])) (.ref x :: us) (.io (.ins c []) :: as)).A a → a = x := by
          rintro a ⟨i, k, w, hu⟩
          cases i with
          | zero => simp at hu; exact hu.symm
          | succ i => exact (nio i k (by simpa using w)).elim
        refine ⟨Sub.rfl, Sb.fh, fun a o w _ => w, fun a o w => .inl w, fun i d w => ?_, fun i k w => ?_, fun i k w => ?_, fun i k w => ?_, fun i j k k' b ne w => ?_, fun i j k k' b ne w1 w2 g1 g2 => ?_, by simp [hul], fun a ha => ?_, Sb.fh, fun i a ha => ?_, fun a ha => ?_⟩
        · cases i with
          | zero => simp [Arg.sl] at w
          | succ i => obtain ⟨v, g1, g2⟩ := C0.dat i d (by simpa using w); exact ⟨v, by simpa using g1, g2⟩
        · cases i with
          | zero => simp [Arg.sl] at w
          | succ i => obtain ⟨a, o, g1, g2, g3, g4, g5⟩ := C0.own i k (by simpa using w); rw [show (entB F1 H1 us as).H0 a = H1 a from rfl, g3] at g5; cases g5
        · cases i with
          | zero =>
            simp [Arg.sl] at w
            subst w
            exact ⟨x, _, rfl, rfl, ⟨0, _, rfl, rfl⟩, fx, upd_same, dx, [], rfl, rfl, .nil⟩
          | succ i => obtain ⟨a, o, g1, g2, g3, g4⟩ := C0.io i k (by simpa using w); exact (noA a g3).elim
        · cases i with
          | zero => simp [Arg.sl] at w
          | succ i =>
            obtain ⟨a, o, g1, gv, g2, ⟨k', g3, g3'⟩, g4, g5⟩ := C0.rd i k (by simpa using w)
            refine ⟨a, o, g1, gv, fun ha => ?_, ⟨k', by simpa using g3, by simpa using g3'⟩, up a o g4, g5⟩
            have := isA a ha
            subst this
            have g4' : H1 a = some o := g4
            rw [hx] at g4'; cases g4'
        · cases i with
          | zero => simp [Arg.sl] at w
          | succ i => obtain ⟨a, o, g1, g2, g3, g4, g5⟩ := C0.own i k (by simpa using w); rw [show (entB F1 H1 us as).H0 a = H1 a from rfl, g3] at g5; cases g5
        · have z : ∀ {i : Nat} {k : Cell}, ((Arg.io (.ins c []) :: as).map Arg.sl)[i]? = some (.io k) → i = 0 := fun {i k} w => by
            cases i with
            | zero => rfl
            | succ i => obtain ⟨a, o, g1, g2, g3, g4⟩ := C0.io i k (by simpa using w); exact (noA a g3).elim
          exact ne ((z w1).trans (z w2).symm)
        · obtain rfl := isA a ha
          exact ⟨fx, _, upd_same⟩
        · obtain ⟨k, w, hu⟩ := ha
          cases i with
          | zero => simp at w
          | succ i =>
            obtain ⟨o, z⟩ := C0.inR i a ⟨k, by simpa using w, by simpa using hu⟩
            exact ⟨o, up a o z⟩
        · obtain rfl := isA a ha
          exact ⟨0, _, rfl, rfl⟩
      refine ⟨by simp [hul]; simpa using hna, F1, _, hna, hS, ?_⟩
      -- what the caller has behind it
      have bk : ∀ {F' H' outs}, EndOk G (entB F1 (upd (upd H1 dx (.own x)) x (.ins (G.cls c) dx [])) (.ref x :: us) (.io (.ins c []) :: as)) F1 F' H' (.io (.ins c []) :: as) outs → ∃ k, outs[0]? = some (some k) ∧ StOk G B F' H' σ ρ1 ∧ F' x = none ∧ ∃ o, H' x = some o ∧ CellRep G F' o k := by
        rintro F' H' outs ⟨e, σ', ρ', T, hio⟩
        obtain ⟨k, k1, k2⟩ := hio 0 _ rfl
        obtain ⟨p', o, g1, g2, g3, g4, g5, g6⟩ := T.io 0 k k2
        have g2' : some (V.ref x) = some (V.ref p') := g2
        cases g2'
        have kp : ∀ {a o}, H1 a = some o → H' a = some o := fun {a o} w => T.keep a o (up a o w) (by
          rintro ⟨i, m, hm, hu⟩
          cases i with
          | zero => simp at hu; subst hu; rw [hx] at w; cases w
          | succ i => exact nio i m (by simpa using hm))
        have fr : ∀ {a}, F1 a = none → H1 a ≠ none → F' a = none := fun {a} w1 w2 => by
          cases q : F' a with
          | none => rfl
          | some o2 =>
            rcases T.grow a o2 q with y | y
            · rw [show (entB F1 _ (.ref x :: us) (.io (.ins c []) :: as)).F0 a = F1 a from rfl, w1] at y; cases y
            · cases r : H1 a with
              | none => exact (w2 r).elim
              | some o3 => have y' : upd (upd H1 dx (.own x)) x (.ins (G.cls c) dx []) a = none := y; rw [up a o3 r] at y'; cases y'
        refine ⟨k, k1, ?_, g4, o, g5, g6⟩
        refine ⟨S1.ff.trans e, T.fh, fun a u w na => kp (S1.keep a u w na), fun a u w => ?_, fun i d w => ?_, fun i m w => ?_, fun i m w => ?_, fun i m w => ?_, S1.dist, S1.distI, S1.len, S1.in0, S1.sub0, S1.inR, S1.all⟩
        · rcases T.grow a u w with y | y
          · exact S1.grow a u y
          · refine .inr (S1.new0 ?_)
            cases r : H1 a with
            | none => rfl
            | some o3 => have y' : upd (upd H1 dx (.own x)) x (.ins (G.cls c) dx []) a = none := y; rw [up a o3 r] at y'; cases y'
        · obtain ⟨v, m1, m2⟩ := S1.dat i d w; exact ⟨v, m1, m2.mono e _⟩
        · obtain ⟨a, u, m1, m2, m3, m4, m5⟩ := S1.own i m w
          exact ⟨a, u, m1, fr m2 (by rw [m3]; exact fun z => nomatch z), kp m3, m4.mono e, m5⟩
        · obtain ⟨a, u, m1, m2, m3, m4, m5, m6⟩ := S1.io i m w
          exact ⟨a, u, m1, m2, m3, fr m4 (by rw [m5]; exact fun z => nomatch z), kp m5, m6.mono e⟩
        · obtain ⟨a, u, m1, mv, m2, m3, m4, m5⟩ := S1.rd i m w
          exact ⟨a, u, m1, mv, m2, m3, m4, m5.mono e⟩
      revert p2
      cases Φ (.io (.ins c []) :: as) with
      | stuck => exact fun p => p
      | exc y outs =>
        intro p cls dx' F' H' E' R'
        obtain ⟨k, _, T, _⟩ := bk E'
        exact hE _ _ _ (p cls dx' F' H' E'.ex T R')
      | ret r outs =>
        cases r with
        | new k => exact fun p => False.elim p
        | d y =>
          intro p u F' H' E' R'
          obtain ⟨k, k1, T, fx', o, hx2, cr⟩ := bk E'
          cases y with
          | non =>
            cases outs with
            | nil => exact False.elim p
            | cons o1 os =>
              simp at k1
              subst k1
              cases k with
              | lst ds => exact False.elim p
              | dic ds => exact False.elim p
              | ins c' gs =>
                have p' : Post G Y B W σ F1 Q (if c' = c ∧ gs.map (·.1) = nms then .ok (.d (.obj c (gs.map (·.2)))) ρ1 else .stuck) := p
                by_cases hc : c' = c ∧ gs.map (·.1) = nms
                · rw [if_pos hc] at p'
                  obtain ⟨rfl, hnm⟩ := hc
                  obtain ⟨dx2, hs, rfl, h2, h3⟩ := cr
                  have R2 : u = .non := by cases R'; rfl
                  subst R2
                  refine ⟨rfl, ?_⟩
                  have h0 : B.H0 x = none := S1.new0 hx
                  have ns : ∀ (i : Nat) (m : Cell), ρ1[i]? = some (.own m) ∨ ρ1[i]? = some (.io m) → ¬ At σ i x := fun i m hm ha => by
                    obtain ⟨q, o2, e2, _, g, _⟩ := S1.cell (u := .ref x) ha hm
                    cases e2
                    rw [hx] at g; cases g
                  have T2 := T.adopt fx' hx2 h0 ns
                  have e2 : Sub F' (upd F' x (.ins (G.cls c') dx2 hs)) := Sub.new fx'
                  exact p' _ _ _ (E'.ex.trans e2) T2 (.obj upd_same (by rw [h2, hnm, hn]) (h3.mono e2 _))
                · rw [if_neg hc] at p'; exact False.elim p'
          | _ => exact False.elim p
    · rw [if_neg hl] at p1; exact False.elim p1
end
end Nz

set_option Elab.async false
set_option linter.all false
set_option maxRecDepth 100000
set_option maxHeartbeats 4000000
/-! Nz10: attributes; the judgements of walks, calls and statements; a def by its body. -/
namespace Nz
open PySem L2
section
variable {G : Gi} {B : Bs} {F H F' H' : Hp} {σ : L2.St} {ρ ρ' : Env} {Y : Xi} {W : WX}

/-! ### attributes -/
/-- where the attribute nm stands among those of a class, for the classes that have it -/
structure AttOk (G : Gi) (nm : Str) (tab : Nat → Option Nat) : Prop where
  cl : ∀ c k, tab c = some k → Cls G.K (G.cls c) ∧ NoAttr G.K (G.cls c) nm
  ix : ∀ c k, tab c = some k → (G.att c)[k]? = some nm ∧ ∀ j, j < k → (G.att c)[j]? ≠ some nm
def attP (tab : Nat → Option Nat) : D → Option Pr
  | .obj c ds => (tab c).bind fun k => ds[k]?.map Pr.d
  | _ => none
theorem lookup_at {α : Type} {nm : Str} : ∀ {fs : List (Str × α)} {k : Nat} {x : α}, (fs.map (·.1))[k]? = some nm → (∀ j, j < k → (fs.map (·.1))[j]? ≠ some nm) → (fs.map (·.2))[k]? = some x → fs.lookup nm = some x
  | [], k, x, h, _, _ => by simp at h
  | (f, y) :: fs, 0, x, h, _, e => by
    simp at h e
    subst h e
    simp [List.lookup]
  | (f, y) :: fs, k + 1, x, h, n, e => by
    have nf : (nm == f) = false := by
      have := n 0 (Nat.succ_pos k)
      simp at this
      simpa using fun z => this z.symm
    simp only [List.lookup, nf]
    exact lookup_at (k := k) (by simpa using h) (fun j hj => by have := n (j + 1) (Nat.succ_lt_succ hj); simpa using this) (by simpa using e)
def tAtt (K : PySem.W.Frag) (nm : Str) : V → Hp → VK → Prop := fun x H Q => ∃ a C dx fs v, x = .ref a ∧ H a = some (.ins C dx fs) ∧ Cls K C ∧ NoAttr K C nm ∧ fs.lookup nm = some v ∧ Q v H
theorem att_s {nm : Str} {tab : Nat → Option Nat} (T : AttOk G nm tab) : UnS G (tAtt G.K nm) (attP tab) := by
  intro F H x a pr hF hx hg Q hq
  cases a with
  | obj c ds =>
    unfold attP at hg
    cases ht : tab c with
    | none => simp [ht] at hg
    | some k =>
      cases hd : ds[k]? with
      | none => simp [ht, hd] at hg
      | some d =>
        simp [ht, hd] at hg
        subst hg
        have hx' : Rep G F x (.obj c ds) := by
          rcases hx with hx | ⟨_, _, _, _, _, z, _⟩
          · exact hx
          · cases z
        cases hx' with
        | @obj a' dx' _ fs' _ h1 h2 h3 =>
          obtain ⟨v, g1, g2⟩ := h3.get hd
          obtain ⟨i1, i2⟩ := T.ix c k ht
          rw [← h2] at i1 i2
          exact ⟨a', _, dx', fs', v, rfl, hF _ _ h1, (T.cl c k ht).1, (T.cl c k ht).2, lookup_at i1 i2 g1, hq v g2⟩
  | _ => cases hg
def putD (nm : Str) (x : D) : List (Str × D) → List (Str × D)
  | [] => [(nm, x)]
  | (f, y) :: fs => if f = nm then (f, x) :: fs else (f, y) :: putD nm x fs
theorem putF_rep {nm : Str} {v : V} {x : D} (r : Rep G F v x) : ∀ {gs : List (Str × V)} {fs : List (Str × D)}, gs.map (·.1) = fs.map (·.1) → Reps G F (gs.map (·.2)) (fs.map (·.2)) →
    (putF nm v gs).map (·.1) = (putD nm x fs).map (·.1) ∧ Reps G F ((putF nm v gs).map (·.2)) ((putD nm x fs).map (·.2))
  | [], [], _, _ => ⟨rfl, .cons r .nil⟩
  | [], (_, _) :: _, h, _ => by cases h
  | (_, _) :: _, [], h, _ => by cases h
  | (g, u) :: gs, (f, y) :: fs, h, R => by
    simp at h
    obtain ⟨rfl, h⟩ := h
    cases R with
    | cons R1 R2 =>
      unfold putF putD
      by_cases e : g = nm
      · rw [if_pos e, if_pos e]
        exact ⟨by simp [h, e], .cons r R2⟩
      · rw [if_neg e, if_neg e]
        obtain ⟨i1, i2⟩ := putF_rep r h R2
        exact ⟨by simp [i1], .cons R1 i2⟩
/-- self.nm = e, self a slot that holds an unfinished instance -/
def setA (i : Nat) (nm : Str) (x : D) (ρ : Env) : Out Fl := match ρ[i]? with
  | some (.io (.ins c fs)) => if fs.length < 900 then .ok .next (ρ.set i (.io (.ins c (putD nm x fs)))) else .stuck
  | _ => .stuck
def fSetA (f : EF) (i : Nat) (nm : Str) : SF := fun ρ => (opd f ρ).bind fun r ρ1 => (frz r ρ1).bind fun x ρ2 => setA i nm x ρ2
theorem t_setA {f : EF} {i : Nat} {nm : Str} (hc : ∀ c, Cls G.K (G.cls c) ∧ NoAttr G.K (G.cls c) nm ∨ True) {okc : Nat → Prop} {E : Ends} (hk : ∀ (ρ : Env) (c : Nat) (fs : List (Str × D)), ρ[i]? = some (.io (.ins c fs)) → Cls G.K (G.cls c) ∧ NoAttr G.K (G.cls c) nm) (h : tS G Y W (fSetA f i nm) E σ H) : sFld G.K (tVar i) (tE G Y W f) nm E σ H := by
  obtain ⟨B, F, ρ, S, p⟩ := h
  refine tE_opd ⟨B, F, ρ, S, Post.ofG (PostS.seqG p fun r ρ1 F1 H1 _ e1 S1 p1 u R => ?_)⟩
  obtain ⟨x, ρ2, F2, _, e2, S2, r2, p2⟩ := frz_post (Pp := fun o F => PostS G Y B W E F o) S1 R (fun _ h => h) (fun _ _ _ e h => h.mono e) p1
  unfold setA at p2
  split at p2
  · rename_i c fs q
    by_cases hl : fs.length < 900
    · rw [if_pos hl] at p2
      obtain ⟨a, o, g1, gv, gA, g2, g3, ⟨dx, gs, rfl, h2, h3⟩⟩ := S2.io i _ q
      obtain ⟨k1, k2⟩ := hk ρ2 c fs q
      obtain ⟨m1, m2⟩ := putF_rep (nm := nm) r2 h2 h3
      refine ⟨_, g1, a, _, dx, gs, rfl, g3, k1, k2, ?_, p2 σ F2 _ Sub.rfl (S2.change q rfl g1 ⟨dx, _, rfl, m1, m2⟩)⟩
      have : gs.length = fs.length := by have := congrArg List.length h2; simpa using this
      omega
    · rw [if_neg hl] at p2; exact False.elim p2
  · exact False.elim p2
end

/-! ### judgements -/
section
variable {X : Cx} {G : Gi} {Y : Xi} {W : WX} {k : Nat} {a b c e l : Expr} {es : List Expr} {pos : Pos} {fa fb fc : EF} {ta tb : TF} {fs : AF} {rest : List Expr} {tg : Expr} {t : GF} {u : GFs} {f g : SF} {fi : IF} {st : Stmt} {sts : List Stmt}
abbrev JS (X : Cx) (G : Gi) (Y : Xi) (W : WX) (st : Stmt) (f : SF) : Prop := PS X st (tS G Y W f)
abbrev JSs (X : Cx) (G : Gi) (Y : Xi) (W : WX) (st : List Stmt) (f : SF) : Prop := PSs X st (tS G Y W f)
/-- targets -/
theorem jg_name (i : Nat) {ws : List Nat} {x : Str} (C : Ctx X G W k) (hw : i ∈ ws := by simp) (hi : X.N[i]? = some x := by rfl) (hx : Loc X.env.scope x := by first | exact Or.inl rfl | exact Or.inr rfl) (hf : X.fn x = true ∨ X.env.scope.names.lookup x = some .local := by first | exact .inl rfl | exact .inr rfl) : JG X G ws (.Name x pos) (gfName i) :=
  PG.weak (pg_name C.nd hi hx hf) fun _ _ _ _ => tg_name hw
theorem jgs_nil {ws : List Nat} : JGs X G ws [] gfNil := PGs.weak pgs_nil fun _ _ _ _ => tg_nil
theorem jgs_cons {ws : List Nat} (h1 : JG X G ws e t) (h2 : JGs X G ws es u) (h3 : (assignEach (e :: es) X.env).map (·.2) = assign e X.env :: (assignEach es X.env).map (·.2) := by rfl) : JGs X G ws (e :: es) (gfCons t u) := PGs.weak (pgs_cons h1 h2 h3) fun _ _ _ _ => tg_cons
theorem jg_tup {ws : List Nat} {n j : Nat} (C : Ctx X G W k) (h : JGs X G ws es u) (hn : (assignEach es X.env).length = n := by rfl) (hst : (assignEach es X.env).findIdx? (·.1) = none := by rfl) : JG X G ws (.Tuple es j pos) (gfTup n u) :=
  PG.weak (pg_tup C.calm h hn hst) fun v σ H Q q => by rw [C.hK]; exact tg_tup q
/-- walks -/
theorem ji_seq (C : Ctx X G W k) (h : JE X G Y W l fa) : JI X G Y W tg l (fSeqI fa) := by
  refine ⟨fun pins s σ H R I hw => ?_⟩
  rcases seqI_cases hw with q | q | q
  · exact (pi_list h).run pins s σ H R I (by rw [C.hK]; exact q)
  · exact (pi_tup h).run pins s σ H R I (by rw [C.hK]; exact q)
  · exact (pi_str h).run pins s σ H R I q
theorem ji_rng1 {p : Pos} (hm : X.mg "range" = none) (h : JA X G Y W [a] fs) (hg : Gl X "range" := by rfl) (hs : starEach [a] X.env = [(false, eval a X.env)] := by rfl) : JI X G Y W tg (.Call (.Name "range" p) [a] [] pos) (fRng1 fs) :=
  PI.weak (pi_range1 hg hm h hs) fun _ _ _ => t_rng1
theorem ji_rng2 {p : Pos} (hm : X.mg "range" = none) (h : JA X G Y W [a, b] fs) (hg : Gl X "range" := by rfl) (hs : starEach [a, b] X.env = [(false, eval a X.env), (false, eval b X.env)] := by rfl) (hs2 : starEach [b] X.env = [(false, eval b X.env)] := by rfl) : JI X G Y W tg (.Call (.Name "range" p) [a, b] [] pos) (fRng2 fs) :=
  PI.weak (pi_range2 hg hm h hs hs2) fun _ _ _ => t_rng2
/-- comprehensions -/
abbrev JTs (X : Cx) (G : Gi) (Y : Xi) (W : WX) (ifs : List Expr) (f : TF) : Prop := PTs X ifs (tT G Y W f)
theorem PTs.weak {ifs : List Expr} {t t' : TT} (h : PTs X ifs t) (w : ∀ σ H Q, t' σ H Q → t σ H Q) : PTs X ifs t' := ⟨fun pins s σ H Q I h' => h.run pins s σ H Q I (w σ H Q h')⟩
theorem t_yes {σ : L2.St} {H : Hp} {Q : Bool → Hp → Prop} (h : tT G Y W gTrue σ H Q) : tYes σ H Q := by
  obtain ⟨B, F, ρ, S, p⟩ := h
  exact p F H Sub.rfl S
theorem jts_nil : JTs X G Y W [] gTrue := PTs.weak pts_nil fun _ _ _ => t_yes
theorem jts_one (h : JT X G Y W c ta) : JTs X G Y W [c] ta := pts_one h
/-- the context within a comprehension's block -/
theorem Ctx.blk (C : Ctx X G W k) (s : Shared) (H : Hp) (scope : Scope) (Ca : Addr) (cl : List (Str × Addr)) (fp : List Addr) : Ctx (X.blk s H scope (compEnvC scope cl Ca X.env) fp) G W0 k :=
  ⟨C.hK, C.calm, C.nd, takes0, PassesOwn.never, C.room⟩
theorem je_lc {elt : Expr} {ifs : List Expr} {scope : Scope} (own : List (Str × Nat)) {vs : List Nat} (C : Ctx X G W k) (hi : JI X G Y W tg l fi) (ok : blkC X.N X.env.scope scope own = true)
    (hg : ∀ (s : Shared) (H : Hp) (Ca : Addr) (cl : List (Str × Addr)) (fp : List Addr), Ctx (X.blk s H scope (compEnvC scope cl Ca X.env) fp) G W0 k → JG (X.blk s H scope (compEnvC scope cl Ca X.env) fp) G vs tg t)
    (ht : ∀ (s : Shared) (H : Hp) (Ca : Addr) (cl : List (Str × Addr)) (fp : List Addr), Ctx (X.blk s H scope (compEnvC scope cl Ca X.env) fp) G W0 k → JTs (X.blk s H scope (compEnvC scope cl Ca X.env) fp) G Y W0 ifs ta)
    (he : ∀ (s : Shared) (H : Hp) (Ca : Addr) (cl : List (Str × Addr)) (fp : List Addr), Ctx (X.blk s H scope (compEnvC scope cl Ca X.env) fp) G W0 k → JE (X.blk s H scope (compEnvC scope cl Ca X.env) fp) G Y W0 elt fa)
    (hv : own.map (·.2) = vs := by rfl) (hs : ∀ x, foldedSetIterable l X.env x = pure x := by intro _; rfl) : JE X G Y W (.ListComp elt [⟨tg, l, ifs, 0⟩] scope pos) (fComp fi t ta fa vs) := by
  subst hv
  exact PE.weak (pe_lc C.calm C.nd hi (blkOk_by ok) (fun s H Ca cl fp => hg s H Ca cl fp (C.blk s H scope Ca cl fp)) (fun s H Ca cl fp => ht s H Ca cl fp (C.blk s H scope Ca cl fp)) (fun s H Ca cl fp => he s H Ca cl fp (C.blk s H scope Ca cl fp)) hs) fun _ _ _ => t_comp
/-- attributes -/
theorem je_att {nm : Str} {tab : Nat → Option Nat} (C : Ctx X G W k) (T : AttOk G nm tab) (h : JE X G Y W a fa) (hb : attributeBase a nm X.env (eval a X.env) = eval a X.env := by rfl) : JE X G Y W (.Attribute a nm pos) (f1 (attP tab) fa) := by
  refine PE.weak (pe_fld h hb) fun σ H Q q => ?_
  have := t1 (att_s T) q
  rw [C.hK]
  exact this
/-- lists' methods that change them: x.m(..), x a slot -/
theorem je_mut (i : Nat) {x name : Str} {id : String} {p apos : Pos} {r : V → List V → Hp → VK → Prop} {m : List D → List D → Option (List D × D)} (C : Ctx X G W k) (hm : MutS G r m) (hf : Flat fs) (slot : Slot "list" name id) (hty : typeOf (.builtin id) = pure (.type "method_descriptor")) (hmt : MtR X id r) (h : JA X G Y W (e :: es) fs)
    (hN : X.N[i]? = some x := by rfl) (hv : Vis X.env.scope x := by first | exact Or.inl rfl | exact Or.inr (Or.inl rfl) | exact Or.inr (Or.inr rfl)) (hd : (x == ("__debug__" : Str)) = false := by decide)
    (hcd : (x == ("__classdict__" : Str)) = false := by decide) (hbase : attributeBase (.Name x p) name X.env (eval (.Name x p) X.env) = eval (.Name x p) X.env := by rfl)
    (hfew : ((backTo pos (starEach (e :: es) X.env)).all (fun x => !x.1) && (backToKw pos (keywordEach [] X.env)).all (fun x => x.1.isSome) && decide ((e :: es).length + ([] : List Keyword).length + (if ([] : List Keyword).isEmpty then 0 else 1) < 30)) = true := by rfl)
    (hline : (apos.endLine == pos.line) = true := by rfl) (hs : starEach (e :: es) X.env = (false, eval e X.env) :: starEach es X.env := by rfl) (hpl : (backTo pos (starEach es X.env)).any (·.1) = false := by rfl) :
    JE X G Y W (.Call (.Attribute (.Name x p) name apos) (e :: es) [] pos) (fMut m i fs) := by
  refine PE.weak (pe_bm PySem.F.plainAttrs_list slot hty hmt (pe_var hN hv hd hcd) h hbase hfew hline hs hpl) fun σ H Q q => ?_
  rw [C.hK]
  exact t_mut hm hf q
theorem je_mut0 (i : Nat) {x name : Str} {id : String} {p apos : Pos} {r : V → List V → Hp → VK → Prop} {m : List D → List D → Option (List D × D)} (C : Ctx X G W k) (hm : MutS G r m) (slot : Slot "list" name id) (hty : typeOf (.builtin id) = pure (.type "method_descriptor")) (hmt : MtR X id r)
    (hN : X.N[i]? = some x := by rfl) (hv : Vis X.env.scope x := by first | exact Or.inl rfl | exact Or.inr (Or.inl rfl) | exact Or.inr (Or.inr rfl)) (hd : (x == ("__debug__" : Str)) = false := by decide)
    (hcd : (x == ("__classdict__" : Str)) = false := by decide) (hbase : attributeBase (.Name x p) name X.env (eval (.Name x p) X.env) = eval (.Name x p) X.env := by rfl)
    (hline : (apos.endLine == pos.line) = true := by rfl) : JE X G Y W (.Call (.Attribute (.Name x p) name apos) [] [] pos) (fMut m i fNil) := by
  refine PE.weak (pe_bm0 PySem.F.plainAttrs_list slot hty hmt (pe_var hN hv hd hcd) hbase hline) fun σ H Q q => ?_
  rw [C.hK]
  exact t_mut0 hm q

/-! ### calls -/
/-- a def of the module, that computes Φ -/
structure DefOk (P : Program) (w : World) (mg : Str → Option Value) (base : Heap) (G : Gi) (Y : Xi) (k n : Nat) (x : Str) (Φ : Fn) : Prop where
  ex : ∃ f fd ps, mg x = some (.ref f) ∧ PySem.W.keepIn G.K (.ref f) = true ∧ Binds G.K fd ps [] ∧ ps.length = n ∧ FnOk P w G.K mg base (L2.CX P w) k f fd ps (spF G Y n Φ)
  len : ∀ as, Φ as ≠ .stuck → as.length = n
theorem je_call {n : Nat} {x : Str} {p : Pos} {Φ : Fn} (sg : List Bool) (C : Ctx X G W k) (Dk : DefOk X.prog X.w X.mg X.base G Y k n x Φ) (h : JA X G Y W (e :: es) fs) (hg : Gl X x := by rfl) (hdb : (x == ("__debug__" : Str)) = false := by decide)
    (he : starEach (e :: es) X.env = (false, eval e X.env) :: starEach es X.env := by rfl) (hpl : (backTo pos (starEach es X.env)).any (·.1) = false := by rfl) : JE X G Y W (.Call (.Name x p) (e :: es) [] pos) (fCall sg Φ fs) := by
  obtain ⟨f, fd, ps, hm, hk, hb, hn, hF⟩ := Dk.ex
  rw [← C.hK] at hk hb hF
  exact PE.weak (pe_callS hF C.room hg hm hk hb (fun σ => passAt C.tk σ) h hdb he hpl) fun σ H Q q => t_call Dk.len q
/-- a class of the module with its __init__ -/
structure ClsOk (P : Program) (w : World) (mg : Str → Option Value) (base : Heap) (G : Gi) (Y : Xi) (k n : Nat) (x : Str) (c : Nat) (nms : List Str) (Φ : Fn) : Prop where
  ex : ∃ f fd ps, mg x = some (.ref (G.cls c)) ∧ Mk G.K (G.cls c) f ∧ Binds G.K fd ps [] ∧ ps.length = n + 1 ∧ FnOk P w G.K mg base (L2.CX P w) k f fd ps (spF G Y (n + 1) Φ)
  len : ∀ as, Φ as ≠ .stuck → as.length = n + 1
  att : G.att c = nms
theorem je_new {n c : Nat} {nms : List Str} {x : Str} {p : Pos} {Φ : Fn} (C : Ctx X G W (k + 1)) (hW : ∀ cls d σ σ' H, W cls d σ H → W cls d σ' H) (Dk : ClsOk X.prog X.w X.mg X.base G Y k n x c nms Φ) (h : JA X G Y W (e :: es) fs) (hg : Gl X x := by rfl) (hdb : (x == ("__debug__" : Str)) = false := by decide)
    (he : starEach (e :: es) X.env = (false, eval e X.env) :: starEach es X.env := by rfl) (hpl : (backTo pos (starEach es X.env)).any (·.1) = false := by rfl) : JE X G Y W (.Call (.Name x p) (e :: es) [] pos) (fNew c nms n Φ fs) := by
  obtain ⟨f, fd, ps, hm, hM, hb, hn, hF⟩ := Dk.ex
  rw [← C.hK] at hM hb hF
  exact PE.weak (pe_make (E := fun cls d H => W cls d [] H) hM hF C.room hg hm hb .nil (passes_call C.tk fun cls d σ H q => hW cls d [] σ H q) h hdb he hpl) fun σ H Q q => t_new Dk.att Dk.len (fun cls d H q => hW cls d _ _ H q) q

/-! ### statements -/
theorem js_asg (i : Nat) {x : Str} {pos' : Pos} (C : Ctx X G W k) (h : JE X G Y W e fa) (hi : X.N[i]? = some x := by rfl) (hx : Loc X.env.scope x := by first | exact Or.inl rfl | exact Or.inr rfl) (hs : swapsWith e (some (.Name x pos')) pos.line X.env = pure false := by rfl) (hf : X.fn x = true ∨ X.env.scope.names.lookup x = some .local := by first | exact .inl rfl | exact .inr rfl) :
    JS X G Y W (.Assign [.Name x pos'] e pos) (fAsg i fa) := PS.weak (ps_set C.nd hi hx h hs hf) fun _ _ _ => t_asg
theorem js_asgLc (i : Nat) {x : Str} {py spos : Pos} {elt : Expr} {ifs : List Expr} {scope : Scope} (own : List (Str × Nat)) {vs : List Nat} (C : Ctx X G W k) (hi : JI X G Y W tg l fi) (ok : blkC X.N X.env.scope scope own = true)
    (hg : ∀ (s : Shared) (H : Hp) (Ca : Addr) (cl : List (Str × Addr)) (fp : List Addr), Ctx (X.blk s H scope (compEnvC scope cl Ca X.env) fp) G W0 k → JG (X.blk s H scope (compEnvC scope cl Ca X.env) fp) G vs tg t)
    (ht : ∀ (s : Shared) (H : Hp) (Ca : Addr) (cl : List (Str × Addr)) (fp : List Addr), Ctx (X.blk s H scope (compEnvC scope cl Ca X.env) fp) G W0 k → JTs (X.blk s H scope (compEnvC scope cl Ca X.env) fp) G Y W0 ifs ta)
    (he : ∀ (s : Shared) (H : Hp) (Ca : Addr) (cl : List (Str × Addr)) (fp : List Addr), Ctx (X.blk s H scope (compEnvC scope cl Ca X.env) fp) G W0 k → JE (X.blk s H scope (compEnvC scope cl Ca X.env) fp) G Y W0 elt fa)
    (hsw : swapsWith (.ListComp elt [⟨tg, l, ifs, 0⟩] scope pos) (some (.Name x py)) spos.line X.env = pure true) (hx : X.N[i]? = some x := by rfl) (hl : X.env.scope.names.lookup x = some .local := by rfl) (hv : own.map (·.2) = vs := by rfl) (hs : ∀ x, foldedSetIterable l X.env x = pure x := by intro _; rfl) :
    JS X G Y W (.Assign [.Name x py] (.ListComp elt [⟨tg, l, ifs, 0⟩] scope pos) spos) (fAsg i (fComp fi t ta fa vs)) := by
  subst hv
  refine PS.weak (ps_setLc C.calm C.nd hx hl hsw hi (blkOk_by ok) (fun s H Ca cl fp => hg s H Ca cl fp (C.blk s H scope Ca cl fp)) (fun s H Ca cl fp => ht s H Ca cl fp (C.blk s H scope Ca cl fp)) (fun s H Ca cl fp => he s H Ca cl fp (C.blk s H scope Ca cl fp)) hs) fun E σ H q => ?_
  exact t_comp (t_asg q)
def asgK (t : GF) (r : Rv) (ρ : Env) : Out Fl := match res ρ r with
  | some d => (frz r ρ).bind fun d ρ1 => (ofO (t d ρ1)).bind fun _ ρ2 => .ok .next ρ2
  | none => .stuck
def fAsgG (f : EF) (t : GF) : SF := fun ρ => (opd f ρ).bind fun r ρ1 => (frz r ρ1).bind fun d ρ2 => (ofO (t d ρ2)).bind fun _ ρ3 => .ok .next ρ3
theorem js_asgT {ws : List Nat} (C : Ctx X G W k) (h : JE X G Y W e fa) (hg : JG X G ws tg t) (hs : swapsWithSole [tg] e pos.line X.env = pure false := by rfl) (hw : swappedStores [tg] e X.env = pure none := by rfl) (h1 : (assignEach [tg] X.env).map (·.2) = [assign tg X.env] := by rfl) : JS X G Y W (.Assign [tg] e pos) (fAsgG fa t) := by
  refine PS.weak (ps_asg h hg hs hw h1) fun E σ H q => ?_
  obtain ⟨B, F, ρ, S, p⟩ := q
  refine tE_opd ⟨B, F, ρ, S, Post.ofG (PostS.seqG p fun r ρ1 F1 H1 _ e1 S1 p1 u R => ?_)⟩
  obtain ⟨d, ρ2, F2, _, e2, S2, r2, p2⟩ := frz_post (Pp := fun o F => PostS G Y B W E F o) S1 R (fun _ h => h) (fun _ _ _ e h => h.mono e) p1
  refine ⟨B, F2, ρ2, d, S2, r2, ?_⟩
  revert p2
  cases t d ρ2 with
  | none => exact fun p => p
  | some ρ3 => exact fun p σ' F' H' _ e' S' => p σ' F' H' e' S'
theorem js_setI (i : Nat) {x : Str} {p p2 : Pos} {fi' : EF} (C : Ctx X G W k) (h : JE X G Y W e fa) (hj : JE X G Y W l fi') (hN : X.N[i]? = some x := by rfl) (hv : Vis X.env.scope x := by first | exact Or.inl rfl | exact Or.inr (Or.inl rfl) | exact Or.inr (Or.inr rfl)) (hd : (x == ("__debug__" : Str)) = false := by decide)
    (hcd : (x == ("__classdict__" : Str)) = false := by decide) (hpg : ∀ {ti : TE}, PE X l ti → PG X (.Subscript (.Name x p) l p2) (gSub (tVar i) ti rSetL)) (hs : swapsWithSole [.Subscript (.Name x p) l p2] e pos.line X.env = pure false := by rfl) (hw : swappedStores [.Subscript (.Name x p) l p2] e X.env = pure none := by rfl) :
    JS X G Y W (.Assign [.Subscript (.Name x p) l p2] e pos) (fSetI fa i fi') := PS.weak (ps_asg h (hpg hj) hs hw) fun _ _ _ => t_setI
theorem js_setA (i : Nat) {x nm : Str} {p p2 : Pos} (C : Ctx X G W k) (h : JE X G Y W e fa) (hk : ∀ (ρ : Env) (c : Nat) (fs : List (Str × D)), ρ[i]? = some (.io (.ins c fs)) → Cls G.K (G.cls c) ∧ NoAttr G.K (G.cls c) nm) (hN : X.N[i]? = some x := by rfl) (hv : Vis X.env.scope x := by first | exact Or.inl rfl | exact Or.inr (Or.inl rfl) | exact Or.inr (Or.inr rfl)) (hd : (x == ("__debug__" : Str)) = false := by decide)
    (hcd : (x == ("__classdict__" : Str)) = false := by decide) (hs : swapsWith e (some (.Attribute (.Name x p) nm p2)) pos.line X.env = pure false := by rfl) : JS X G Y W (.Assign [.Attribute (.Name x p) nm p2] e pos) (fSetA fa i nm) := by
  refine PS.weak (ps_fld (pe_var hN hv hd hcd) h hs) fun E σ H q => ?_
  rw [C.hK]
  exact t_setA (okc := fun _ => True) (fun _ => .inr trivial) hk q
theorem js_ret (h : JE X G Y W e fa) : JS X G Y W (.Return (some e) pos) (fRet fa) := PS.weak (ps_ret h) fun _ _ _ => t_ret
theorem js_retN : JS X G Y W (.Return none pos) fRetN := PS.weak ps_retN fun _ _ _ => t_retN
theorem js_drop (h : JE X G Y W e fa) (hs : swapsWith e none pos.line X.env = pure false := by rfl) : JS X G Y W (.Expr e pos) (fDrop fa) := PS.weak (ps_expr h hs) fun _ _ _ => t_drop
theorem js_if (h : JT X G Y W c ta) (h1 : JSs X G Y W sts f) {sts2 : List Stmt} (h2 : JSs X G Y W sts2 g) : JS X G Y W (.If c sts sts2 pos) (fIfS ta f g) := PS.weak (ps_if h h1 h2) fun _ _ _ => t_ifS
theorem js_pass : JS X G Y W (.Pass pos) fSkip := PS.weak ps_pass fun _ _ _ => t_skip
theorem js_brk : JS X G Y W (.Break pos) fBrk := PS.weak ps_break fun _ _ _ => t_brk
theorem js_cont : JS X G Y W (.Continue pos) fCont := PS.weak ps_continue fun _ _ _ => t_cont
def fNever : SF := fun _ => .stuck
theorem js_never : JS X G Y W st fNever := PS.weak ps_never fun _ _ _ ⟨_, _, _, _, p⟩ => False.elim p
theorem jss_nil : JSs X G Y W [] fSkip := PSs.weak pss_nil fun _ _ _ => t_skip
theorem jss_cons (h : JS X G Y W st f) (h2 : JSs X G Y W sts g) : JSs X G Y W (st :: sts) (fSeq f g) := PSs.weak (pss_cons h h2) fun _ _ _ => t_seq
theorem jss_one (h : JS X G Y W st f) : JSs X G Y W [st] f := pss_one h
theorem js_for {ws : List Nat} (C : Ctx X G W k) (hi : JI X G Y W tg l fi) (hg : JG X G ws tg t) (hb : JSs X G Y W sts f) (hs : ∀ x, foldedSetIterable l X.env x = pure x := by intro _; rfl) : JS X G Y W (.For tg l sts [] pos) (fFor fi t f) := PS.weak (ps_for C.po C.calm hi hg hb hs) fun _ _ _ => t_for
theorem js_while (n : Nat) (C : Ctx X G W k) (h : JT X G Y W c ta) (hb : JSs X G Y W sts f) : JS X G Y W (.While c sts [] pos) (fWhile n ta f) := PS.weak (ps_while C.po h hb) fun _ _ _ => t_while
end
end Nz

set_option Elab.async false
set_option linter.all false
set_option maxRecDepth 100000
set_option maxHeartbeats 4000000
/-! Nz11: the operations on data, against the layer's rules. -/
namespace Nz
open PySem L2
section
variable {G : Gi} {F H : Hp}
theorem opd_rep {u : V} {d : D} (h : Opd G F H u d) (n : ∀ ds, d ≠ .lst ds) : Rep G F u d := by
  rcases h with h | ⟨_, _, ds, _, _, e, _⟩
  · exact h
  · exact (n ds e).elim
/-! ### + - * // % ** -/
def gAdd : D → D → Option Pr
  | .int i, .int j => some (.d (.int (i + j)))
  | .str s, .str t => if s.length + t.length ≤ 100000 then some (.d (.str (s ++ t))) else none
  | .tup a, .tup b => if a.length + b.length ≤ 100000 then some (.newT (a ++ b)) else none
  | .lst a, .lst b => if a.length + b.length ≤ 100000 then some (.newL (a ++ b)) else none
  | _, _ => none
def rAddA (K : PySem.W.Frag) : R2 := fun x y H Q => ((rI0 fun i j => .int (i + j)) x y H Q ∨ (∃ i j, x = .str i ∧ y = .str j ∧ i.length + j.length ≤ sizeLine ∧ Q (.str (i ++ j)) H)) ∨ (rCatA K x y H Q ∨ rCat x y H Q)
theorem o_add {X : Cx} : OpR X (binaryOp .Add) (rAddA X.K) := (op_add.or op_add_str).or (op_catA.or op_cat)
theorem le_line {n : Nat} (h : n ≤ 100000) : n ≤ sizeLine := Nat.le_trans h (by decide)
theorem s_add : OpS G (rAddA G.K) gAdd := by
  intro F H x y a b pr hF hx hy hg Q hq
  unfold gAdd at hg
  split at hg
  · cases hg
    obtain rfl := opd_int hx
    obtain rfl := opd_int hy
    exact .inl (.inl ⟨_, _, rfl, rfl, hq _ (.int _)⟩)
  · split at hg
    · rename_i h
      cases hg
      obtain rfl := opd_str hx
      obtain rfl := opd_str hy
      exact .inl (.inr ⟨_, _, rfl, rfl, le_line h, hq _ (.str _)⟩)
    · cases hg
  · split at hg
    · rename_i a b h
      cases hg
      have rx := opd_rep hx (by intro _ z; cases z)
      have ry := opd_rep hy (by intro _ z; cases z)
      obtain ⟨p, xs, rfl, h1, h2⟩ := opd_tup hF hx
      obtain ⟨q, ys, rfl, h3, h4⟩ := opd_tup hF hy
      refine .inr (.inl ⟨p, q, xs, ys, rfl, rfl, h1, h3, by rw [h2.length, h4.length]; exact le_line h, fun e => ?_, fun _ e => ?_, fun _ _ r hr => hq.2 r _ hr (h2.append h4)⟩)
      · have : a = [] := by have := h2.length; rw [e] at this; exact List.eq_nil_of_length_eq_zero this.symm
        subst this
        exact hq.1 _ ry
      · have : b = [] := by have := h4.length; rw [e] at this; exact List.eq_nil_of_length_eq_zero this.symm
        subst this
        exact hq.1 _ (by rw [List.append_nil]; exact rx)
    · cases hg
  · split at hg
    · rename_i h
      cases hg
      obtain ⟨p, xs, rfl, h1, h2⟩ := opd_lst hF hx
      obtain ⟨q, ys, rfl, h3, h4⟩ := opd_lst hF hy
      exact .inr (.inr ⟨p, q, xs, ys, rfl, rfl, h1, h3, by rw [h2.length, h4.length]; exact le_line h, fun r hr => hq r _ hr (h2.append h4)⟩)
    · cases hg
  · cases hg
def gSub (a b : D) : Option Pr := match a, b with
  | .int i, .int j => some (.d (.int (i - j)))
  | _, _ => none
theorem s_sub : OpS G (rI0 fun i j => .int (i - j)) gSub := by
  intro F H x y a b pr hF hx hy hg Q hq
  unfold gSub at hg
  split at hg
  · cases hg
    obtain rfl := opd_int hx
    obtain rfl := opd_int hy
    exact ⟨_, _, rfl, rfl, hq _ (.int _)⟩
  · cases hg
def mulOk (i j : Int) : Bool := decide (i.natAbs < 1000000000000000000) || decide (j.natAbs < 1000000000000000000)
def gMul (a b : D) : Option Pr := match a, b with
  | .int i, .int j => if mulOk i j then some (.d (.int (i * j))) else none
  | _, _ => none
theorem s_mul : OpS G (rI CMul fun i j => .int (i * j)) gMul := by
  intro F H x y a b pr hF hx hy hg Q hq
  unfold gMul at hg
  split at hg
  · split at hg
    · rename_i h
      cases hg
      obtain rfl := opd_int hx
      obtain rfl := opd_int hy
      refine ⟨_, _, rfl, rfl, ?_, hq _ (.int _)⟩
      unfold mulOk at h
      rw [Bool.or_eq_true, decide_eq_true_eq, decide_eq_true_eq] at h
      rcases h with h | h
      · exact .inl ⟨by omega, by omega⟩
      · exact .inr ⟨by omega, by omega⟩
    · cases hg
  · cases hg
def gMod (a b : D) : Option Pr := match a, b with
  | .int i, .int j => if 0 < j then some (.d (.int (i % j))) else none
  | _, _ => none
theorem s_mod : OpS G (rI (fun _ j => 0 < j) fun i j => .int (i % j)) gMod := by
  intro F H x y a b pr hF hx hy hg Q hq
  unfold gMod at hg
  split at hg
  · split at hg
    · rename_i h
      cases hg
      obtain rfl := opd_int hx
      obtain rfl := opd_int hy
      exact ⟨_, _, rfl, rfl, h, hq _ (.int _)⟩
    · cases hg
  · cases hg
def gDiv (a b : D) : Option Pr := match a, b with
  | .int i, .int j => if 0 < j ∧ j < 1073741824 then some (.d (.int (i / j))) else none
  | _, _ => none
theorem s_div : OpS G (rI CDiv fun i j => .int (i / j)) gDiv := by
  intro F H x y a b pr hF hx hy hg Q hq
  unfold gDiv at hg
  split at hg
  · split at hg
    · rename_i h
      cases hg
      obtain rfl := opd_int hx
      obtain rfl := opd_int hy
      exact ⟨_, _, rfl, rfl, h, hq _ (.int _)⟩
    · cases hg
  · cases hg
def gPow (a b : D) : Option Pr := match a, b with
  | .int i, .int j => if 0 ≤ j ∧ j ≤ 1000 ∧ i.natAbs < 1000000 then some (.d (.int (i ^ j.toNat))) else none
  | _, _ => none
theorem s_pow : OpS G (rI CPow fun i j => .int (i ^ j.toNat)) gPow := by
  intro F H x y a b pr hF hx hy hg Q hq
  unfold gPow at hg
  split at hg
  · split at hg
    · rename_i h
      cases hg
      obtain rfl := opd_int hx
      obtain rfl := opd_int hy
      exact ⟨_, _, rfl, rfl, ⟨h.1, by omega, by omega⟩, hq _ (.int _)⟩
    · cases hg
  · cases hg
def gNeg (a : D) : Option Pr := match a with
  | .int i => some (.d (.int (-i)))
  | _ => none
theorem s_neg : UnS G (rU fun i => .int (-i)) gNeg := by
  intro F H x a pr hF hx hg Q hq
  unfold gNeg at hg
  split at hg
  · cases hg
    obtain rfl := opd_int hx
    exact ⟨_, rfl, hq _ (.int _)⟩
  · cases hg

/-! ### comparisons -/
mutual
def D.py : D → Option PyData
  | .non => some .none
  | .bl b => some (.bool b)
  | .int i => some (.int i)
  | .str s => some (.str s)
  | .tup ds => (D.pys ds).map .tuple
  | .lst ds => (D.pys ds).map .list
  | .obj _ _ => none
  | .frz _ => none
  | .ty _ => none
  | .cls _ => none
  | .edc => none
def D.pys : List D → Option (List PyData)
  | [] => some []
  | d :: ds => (D.py d).bind fun p => (D.pys ds).map (p :: ·)
end
theorem reps_lst {K : PySem.W.Frag} {a : Addr} {xs : List V} (h : H a = some (.lst xs)) : SqL K H a xs := .inl (.inl h)
mutual
theorem dp_of (e : Sub F H) : ∀ (d : D) {p : PyData} {u : V}, D.py d = some p → Rep G F u d → Dp G.K H u p
  | .non, _, _, h, r => by cases h; cases r; exact .non
  | .bl b, _, _, h, r => by cases h; cases r; exact .bl b
  | .int i, _, _, h, r => by cases h; cases r; exact .int i
  | .str s, _, _, h, r => by cases h; cases r; exact .str s
  | .tup ds, _, _, h, r => by
    unfold D.py at h
    cases q : D.pys ds with
    | none => rw [q] at h; cases h
    | some ps =>
      rw [q] at h; cases h
      cases r with
      | tup h1 h2 => exact .tup (sub_sqT e h1) (dps_of e ds q h2)
  | .lst ds, _, _, h, r => by
    unfold D.py at h
    cases q : D.pys ds with
    | none => rw [q] at h; cases h
    | some ps =>
      rw [q] at h; cases h
      cases r with
      | lst h1 h2 => exact .lst (.inl (.inl (e _ _ h1))) (dps_of e ds q h2)
  | .obj _ _, _, _, h, _ => by unfold D.py at h; cases h
  | .frz _, _, _, h, _ => by unfold D.py at h; cases h
  | .ty _, _, _, h, _ => by unfold D.py at h; cases h
  | .cls _, _, _, h, _ => by unfold D.py at h; cases h
  | .edc, _, _, h, _ => by unfold D.py at h; cases h
theorem dps_of (e : Sub F H) : ∀ (ds : List D) {ps : List PyData} {us : List V}, D.pys ds = some ps → Reps G F us ds → DpAll G.K H us ps
  | [], _, _, h, r => by cases h; cases r; exact .nil
  | d :: ds, _, _, h, r => by
    unfold D.pys at h
    cases q : D.py d with
    | none => rw [q] at h; cases h
    | some p =>
      rw [q] at h
      have h' : (D.pys ds).map (p :: ·) = some _ := h
      cases q2 : D.pys ds with
      | none => rw [q2] at h'; cases h'
      | some ps =>
        rw [q2] at h'; cases h'
        cases r with
        | cons h1 h2 => exact .cons (dp_of e d q h1) (dps_of e ds q2 h2)
end
theorem dp_opd (e : Sub F H) {d : D} {p : PyData} {u : V} (h : D.py d = some p) (r : Opd G F H u d) : Dp G.K H u p := by
  rcases r with r | ⟨a, xs, ds, rfl, hp, rfl, hx⟩
  · exact dp_of e d h r
  · unfold D.py at h
    cases q : D.pys ds with
    | none => rw [q] at h; cases h
    | some ps => rw [q] at h; cases h; exact .lst (.inl (.inl hp)) (dps_of e ds q hx)
def eqD (a b : D) : Option Bool := (D.py a).bind fun p => (D.py b).bind fun q => if SeqAt.shaped p && SeqAt.shaped q then some (PyData.eqv p q) else none
def gEq (a b : D) : Option Pr := (eqD a b).map fun r => .d (.bl r)
def gNe (a b : D) : Option Pr := (eqD a b).map fun r => .d (.bl !r)
theorem eqD_ok (e : Sub F H) {a b : D} {x y : V} {r : Bool} (hx : Opd G F H x a) (hy : Opd G F H y b) (h : eqD a b = some r) : ∃ p q, Dp G.K H x p ∧ Dp G.K H y q ∧ SeqAt.shaped p = true ∧ SeqAt.shaped q = true ∧ PyData.eqv p q = r := by
  unfold eqD at h
  cases qa : D.py a with
  | none => rw [qa] at h; cases h
  | some p =>
    rw [qa] at h
    cases qb : D.py b with
    | none => rw [qb] at h; cases h
    | some q =>
      rw [qb] at h
      simp only [Option.bind_some] at h
      split at h
      · rename_i hs
        rw [Bool.and_eq_true] at hs
        exact ⟨p, q, dp_opd e qa hx, dp_opd e qb hy, hs.1, hs.2, Option.some.inj h⟩
      · cases h
theorem s_eq : OpS G (rEqD G.K) gEq := by
  intro F H x y a b pr hF hx hy hg Q hq
  unfold gEq at hg
  cases q : eqD a b with
  | none => rw [q] at hg; cases hg
  | some r =>
    rw [q] at hg; cases hg
    obtain ⟨p, p2, h1, h2, h3, h4, rfl⟩ := eqD_ok hF hx hy q
    exact ⟨p, p2, h1, h2, h3, h4, hq _ (.bl _)⟩
theorem s_ne : OpS G (rNeD G.K) gNe := by
  intro F H x y a b pr hF hx hy hg Q hq
  unfold gNe at hg
  cases q : eqD a b with
  | none => rw [q] at hg; cases hg
  | some r =>
    rw [q] at hg; cases hg
    obtain ⟨p, p2, h1, h2, h3, h4, rfl⟩ := eqD_ok hF hx hy q
    exact ⟨p, p2, h1, h2, h3, h4, hq _ (.bl _)⟩
def gLt (a b : D) : Option Pr := match a, b with
  | .int i, .int j => some (.d (.bl (decide (i < j))))
  | .str s, .str t => some (.d (.bl (decide (s.cps.toList < t.cps.toList))))
  | _, _ => none
def rLtA : R2 := fun x y H Q => (rI0 fun i j => .bl (decide (i < j))) x y H Q ∨ ∃ i j, x = .str i ∧ y = .str j ∧ Q (.bl (decide (i.cps.toList < j.cps.toList))) H
theorem o_lt {X : Cx} : OpR X (compareOp .Lt) rLtA := op_lt.or op_lt_str
theorem s_lt : OpS G rLtA gLt := by
  intro F H x y a b pr hF hx hy hg Q hq
  unfold gLt at hg
  split at hg
  · cases hg
    obtain rfl := opd_int hx
    obtain rfl := opd_int hy
    exact .inl ⟨_, _, rfl, rfl, hq _ (.bl _)⟩
  · cases hg
    obtain rfl := opd_str hx
    obtain rfl := opd_str hy
    exact .inr ⟨_, _, rfl, rfl, hq _ (.bl _)⟩
  · cases hg
def gCmp (f : Int → Int → Bool) (a b : D) : Option Pr := match a, b with
  | .int i, .int j => some (.d (.bl (f i j)))
  | _, _ => none
theorem s_cmp {f : Int → Int → Bool} : OpS G (rI0 fun i j => .bl (f i j)) (gCmp f) := by
  intro F H x y a b pr hF hx hy hg Q hq
  unfold gCmp at hg
  split at hg
  · cases hg
    obtain rfl := opd_int hx
    obtain rfl := opd_int hy
    exact ⟨_, _, rfl, rfl, hq _ (.bl _)⟩
  · cases hg
abbrev gLe := gCmp fun i j => decide (i ≤ j)
abbrev gGt := gCmp fun i j => decide (j < i)
abbrev gGe := gCmp fun i j => decide (j ≤ i)
def isNon : D → Bool
  | .non => true
  | _ => false
theorem isNon_ok {u : V} {d : D} (h : Opd G F H u d) : decide (u = .non) = isNon d := by
  rcases h with h | ⟨p, xs, ds, rfl, _, rfl, _⟩
  · cases h <;> simp [isNon]
  · simp [isNon]
def gIsN (a b : D) : Option Pr := if isNon b then some (.d (.bl (isNon a))) else none
def gIsnN (a b : D) : Option Pr := if isNon b then some (.d (.bl !(isNon a))) else none
theorem s_isN : OpS G (fun x y H Q => y = .non ∧ Q (.bl (decide (x = .non))) H) gIsN := by
  intro F H x y a b pr hF hx hy hg Q hq
  unfold gIsN at hg
  split at hg
  · rename_i h
    cases hg
    rw [← isNon_ok hy] at h
    rw [isNon_ok hx]
    exact ⟨of_decide_eq_true h, hq _ (.bl _)⟩
  · cases hg
theorem s_isnN : OpS G (fun x y H Q => y = .non ∧ Q (.bl (!decide (x = .non))) H) gIsnN := by
  intro F H x y a b pr hF hx hy hg Q hq
  unfold gIsnN at hg
  split at hg
  · rename_i h
    cases hg
    rw [← isNon_ok hy] at h
    rw [isNon_ok hx]
    exact ⟨of_decide_eq_true h, hq _ (.bl _)⟩
  · cases hg

/-! ### in -/
def D.flat : D → Option V
  | .non => some .non
  | .bl b => some (.bl b)
  | .int i => some (.int i)
  | .str s => some (.str s)
  | _ => none
def flats : List D → Option (List V)
  | [] => some []
  | d :: ds => d.flat.bind fun v => (flats ds).map (v :: ·)
theorem flat_rep {d : D} {u v : V} (h : d.flat = some v) (r : Rep G F u d) : u = v ∧ flatV v = true := by
  cases r <;> cases h <;> exact ⟨rfl, rfl⟩
theorem flats_rep : ∀ {ds : List D} {us vs : List V}, flats ds = some vs → Reps G F us ds → us = vs ∧ vs.all flatV = true
  | [], _, _, h, r => by cases h; cases r; exact ⟨rfl, rfl⟩
  | d :: ds, _, _, h, r => by
    cases r with
    | cons r1 r2 =>
      unfold flats at h
      cases q : d.flat with
      | none => rw [q] at h; cases h
      | some v =>
        rw [q] at h
        have h' : (flats ds).map (v :: ·) = some _ := h
        cases q2 : flats ds with
        | none => rw [q2] at h'; cases h'
        | some vs =>
          rw [q2] at h'; cases h'
          obtain ⟨rfl, f1⟩ := flat_rep q r1
          obtain ⟨rfl, f2⟩ := flats_rep q2 r2
          exact ⟨rfl, by rw [List.all_cons, f1, f2]; rfl⟩
theorem flat_opd {d : D} {u v : V} (h : d.flat = some v) (r : Opd G F H u d) : u = v ∧ flatV v = true := flat_rep h (opd_rep r (by intro ds z; subst z; cases h))
def seqOf : D → Option (List D)
  | .lst ds => some ds
  | .tup ds => some ds
  | _ => none
def sign1 (s : Str) : Option Nat := match s.cps.toList with
  | [c] => some c
  | _ => none
def inD (a b : D) : Option Bool := match a, b with
  | .str s, .str z => (sign1 s).map fun c => decide (c ∈ z.cps.toList)
  | a, b => (seqOf b).bind fun ds => a.flat.bind fun v => (flats ds).map fun vs => inV v vs
def gIn (a b : D) : Option Pr := (inD a b).map fun r => .d (.bl r)
def gNin (a b : D) : Option Pr := (inD a b).map fun r => .d (.bl !r)
def rSign (neg : Bool) : R2 := fun x y H Q => ∃ c z, x = .str ⟨#[c]⟩ ∧ y = .str z ∧ Q (.bl (if neg then !decide (c ∈ z.cps.toList) else decide (c ∈ z.cps.toList))) H
theorem sign1_ok {s : Str} {c : Nat} (h : sign1 s = some c) : s = ⟨#[c]⟩ := by
  obtain ⟨⟨l⟩⟩ := s
  unfold sign1 at h
  split at h
  · rename_i c' e
    cases h
    have : l = [c] := e
    rw [this]
  · cases h
def rInA (K : PySem.W.Frag) (neg : Bool) : R2 := fun x y H Q => rIn K neg x y H Q ∨ rSign neg x y H Q
theorem inD_ok (e : Sub F H) {a b : D} {x y : V} {r : Bool} (neg : Bool) (hx : Opd G F H x a) (hy : Opd G F H y b) (h : inD a b = some r) {Q : VK} (hq : Q (.bl (if neg then !r else r)) H) : rInA G.K neg x y H Q := by
  unfold inD at h
  split at h
  · rename_i s z
    cases q : sign1 s with
    | none => rw [q] at h; cases h
    | some c =>
      rw [q] at h; cases h
      obtain rfl := sign1_ok q
      obtain rfl := opd_str hx
      obtain rfl := opd_str hy
      exact .inr ⟨c, z, rfl, rfl, hq⟩
  · cases qs : seqOf b with
    | none => rw [qs] at h; cases h
    | some ds =>
      rw [qs] at h
      cases qv : a.flat with
      | none => rw [qv] at h; cases h
      | some v =>
        rw [qv] at h
        have h' : (flats ds).map (fun vs => inV v vs) = some r := h
        cases qf : flats ds with
        | none => rw [qf] at h'; cases h'
        | some vs =>
          rw [qf] at h'; cases h'
          obtain ⟨rfl, f1⟩ := flat_opd qv hx
          refine .inl ?_
          cases b with
          | lst ds' =>
            cases qs
            obtain ⟨p, xs, rfl, h1, h2⟩ := opd_lst e hy
            obtain ⟨rfl, f2⟩ := flats_rep qf h2
            exact ⟨p, xs, rfl, .inl (.inl (.inl h1)), f1, f2, hq⟩
          | tup ds' =>
            cases qs
            obtain ⟨p, xs, rfl, h1, h2⟩ := opd_tup e hy
            obtain ⟨rfl, f2⟩ := flats_rep qf h2
            exact ⟨p, xs, rfl, .inr h1, f1, f2, hq⟩
          | _ => cases qs
theorem s_in : OpS G (rInA G.K false) gIn := by
  intro F H x y a b pr hF hx hy hg Q hq
  unfold gIn at hg
  cases q : inD a b with
  | none => rw [q] at hg; cases hg
  | some r => rw [q] at hg; cases hg; exact inD_ok hF false hx hy q (hq _ (.bl _))
theorem s_nin : OpS G (rInA G.K true) gNin := by
  intro F H x y a b pr hF hx hy hg Q hq
  unfold gNin at hg
  cases q : inD a b with
  | none => rw [q] at hg; cases hg
  | some r => rw [q] at hg; cases hg; exact inD_ok hF true hx hy q (hq _ (.bl _))

/-! ### subscripts, slices -/
def gIx (a b : D) : Option Pr := match a, b with
  | .lst ds, .int i => (atI ds i).map Pr.d
  | .tup ds, .int i => (atI ds i).map Pr.d
  | .str z, .int i => if z.length ≤ 100000 then (atI z.cps.toList i).map fun c => .d (.str ⟨#[c]⟩) else none
  | _, _ => none
theorem atI_reps {xs : List V} {ds : List D} {i : Int} {d : D} (r : Reps G F xs ds) (h : atI ds i = some d) : ∃ v, atI xs i = some v ∧ Rep G F v d := by
  unfold atI at h ⊢
  rw [r.length]
  cases q : ixN ds.length i with
  | none => rw [q] at h; cases h
  | some j =>
    rw [q] at h
    exact r.get h
theorem s_ix : OpS G (rIx G.K) gIx := by
  intro F H x y a b pr hF hx hy hg Q hq
  unfold gIx at hg
  split at hg
  · rename_i ds i
    cases q : atI ds i with
    | none => rw [q] at hg; cases hg
    | some d =>
      rw [q] at hg; cases hg
      obtain ⟨p, xs, rfl, h1, h2⟩ := opd_lst hF hx
      obtain rfl := opd_int hy
      obtain ⟨v, g1, g2⟩ := atI_reps h2 q
      exact .inl ⟨p, xs, i, v, rfl, rfl, .inl (.inl h1), g1, hq v g2⟩
  · rename_i ds i
    cases q : atI ds i with
    | none => rw [q] at hg; cases hg
    | some d =>
      rw [q] at hg; cases hg
      obtain ⟨p, xs, rfl, h1, h2⟩ := opd_tup hF hx
      obtain rfl := opd_int hy
      obtain ⟨v, g1, g2⟩ := atI_reps h2 q
      exact .inr (.inl ⟨p, xs, i, v, rfl, rfl, h1, g1, hq v g2⟩)
  · rename_i z i
    split at hg
    · rename_i hz
      cases q : atI z.cps.toList i with
      | none => rw [q] at hg; cases hg
      | some c =>
        rw [q] at hg; cases hg
        obtain rfl := opd_str hx
        obtain rfl := opd_int hy
        exact .inr (.inr ⟨z, i, c, rfl, rfl, le_line hz, q, hq _ (.str _)⟩)
    · cases hg
  · cases hg
def cutD (ds : List D) (lo hi : Option Int) : List D := (ds.drop (HT.sIx ds.length 0 lo)).take (HT.sIx ds.length ds.length hi - HT.sIx ds.length 0 lo)
theorem cut_reps {xs : List V} {ds : List D} (r : Reps G F xs ds) (lo hi : Option Int) : Reps G F (cutV xs lo hi) (cutD ds lo hi) := by
  unfold cutV cutD
  rw [r.length]
  exact (r.drop _).take _
def gSl (a : D) (lo hi : Option Int) : Option Pr := match a with
  | .lst ds => some (.newL (cutD ds lo hi))
  | .tup ds => some (.newT (cutD ds lo hi))
  | .str z => if z.length ≤ 100000 then some (.d (.str (cutS z lo hi))) else none
  | _ => none
def rSl3 (K : PySem.W.Frag) : V → Option Int → Option Int → Hp → VK → Prop := fun x lo hi H Q => rSlL K x lo hi H Q ∨ (rSlA K x lo hi H Q ∨ rSlS x lo hi H Q)
theorem o_sl {X : Cx} : SlR X (rSl3 X.K) := sl_list.or (sl_tupA.or sl_str)
theorem s_sl : SlS G (rSl3 G.K) gSl := by
  intro F H x a lo hi pr hF hx hg Q hq
  unfold gSl at hg
  split at hg
  · cases hg
    obtain ⟨p, xs, rfl, h1, h2⟩ := opd_lst hF hx
    exact .inl ⟨p, xs, rfl, .inl (.inl h1), fun q hqn => hq q _ hqn (cut_reps h2 lo hi)⟩
  · rename_i ds
    cases hg
    have rx := opd_rep hx (by intro _ z; cases z)
    obtain ⟨p, xs, rfl, h1, h2⟩ := opd_tup hF hx
    refine .inr (.inl ⟨p, xs, rfl, h1, fun hw => ?_, fun _ q hqn => hq.2 q _ hqn (cut_reps h2 lo hi)⟩)
    rw [h2.length] at hw
    have e : cutD ds lo hi = ds := by
      unfold cutD
      rw [hw.1, hw.2, List.drop_zero, Nat.sub_zero, List.take_length]
    exact hq.1 _ (by rw [e]; exact rx)
  · split at hg
    · rename_i hz
      cases hg
      obtain rfl := opd_str hx
      exact .inr (.inr ⟨_, rfl, le_line hz, hq _ (.str _)⟩)
    · cases hg
  · cases hg
end
end Nz

set_option Elab.async false
set_option linter.all false
set_option maxRecDepth 100000
set_option maxHeartbeats 4000000
/-! NzS: sorted of pairs of an int and a tuple of texts. -/
namespace Nz
open PySem L2
/-! ### the order -/
theorem lt_cps : ∀ l m : List Nat, decide (l < m) = Spec.ltCps l m
  | [], [] => rfl
  | [], _ :: _ => by
    show decide _ = true
    exact decide_eq_true (List.nil_lt_cons _ _)
  | _ :: _, [] => by
    show decide _ = false
    exact decide_eq_false (List.not_lt_nil _)
  | a :: l, b :: m => by
    have ih := lt_cps l m
    have e : Spec.ltCps (a :: l) (b :: m) = (decide (a < b) || (a == b && Spec.ltCps l m)) := by simp [Spec.ltCps]
    rw [e, ← ih, Bool.eq_iff_iff]
    simp [List.cons_lt_cons_iff]
def sLt (a b : Str) : Bool := Spec.ltCps a.cps.toList b.cps.toList
def lexL : List Str → List Str → Bool
  | [], [] => false
  | [], _ :: _ => true
  | _ :: _, [] => false
  | a :: as, b :: bs => if a == b then lexL as bs else sLt a b
theorem cp_irr : ∀ l : List Nat, Spec.ltCps l l = false
  | [] => rfl
  | a :: r => by simp [Spec.ltCps, cp_irr r]
theorem cp_tri : ∀ {l m : List Nat}, Spec.ltCps l m = false → Spec.ltCps m l = false → l = m
  | [], [], _, _ => rfl
  | [], _ :: _, h, _ => by cases h
  | _ :: _, [], _, h => by cases h
  | a :: r, b :: t, h1, h2 => by
    simp [Spec.ltCps] at h1 h2
    have e : a = b := by omega
    subst e
    rw [cp_tri (h1.2 rfl) (h2.2 rfl)]
theorem cp_trans : ∀ {l m n : List Nat}, Spec.ltCps l m = true → Spec.ltCps m n = true → Spec.ltCps l n = true
  | [], [], _, h, _ => by cases h
  | [], _ :: _, [], _, h => by cases h
  | [], _ :: _, _ :: _, _, _ => rfl
  | _ :: _, [], _, h, _ => by cases h
  | _ :: _, _ :: _, [], _, h => by cases h
  | a :: r, b :: t, c :: q, h1, h2 => by
    simp [Spec.ltCps] at h1 h2 ⊢
    rcases h1 with h1 | ⟨rfl, h1⟩
    · rcases h2 with h2 | ⟨rfl, h2⟩
      · exact .inl (by omega)
      · exact .inl h1
    · rcases h2 with h2 | ⟨rfl, h2⟩
      · exact .inl h2
      · exact .inr ⟨rfl, cp_trans h1 h2⟩
theorem str_ext {a b : Str} (h : a.cps.toList = b.cps.toList) : a = b := by
  obtain ⟨⟨l⟩⟩ := a
  obtain ⟨⟨m⟩⟩ := b
  have : l = m := h
  rw [this]
theorem sLt_irr (a : Str) : sLt a a = false := cp_irr _
theorem sLt_tri {a b : Str} (h1 : sLt a b = false) (h2 : sLt b a = false) : a = b := str_ext (cp_tri h1 h2)
theorem sLt_trans {a b c : Str} (h1 : sLt a b = true) (h2 : sLt b c = true) : sLt a c = true := cp_trans h1 h2
theorem lexL_irr : ∀ l : List Str, lexL l l = false
  | [] => rfl
  | a :: r => by unfold lexL; rw [if_pos (by simp)]; exact lexL_irr r
theorem lexL_tri : ∀ {l m : List Str}, lexL l m = false → lexL m l = false → l = m
  | [], [], _, _ => rfl
  | [], _ :: _, h, _ => by cases h
  | _ :: _, [], _, h => by cases h
  | a :: r, b :: t, h1, h2 => by
    unfold lexL at h1 h2
    by_cases e : a = b
    · subst e
      rw [if_pos (by simp)] at h1 h2
      rw [lexL_tri h1 h2]
    · rw [if_neg (by simpa using e)] at h1
      rw [if_neg (by simpa using fun z => e z.symm)] at h2
      exact absurd (sLt_tri h1 h2) e
theorem lexL_trans : ∀ {l m n : List Str}, lexL l m = true → lexL m n = true → lexL l n = true
  | [], [], _, h, _ => by cases h
  | [], _ :: _, [], _, h => by cases h
  | [], _ :: _, _ :: _, _, _ => rfl
  | _ :: _, [], _, h, _ => by cases h
  | _ :: _, _ :: _, [], _, h => by cases h
  | a :: r, b :: t, c :: q, h1, h2 => by
    unfold lexL at h1 h2 ⊢
    by_cases e1 : a = b
    · subst e1
      rw [if_pos (by simp)] at h1
      by_cases e2 : a = c
      · subst e2
        rw [if_pos (by simp)] at h2 ⊢
        exact lexL_trans h1 h2
      · rw [if_neg (by simpa using e2)] at h2 ⊢
        exact h2
    · rw [if_neg (by simpa using e1)] at h1
      by_cases e2 : b = c
      · subst e2
        rw [if_neg (by simpa using e1)]
        exact h1
      · rw [if_neg (by simpa using e2)] at h2
        have h3 := sLt_trans h1 h2
        by_cases e3 : a = c
        · subst e3
          rw [sLt_irr] at h3; cases h3
        · rw [if_neg (by simpa using e3)]
          exact h3
abbrev Key' := Int × List Str
def ltK (p q : Key') : Bool := if p.1 = q.1 then lexL p.2 q.2 else decide (p.1 < q.1)
theorem ltK_irr (p : Key') : ltK p p = false := by unfold ltK; rw [if_pos rfl]; exact lexL_irr _
theorem ltK_tri {p q : Key'} (h1 : ltK p q = false) (h2 : ltK q p = false) : p = q := by
  unfold ltK at h1 h2
  by_cases e : p.1 = q.1
  · rw [if_pos e] at h1
    rw [if_pos e.symm] at h2
    exact Prod.ext e (lexL_tri h1 h2)
  · rw [if_neg e, decide_eq_false_iff_not] at h1
    rw [if_neg (fun z => e z.symm), decide_eq_false_iff_not] at h2
    omega
theorem ltK_trans {p q r : Key'} (h1 : ltK p q = true) (h2 : ltK q r = true) : ltK p r = true := by
  unfold ltK at h1 h2 ⊢
  by_cases e1 : p.1 = q.1
  · rw [if_pos e1] at h1
    by_cases e2 : q.1 = r.1
    · rw [if_pos e2] at h2
      rw [if_pos (e1.trans e2)]
      exact lexL_trans h1 h2
    · rw [if_neg e2, decide_eq_true_eq] at h2
      rw [if_neg (by omega), decide_eq_true_eq]
      omega
  · rw [if_neg e1, decide_eq_true_eq] at h1
    by_cases e2 : q.1 = r.1
    · rw [if_neg (by omega), decide_eq_true_eq]
      omega
    · rw [if_neg e2, decide_eq_true_eq] at h2
      rw [if_neg (by omega), decide_eq_true_eq]
      omega
theorem ltK_asym {p q : Key'} (h : ltK p q = true) : ltK q p = false := by
  cases h2 : ltK q p with
  | false => rfl
  | true => have := ltK_trans h h2; rw [ltK_irr] at this; cases this
theorem ltK_neg {p q r : Key'} (h1 : ltK q p = false) (h2 : ltK r q = false) : ltK r p = false := by
  cases h3 : ltK r p with
  | false => rfl
  | true =>
    exfalso
    cases h4 : ltK q r with
    | true => have := ltK_trans h4 h3; rw [h1] at this; cases this
    | false =>
      have e := ltK_tri h4 h2
      subst e
      rw [h1] at h3; cases h3
theorem swoK {α : Type} (k : α → Key') : SrtO.Swo fun v u => ltK (k v) (k u) := ⟨fun _ _ h => ltK_asym h, fun _ _ _ h1 h2 => ltK_neg h1 h2⟩
/-! ### a sort -/
def leK (p q : Key') : Bool := !ltK q p
def insK (x : Key') : List Key' → List Key'
  | [] => [x]
  | y :: r => if leK x y then x :: y :: r else y :: insK x r
def sortK : List Key' → List Key'
  | [] => []
  | x :: r => insK x (sortK r)
theorem insK_perm (x : Key') : ∀ l, (insK x l).Perm (x :: l)
  | [] => List.Perm.refl _
  | y :: r => by
    unfold insK
    split
    · exact List.Perm.refl _
    · exact ((insK_perm x r).cons y).trans (List.Perm.swap x y r)
theorem sortK_perm : ∀ l, (sortK l).Perm l
  | [] => List.Perm.refl _
  | x :: r => (insK_perm x _).trans ((sortK_perm r).cons x)
theorem leK_trans {a b c : Key'} (h1 : leK a b = true) (h2 : leK b c = true) : leK a c = true := by
  unfold leK at *
  simp only [Bool.not_eq_true'] at *
  exact ltK_neg h1 h2
theorem leK_total (a b : Key') : leK a b = true ∨ leK b a = true := by
  unfold leK
  cases h : ltK b a with
  | false => exact .inl rfl
  | true => exact .inr (by rw [ltK_asym h]; rfl)
theorem leK_anti {a b : Key'} (h1 : leK a b = true) (h2 : leK b a = true) : a = b := by
  unfold leK at *
  simp only [Bool.not_eq_true'] at *
  exact ltK_tri h2 h1
theorem insK_sorted (x : Key') : ∀ l, l.Pairwise (fun a b => leK a b = true) → (insK x l).Pairwise (fun a b => leK a b = true)
  | [], _ => List.pairwise_singleton ..
  | y :: r, h => by
    rw [List.pairwise_cons] at h
    unfold insK
    split
    · rename_i hxy
      rw [List.pairwise_cons, List.pairwise_cons]
      refine ⟨fun z hz => ?_, h.1, h.2⟩
      rcases List.mem_cons.mp hz with rfl | hz
      · exact hxy
      · exact leK_trans hxy (h.1 z hz)
    · rename_i hxy
      rw [List.pairwise_cons]
      refine ⟨fun z hz => ?_, insK_sorted x r h.2⟩
      have := (insK_perm x r).subset hz
      rcases List.mem_cons.mp this with rfl | hz
      · exact (leK_total z y).resolve_left hxy
      · exact h.1 z hz
theorem sortK_sorted : ∀ l, (sortK l).Pairwise (fun a b => leK a b = true)
  | [] => .nil
  | x :: r => insK_sorted x _ (sortK_sorted r)
theorem sortedK_is {l m : List Key'} (hp : l.Perm m) (hs : l.Pairwise (fun a b => leK a b = true)) : l = sortK m :=
  List.Perm.eq_of_pairwise (fun a b _ _ => leK_anti) hs (sortK_sorted m) (hp.trans (sortK_perm m).symm)
/-! ### on the heap -/
open PyProof.Rows
def StrsAre (us : List Value) (ss : List Str) : Prop := us.length = ss.length ∧ ∀ j (h : j < us.length), ∃ t, us[j] = .str (ss.getD j "") t
def IsIS (h : Heap) (v : Value) (k : Key') : Prop := ∃ (a b : Addr) (o o' : Obj) (t : Tok) (n n' : Nat) (us : List Value), v = .ref a ∧ h.get? a = some o ∧ o.cls = .type "tuple" ∧ o.data = .seq #[.int k.1 t, .ref b] n ∧ h.get? b = some o' ∧ o'.cls = .type "tuple" ∧ o'.data = .seq us.toArray n' ∧ StrsAre us k.2
theorem IsIS.keeps {h h' : Heap} {v : Value} {k : Key'} (p : IsIS h v k) (hk : ∀ b o, h.get? b = some o → o.cls = .type "tuple" → h'.get? b = some o) : IsIS h' v k := by
  obtain ⟨a, b, o, o', t, n, n', us, e, ho, hc, hd, ho', hc', hd', hs⟩ := p
  exact ⟨a, b, o, o', t, n, n', us, e, hk _ _ ho hc, hc, hd, hk _ _ ho' hc', hc', hd', hs⟩
theorem StrsAre.one {us : List Value} {ss ts : List Str} (h1 : StrsAre us ss) (h2 : StrsAre us ts) : ss = ts := by
  apply List.ext_getElem
  · rw [← h1.1, ← h2.1]
  · intro i g1 g2
    have hi : i < us.length := by rw [h1.1]; exact g1
    obtain ⟨t, e1⟩ := h1.2 i hi
    obtain ⟨t', e2⟩ := h2.2 i hi
    rw [e1] at e2
    have e3 : ss.getD i "" = ts.getD i "" := by injection e2
    rw [List.getD_eq_getElem?_getD, List.getElem?_eq_getElem g1, List.getD_eq_getElem?_getD, List.getElem?_eq_getElem g2] at e3
    exact e3
theorem IsIS.one {h : Heap} {v : Value} {k k' : Key'} (p : IsIS h v k) (q : IsIS h v k') : k = k' := by
  obtain ⟨a, b, o, o', t, n, n', us, rfl, ho, hc, hd, ho', hc', hd', hs⟩ := p
  obtain ⟨a2, b2, p, p', t2, m, m', us2, e2, hp, _, hd2, hp', _, hd2', hs2⟩ := q
  cases e2
  rw [ho] at hp
  cases hp
  rw [hd] at hd2
  injection hd2 with e3 e4
  have e5 : ([.int k.1 t, .ref b] : List Value) = [.int k'.1 t2, .ref b2] := congrArg Array.toList e3
  injection e5 with e6 e7
  injection e7 with e8 e9
  injection e6 with e10 e11
  injection e8 with e12
  subst e12
  rw [ho'] at hp'
  cases hp'
  rw [hd'] at hd2'
  injection hd2' with e13 e14
  have e15 : us = us2 := by simpa using e13
  subst e15
  exact Prod.ext e10 (hs.one hs2)
open Classical in
noncomputable def keyOf (h : Heap) (v : Value) : Key' := if x : ∃ k, IsIS h v k then x.choose else (0, [])
theorem keyOf_is {h : Heap} {v : Value} {k : Key'} (p : IsIS h v k) : keyOf h v = k := by
  have x : ∃ k, IsIS h v k := ⟨k, p⟩
  unfold keyOf
  rw [dif_pos x]
  exact x.choose_spec.one p
theorem firstLt_map {e r : Nat → Bool} {fin : Bool} (f : Nat → Nat) : ∀ l : List Nat, SeqAt.firstLt e r fin (l.map f) = SeqAt.firstLt (fun j => e (f j)) (fun j => r (f j)) fin l
  | [] => rfl
  | j :: l => by
    rw [List.map_cons]
    cases h : e (f j) with
    | true => rw [SeqAt.firstLt_yes h, SeqAt.firstLt_yes (e := fun j => e (f j)) h, firstLt_map f l]
    | false => rw [SeqAt.firstLt_no h, SeqAt.firstLt_no (e := fun j => e (f j)) h]
theorem firstLt_lex : ∀ ss ts : List Str, SeqAt.firstLt (fun j => ss.getD j "" == ts.getD j "") (fun j => sLt (ss.getD j "") (ts.getD j "")) (decide (ss.length < ts.length)) (List.range (min ss.length ts.length)) = lexL ss ts
  | [], [] => rfl
  | [], b :: ts => by
    have e : min ([] : List Str).length (b :: ts).length = 0 := by simp
    rw [e]
    show decide _ = true
    exact decide_eq_true (by simp)
  | a :: ss, [] => by
    have e : min (a :: ss).length ([] : List Str).length = 0 := by simp
    rw [e]
    show decide _ = false
    exact decide_eq_false (by simp)
  | a :: ss, b :: ts => by
    have e : min (a :: ss).length (b :: ts).length = min ss.length ts.length + 1 := by simp only [List.length_cons]; omega
    have ih := firstLt_lex ss ts
    have el : decide ((a :: ss).length < (b :: ts).length) = decide (ss.length < ts.length) := decide_eq_decide.mpr (by simp only [List.length_cons]; omega)
    rw [e, List.range_succ_eq_map, el]
    unfold lexL
    by_cases h : a = b
    · subst h
      rw [if_pos (by simp), SeqAt.firstLt_yes (by show (a == a) = true; simp), firstLt_map]
      exact ih
    · rw [if_neg (by simpa using h), SeqAt.firstLt_no (by show (a == b) = false; simpa using h)]
      rfl
section
variable {prog : Program} {w : World} {A : Around} {E : Value → Shared → Prop} {s : Shared}
theorem rc_strs {b b' : Addr} {o o' : Obj} {us vs : List Value} {n n' : Nat} {ss ts : List Str} (ho : s.heap.get? b = some o) (hc : o.cls = .type "tuple") (hd : o.data = .seq us.toArray n) (ho' : s.heap.get? b' = some o') (hc' : o'.cls = .type "tuple") (hd' : o'.data = .seq vs.toArray n')
    (h1 : StrsAre us ss) (h2 : StrsAre vs ts) (hu : A.units < cLine) : SeqAt.RcLt A s (.ref b) (.ref b') (lexL ss ts) := by
  have e1 : us.toArray.size = ss.length := by rw [List.size_toArray, h1.1]
  have e2 : vs.toArray.size = ts.length := by rw [List.size_toArray, h2.1]
  have h := SeqAt.RcLt.tuples (A := A) (s := s) (l := b) (b := b') (items := us.toArray) (items2 := vs.toArray) (e := fun j => ss.getD j "" == ts.getD j "") (r := fun j => sLt (ss.getD j "") (ts.getD j "")) ⟨o, ho, hc, n, hd⟩ ⟨o', ho', hc', n', hd'⟩ hu (fun j g1 g2 => by
    obtain ⟨t, q1⟩ := h1.2 j (by simpa using g1)
    obtain ⟨u, q2⟩ := h2.2 j (by simpa using g2)
    have q1' : us.toArray[j] = .str (ss.getD j "") t := by simpa using q1
    have q2' : vs.toArray[j] = .str (ts.getD j "") u := by simpa using q2
    rw [q1', q2']
    exact SeqAt.EqAt.str_str _ _ _ _) (fun j g1 g2 _ => by
    obtain ⟨t, q1⟩ := h1.2 j (by simpa using g1)
    obtain ⟨u, q2⟩ := h2.2 j (by simpa using g2)
    have q1' : us.toArray[j] = .str (ss.getD j "") t := by simpa using q1
    have q2' : vs.toArray[j] = .str (ts.getD j "") u := by simpa using q2
    rw [q1', q2']
    intro prog w E Q hq
    refine lt_str (prog := prog) (w := w) ?_
    have e : decide ((ss.getD j "").cps.toList < (ts.getD j "").cps.toList) = sLt (ss.getD j "") (ts.getD j "") := lt_cps _ _
    rw [e]
    exact hq)
  rw [e1, e2, firstLt_lex] at h
  exact h
theorem eq_strs {b b' : Addr} {o o' : Obj} {us vs : List Value} {n n' : Nat} {ss ts : List Str} (ho : s.heap.get? b = some o) (hc : o.cls = .type "tuple") (hd : o.data = .seq us.toArray n) (ho' : s.heap.get? b' = some o') (hc' : o'.cls = .type "tuple") (hd' : o'.data = .seq vs.toArray n')
    (h1 : StrsAre us ss) (h2 : StrsAre vs ts) (hu : A.units < cLine) : SeqAt.EqAt A s (.ref b) (.ref b') (ss == ts) := by
  by_cases hb : b = b'
  · subst hb
    rw [ho] at ho'
    cases ho'
    rw [hd] at hd'
    injection hd' with e1 _
    have e2 : us = vs := by simpa using e1
    subst e2
    have e3 := h1.one h2
    subst e3
    have : (ss == ss) = true := by simp
    rw [this]
    exact SeqAt.EqAt.same _
  · have e1 : us.toArray.size = ss.length := by rw [List.size_toArray, h1.1]
    have e2 : vs.toArray.size = ts.length := by rw [List.size_toArray, h2.1]
    have h := SeqAt.RcAt.tuples (A := A) (s := s) (l := b) (b := b') (items := us.toArray) (items2 := vs.toArray) (e := fun j => ss.getD j "" == ts.getD j "") ⟨o, ho, hc, n, hd⟩ ⟨o', ho', hc', n', hd'⟩ hu (fun j g1 g2 => by
      obtain ⟨t, q1⟩ := h1.2 j (by simpa using g1)
      obtain ⟨u, q2⟩ := h2.2 j (by simpa using g2)
      have q1' : us.toArray[j] = .str (ss.getD j "") t := by simpa using q1
      have q2' : vs.toArray[j] = .str (ts.getD j "") u := by simpa using q2
      rw [q1', q2']
      exact SeqAt.EqAt.str_str _ _ _ _)
    have e : ((List.range (min us.toArray.size vs.toArray.size)).all (fun j => ss.getD j "" == ts.getD j "") && us.toArray.size == vs.toArray.size) = (ss == ts) := by
      rw [e1, e2, Bool.eq_iff_iff, Bool.and_eq_true, List.all_eq_true, beq_iff_eq, beq_iff_eq]
      constructor
      · rintro ⟨g1, g2⟩
        apply List.ext_getElem g2
        intro i k1 k2
        have := g1 i (List.mem_range.mpr (by omega))
        rw [beq_iff_eq, List.getD_eq_getElem?_getD, List.getElem?_eq_getElem k1, List.getD_eq_getElem?_getD, List.getElem?_eq_getElem k2] at this
        exact this
      · rintro rfl
        exact ⟨fun j _ => by simp, rfl⟩
    rw [e] at h
    exact SeqAt.EqAt.of_refs hb h
theorem is_cmp {vs : List Value} {k : Value → Key'} (hu : A.units < cLine) (hp : ∀ v ∈ vs, IsIS s.heap v (k v)) : SrtO.Cmp prog w A s (tuples' true) (fun p => p.1 ∈ vs) (SrtO.lt2 fun v u => ltK (k v) (k u)) := by
  intro p q hm hm'
  have h1 := hp _ hm
  have h2 := hp _ hm'
  show wpAny (model prog w) A (keyLt' (tuples' true) p.1 q.1) (fun r s' => s' = s ∧ r = ltK (k p.1) (k q.1)) (fun _ _ => False) s
  unfold ltK
  generalize k p.1 = x at h1 ⊢
  generalize k q.1 = x' at h2 ⊢
  obtain ⟨a, b, o, o', t, n, n', us, e, ho, hc, hd, go, gc, gd, gs⟩ := h1
  obtain ⟨a2, b2, p, p', t2, m, m', us2, e2, hp, hc2, hd2, gp, gc2, gd2, gs2⟩ := h2
  rw [e, e2]
  refine PySem.W.kat_lt ho hd hp hd2 ?_
  show PySem.W.KatLex prog w A true (decide (2 < 2)) _ [(.int x.1 t, .int x'.1 t2), (.ref b, .ref b2)] 0 s
  refine PySem.W.kat_cons (SeqAt.EqAt.int_int x.1 t x'.1 t2 prog w _ _ ?_)
  refine PySem.W.kat_go (fun e1 => ?_) (fun e1 => ?_)
  · have ex : x.1 = x'.1 := by simpa using e1
    rw [if_pos ex]
    refine PySem.W.kat_yes (PySem.W.kat_cons (eq_strs go gc gd gp gc2 gd2 gs gs2 hu prog w _ _ ?_))
    refine PySem.W.kat_go (fun e2 => ?_) (fun e2 => ?_)
    · have ey : x.2 = x'.2 := by simpa using e2
      refine PySem.W.kat_yes (PySem.W.kat_nil ⟨rfl, ?_⟩)
      rw [ey, lexL_irr]
      rfl
    · refine PySem.W.kat_no (PySem.W.kat_one _ _ ?_)
      exact rc_strs go gc gd gp gc2 gd2 gs gs2 hu prog w _ _ ⟨rfl, rfl⟩
  · have ex : ¬ x.1 = x'.1 := by simpa using e1
    rw [if_neg ex]
    exact PySem.W.kat_no (oneLt_int ⟨rfl, rfl⟩)
theorem firsts_is {h : Heap} : ∀ {vs : List Value}, (∀ v ∈ vs, ∃ k, IsIS h v k) → ∃ fs : List Value, PySem.W.KatTups h vs fs ∧ fs.length = vs.length ∧ ∀ f ∈ fs, ∃ x t, f = Value.int x t
  | [], _ => ⟨[], PySem.W.KatTups.nil, rfl, fun _ hm => by simp at hm⟩
  | v :: vs, hp => by
    obtain ⟨fs, h1, h2, h3⟩ := firsts_is (vs := vs) fun v' hm => hp v' (List.mem_cons_of_mem _ hm)
    obtain ⟨k, a, b, o, o', t, n, n', us, e, ho, hc, hd, _⟩ := hp v (List.mem_cons_self ..)
    subst e
    refine ⟨.int k.1 t :: fs, PySem.W.KatTups.cons ho hc hd rfl h1, by rw [List.length_cons, List.length_cons, h2], fun f hm => ?_⟩
    rcases List.mem_cons.mp hm with rfl | hm
    · exact ⟨k.1, t, rfl⟩
    · exact h3 f hm
theorem is_sortable {a : Addr} {vs : List Value} {k : Value → Key'} (hu : A.units < cLine) (h0 : 0 < vs.length) (hp : ∀ v ∈ vs, IsIS s.heap v (k v)) (ha : ∀ o, s.heap.get? a = some o → o.cls ≠ .type "tuple") : SrtO.SortableO prog w A s a vs fun v u => ltK (k v) (k u) := by
  intro h' keep
  have hp' : ∀ v ∈ vs, IsIS h' v (k v) := fun v hm => (hp v hm).keeps fun b o e c => keep b o (fun z => by subst z; exact ha o e c) e
  obtain ⟨fs, h1, h2, h3⟩ := firsts_is fun v hm => ⟨_, hp' v hm⟩
  refine ⟨tuples' true, fun Q E hq => ?_, is_cmp hu hp'⟩
  refine PySem.W.kat_kind (T := .type "int") h1 (by omega) (fun f hm => ?_) (by rfl) ?_
  · obtain ⟨x, t, rfl⟩ := h3 f hm
    exact PySem.W.Looks.now
  · have e : (Value.type "int" != Value.type "tuple") = true := by first | decide +kernel | rfl | decide
    rw [e]
    exact hq
theorem sorted_is {l : Addr} {vs : List Value} {k : Value → Key'} {Q : Value → Shared → Prop} (hu : A.units + 64 < cLine) (hl : s.heap.IsList l vs.toArray) (hz : vs.length ≤ sizeLine) (hp : ∀ v ∈ vs, IsIS s.heap v (k v))
    (h : ∀ (h' : Heap) (d : Addr) (out : List Value), SrtO.Srtd (fun v u => ltK (k v) (k u)) out → SrtO.Stb (fun v u => ltK (k v) (k u)) out vs → (∀ b o, s.heap.get? b = some o → h'.get? b = some o) → s.heap.objs.size ≤ d → (∃ n, h'.get? d = some (seqObj "list" out.toArray n)) → Q (.ref d) { s with heap := h' }) :
    wpAny (model prog w) A (call (.builtin "sorted") [.ref l]) Q E s := by
  refine SrtO.sorted_ord (swoK k) hl hz (fun h2 h₁ a ha kk => ?_) fun out hs hb => ?_
  · refine is_sortable (s := { s with heap := h₁ }) (by show A.units + 1 + 1 < cLine; omega) (by omega) (fun v hm => (hp v hm).keeps fun b o e _ => (kk b o e).2) fun o e => ?_
    have e' : some o = some (seqObj "list" vs.toArray 0) := e.symm.trans ha
    cases e'
    intro c
    exact absurd (Value.type.inj c) (by decide)
  · exact h _ _ out hs hb (fun b o e => sortedAll_old e) (Nat.le_succ _) (sortedAll_at s.heap vs out.toArray)
end
/-! ### as a rule -/
inductive ISs (K : PySem.W.Frag) (H : Hp) : List V → List Key' → Prop
  | nil : ISs K H [] []
  | cons {a b : Addr} {i : Int} {ss : List Str} {xs : List V} {ks : List Key'} : SqT K H a [.int i, .ref b] → SqT K H b (ss.map V.str) → ISs K H xs ks → ISs K H (.ref a :: xs) ((i, ss) :: ks)
def rSortIS (K : PySem.W.Frag) : List V → Hp → VK → Prop := fun vs H Q => ∃ (a : Addr) (xs : List V) (ks : List Key'), vs = [V.ref a] ∧ SqL K H a xs ∧ ISs K H xs ks ∧
  ∀ (ps : List (V × Key')) p, ps.Perm (xs.zip ks) → (ps.map (·.2)).Pairwise (fun a b => leK a b = true) → H p = none → Q (.ref p) (upd H p (.lst (ps.map (·.1))))
theorem strs_are : ∀ {ss : List Str} {us : List Value}, Vals (ss.map V.str) us → StrsAre us ss
  | [], _, h => by cases h; exact ⟨rfl, fun j h => absurd h (by simp)⟩
  | s :: ss, _, h => by
    cases h with
    | cons r t =>
      obtain ⟨tk, rfl⟩ := r
      obtain ⟨h1, h2⟩ := strs_are t
      refine ⟨by simp [h1], fun j hj => ?_⟩
      cases j with
      | zero => exact ⟨tk, rfl⟩
      | succ j => exact h2 j (by simpa using hj)
section
variable {X : Cx} {pins : List (Addr × Obj)} {σ : L2.St} {H : Hp} {s : Shared}
theorem iss_vals (I : Inv X pins σ H s) : ∀ {xs : List V} {ks : List Key'} {us : List Value}, ISs X.K H xs ks → Vals xs us → (∀ v ∈ us, IsIS s.heap v (keyOf s.heap v)) ∧ us.map (fun u => (backV u, keyOf s.heap u)) = xs.zip ks ∧ (∀ v ∈ us, ∃ a, v = Value.ref a)
  | _, _, _, .nil, r => by cases r; exact ⟨fun v h => by simp at h, rfl, fun v h => by simp at h⟩
  | _, _, _, .cons (a := a) (b := b) (i := i) (ss := ss) h1 h2 h3, r => by
    cases r with
    | cons r t =>
      obtain ⟨g1, g2, g3⟩ := iss_vals I h3 t
      obtain rfl := (show _ = Value.ref a from r)
      obtain ⟨its, r1, ⟨o, ho, hc, n, hd⟩, _⟩ := I.tuple h1
      obtain ⟨its2, r2, ⟨o', ho', hc', n', hd'⟩, _⟩ := I.tuple h2
      obtain ⟨u1, u2, rfl, ri, rj⟩ := vals2 r1
      obtain ⟨t1, rfl⟩ := ri
      cases (show u2 = Value.ref b from rj)
      have hk : IsIS s.heap (.ref a) (i, ss) := ⟨a, b, o, o', t1, n, n', its2, rfl, ho, hc, hd, ho', hc', hd', strs_are r2⟩
      have hk2 := keyOf_is hk
      refine ⟨fun v hv => ?_, ?_, fun v hv => ?_⟩
      · rcases List.mem_cons.mp hv with rfl | hv
        · rw [hk2]; exact hk
        · exact g1 v hv
      · rw [List.map_cons, g2, hk2]
        rfl
      · rcases List.mem_cons.mp hv with rfl | hv
        · exact ⟨a, rfl⟩
        · exact g3 v hv
end
theorem cr_sortIS {X : Cx} (hu : X.A.units + 64 < cLine) : CallR X (.builtin "sorted") (rSortIS X.K) := by
  intro pins s σ H vs us Q I r h
  obtain ⟨a, xs, ks, rfl, hs, hx, q⟩ := h
  obtain ⟨its, rv, hl, hz⟩ := I.list hs
  obtain ⟨u, rfl, ru⟩ := vals1 r
  obtain rfl : u = Value.ref a := ru
  obtain ⟨g1, g2, g3⟩ := iss_vals I hx rv
  refine sorted_is (k := keyOf s.heap) hu hl.isList (by rw [← rv.length]; exact hz) g1 fun h' d out h1 h2 kp hd hn => ?_
  have h3 : ∀ u ∈ out, ∃ a, u = Value.ref a := fun u hu => g3 u (h2.perm.mem_iff.mp hu)
  obtain ⟨n, hn⟩ := hn
  have hp : (out.map fun u => (backV u, keyOf s.heap u)).Perm (xs.zip ks) := by
    rw [← g2]
    exact h2.perm.map _
  have e1 : (out.map fun u => (backV u, keyOf s.heap u)).map (·.1) = out.map backV := by rw [List.map_map]; rfl
  have hlen : (out.map backV).length ≤ sizeLine := by
    rw [List.length_map, h2.perm.length_eq, ← rv.length]; exact hz
  have hq := q (out.map fun u => (backV u, keyOf s.heap u)) d hp (by
    rw [List.map_map, List.pairwise_map]
    refine List.Pairwise.imp (fun {a b} h => ?_) h1
    show leK (keyOf s.heap a) (keyOf s.heap b) = true
    unfold leK
    have h' : ltK (keyOf s.heap b) (keyOf s.heap a) = false := h
    rw [h']
    rfl) (I.hok.fresh hd)
  rw [e1] at hq
  exact ⟨.ref d, upd H d (.lst (out.map backV)), I.laid (t' := s.toks) kp hd ⟨hlen, out, n, vals_back h3, hn⟩, rfl, hq⟩
/-! ### on data -/
def kD (k : Key') : D := .tup [.int k.1, .tup (k.2.map D.str)]
end Nz

set_option Elab.async false
set_option linter.all false
set_option maxRecDepth 100000
set_option maxHeartbeats 4000000
/-! Nz12: built-ins on data; methods of lists; a def by its body; the law. -/
namespace Nz
open PySem L2
section
variable {G : Gi} {F H : Hp}
def strsOf : List D → Option (List Str)
  | [] => some []
  | .str s :: ds => (strsOf ds).map (s :: ·)
  | _ :: _ => none
def intsOf : List D → Option (List Int)
  | [] => some []
  | .int s :: ds => (intsOf ds).map (s :: ·)
  | _ :: _ => none
def blsOf : List D → Option (List Bool)
  | [] => some []
  | .bl s :: ds => (blsOf ds).map (s :: ·)
  | _ :: _ => none
theorem strsOf_inv : ∀ {ds : List D} {ss : List Str}, strsOf ds = some ss → ds = ss.map D.str
  | [], _, h => by cases h; rfl
  | d :: ds, ss, h => by
    cases d with
    | str s =>
      have h' : (strsOf ds).map (s :: ·) = some ss := h
      cases q : strsOf ds with
      | none => rw [q] at h'; cases h'
      | some r => rw [q] at h'; cases h'; rw [strsOf_inv q]; rfl
    | _ => cases h
theorem strsOf_rep : ∀ {ds : List D} {us : List V} {ss : List Str}, strsOf ds = some ss → Reps G F us ds → us = ss.map V.str
  | [], _, _, h, r => by cases h; cases r; rfl
  | d :: ds, _, _, h, r => by
    cases r with
    | cons r1 r2 =>
      cases d <;> try cases h
      rename_i s
      unfold strsOf at h
      cases q : strsOf ds with
      | none => rw [q] at h; cases h
      | some ss =>
        rw [q] at h; cases h
        cases r1
        rw [strsOf_rep q r2]; rfl
theorem intsOf_rep : ∀ {ds : List D} {us : List V} {ss : List Int}, intsOf ds = some ss → Reps G F us ds → us = ss.map V.int
  | [], _, _, h, r => by cases h; cases r; rfl
  | d :: ds, _, _, h, r => by
    cases r with
    | cons r1 r2 =>
      cases d <;> try cases h
      rename_i s
      unfold intsOf at h
      cases q : intsOf ds with
      | none => rw [q] at h; cases h
      | some ss =>
        rw [q] at h; cases h
        cases r1
        rw [intsOf_rep q r2]; rfl
theorem blsOf_rep : ∀ {ds : List D} {us : List V} {ss : List Bool}, blsOf ds = some ss → Reps G F us ds → us = ss.map V.bl
  | [], _, _, h, r => by cases h; cases r; rfl
  | d :: ds, _, _, h, r => by
    cases r with
    | cons r1 r2 =>
      cases d <;> try cases h
      rename_i s
      unfold blsOf at h
      cases q : blsOf ds with
      | none => rw [q] at h; cases h
      | some ss =>
        rw [q] at h; cases h
        cases r1
        rw [blsOf_rep q r2]; rfl
theorem strs_reps : ∀ (ss : List Str), Reps G F (ss.map V.str) (ss.map D.str)
  | [] => .nil
  | s :: ss => .cons (.str s) (strs_reps ss)
theorem ints_reps : ∀ (ss : List Int), Reps G F (ss.map V.int) (ss.map D.int)
  | [] => .nil
  | s :: ss => .cons (.int s) (ints_reps ss)

/-! ### len -/
def gLen (as : List D) : Option Pr := match as with
  | [.lst ds] => some (.d (.int ds.length))
  | [.tup ds] => some (.d (.int ds.length))
  | [.str z] => if z.length ≤ 100000 then some (.d (.int z.length)) else none
  | _ => none
def rLen (K : PySem.W.Frag) : List V → Hp → VK → Prop := fun xs H Q => (∃ p ys, xs = [.ref p] ∧ (SqL K H p ys ∨ SqT K H p ys) ∧ Q (.int ys.length) H) ∨ ∃ z, xs = [.str z] ∧ z.length ≤ sizeLine ∧ Q (.int z.length) H
theorem o_len {X : Cx} : CallR X (.builtin "len") (rLen X.K) := call_len_seq.or call_len_str
theorem s_len : CaS G (rLen G.K) gLen := by
  intro F H xs as pr hF hx hg Q hq
  unfold gLen at hg
  split at hg
  · rename_i ds
    cases hg
    obtain ⟨u, rfl, hu⟩ := opds1 hx
    obtain ⟨p, ys, rfl, h1, h2⟩ := opd_lst hF hu
    exact .inl ⟨p, ys, rfl, .inl (.inl (.inl h1)), by rw [h2.length]; exact hq _ (.int _)⟩
  · rename_i ds
    cases hg
    obtain ⟨u, rfl, hu⟩ := opds1 hx
    obtain ⟨p, ys, rfl, h1, h2⟩ := opd_tup hF hu
    exact .inl ⟨p, ys, rfl, .inr h1, by rw [h2.length]; exact hq _ (.int _)⟩
  · split at hg
    · rename_i hz
      cases hg
      obtain ⟨u, rfl, hu⟩ := opds1 hx
      obtain rfl := opd_str hu
      exact .inr ⟨_, rfl, le_line hz, hq _ (.int _)⟩
    · cases hg
  · cases hg
/-! ### all, any, sum -/
def gAll (as : List D) : Option Pr := match as with
  | [.lst ds] => (blsOf ds).map fun bs => .d (.bl (bs.all id))
  | _ => none
def gAny (as : List D) : Option Pr := match as with
  | [.lst ds] => (blsOf ds).map fun bs => .d (.bl (bs.any id))
  | _ => none
def gSum (as : List D) : Option Pr := match as with
  | [.lst ds] => (intsOf ds).map fun ns => .d (.int ns.sum)
  | _ => none
theorem s_all : CaS G (rAll G.K) gAll := by
  intro F H xs as pr hF hx hg Q hq
  unfold gAll at hg
  split at hg
  · rename_i ds
    obtain ⟨u, rfl, hu⟩ := opds1 hx
    obtain ⟨p, ys, rfl, h1, h2⟩ := opd_lst hF hu
    cases q : blsOf ds with
    | none => rw [q] at hg; cases hg
    | some bs =>
      rw [q] at hg; cases hg
      obtain rfl := blsOf_rep q h2
      exact ⟨p, bs, rfl, .inl (.inl h1), hq _ (.bl _)⟩
  · cases hg
theorem s_any : CaS G (rAny G.K) gAny := by
  intro F H xs as pr hF hx hg Q hq
  unfold gAny at hg
  split at hg
  · rename_i ds
    obtain ⟨u, rfl, hu⟩ := opds1 hx
    obtain ⟨p, ys, rfl, h1, h2⟩ := opd_lst hF hu
    cases q : blsOf ds with
    | none => rw [q] at hg; cases hg
    | some bs =>
      rw [q] at hg; cases hg
      obtain rfl := blsOf_rep q h2
      exact ⟨p, bs, rfl, .inl (.inl h1), hq _ (.bl _)⟩
  · cases hg
theorem s_sum : CaS G (rSum G.K) gSum := by
  intro F H xs as pr hF hx hg Q hq
  unfold gSum at hg
  split at hg
  · rename_i ds
    obtain ⟨u, rfl, hu⟩ := opds1 hx
    obtain ⟨p, ys, rfl, h1, h2⟩ := opd_lst hF hu
    cases q : intsOf ds with
    | none => rw [q] at hg; cases hg
    | some bs =>
      rw [q] at hg; cases hg
      obtain rfl := intsOf_rep q h2
      exact ⟨p, bs, rfl, .inl (.inl h1), hq _ (.int _)⟩
  · cases hg
/-! ### list(..), tuple(..), int(..) -/
def gList (as : List D) : Option Pr := match as with
  | [.lst ds] => some (.newL ds)
  | [.tup ds] => some (.newL ds)
  | [.frz ds] => some (.newL ds)
  | _ => none
theorem s_list : CaS G (fun xs H Q => ∃ p ys, xs = [.ref p] ∧ (SqL G.K H p ys ∨ SqT G.K H p ys) ∧ ∀ l, H l = none → Q (.ref l) (upd H l (.lst ys))) gList := by
  intro F H xs as pr hF hx hg Q hq
  unfold gList at hg
  split at hg
  · cases hg
    obtain ⟨u, rfl, hu⟩ := opds1 hx
    obtain ⟨p, ys, rfl, h1, h2⟩ := opd_lst hF hu
    exact ⟨p, ys, rfl, .inl (.inl (.inl h1)), fun l hl => hq l _ hl h2⟩
  · cases hg
    obtain ⟨u, rfl, hu⟩ := opds1 hx
    obtain ⟨p, ys, rfl, h1, h2⟩ := opd_tup hF hu
    exact ⟨p, ys, rfl, .inr h1, fun l hl => hq l _ hl h2⟩
  · cases hg
    obtain ⟨u, rfl, hu⟩ := opds1 hx
    have r := opd_rep hu (by intro _ z; cases z)
    cases r with
    | frz h1 h2 => exact ⟨_, _, rfl, .inl (sub_sqL hF h1), fun l hl => hq l _ hl h2⟩
  · cases hg
def gTuple (as : List D) : Option Pr := match as with
  | [.lst ds] => some (.newT ds)
  | [.tup ds] => some (.d (.tup ds))
  | _ => none
theorem s_tuple : CaS G (fun xs H Q => ∃ p ys, xs = [.ref p] ∧ ((SqL G.K H p ys ∧ ∀ l, H l = none → Q (.ref l) (upd H l (.tup ys))) ∨ (SqT G.K H p ys ∧ Q (.ref p) H))) gTuple := by
  intro F H xs as pr hF hx hg Q hq
  unfold gTuple at hg
  split at hg
  · cases hg
    obtain ⟨u, rfl, hu⟩ := opds1 hx
    obtain ⟨p, ys, rfl, h1, h2⟩ := opd_lst hF hu
    exact ⟨p, ys, rfl, .inl ⟨.inl (.inl h1), fun l hl => hq.2 l _ hl h2⟩⟩
  · cases hg
    obtain ⟨u, rfl, hu⟩ := opds1 hx
    have r := opd_rep hu (by intro _ z; cases z)
    obtain ⟨p, ys, rfl, h1, h2⟩ := opd_tup hF hu
    exact ⟨p, ys, rfl, .inr ⟨h1, hq _ r⟩⟩
  · cases hg
def gInt (as : List D) : Option Pr := match as with
  | [.int i] => some (.d (.int i))
  | [.bl b] => some (.d (.int (if b then 1 else 0)))
  | _ => none
theorem s_int : CaS G (fun xs H Q => (∃ i, xs = [.int i] ∧ Q (.int i) H) ∨ ∃ k, xs = [.bl k] ∧ Q (.int (if k then 1 else 0)) H) gInt := by
  intro F H xs as pr hF hx hg Q hq
  unfold gInt at hg
  split at hg
  · cases hg
    obtain ⟨u, rfl, hu⟩ := opds1 hx
    obtain rfl := opd_int hu
    exact .inl ⟨_, rfl, hq _ (.int _)⟩
  · cases hg
    obtain ⟨u, rfl, hu⟩ := opds1 hx
    obtain rfl := opd_bl hu
    exact .inr ⟨_, rfl, hq _ (.int _)⟩
  · cases hg
/-- list(range(..)) -/
def lstRng1 (o : Option (List D)) : Option Pr := match o with
  | some [.int j] => if small j then some (.newL (upto 0 j.toNat)) else none
  | _ => none
def fLRng1 (fa : EF) : EF := fun ρ => (opd fa ρ).bind fun a ρ1 => ofP ρ1 (lstRng1 (ress ρ1 [a]))
def lstRng2 (o : Option (List D)) : Option Pr := match o with
  | some [.int i, .int j] => if small i && small j then some (.newL (upto i (j - i).toNat)) else none
  | _ => none
def fLRng2 (fa fb : EF) : EF := fun ρ => (opd fa ρ).bind fun a ρ1 => (opd fb ρ1).bind fun b ρ2 => ofP ρ2 (lstRng2 (ress ρ2 [a, b]))
theorem rgV_reps (i j : Int) : Reps G F (rgV i j) (upto i (j - i).toNat) := by
  unfold rgV upto
  induction (List.range (j - i).toNat) with
  | nil => exact .nil
  | cons a l ih => exact .cons (.int _) ih
variable {B : Bs} {σ : L2.St} {ρ : Env} {Y : Xi} {W : WX}
theorem t_lrng1 {fa : EF} {Q : VK} (h : tE G Y W (fLRng1 fa) σ H Q) : tLstRg (tRg1 (tE G Y W fa)) σ H Q := by
  obtain ⟨B, F, ρ, S, p⟩ := h
  refine tE_opd ⟨B, F, ρ, S, Post.seq p fun a ρ1 u F1 H1 ha e1 S1 R1 p1 => ?_⟩
  obtain ⟨pr, hpr, q⟩ := Post.ofP S1 p1
  cases hra : ress ρ1 [a] with
  | none => rw [hra] at hpr; cases hpr
  | some ds =>
    rw [hra] at hpr
    unfold lstRng1 at hpr
    split at hpr
    · rename_i j e
      cases e
      obtain ⟨u', e, hu⟩ := opds1 (S1.opds (.cons R1 .nil) hra)
      cases e
      obtain rfl := opd_int hu
      split at hpr
      · rename_i hs
        cases hpr
        obtain ⟨h1, h2⟩ := small_of hs
        have hs' := of_decide_eq_true hs
        refine ⟨j, rfl, ⟨by omega, by omega, h1, h2, by omega⟩, fun r hr => ?_⟩
        have := q r _ hr (rgV_reps (G := G) (F := F1) 0 j |> fun z => by rw [Int.sub_zero] at z; exact z)
        exact this
      · cases hpr
    · cases hpr
theorem t_lrng2 {fa fb : EF} {Q : VK} (h : tE G Y W (fLRng2 fa fb) σ H Q) : tLstRg (tRg2 (tE G Y W fa) (tE G Y W fb)) σ H Q := by
  obtain ⟨B, F, ρ, S, p⟩ := h
  refine tE_opd ⟨B, F, ρ, S, Post.seq p fun a ρ1 u F1 H1 ha e1 S1 R1 p1 => ?_⟩
  refine tE_opd ⟨B, F1, ρ1, S1, Post.seq p1 fun b ρ2 v F2 H2 hb e2 S2 R2 p2 => ?_⟩
  obtain ⟨pr, hpr, q⟩ := Post.ofP S2 p2
  have R1' : RvRep G B F2 H2 σ ρ2 u a := flat_stays (opd_flat ha) e2 R1
  cases hra : ress ρ2 [a, b] with
  | none => rw [hra] at hpr; cases hpr
  | some ds =>
    rw [hra] at hpr
    unfold lstRng2 at hpr
    split at hpr
    · rename_i i j e
      cases e
      obtain ⟨u', v', e, hu, hv⟩ := opds2 (S2.opds (.cons R1' (.cons R2 .nil)) hra)
      cases e
      obtain rfl := opd_int hu
      obtain rfl := opd_int hv
      split at hpr
      · rename_i hs
        cases hpr
        rw [Bool.and_eq_true] at hs
        obtain ⟨h1, h2⟩ := small_of hs.1
        obtain ⟨h3, h4⟩ := small_of hs.2
        have hs1 := of_decide_eq_true hs.1
        have hs2 := of_decide_eq_true hs.2
        exact ⟨i, j, rfl, rfl, ⟨h1, h2, h3, h4, by omega⟩, fun r hr => q r _ hr (rgV_reps i j)⟩
      · cases hpr
    · cases hpr
/-! ### max, min of two -/
def gMax2 (as : List D) : Option Pr := match as with
  | [.int i, .int j] => some (.d (.int (if j > i then j else i)))
  | _ => none
def gMin2 (as : List D) : Option Pr := match as with
  | [.int i, .int j] => some (.d (.int (if j < i then j else i)))
  | _ => none
theorem s_max2 : CaS G (fun xs H Q => ∃ i j, xs = [.int i, .int j] ∧ Q (.int (if j > i then j else i)) H) gMax2 := by
  intro F H xs as pr hF hx hg Q hq
  unfold gMax2 at hg
  split at hg
  · cases hg
    obtain ⟨u, v, rfl, hu, hv⟩ := opds2 hx
    obtain rfl := opd_int hu
    obtain rfl := opd_int hv
    exact ⟨_, _, rfl, hq _ (.int _)⟩
  · cases hg
theorem s_min2 : CaS G (fun xs H Q => ∃ i j, xs = [.int i, .int j] ∧ Q (.int (if j < i then j else i)) H) gMin2 := by
  intro F H xs as pr hF hx hg Q hq
  unfold gMin2 at hg
  split at hg
  · cases hg
    obtain ⟨u, v, rfl, hu, hv⟩ := opds2 hx
    obtain rfl := opd_int hu
    obtain rfl := opd_int hv
    exact ⟨_, _, rfl, hq _ (.int _)⟩
  · cases hg

/-! ### sorted -/
def leS (a b : Str) : Bool := !Spec.ltCps b.cps.toList a.cps.toList
def insS (x : Str) : List Str → List Str
  | [] => [x]
  | y :: r => if leS x y then x :: y :: r else y :: insS x r
def sortS : List Str → List Str
  | [] => []
  | x :: r => insS x (sortS r)
def insI (x : Int) : List Int → List Int
  | [] => [x]
  | y :: r => if x ≤ y then x :: y :: r else y :: insI x r
def sortI : List Int → List Int
  | [] => []
  | x :: r => insI x (sortI r)
theorem lt_irrefl' : ∀ l : List Nat, Spec.ltCps l l = false
  | [] => rfl
  | a :: r => by simp [Spec.ltCps, lt_irrefl' r]
theorem lt_tri : ∀ {l m : List Nat}, Spec.ltCps l m = false → Spec.ltCps m l = false → l = m
  | [], [], _, _ => rfl
  | [], _ :: _, h, _ => by cases h
  | _ :: _, [], _, h => by cases h
  | a :: r, b :: t, h1, h2 => by
    simp [Spec.ltCps] at h1 h2
    have e : a = b := by omega
    subst e
    rw [lt_tri (h1.2 rfl) (h2.2 rfl)]
theorem lt_trans' : ∀ {l m n : List Nat}, Spec.ltCps l m = true → Spec.ltCps m n = true → Spec.ltCps l n = true
  | [], [], _, h, _ => by cases h
  | [], _ :: _, [], _, h => by cases h
  | [], _ :: _, _ :: _, _, _ => rfl
  | _ :: _, [], _, h, _ => by cases h
  | _ :: _, _ :: _, [], _, h => by cases h
  | a :: r, b :: t, c :: q, h1, h2 => by
    simp [Spec.ltCps] at h1 h2 ⊢
    rcases h1 with h1 | ⟨rfl, h1⟩
    · rcases h2 with h2 | ⟨rfl, h2⟩
      · exact .inl (by omega)
      · exact .inl h1
    · rcases h2 with h2 | ⟨rfl, h2⟩
      · exact .inl h2
      · exact .inr ⟨rfl, lt_trans' h1 h2⟩
theorem leS_trans {a b c : Str} (h1 : leS a b = true) (h2 : leS b c = true) : leS a c = true := by
  unfold leS at *
  simp only [Bool.not_eq_true'] at *
  cases h : Spec.ltCps c.cps.toList a.cps.toList with
  | false => rfl
  | true =>
    exfalso
    cases h3 : Spec.ltCps b.cps.toList c.cps.toList with
    | true => rw [lt_trans' h3 h] at h1; cases h1
    | false =>
      have e := lt_tri h2 h3
      rw [e] at h
      rw [h] at h1
      cases h1
theorem leS_total (a b : Str) : leS a b = true ∨ leS b a = true := by
  unfold leS
  cases h : Spec.ltCps b.cps.toList a.cps.toList with
  | false => exact .inl rfl
  | true =>
    cases h2 : Spec.ltCps a.cps.toList b.cps.toList with
    | false => exact .inr rfl
    | true => have := lt_trans' h h2; rw [lt_irrefl'] at this; cases this
theorem leS_anti {a b : Str} (h1 : leS a b = true) (h2 : leS b a = true) : a = b := by
  unfold leS at *
  simp only [Bool.not_eq_true'] at *
  have e := lt_tri h2 h1
  obtain ⟨⟨l⟩⟩ := a
  obtain ⟨⟨m⟩⟩ := b
  have : l = m := e
  rw [this]
theorem insS_perm (x : Str) : ∀ l, (insS x l).Perm (x :: l)
  | [] => List.Perm.refl _
  | y :: r => by
    unfold insS
    split
    · exact List.Perm.refl _
    · exact ((insS_perm x r).cons y).trans (List.Perm.swap x y r)
theorem sortS_perm : ∀ l, (sortS l).Perm l
  | [] => List.Perm.refl _
  | x :: r => (insS_perm x _).trans ((sortS_perm r).cons x)
theorem insS_sorted (x : Str) : ∀ l, l.Pairwise (fun a b => leS a b = true) → (insS x l).Pairwise (fun a b => leS a b = true)
  | [], _ => List.pairwise_singleton ..
  | y :: r, h => by
    rw [List.pairwise_cons] at h
    unfold insS
    split
    · rename_i hxy
      rw [List.pairwise_cons, List.pairwise_cons]
      refine ⟨fun z hz => ?_, h.1, h.2⟩
      rcases List.mem_cons.mp hz with rfl | hz
      · exact hxy
      · exact leS_trans hxy (h.1 z hz)
    · rename_i hxy
      rw [List.pairwise_cons]
      refine ⟨fun z hz => ?_, insS_sorted x r h.2⟩
      have := (insS_perm x r).subset hz
      rcases List.mem_cons.mp this with rfl | hz
      · exact (leS_total z y).resolve_left hxy
      · exact h.1 z hz
theorem sortS_sorted : ∀ l, (sortS l).Pairwise (fun a b => leS a b = true)
  | [] => .nil
  | x :: r => insS_sorted x _ (sortS_sorted r)
theorem rising_pair : ∀ {p : Str} {l : List Str}, PyProof.Rows.risingS p l = true → (p :: l).Pairwise (fun a b => leS a b = true)
  | p, [], _ => List.pairwise_singleton ..
  | p, x :: r, h => by
    unfold PyProof.Rows.risingS at h
    rw [Bool.and_eq_true] at h
    have ih := rising_pair h.2
    rw [List.pairwise_cons]
    refine ⟨fun z hz => ?_, ih⟩
    rcases List.mem_cons.mp hz with rfl | hz
    · exact h.1
    · exact leS_trans h.1 ((List.pairwise_cons.mp ih).1 z hz)
theorem sortedS_is {l m : List Str} (hp : l.Perm m) (hs : PyProof.Rows.sortedS l = true) : l = sortS m := by
  have h1 : l.Pairwise (fun a b => leS a b = true) := by
    cases l with
    | nil => exact .nil
    | cons x r => exact rising_pair hs
  exact List.Perm.eq_of_pairwise (fun a b _ _ => leS_anti) h1 (sortS_sorted m) (hp.trans (sortS_perm m).symm)
theorem insI_perm (x : Int) : ∀ l, (insI x l).Perm (x :: l)
  | [] => List.Perm.refl _
  | y :: r => by
    unfold insI
    split
    · exact List.Perm.refl _
    · exact ((insI_perm x r).cons y).trans (List.Perm.swap x y r)
theorem sortI_perm : ∀ l, (sortI l).Perm l
  | [] => List.Perm.refl _
  | x :: r => (insI_perm x _).trans ((sortI_perm r).cons x)
theorem insI_sorted (x : Int) : ∀ l, l.Pairwise (· ≤ ·) → (insI x l).Pairwise (· ≤ ·)
  | [], _ => List.pairwise_singleton ..
  | y :: r, h => by
    rw [List.pairwise_cons] at h
    unfold insI
    split
    · rename_i hxy
      rw [List.pairwise_cons, List.pairwise_cons]
      refine ⟨fun z hz => ?_, h.1, h.2⟩
      rcases List.mem_cons.mp hz with rfl | hz
      · exact hxy
      · exact Int.le_trans hxy (h.1 z hz)
    · rename_i hxy
      rw [List.pairwise_cons]
      refine ⟨fun z hz => ?_, insI_sorted x r h.2⟩
      have := (insI_perm x r).subset hz
      rcases List.mem_cons.mp this with rfl | hz
      · omega
      · exact h.1 z hz
theorem sortI_sorted : ∀ l, (sortI l).Pairwise (· ≤ ·)
  | [] => .nil
  | x :: r => insI_sorted x _ (sortI_sorted r)
theorem sortedI_is {l m : List Int} (hp : l.Perm m) (hs : l.Pairwise (· ≤ ·)) : l = sortI m :=
  List.Perm.eq_of_pairwise (fun a b _ _ h1 h2 => Int.le_antisymm h1 h2) hs (sortI_sorted m) (hp.trans (sortI_perm m).symm)
def keysOf : List D → Option (List Key')
  | [] => some []
  | .tup [.int i, .tup xs] :: ds => (strsOf xs).bind fun ss => (keysOf ds).map ((i, ss) :: ·)
  | _ :: _ => none
def gSorted (as : List D) : Option Pr := match as with
  | [.lst ds] => if ds.length < 64 then (match strsOf ds with
    | some ss => some (.newL ((sortS ss).map D.str))
    | none => (match intsOf ds with
      | some ns => some (.newL ((sortI ns).map D.int))
      | none => (keysOf ds).map fun ks => .newL ((sortK ks).map kD))) else none
  | _ => none
def rSortA (K : PySem.W.Frag) : List V → Hp → VK → Prop := fun xs H Q => rSorted K xs H Q ∨ (rSortedS K xs H Q ∨ rSortIS K xs H Q)
theorem o_sorted {X : Cx} (hu : X.A.units + 64 < cLine) : CallR X (.builtin "sorted") (rSortA X.K) := cr_sorted.or (cr_sortedS.or (cr_sortIS hu))
theorem keysOf_rep : ∀ {ds : List D} {us : List V} {ks : List Key'}, keysOf ds = some ks → Reps G F us ds → (∀ {H : Hp}, Sub F H → ISs G.K H us ks) ∧ (∀ p ∈ us.zip ks, Rep G F p.1 (kD p.2)) ∧ us.length = ks.length
  | [], _, _, h, r => by
    cases h
    cases r
    exact ⟨fun _ => .nil, fun p hp => by simp at hp, rfl⟩
  | d :: ds, us, ks, h, r => by
    unfold keysOf at h
    split at h
    · rename_i z e; cases e
    · rename_i i xs ds' e
      cases e
      cases q : strsOf xs with
      | none => rw [q] at h; cases h
      | some ss =>
        rw [q] at h
        have h' : (keysOf ds).map ((i, ss) :: ·) = some ks := h
        cases q2 : keysOf ds with
        | none => rw [q2] at h'; cases h'
        | some ks' =>
          rw [q2] at h'
          cases h'
          cases r with
          | cons r1 r2 =>
            obtain ⟨g1, g2, g3⟩ := keysOf_rep q2 r2
            have r1' := r1
            cases r1 with
            | tup h1 h2 =>
              cases h2 with
              | cons a1 a2 =>
                cases a2 with
                | cons b1 b2 =>
                  cases b2
                  cases a1
                  cases b1 with
                  | tup c1 c2 =>
                    obtain rfl := strsOf_rep q c2
                    refine ⟨fun hF => .cons (sub_sqT hF h1) (sub_sqT hF c1) (g1 hF), fun p hp => ?_, by simp [g3]⟩
                    rw [List.zip_cons_cons] at hp
                    rcases List.mem_cons.mp hp with rfl | hp
                    · rw [strsOf_inv q] at r1'
                      exact r1'
                    · exact g2 p hp
    · cases h
theorem reps_pairs : ∀ {ps : List (V × Key')}, (∀ p ∈ ps, Rep G F p.1 (kD p.2)) → Reps G F (ps.map (·.1)) ((ps.map (·.2)).map kD)
  | [], _ => .nil
  | p :: ps, h => .cons (h p (by simp)) (reps_pairs fun q hq => h q (by simp [hq]))
theorem s_sorted : CaS G (rSortA G.K) gSorted := by
  intro F H xs as pr hF hx hg Q hq
  unfold gSorted at hg
  split at hg
  · rename_i ds
    split at hg
    · rename_i h64
      obtain ⟨u, rfl, hu⟩ := opds1 hx
      obtain ⟨p, ys, rfl, h1, h2⟩ := opd_lst hF hu
      have hl := h2.length
      cases q : strsOf ds with
      | some ss =>
        rw [q] at hg; cases hg
        obtain rfl := strsOf_rep q h2
        rw [List.length_map] at hl
        refine .inr (.inl ⟨p, ss, rfl, .inl (.inl h1), by omega, fun ys r hp hs hr => ?_⟩)
        obtain rfl := sortedS_is hp hs
        exact hq r _ hr (strs_reps _)
      | none =>
        rw [q] at hg
        cases q2 : intsOf ds with
        | some ns =>
          simp [q2] at hg
          subst hg
          obtain rfl := intsOf_rep q2 h2
          rw [List.length_map] at hl
          refine .inl ⟨p, ns, rfl, .inl (.inl h1), by omega, fun ys r hp hs hr => ?_⟩
          obtain rfl := sortedI_is hp hs
          exact hq r _ hr (ints_reps _)
        | none =>
          cases q3 : keysOf ds with
          | none => simp [q2, q3] at hg
          | some ks =>
            simp [q2, q3] at hg
            subst hg
            obtain ⟨g1, g2, g3⟩ := keysOf_rep q3 h2
            refine .inr (.inr ⟨p, ys, ks, rfl, .inl (.inl h1), g1 hF, fun ps r hp hs hr => ?_⟩)
            have e : ps.map (·.2) = sortK ks := sortedK_is (by
              have := hp.map (·.2)
              rw [List.map_snd_zip (by omega)] at this
              exact this) hs
            rw [← e] at hq
            exact hq r _ hr (reps_pairs fun z hz => g2 z (hp.mem_iff.mp hz))
    · cases hg
  · cases hg

/-! ### methods of lists -/
def mAppend (ds : List D) (as : List D) : Option (List D × D) := match as with
  | [x] => if ds.length < 100000 then some (ds ++ [x], .non) else none
  | _ => none
theorem m_append : MutS G rAppend mAppend := by
  intro F H p xs ds vs as ds' z hF hp hH rx ra hm Q hq
  unfold mAppend at hm
  split at hm
  · split at hm
    · rename_i hl
      cases hm
      cases ra with
      | cons r1 r2 =>
        cases r2
        exact ⟨p, xs, _, rfl, rfl, hH, by rw [rx.length]; exact Nat.lt_of_lt_of_le hl (by decide), hq _ _ (rx.append (.one r1)) .non⟩
    · cases hm
  · cases hm
def mRemove (ds : List D) (as : List D) : Option (List D × D) := match as with
  | [.int k] => (intsOf ds).bind fun ns => (ns.findIdx? (· == k)).map fun j => ((ns.eraseIdx j).map D.int, .non)
  | _ => none
theorem m_remove : MutS G rRemI mRemove := by
  intro F H p xs ds vs as ds' z hF hp hH rx ra hm Q hq
  unfold mRemove at hm
  split at hm
  · rename_i k
    cases q : intsOf ds with
    | none => rw [q] at hm; cases hm
    | some ns =>
      rw [q] at hm
      simp only [Option.bind_some] at hm
      cases qj : ns.findIdx? (· == k) with
      | none => rw [qj] at hm; cases hm
      | some j =>
        rw [qj] at hm; cases hm
        obtain rfl := intsOf_rep q rx
        obtain ⟨hj, h1, h2⟩ := List.findIdx?_eq_some_iff_getElem.mp qj
        cases ra with
        | cons r1 r2 =>
          cases r2
          cases r1
          refine ⟨p, ns, k, j, rfl, rfl, hH, ?_, fun m hm e => ?_, hq _ _ (ints_reps _) .non⟩
          · rw [List.getElem?_eq_getElem hj]; simpa using h1
          · have hml : m < ns.length := Nat.lt_trans hm hj
            rw [List.getElem?_eq_getElem hml] at e
            have := h2 m hm
            simp at this
            exact this (Option.some.inj e)
  · cases hm
def mPop (ds : List D) (as : List D) : Option (List D × D) := match as with
  | [] => (ds[ds.length - 1]?).map fun x => (ds.dropLast, x)
  | _ => none
theorem m_pop : MutS G rPop mPop := by
  intro F H p xs ds vs as ds' z hF hp hH rx ra hm Q hq
  unfold mPop at hm
  split at hm
  · cases q : ds[ds.length - 1]? with
    | none => rw [q] at hm; cases hm
    | some x =>
      rw [q] at hm; cases hm
      obtain ⟨v, g1, g2⟩ := rx.get q
      cases ra
      exact ⟨p, xs, v, rfl, rfl, hH, by rw [rx.length]; exact g1, hq _ _ rx.dropLast g2⟩
  · cases hm
def mPopAt (ds : List D) (as : List D) : Option (List D × D) := match as with
  | [.int i] => (ixN ds.length i).bind fun j => (ds[j]?).bind fun x => if i.natAbs < 1000000 then some (ds.eraseIdx j, x) else none
  | _ => none
theorem m_popAt : MutS G rPopAt mPopAt := by
  intro F H p xs ds vs as ds' z hF hp hH rx ra hm Q hq
  unfold mPopAt at hm
  split at hm
  · rename_i i
    cases q : ixN ds.length i with
    | none => rw [q] at hm; cases hm
    | some j =>
      rw [q] at hm
      simp only [Option.bind_some] at hm
      cases qx : ds[j]? with
      | none => rw [qx] at hm; cases hm
      | some x =>
        rw [qx] at hm
        simp only [Option.bind_some] at hm
        split at hm
        · rename_i hi
          cases hm
          obtain ⟨v, g1, g2⟩ := rx.get qx
          obtain ⟨s1, _⟩ := ixN_seq q
          cases ra with
          | cons r1 r2 =>
            cases r2
            cases r1
            exact ⟨p, xs, i, j, v, rfl, rfl, hH, by omega, by omega, by rw [rx.length]; exact s1, g1, hq _ _ (rx.eraseIdx j) g2⟩
        · cases hm
  · cases hm
def mExtend (ds : List D) (as : List D) : Option (List D × D) := match as with
  | [.lst es] => if ds.length + es.length ≤ 100000 then some (ds ++ es, .non) else none
  | _ => none
theorem m_extend : MutS G rExtend mExtend := by
  intro F H p xs ds vs as ds' z hF hp hH rx ra hm Q hq
  unfold mExtend at hm
  split at hm
  · split at hm
    · rename_i es hl
      cases hm
      cases ra with
      | cons r1 r2 =>
        cases r2
        cases r1 with
        | @lst b ys _ h1 h2 =>
          exact ⟨p, b, xs, ys, rfl, rfl, hH, hF _ _ h1, by rw [rx.length, h2.length]; exact le_line hl, hq _ _ (rx.append h2) .non⟩
    · cases hm
  · cases hm
def mInsert (ds : List D) (as : List D) : Option (List D × D) := match as with
  | [.int i, x] => if ds.length < 100000 ∧ 0 ≤ i ∧ i < 1000000 then some (ds.take i.toNat ++ [x] ++ ds.drop i.toNat, .non) else none
  | _ => none
theorem m_insert : MutS G (fun x vs H Q => ∃ (l : Addr) (xs : List V) (i : Int) (y : V), x = .ref l ∧ vs = [.int i, y] ∧ H l = some (.lst xs) ∧ xs.length < sizeLine ∧ 0 ≤ i ∧ i < 2 ^ 63 ∧ Q .non (upd H l (.lst (xs.take i.toNat ++ [y] ++ xs.drop i.toNat)))) mInsert := by
  intro F H p xs ds vs as ds' z hF hp hH rx ra hm Q hq
  unfold mInsert at hm
  split at hm
  · split at hm
    · rename_i hl
      cases hm
      cases ra with
      | cons r1 r2 =>
        cases r1
        cases r2 with
        | cons r2 r3 =>
          cases r3
          exact ⟨p, xs, _, _, rfl, rfl, hH, by rw [rx.length]; exact Nat.lt_of_lt_of_le hl.1 (by decide), hl.2.1, by omega, hq _ _ (((rx.take _).append (.one r2)).append (rx.drop _)) .non⟩
    · cases hm
  · cases hm
end
end Nz

set_option Elab.async false
set_option linter.all false
set_option maxRecDepth 100000
set_option maxHeartbeats 4000000
/-! Nz13: isinstance, join; a def by its body; the law's own end. -/
namespace Nz
open PySem L2
section
variable {G : Gi} {F H : Hp}
/-! ### isinstance -/
def D.tn : D → Option String
  | .non => some "NoneType"
  | .bl _ => some "bool"
  | .int _ => some "int"
  | .str _ => some "str"
  | .tup _ => some "tuple"
  | .lst _ => some "list"
  | .frz _ => some "list"
  | .edc => some "dict"
  | _ => none
/-- a data's kind: a built-in type, an own class -/
def D.kd : D → Option (Sum String Nat)
  | .obj c _ => some (.inr c)
  | d => d.tn.map .inl
def Kv (G : Gi) : Sum String Nat → Value
  | .inl s => .type s
  | .inr c => .ref (G.cls c)
def D.asK : D → Option (Sum String Nat)
  | .ty n => some (.inl n)
  | .cls c => some (.inr c)
  | _ => none
structure IsiOk (G : Gi) (tab : Sum String Nat → Sum String Nat → Option Bool) : Prop where
  one : ∀ a b r, tab a b = some r → PySem.W.kitOne G.K (Kv G a) (Kv G b) = some r
  own : ∀ c b r, tab (.inr c) b = some r → Cls G.K (G.cls c) ∧ PySem.W.findIn G.K (.ref (G.cls c)) "__class__" = some (some (.builtin "object.__class__")) ∧
    PySem.W.specialIn G.K (.builtin "object.__class__") "__get__" = some (some (.builtin "getset_descriptor.__get__")) ∧ PySem.W.takesIn G.K (.builtin "object.__class__") = some true ∧ PySem.W.mroIn G.K (G.cls c) (.type "object") = some true
def gIsi (tab : Sum String Nat → Sum String Nat → Option Bool) (as : List D) : Option Pr := match as with
  | [x, t] => x.kd.bind fun a => t.asK.bind fun b => (tab a b).map fun r => .d (.bl r)
  | _ => none
theorem tyx_tup {K : PySem.W.Frag} {a : Addr} {xs : List V} (h : SqT K H a xs) : TyX K H (.ref a) (.type "tuple") := by
  rcases h with (h | ⟨o, h⟩) | ⟨o, its, n, h, c, _⟩
  · exact .base (.tup h)
  · exact .fTuple h
  · exact .kTuple h c
theorem tyx_lst {K : PySem.W.Frag} {a : Addr} {xs : List V} (h : SqL K H a xs) : TyX K H (.ref a) (.type "list") := by
  rcases h with (h | ⟨o, h⟩) | ⟨o, its, n, h, c, _⟩
  · exact .base (.lst h)
  · exact .base (.frz h)
  · exact .kList h c
theorem tyx_of (hF : Sub F H) {d : D} {u : V} {k : Sum String Nat} (h : Opd G F H u d) (hk : d.kd = some k) (own : ∀ c, k = .inr c → Cls G.K (G.cls c) ∧ PySem.W.findIn G.K (.ref (G.cls c)) "__class__" = some (some (.builtin "object.__class__")) ∧
    PySem.W.specialIn G.K (.builtin "object.__class__") "__get__" = some (some (.builtin "getset_descriptor.__get__")) ∧ PySem.W.takesIn G.K (.builtin "object.__class__") = some true ∧ PySem.W.mroIn G.K (G.cls c) (.type "object") = some true) : TyX G.K H u (Kv G k) := by
  cases d with
  | non => cases hk; rw [opd_non h]; exact .base .non
  | bl b => cases hk; rw [opd_bl h]; exact .base (.bl b)
  | int i => cases hk; rw [opd_int h]; exact .base (.int i)
  | str s => cases hk; rw [opd_str h]; exact .base (.str s)
  | tup ds => cases hk; obtain ⟨a, xs, rfl, h1, _⟩ := opd_tup hF h; exact tyx_tup h1
  | lst ds => cases hk; obtain ⟨a, xs, rfl, h1, _⟩ := opd_lst hF h; exact .base (.lst h1)
  | frz ds =>
    cases hk
    have r := opd_rep h (by intro _ z; cases z)
    cases r with
    | frz h1 h2 => exact tyx_lst (sub_sqL hF h1)
  | obj c ds =>
    cases hk
    obtain ⟨a, dx, fs, rfl, h1, _⟩ := opd_obj hF h
    obtain ⟨c1, c2, c3, c4, c5⟩ := own c rfl
    exact .base (.ins h1 c1 c2 c3 c4 c5)
  | edc =>
    cases hk
    have r := opd_rep h (by intro _ z; cases z)
    cases r with
    | edc h1 => exact .base (.dK (hF _ _ h1))
  | ty n => cases hk
  | cls c => cases hk
theorem s_isi {tab : Sum String Nat → Sum String Nat → Option Bool} (T : IsiOk G tab) : CaS G (rIsi G.K) (gIsi tab) := by
  intro F H xs as pr hF hx hg Q hq
  unfold gIsi at hg
  split at hg
  · rename_i x t
    cases qa : x.kd with
    | none => rw [qa] at hg; cases hg
    | some a =>
      rw [qa] at hg
      simp only [Option.bind_some] at hg
      cases qb : t.asK with
      | none => rw [qb] at hg; cases hg
      | some b =>
        rw [qb] at hg
        simp only [Option.bind_some] at hg
        cases qr : tab a b with
        | none => rw [qr] at hg; cases hg
        | some r =>
          rw [qr] at hg; cases hg
          obtain ⟨u, v, rfl, hu, hv⟩ := opds2 hx
          have ht := tyx_of hF hu qa fun c e => by subst e; exact T.own c b r qr
          have hc : ClsV v (Kv G b) := by
            cases t with
            | ty n =>
              cases qb
              have r := opd_rep hv (by intro _ z; cases z)
              cases r; exact .ty n
            | cls c =>
              cases qb
              have r := opd_rep hv (by intro _ z; cases z)
              cases r; exact .own _
            | _ => cases qb
          exact ⟨u, v, _, _, r, rfl, hc, ht, T.one a b r qr, hq _ (.bl _)⟩
  · cases hg
/-! ### sep.join(xs) -/
def gJoin (a : D) (as : List D) : Option Pr := match a, as with
  | .str s, [.lst ds] => (strsOf ds).bind fun ys => if (ys.map (·.length)).sum + ys.length * s.length ≤ 100000 then some (.d (.str (Txt.join s ys))) else none
  | .str s, [.tup ds] => (strsOf ds).bind fun ys => if (ys.map (·.length)).sum + ys.length * s.length ≤ 100000 then some (.d (.str (Txt.join s ys))) else none
  | _, _ => none
def isStr : D → Bool
  | .str _ => true
  | _ => false
theorem isStr_ty {K : PySem.W.Frag} {u : V} {d : D} (h : Opd G F H u d) (hs : isStr d = true) : tyV K "str" u H := by
  cases d <;> try cases hs
  rw [opd_str h]; rfl
def rJoin (K : PySem.W.Frag) : V → List V → Hp → VK → Prop := fun x xs H Q => ∃ a p, ∃ ys : List Str, x = .str a ∧ xs = [.ref p] ∧ (SqL K H p (ys.map V.str) ∨ SqT K H p (ys.map V.str)) ∧
    (ys.map (·.length)).sum + ys.length * a.length ≤ 16777216 ∧ Q (.str (Txt.join a ys)) H
def MeS2 (G : Gi) (r : V → List V → Hp → VK → Prop) (g : D → List D → Option Pr) : Prop := ∀ F H x a xs ds pr, Sub F H → Opd G F H x a → Opds G F H xs ds → g a ds = some pr → ∀ Q, PrPost G F H Q pr → r x xs H Q
theorem s_join : MeS2 G (rJoin G.K) gJoin := by
  intro F H x a xs ds pr hF hx hxs hg Q hq
  unfold gJoin at hg
  split at hg
  · rename_i s ds
    cases q : strsOf ds with
    | none => rw [q] at hg; cases hg
    | some ys =>
      rw [q] at hg
      simp only [Option.bind_some] at hg
      split at hg
      · rename_i hl
        cases hg
        obtain rfl := opd_str hx
        obtain ⟨u, rfl, hu⟩ := opds1 hxs
        obtain ⟨p, zs, rfl, h1, h2⟩ := opd_lst hF hu
        obtain rfl := strsOf_rep q h2
        exact ⟨s, p, ys, rfl, rfl, .inl (.inl (.inl h1)), by omega, hq _ (.str _)⟩
      · cases hg
  · rename_i s ds
    cases q : strsOf ds with
    | none => rw [q] at hg; cases hg
    | some ys =>
      rw [q] at hg
      simp only [Option.bind_some] at hg
      split at hg
      · rename_i hl
        cases hg
        obtain rfl := opd_str hx
        obtain ⟨u, rfl, hu⟩ := opds1 hxs
        obtain ⟨p, zs, rfl, h1, h2⟩ := opd_tup hF hu
        obtain rfl := strsOf_rep q h2
        exact ⟨s, p, ys, rfl, rfl, .inr h1, by omega, hq _ (.str _)⟩
      · cases hg
  · cases hg
variable {B : Bs} {σ : L2.St} {ρ : Env} {Y : Xi} {W : WX}
theorem t_meS {r : V → List V → Hp → VK → Prop} {g : D → List D → Option Pr} (hs : MeS2 G r g) {fo : EF} {fs : AF} {Q : VK} (h : tE G Y W (fMe isStr g fo fs) σ H Q) : tBM G.K "str" r (tE G Y W fo) (tA G Y W fs) σ H Q := by
  obtain ⟨B, F, ρ, S, p⟩ := h
  refine tE_opd ⟨B, F, ρ, S, Post.seq p fun a ρ1 u F1 H1 ha e1 S1 R1 p1 => ?_⟩
  by_cases hi : (res ρ1 a).any isStr = true
  · rw [if_pos hi] at p1
    obtain ⟨d, hd, hsd⟩ : ∃ d, res ρ1 a = some d ∧ isStr d = true := by
      cases q : res ρ1 a with
      | none => rw [q] at hi; cases hi
      | some d => rw [q] at hi; exact ⟨d, rfl, hi⟩
    have ty : tyV G.K "str" u H1 := isStr_ty (S1.opd R1 hd) hsd
    refine ⟨ty, B, F1, ρ1, S1, PostA.ofG (PostG.seq (Post.g p1) fun rs ρ2 F2 H2 _ e2 S2 p2 us Rs => ?_)⟩
    obtain ⟨pr, hpr, q⟩ := Post.ofP S2 (Post.ofG p2)
    have R1' : RvRep G B F2 H2 σ ρ2 u a := flat_stays (opd_flat ha) e2 R1
    cases hra : res ρ2 a with
    | none => rw [hra] at hpr; cases hpr
    | some x =>
      rw [hra] at hpr
      simp only [Option.bind_some] at hpr
      cases hrs : ress ρ2 rs with
      | none => rw [hrs] at hpr; cases hpr
      | some ds =>
        rw [hrs] at hpr
        exact hs F2 H2 u x us ds pr S2.fh (S2.opd R1' hra) (S2.opds Rs hrs) hpr Q q
  · rw [if_neg hi] at p1; exact False.elim p1
end

section
variable {X : Cx} {G : Gi} {Y : Xi} {W : WX} {k : Nat} {a b c e : Expr} {es : List Expr} {pos : Pos} {fa fb : EF} {fs : AF}
theorem je_join {apos : Pos} (C : Ctx X G W k) (ho : JE X G Y W a fa) (h : JA X G Y W [e] fs) (hbase : attributeBase a "join" X.env (eval a X.env) = eval a X.env := by rfl)
    (hfew : ((backTo pos (starEach [e] X.env)).all (fun x => !x.1) && (backToKw pos (keywordEach [] X.env)).all (fun x => x.1.isSome) && decide (([e] : List Expr).length + ([] : List Keyword).length + (if ([] : List Keyword).isEmpty then 0 else 1) < 30)) = true := by rfl)
    (hline : (apos.endLine == pos.line) = true := by rfl) (hs : starEach [e] X.env = (false, eval e X.env) :: starEach [] X.env := by rfl) (hpl : (backTo pos (starEach [] X.env)).any (·.1) = false := by rfl) :
    JE X G Y W (.Call (.Attribute a "join" apos) [e] [] pos) (fMe isStr gJoin fa fs) := by
  refine PE.weak (pe_bm PySem.F.plainAttrs_str PySem.F.slot_str_join PySem.F.type_str_join mt_join ho h hbase hfew hline hs hpl) fun σ H Q q => ?_
  rw [C.hK]
  exact t_meS s_join q
theorem je_lrng1 {p p2 pos2 : Pos} (C : Ctx X G W k) (hl : X.mg "list" = none) (hr : X.mg "range" = none) (ha : JE X G Y W a fa) (hgl : Gl X "list" := by rfl) (hgr : Gl X "range" := by rfl) (na : starEach [a] X.env = (false, eval a X.env) :: starEach [] X.env := by rfl)
    (nb : starEach [.Call (.Name "range" p2) [a] [] pos2] X.env = (false, eval (.Call (.Name "range" p2) [a] [] pos2) X.env) :: starEach [] X.env := by rfl) : JE X G Y W (.Call (.Name "list" p) [.Call (.Name "range" p2) [a] [] pos2] [] pos) (fLRng1 fa) :=
  PE.weak (pe_listRg C.calm hgl hl (prg_1 hgr hr ha na) nb) fun _ _ _ => t_lrng1
theorem je_lrng2 {p p2 pos2 : Pos} (C : Ctx X G W k) (hl : X.mg "list" = none) (hr : X.mg "range" = none) (ha : JE X G Y W a fa) (hb : JE X G Y W b fb) (hgl : Gl X "list" := by rfl) (hgr : Gl X "range" := by rfl) (na : starEach [a, b] X.env = (false, eval a X.env) :: starEach [b] X.env := by rfl) (na2 : starEach [b] X.env = (false, eval b X.env) :: starEach [] X.env := by rfl)
    (hp : (backTo pos2 (starEach [b] X.env)).any (·.1) = false := by rfl) (nb : starEach [.Call (.Name "range" p2) [a, b] [] pos2] X.env = (false, eval (.Call (.Name "range" p2) [a, b] [] pos2) X.env) :: starEach [] X.env := by rfl) : JE X G Y W (.Call (.Name "list" p) [.Call (.Name "range" p2) [a, b] [] pos2] [] pos) (fLRng2 fa fb) :=
  PE.weak (pe_listRg C.calm hgl hl (prg_2 hgr hr ha hb na na2 hp) nb) fun _ _ _ => t_lrng2

/-! ### a def by its body -/
variable {P : Program} {w : World} {mg : Str → Option Value} {base : Heap}
theorem defF_len {np nl : Nat} {f : SF} {as : List Arg} (h : defF np nl f as ≠ .stuck) : as.length = np := by
  unfold defF at h
  by_cases e : as.length = np
  · exact e
  · rw [if_neg e] at h; exact (h rfl).elim
theorem fn_ok {x qual : Str} {st : Stmt} {f : Addr} {fd : FuncData} {N ps : List Str} {k n nl : Nat} {fn : SF} (F : Fun G.K x qual st f fd) (S : FnScope N ps (defScope st)) (hN : N.length = nl) (hn : ps.length = n)
    (body : ∀ (cdv : Value) (A : Around) (outer : List PySem.Env) (s : Shared) (H : Hp) (E : XK), Ctx (cxOf (L2.CX P w) P w G.K mg base N qual (defScope st) f cdv A outer s H E) G (fun cls d _ H => E cls d H) k → JSs (cxOf (L2.CX P w) P w G.K mg base N qual (defScope st) f cdv A outer s H E) G Y (fun cls d _ H => E cls d H) (defBody st) fn) :
    FnOk P w G.K mg base (L2.CX P w) (k + 1) f fd ps (spF G Y n (defF n nl fn)) := by
  refine F.okX S (fun vs H Q E h => by rw [hn]; exact h.1) fun cdv A outer s H vs Q E hr h => ?_
  obtain ⟨h1, F0, as, h2, h3, h4⟩ := h
  exact ⟨_, body cdv A outer s H E ⟨rfl, rfl, S.nd, takes_of rfl rfl rfl rfl, passes_of rfl, hr⟩, body_ok hN h1 h2 h3 h4⟩
theorem def_ok {x qual : Str} {st : Stmt} {f : Addr} {fd : FuncData} {N ps : List Str} {k n nl : Nat} {fn : SF} (F : Fun G.K x qual st f fd) (S : FnScope N ps (defScope st)) (hN : N.length = nl) (hn : ps.length = n) (hm : mg x = some (.ref f)) (hb : Binds G.K fd ps [])
    (body : ∀ (cdv : Value) (A : Around) (outer : List PySem.Env) (s : Shared) (H : Hp) (E : XK), Ctx (cxOf (L2.CX P w) P w G.K mg base N qual (defScope st) f cdv A outer s H E) G (fun cls d _ H => E cls d H) k → JSs (cxOf (L2.CX P w) P w G.K mg base N qual (defScope st) f cdv A outer s H E) G Y (fun cls d _ H => E cls d H) (defBody st) fn) :
    DefOk P w mg base G Y (k + 1) n x (defF n nl fn) := ⟨⟨f, fd, ps, hm, F.kp, hb, hn, fn_ok F S hN hn body⟩, fun _ => defF_len⟩
theorem cls_ok {x qual : Str} {st : Stmt} {f : Addr} {fd : FuncData} {N ps : List Str} {k n nl c : Nat} {nms : List Str} {cn : Str} {fn : SF} (F : Fun G.K x qual st f fd) (S : FnScope N ps (defScope st)) (hN : N.length = nl) (hn : ps.length = n + 1) (hm : mg cn = some (.ref (G.cls c))) (hM : Mk G.K (G.cls c) f) (hb : Binds G.K fd ps []) (ha : G.att c = nms)
    (body : ∀ (cdv : Value) (A : Around) (outer : List PySem.Env) (s : Shared) (H : Hp) (E : XK), Ctx (cxOf (L2.CX P w) P w G.K mg base N qual (defScope st) f cdv A outer s H E) G (fun cls d _ H => E cls d H) k → JSs (cxOf (L2.CX P w) P w G.K mg base N qual (defScope st) f cdv A outer s H E) G Y (fun cls d _ H => E cls d H) (defBody st) fn) :
    ClsOk P w mg base G Y (k + 1) n cn c nms (defF (n + 1) nl fn) := ⟨⟨f, fd, ps, hm, hM, hb, hn, fn_ok F S hN hn body⟩, fun _ => defF_len, ha⟩
theorem DefOk.mono {k j n : Nat} {x : Str} {Φ : Fn} (h : DefOk P w mg base G Y k n x Φ) (hk : k ≤ j) : DefOk P w mg base G Y j n x Φ := by
  obtain ⟨⟨f, fd, ps, h1, h2, h3, h4, h5⟩, h6⟩ := h
  exact ⟨⟨f, fd, ps, h1, h2, h3, h4, h5.mono hk⟩, h6⟩

/-! ### the law -/
def spLaw (K : PySem.W.Frag) : Sp := fun vs H Q _ => ∃ (a : Addr) (ns : List Int), vs = [.ref a] ∧ SqL K H a (ns.map V.int) ∧ ns.length ≤ 63 ∧ ∀ H', Q (.bl true) H'
def scr (ns : List Int) : Arg := .d (.frz (ns.map D.int))
theorem law_fn {x : Str} {f : Addr} {fd : FuncData} {ps : List Str} {k : Nat} {Φ : Fn} (h : FnOk P w G.K mg base (L2.CX P w) k f fd ps (spF G Y 1 Φ)) (hΦ : ∀ ns : List Int, ns.length ≤ 63 → Φ [scr ns] = .ret (.d (.bl true)) [none]) : FnOk P w G.K mg base (L2.CX P w) k f fd ps (spLaw G.K) := by
  refine h.imp fun vs H Q E hs => ?_
  obtain ⟨a, ns, rfl, hS, hl, hq⟩ := hs
  refine ⟨rfl, H, [scr ns], rfl, ?_, ?_⟩
  · have noI : ∀ {i : Nat} {c : Cell}, [scr ns][i]? ≠ some (.io c) := fun {i c} h => by
      cases i with
      | zero => cases h
      | succ i => simp at h
    have noR : ∀ {i : Nat} {c : Cell}, [scr ns][i]? ≠ some (.rd c) := fun {i c} h => by
      cases i with
      | zero => cases h
      | succ i => simp at h
    have at0 : ∀ {i : Nat} {sl : Sl}, ([scr ns].map Arg.sl)[i]? = some sl → i = 0 ∧ sl = .d (.frz (ns.map D.int)) := fun {i sl} h => by
      cases i with
      | zero => cases h; exact ⟨rfl, rfl⟩
      | succ i => simp at h
    refine ⟨Sub.rfl, Sub.rfl, fun a o h _ => h, fun a o h => .inl h, fun i d h => ?_, fun i c h => ?_, fun i c h => ?_, fun i c h => ?_, fun i j c c' p ne h => ?_, fun i j c c' p ne h => ?_, rfl, fun a h => ?_, Sub.rfl, fun i a h => ?_, fun a h => ?_⟩
    · obtain ⟨rfl, e⟩ := at0 h
      cases e
      exact ⟨_, rfl, .frz hS (ints_reps ns)⟩
    · have := (at0 h).2; cases this
    · have := (at0 h).2; cases this
    · have := (at0 h).2; cases this
    · have := (at0 h).2; cases this
    · have := (at0 h).2; cases this
    · obtain ⟨i, c, h, _⟩ := h; exact (noI h).elim
    · obtain ⟨c, h, _⟩ := h; exact (noR h).elim
    · obtain ⟨i, c, h, _⟩ := h; exact (noI h).elim
  · rw [hΦ ns hl]
    intro u F' H' _ R
    cases R
    exact hq H'
theorem law_walk {l : PySem.W.OpenLaw} {q : Program} {loose : List Str} {XP : (Str → Option Value) → Heap → Prop} {YP : World → Heap → Prop} {d : DefRec} {K : Params → PySem.W.Frag} {x : Str} {k : Nat} (hn : l.most = some 63) (hdf : d.params.defaults = []) (hr : Room k callerA)
    (hY : ∀ (w : World) (h : Heap), YP w h → (K w.params).In h)
    (F : ∀ (w : World) (mg : Str → Option Value) (fa : Addr) (h : Heap), (K w.params).In h → h.Ns mainGlobals mg → mg d.name = some (.ref fa) →
      ∃ fd : FuncData, (∀ (s : Shared) (u : Value), BindsTo s fd ⟨[u], []⟩ [(x, u)]) ∧ ∀ base : Heap, (K w.params).In base → base.Ns mainGlobals mg → FnOk l.prog w (K w.params) mg base (L2.CX l.prog w) k fa fd [x] (spLaw (K w.params))) :
    PySem.W.WalkO q loose XP YP l.row.toRowW d [] (fun f vs => PySem.call f vs) :=
  L2.walk_of (n := 63) (CX := fun w => L2.CX l.prog w) (sp := fun w => spLaw (K w.params)) hn (by decide) hdf hr hY F (fun _ _ a ns hl _ hS => ⟨a, ns, rfl, hS, hl, fun _ => rfl⟩) fun w H s e s' z => by
    obtain ⟨_, _, _, _, _, _, _, _, _, _, _, _, f⟩ := z
    exact f
end
end Nz

set_option Elab.async false
set_option linter.all false
set_option maxRecDepth 100000
set_option maxHeartbeats 4000000
/-! Nz14: enumerate over tuples and lists; chains of comparisons; constants of the module; reversed slices. -/
namespace PySem
open Sem (wp)
theorem nz_enum1 {v : Value} {o : Obj} {Z : Heap → Prop} (b : Begins v o Z) : Meets (Builtin.«enumerate.__new__» ⟨[.type "enumerate", v], []⟩) (fun _ R s => Z s.heap ∧
      R (.ok (.ret (.ref (s.heap.push o).objs.size))) { s with heap := (s.heap.push o).push { cls := .type "enumerate", data := .fields #[.none, .bool false, .ref s.heap.objs.size, rawInt 0, .none, .none] } }) :=
  .of_wp fun prog w A R s h => by
    obtain ⟨hp, gg, dd, tt, oo⟩ := s
    obtain ⟨z1, h⟩ := h
    have hsub := sub_enumerate
    have it : ∀ {A2 : Around} {E2 : Value → Shared → Prop} {Q2 : Value → Shared → Prop}, Q2 (.ref hp.objs.size) ⟨hp.push o, gg, dd, tt, oo⟩ → wpAny (model prog w) A2 (pyIter v) Q2 E2 ⟨hp, gg, dd, tt, oo⟩ :=
      fun q => b.iter prog w _ _ ⟨hp, gg, dd, tt, oo⟩ _ z1 q
    wp_walk using it
    refine wpAny_stack_any fun stk => wpAny_pure ?_
    split
    · rename_i c _ _ _ _ _
      cases (c == Value.type "enumerate") <;> (wp_walk using it; exact ⟨_, rfl, h⟩)
    · wp_walk using it
      exact ⟨_, rfl, h⟩
section
variable {prog : Program} {w : World} {A : Around} {E : Value → Shared → Prop} {s : Shared}
theorem nz_call_enum {v : Value} {o : Obj} {Z : Heap → Prop} {Q : Value → Shared → Prop} (b : Begins v o Z) (z : Z s.heap)
    (h : ∀ h', IsEnum h' (s.heap.objs.size + 1) s.heap.objs.size 0 .none → h'.get? s.heap.objs.size = some o → (∀ c u, s.heap.get? c = some u → h'.get? c = some u) → Q (.ref (s.heap.objs.size + 1)) { s with heap := h' }) :
    wpAny (model prog w) A (call (.type "enumerate") [v]) Q E s := by
  refine callType_new F.called_enumerate (by decide) (F.typeCall_enumerate_1 _) (F.newCall_enumerate_1 _) (fun x => F.args_object_init_2 x _) F.entry_enumerate_new (nz_enum1 b) ⟨z, ?_⟩
  have sz : (s.heap.push o).objs.size = s.heap.objs.size + 1 := Heap.size_push ..
  show _ ∧ _
  rw [sz]
  have ie : IsEnum ((s.heap.push o).push { cls := .type "enumerate", data := .fields #[.none, .bool false, .ref s.heap.objs.size, rawInt 0, .none, .none] }) (s.heap.objs.size + 1) s.heap.objs.size 0 .none := by
    have q := Heap.get?_push_size (s.heap.push o) (o := { cls := .type "enumerate", data := .fields #[.none, .bool false, .ref s.heap.objs.size, rawInt 0, .none, .none] }) rfl
    rw [sz] at q
    exact q
  exact ⟨⟨_, ie, rfl⟩, h _ ie (Heap.get?_push_of_some _ (Heap.get?_push_size _ b.free)) fun c u e => Heap.get?_push_of_some _ (Heap.get?_push_of_some _ e)⟩
end
end PySem
namespace Nz
open PySem L2
/-- the tuple at a, each item in a new pair -/
def IteT (K : PySem.W.Frag) (a : Addr) : It :=
  ⟨fun i H => ∃ (xs : List V) (x : V), SqT K H a xs ∧ xs[i]? = some x, fun i H v H' => ∃ T x, v = .ref T ∧ H T = none ∧ H' = upd H T (.tup [.int (i : Nat), x]) ∧ ∀ xs, SqT K H a xs → xs[i]? = some x, fun i H => ∃ xs : List V, SqT K H a xs ∧ xs.length = i⟩
theorem turnT {P : Program} {w : World} {K : PySem.W.Frag} {elts : List Expr} {kk : Nat} {tpos : Pos} (a e it : Addr) :
    Turn P w K (.Tuple elts kk tpos) (IteT K a) [e, it] e (fun i h => (∃ old, IsEnum h e it ((i : Nat) : Int) old) ∧ h.IsTupleIter it a i ∧ e ≠ it) where
  mem := List.mem_cons_self
  obj := fun i h st b hb => by
    obtain ⟨⟨old, he⟩, ⟨o, ho, hc, hd⟩, _⟩ := st
    rcases List.mem_cons.mp hb with z | z
    · subst z; exact ⟨_, he, fun v q => nomatch q⟩
    · rw [List.mem_singleton.mp z]; exact ⟨o, ho, fun v q => by rw [hd] at q; cases q⟩
  keep := fun i h h' st kp => let ⟨⟨old, he⟩, hi, ne⟩ := st; ⟨⟨old, kp e List.mem_cons_self _ he⟩, hi.at fun o q => kp it (List.mem_cons_of_mem _ List.mem_cons_self) o q, ne⟩
  item := by
    intro X hP hw hK hc i pins s σ H E I hf st hg
    subst hP hw hK
    obtain ⟨⟨old, he⟩, hit, ne⟩ := st
    obtain ⟨xs, x, hq, hx⟩ := hg
    obtain ⟨its, rv, pt, hz⟩ := I.tuple hq
    obtain ⟨u, hu, ru⟩ := rv.get hx
    have ltE : e < s.heap.objs.size := Heap.lt_size he
    have ltI : it < s.heap.objs.size := by obtain ⟨_, q, _⟩ := hit; exact Heap.lt_size q
    have ae : a ≠ e := fun z => by
      subst z
      obtain ⟨ot, h1, h2, _⟩ := pt
      have he' : s.heap.get? a = some _ := he
      rw [h1] at he'; cases he'; exact absurd (Value.type.inj h2) (by decide)
    have ai : a ≠ it := fun z => by
      subst z
      obtain ⟨ot, h1, h2, _⟩ := pt
      obtain ⟨o2, h3, h4, _⟩ := hit
      rw [h1] at h3; cases h3; rw [h2] at h4; exact absurd (Value.type.inj h4) (by decide)
    have D := Draws.tuple (prog := X.prog) (w := X.w) (A := X.A.in1) (I.ok.hd hc) it a ai its.toArray
    have hlt : i < its.toArray.size := by
      have := (List.getElem?_eq_some_iff.mp hu).1
      simpa using this
    refine wpAny_pyNext_enum_itemC D he ⟨hit, pt⟩ hlt ne (by simp [ne, Ne.symm ae]) fun x' h' tk hx' ho hst' hT hsz hk => ?_
    have ex : x' = u := by
      have q : its.toArray[i]? = some u := by simpa using hu
      rw [q] at hx'; exact (Option.some.inj hx').symm
    subst ex
    refine ⟨_, rfl, wpAny_letOwnedTupleGo_enum (s := { s with heap := h', toks := tk + 1 }) ho fun h'' he' sb => ?_⟩
    have T2 : h''.get? s.heap.objs.size = some { cls := .type "tuple", data := .seq #[.int i tk, x'] } := (sb.2 _ (Nat.ne_of_gt ltE)).trans hT
    have new : ObjOk X.prog X.w (upd H s.heap.objs.size (.tup [.int (i : Nat), x])) h'' s.heap.objs.size (.tup [.int (i : Nat), x]) :=
      ⟨by show 2 ≤ sizeLine; decide, [.int i tk, x'], .cons ⟨_, rfl⟩ (.cons ru .nil), ⟨_, T2, rfl, _, rfl⟩⟩
    have J : Inv X pins σ (upd H s.heap.objs.size (.tup [.int (i : Nat), x])) { s with heap := h'', toks := tk + 1 } :=
      I.turnedNew (ch := [e, it]) (fun b ob hb q => by
        have n1 : b ≠ e := fun z => hb (by simp [z])
        have n2 : b ≠ it := fun z => hb (by simp [z])
        exact (sb.2 b n1).trans (hk b ob n1 n2 q)) hf (Nat.le_refl _) new
    refine ⟨.ref s.heap.objs.size, _, J, rfl, ⟨_, x, rfl, I.hok.fresh (Nat.le_refl _), rfl, fun ys hy => by rw [I.tuple_inj hy hq]; exact hx⟩, ⟨⟨x', ?_⟩, hst'.1.at fun o q => (sb.2 it (Ne.symm ne)).trans q, ne⟩, fun b hb => ?_⟩
    · have e1 : ((i + 1 : Nat) : Int) = (i : Int) + 1 := by omega
      rw [e1]; exact he'
    · have lt : b < s.heap.objs.size := by
        rcases List.mem_cons.mp hb with z | z
        · subst z; exact ltE
        · rw [List.mem_singleton.mp z]; exact ltI
      rw [upd_ne (Nat.ne_of_lt lt)]
      exact (hf b hb).1
  done := by
    intro X hP hw hK hc i pins s σ H E I hf st hg
    subst hP hw hK
    obtain ⟨⟨old, he⟩, hit, ne⟩ := st
    obtain ⟨xs, hq, hx⟩ := hg
    obtain ⟨its, rv, pt, hz⟩ := I.tuple hq
    have ai : a ≠ it := fun z => by
      subst z
      obtain ⟨ot, h1, h2, _⟩ := pt
      obtain ⟨o2, h3, h4, _⟩ := hit
      rw [h1] at h3; cases h3; rw [h2] at h4; exact absurd (Value.type.inj h4) (by decide)
    obtain ⟨f0, f1, f2, f3, f4, f5⟩ := hf it (List.mem_cons_of_mem _ List.mem_cons_self)
    have D := Draws.tuple (prog := X.prog) (w := X.w) (A := X.A.in1) (I.ok.hd hc) it a ai its.toArray
    have sz : its.toArray.size = i := by rw [List.size_toArray, ← rv.length]; exact hx
    rw [sz] at D
    exact wpAny_pyNext_enum_endD D he ⟨hit, pt⟩ fun h' eb => ⟨rfl, I.turned (t' := s.toks) (fun b o hb q => eb b o hb q) f0 f1 f3 f4 f5⟩
  self := fun A i s Q E st h => let ⟨⟨_, he⟩, _⟩ := st; wpAny_pyIter_enum he h
def iEnumT (K : PySem.W.Frag) (te : TE) : TI := fun σ H R => te σ H fun x H1 => ∃ a, x = .ref a ∧ (∃ xs, SqT K H1 a xs) ∧ R (IteT K a) H1
theorem pi_enumT {X : Cx} {e : Expr} {te : TE} {p pos tpos : Pos} {elts : List Expr} {kk : Nat} (hg : Gl X "enumerate") (hm : X.mg "enumerate" = none) (he : PE X e te) (hs : starEach [e] X.env = [(false, eval e X.env)]) (hn : starEach [e] X.env = (false, eval e X.env) :: starEach [] X.env) :
    PI X (.Tuple elts kk tpos) (.Call (.Name "enumerate" p) [e] [] pos) (iEnumT X.K te) := by
  refine ⟨fun pins s σ H R I h => ?_⟩
  have ha : PA X [e] (tCons te tNil) := pa_cons he pa_nil hn
  refine PyProof.Rows.Call_ (ld_blt I hg hm (show bootBuiltins "enumerate" = some (.type "enumerate") by decide +kernel) (PyProof.Rows.callWith_type1 (thn (ha.run pos pins s σ H (fun vs H1 => match vs with | [x] => ∃ a, x = .ref a ∧ (∃ xs, SqT X.K H1 a xs) ∧ R (IteT X.K a) H1 | _ => False) I h) fun us s1 hh => ?_) hs rfl))
  obtain ⟨vs, H1, I1, r1, hh⟩ := hh
  cases r1 with
  | nil => exact hh.elim
  | cons r rr =>
    cases rr with
    | cons _ _ => exact hh.elim
    | nil =>
    obtain ⟨a, rfl, ⟨xs, hq⟩, q⟩ := hh
    cases r
    obtain ⟨its, rv, pt, hz⟩ := I1.tuple hq
    refine nz_call_enum (begins_tuple a its.toArray) pt fun h' he' hi hk => wpAny_pyIter_enum he' ?_
    have I2 : Inv X pins σ H1 { s1 with heap := h' } := I1.kept (t' := s1.toks) hk
    refine ⟨s1.heap.objs.size + 1, [s1.heap.objs.size + 1, s1.heap.objs.size], _, _, H1, rfl, I2, turnT a _ _, ⟨⟨_, he'⟩, ⟨_, hi, rfl, rfl⟩, Nat.succ_ne_self _⟩, fun b hb => ?_, q⟩
    have hle : s1.heap.objs.size ≤ b := by
      rcases List.mem_cons.mp hb with z | z
      · rw [z]; exact Nat.le_add_right _ _
      · rw [List.mem_singleton.mp z]; exact Nat.le_refl _
    exact I1.fpOk hle (I1.hok.fresh hle)
section
variable {G : Gi} {B : Bs} {F H F' H' : Hp} {σ : L2.St} {ρ ρ' : Env} {Y : Xi} {W : WX}
def enumD : Nat → List D → List D
  | _, [] => []
  | k, d :: ds => .tup [.int k, d] :: enumD (k + 1) ds
theorem enumD_len : ∀ (k : Nat) (ds : List D), (enumD k ds).length = ds.length
  | _, [] => rfl
  | k, d :: ds => by simp [enumD, enumD_len]
theorem enumD_get : ∀ {ds : List D} {k i : Nat} {d : D}, ds[i]? = some d → (enumD k ds)[i]? = some (.tup [.int ((k + i : Nat) : Int), d])
  | [], _, _, _, h => by simp at h
  | x :: ds, k, 0, d, h => by simp at h; subst h; simp [enumD]
  | x :: ds, k, i + 1, d, h => by
    simp only [enumD, List.getElem?_cons_succ]
    rw [enumD_get (k := k + 1) (by simpa using h)]
    have : k + 1 + i = k + (i + 1) := by omega
    rw [this]
theorem pair_new {a : V} {p : Addr} {i : Nat} {d : D} (S : StOk G B F H σ ρ) (hp : H p = none) (r : Rep G F a d) : ∃ F2, Sub F F2 ∧ StOk G B F2 (upd H p (.tup [.int (i : Int), a])) σ ρ ∧ Rep G F2 (.ref p) (.tup [.int (i : Int), d]) := by
  have e : Sub F (upd F p (.tup [.int (i : Int), a])) := Sub.new (S.fh.free hp)
  exact ⟨_, e, S.laid hp, .tup (.inl (.inl upd_same)) (.cons (.int _) (.one (r.mono e _)))⟩
theorem gives_enumT {a : Addr} {xs : List V} {ds : List D} (h : SqT G.K F a xs) (r : Reps G F xs ds) : Gives G B (IteT G.K a) (enumD 0 ds) F := by
  unfold Gives
  rw [enumD_len]
  refine ⟨fun i H hi ⟨F1, σ, ρ, e, S⟩ => ?_, fun H ⟨F1, σ, ρ, e, S⟩ => ⟨xs, sub_sqT (e.trans S.fh) h, r.length⟩, fun i H x H' hi ⟨F1, σ, ρ, e, S⟩ y => ?_⟩
  · have hl : i < xs.length := by rw [r.length]; exact hi
    exact ⟨xs, xs[i], sub_sqT (e.trans S.fh) h, by simp [hl]⟩
  · obtain ⟨T, v, rfl, hT, rfl, hv⟩ := y
    have hx := hv xs (sub_sqT (e.trans S.fh) h)
    obtain ⟨d, hd, rd⟩ := r.get' hx
    refine ⟨_, enumD_get hd, fun B2 F2 σ2 ρ2 e2 S2 => ?_⟩
    have := pair_new (i := i) S2 hT (rd.mono e2 _)
    simpa using this
theorem gives_enumL {a : Addr} {xs : List V} {ds : List D} (h : F a = some (.lst xs)) (r : Reps G F xs ds) : Gives G B (Ite G.K a) (enumD 0 ds) F := by
  unfold Gives
  rw [enumD_len]
  refine ⟨fun i H hi ⟨F1, σ, ρ, e, S⟩ => ?_, fun H ⟨F1, σ, ρ, e, S⟩ => ⟨xs, .inl (.inl (e.trans S.fh _ _ h)), by rw [r.length]; exact Nat.le_refl _⟩, fun i H x H' hi ⟨F1, σ, ρ, e, S⟩ y => ?_⟩
  · have hl : i < xs.length := by rw [r.length]; exact hi
    exact ⟨xs, xs[i], .inl (.inl (e.trans S.fh _ _ h)), by simp [hl]⟩
  · obtain ⟨T, v, rfl, hT, rfl, hv⟩ := y
    have hx := hv xs (.inl (.inl (e.trans S.fh _ _ h)))
    obtain ⟨d, hd, rd⟩ := r.get' hx
    refine ⟨_, enumD_get hd, fun B2 F2 σ2 ρ2 e2 S2 => ?_⟩
    have := pair_new (i := i) S2 hT (rd.mono e2 _)
    simpa using this
theorem gives_enumK {a : Addr} {xs : List V} {ds : List D} (h : B.H0 a = some (.lst xs)) (na : ¬ B.A a) (r : Reps G F xs ds) : Gives G B (Ite G.K a) (enumD 0 ds) F := by
  unfold Gives
  rw [enumD_len]
  refine ⟨fun i H hi ⟨F1, σ, ρ, e, S⟩ => ?_, fun H ⟨F1, σ, ρ, e, S⟩ => ⟨xs, .inl (.inl (S.keep _ _ h na)), by rw [r.length]; exact Nat.le_refl _⟩, fun i H x H' hi ⟨F1, σ, ρ, e, S⟩ y => ?_⟩
  · have hl : i < xs.length := by rw [r.length]; exact hi
    exact ⟨xs, xs[i], .inl (.inl (S.keep _ _ h na)), by simp [hl]⟩
  · obtain ⟨T, v, rfl, hT, rfl, hv⟩ := y
    have hx := hv xs (.inl (.inl (S.keep _ _ h na)))
    obtain ⟨d, hd, rd⟩ := r.get' hx
    refine ⟨_, enumD_get hd, fun B2 F2 σ2 ρ2 e2 S2 => ?_⟩
    have := pair_new (i := i) S2 hT (rd.mono e2 _)
    simpa using this
def enumSlot (i : Nat) (o : Option Sl) (ρ : Env) : Out Src := match o with
  | some (.own (.lst ds)) => .ok (.items (enumD 0 ds)) (ρ.set i (.d (.lst ds)))
  | some (.rd (.lst ds)) => .ok (.items (enumD 0 ds)) ρ
  | _ => .stuck
def enumSrc (r : Rv) (ρ : Env) : Out Src := match r with
  | .d (.lst ds) => .ok (.items (enumD 0 ds)) ρ
  | .d (.tup ds) => .ok (.items (enumD 0 ds)) ρ
  | .slot i => enumSlot i ρ[i]? ρ
  | _ => .stuck
def fEnum (fa : EF) : IF := fun ρ => (opd fa ρ).bind enumSrc
theorem enum_cases {fa : EF} {R : It → Hp → Prop} (h : tI G Y W (fEnum fa) σ H R) : iEnum G.K (tCons (tE G Y W fa) tNil) σ H R ∨ iEnumT G.K (tE G Y W fa) σ H R := by
  obtain ⟨B, F, ρ, S, p⟩ := h
  unfold fEnum at p
  cases ho : opd fa ρ with
  | stuck => rw [ho] at p; exact False.elim p
  | exc x ρ1 =>
    rw [ho] at p
    refine .inr (tE_opd ⟨B, F, ρ, S, ?_⟩)
    rw [ho]
    exact p
  | ok r ρ1 =>
    rw [ho] at p
    cases r with
    | new c => exact False.elim p
    | d x =>
      cases x with
      | lst ds =>
        refine .inl (tE_opd ⟨B, F, ρ, S, ?_⟩)
        rw [ho]
        intro u F1 H1 e S1 R1
        cases R1 with
        | lst h1 h2 => exact ⟨_, _, rfl, .inl (.inl (S1.fh _ _ h1)), p F1 H1 e S1 _ (gives_enumL h1 h2)⟩
      | tup ds =>
        refine .inr (tE_opd ⟨B, F, ρ, S, ?_⟩)
        rw [ho]
        intro u F1 H1 e S1 R1
        cases R1 with
        | tup h1 h2 => exact ⟨_, rfl, ⟨_, sub_sqT S1.fh h1⟩, p F1 H1 e S1 _ (gives_enumT h1 h2)⟩
      | _ => exact False.elim p
    | slot i =>
      have p' : PostG G Y B W σ (fun src ρ' F' H' => match src with
        | .items ds => ∀ J, Gives G B J ds F' → R J H'
        | .lend i ds => ∀ a xs, ρ'[i]? = some (.own (.lst ds)) → At σ i a → H' a = some (.lst xs) → Reps G F' xs ds → R (Itl G.K a) H') F (enumSlot i ρ1[i]? ρ1) := p
      refine .inl (tE_opd ⟨B, F, ρ, S, ?_⟩)
      rw [ho]
      intro u F1 H1 e S1 R1
      have hu : σ[i]? = some (some u) := R1
      cases q : ρ1[i]? with
      | none => rw [q] at p'; exact False.elim p'
      | some sl =>
        rw [q] at p'
        cases sl with
        | no => exact False.elim p'
        | d x => exact False.elim p'
        | io c => exact False.elim p'
        | own c =>
          cases c with
          | ins k fs => exact False.elim p'
          | dic fs => exact False.elim p'
          | lst ds =>
            obtain ⟨a, o, g1, g2, g3, g4, g5⟩ := S1.freeze q rfl
            obtain rfl := at_val hu g1
            cases g4 with
            | lst h1 h2 => exact ⟨a, _, rfl, .inl (.inl (g5.fh _ _ h1)), p' _ H1 (e.trans (Sub.new g3)) g5 _ (gives_enumL h1 h2)⟩
        | rd c =>
          cases c with
          | ins k fs => exact False.elim p'
          | dic fs => exact False.elim p'
          | lst ds =>
            obtain ⟨a, o, g1, gv, na, _, g3, ⟨xs, rfl, hx⟩⟩ := S1.rd i _ q
            obtain rfl := at_val hu g1
            exact ⟨a, xs, rfl, .inl (.inl (S1.keep a _ g3 na)), p' F1 H1 e S1 _ (gives_enumK g3 na hx)⟩
end
section
variable {X : Cx} {G : Gi} {Y : Xi} {W : WX} {k : Nat} {a b c e l : Expr} {es elts : List Expr} {pos tpos : Pos} {kk : Nat} {fa fb fc : EF} {fs : AF}
theorem ji_enum {p : Pos} (C : Ctx X G W k) (hm : X.mg "enumerate" = none) (h : JE X G Y W e fa) (hg : Gl X "enumerate" := by rfl) (hs : starEach [e] X.env = [(false, eval e X.env)] := by rfl) (hn : starEach [e] X.env = (false, eval e X.env) :: starEach [] X.env := by rfl) :
    JI X G Y W (.Tuple elts kk tpos) (.Call (.Name "enumerate" p) [e] [] pos) (fEnum fa) := by
  refine ⟨fun pins s σ H R I hw => ?_⟩
  rcases enum_cases hw with q | q
  · exact (pi_enum hg hm (pa_cons h pa_nil hn) hs).run pins s σ H R I (by rw [C.hK]; exact q)
  · exact (pi_enumT hg hm h hs hn).run pins s σ H R I (by rw [C.hK]; exact q)
theorem o_in : OpR X (compareOp .In) (rInA X.K false) := op_in_seq.or op_in_sign
theorem o_nin : OpR X (compareOp .NotIn) (rInA X.K true) := op_notIn_seq.or op_notIn_sign
theorem je_globI {x : Str} {i : Int} (hm : ∃ t, X.mg x = some (.int i t)) (hg : Gl X x := by rfl) (h2 : (x == ("__debug__" : Str)) = false := by decide) : JE X G Y W (.Name x pos) (fC (.int i)) := by
  obtain ⟨t, h⟩ := hm
  exact je_glob (v := .int i) h ⟨t, rfl⟩ (fun _ => .int i) hg h2
theorem je_globS {x : Str} {z : Str} (hm : ∃ t, X.mg x = some (.str z t)) (hg : Gl X x := by rfl) (h2 : (x == ("__debug__" : Str)) = false := by decide) : JE X G Y W (.Name x pos) (fC (.str z)) := by
  obtain ⟨t, h⟩ := hm
  exact je_glob (v := .str z) h ⟨t, rfl⟩ (fun _ => .str z) hg h2
theorem je_globC {x : Str} {c : Nat} (hm : X.mg x = some (.ref (G.cls c))) (hg : Gl X x := by rfl) (h2 : (x == ("__debug__" : Str)) = false := by decide) : JE X G Y W (.Name x pos) (fC (.cls c)) :=
  je_glob (v := .ref (G.cls c)) hm rfl (fun _ => .cls c) hg h2
theorem je_ty {x : Str} {n : String} (hm : X.mg x = none) (hv : bootBuiltins x = some (.type n)) (hg : Gl X x := by rfl) (hn : x ≠ "__name__" := by decide) (h2 : (x == ("__debug__" : Str)) = false := by decide) : JE X G Y W (.Name x pos) (fC (.ty n)) :=
  PE.weak (pe_bltn (v := .ty n) hg hm hv rfl hn h2) fun _ _ _ => t_c fun _ => .ty n
/-- a < b < c -/
def fChain (g g' : D → D → Option Pr) (fa fb fc : EF) : EF := fun ρ => (opd fa ρ).bind fun a ρ1 => (opd fb ρ1).bind fun b ρ2 => match (res ρ2 a).bind fun x => (res ρ2 b).bind fun y => g x y with
  | some (.d (.bl true)) => (opd fc ρ2).bind fun c ρ3 => ofP ρ3 ((res ρ3 b).bind fun y => (res ρ3 c).bind fun z => g' y z)
  | some (.d (.bl false)) => .ok (.d (.bl false)) ρ2
  | _ => .stuck
theorem t_chain {r r' : R2} {g g' : D → D → Option Pr} (hs : OpS G r g) (hs' : OpS G r' g') {σ : L2.St} {H : Hp} {Q : VK} (h : tE G Y W (fChain g g' fa fb fc) σ H Q) : tChain r r' (tE G Y W fa) (tE G Y W fb) (tE G Y W fc) σ H Q := by
  obtain ⟨B, F, ρ, S, p⟩ := h
  refine tE_opd ⟨B, F, ρ, S, Post.seq p fun a ρ1 u F1 H1 ha e1 S1 R1 p1 => ?_⟩
  refine tE_opd ⟨B, F1, ρ1, S1, Post.seq p1 fun b ρ2 v F2 H2 hb e2 S2 R2 p2 => ?_⟩
  have R1' : RvRep G B F2 H2 σ ρ2 u a := flat_stays (opd_flat ha) e2 R1
  cases hra : res ρ2 a with
  | none => rw [hra] at p2; exact False.elim p2
  | some x =>
    cases hrb : res ρ2 b with
    | none => rw [hra, hrb] at p2; exact False.elim p2
    | some y =>
      rw [hra, hrb] at p2
      simp only [Option.bind_some] at p2
      split at p2
      · rename_i hg
        refine hs F2 H2 u v x y _ S2.fh (S2.opd R1' hra) (S2.opd R2 hrb) hg _ fun z hz => ?_
        cases hz
        refine ⟨true, rfl, iteT (tE_opd ⟨B, F2, ρ2, S2, Post.seq p2 fun c ρ3 w F3 H3 hc e3 S3 R3 p3 => ?_⟩)⟩
        obtain ⟨pr, hpr, q⟩ := Post.ofP S3 p3
        have R2' : RvRep G B F3 H3 σ ρ3 v b := flat_stays (opd_flat hb) e3 R2
        cases hrb3 : res ρ3 b with
        | none => rw [hrb3] at hpr; cases hpr
        | some y3 =>
          cases hrc : res ρ3 c with
          | none => rw [hrb3, hrc] at hpr; cases hpr
          | some z3 =>
            rw [hrb3, hrc] at hpr
            exact hs' F3 H3 v w y3 z3 pr S3.fh (S3.opd R2' hrb3) (S3.opd R3 hrc) hpr Q q
      · rename_i hg
        refine hs F2 H2 u v x y _ S2.fh (S2.opd R1' hra) (S2.opd R2 hrb) hg _ fun z hz => ?_
        cases hz
        exact ⟨false, rfl, iteF (p2 _ F2 H2 Sub.rfl S2 (.bl false))⟩
      · exact False.elim p2
theorem je_chain {op op' : CmpOp} {r r' : R2} {g g' : D → D → Option Pr} (hs : OpS G r g) (ho : OpR X (compareOp op) r) (hs' : OpS G r' g') (ho' : OpR X (compareOp op') r') (ha : JE X G Y W a fa) (hb : JE X G Y W b fb) (hc : JE X G Y W c fc) (hm : lastMarks [op, op'] [b, c] = false := by with_unfolding_all rfl) :
    JE X G Y W (.Compare a [op, op'] [b, c] pos) (fChain g g' fa fb fc) := PE.weak (pe_chain ho ho' ha hb hc hm) fun _ _ _ => t_chain hs hs'
theorem jt_chain {op op' : CmpOp} {r r' : R2} {g g' : D → D → Option Pr} (hs : OpS G r g) (ho : OpR X (compareOp op) r) (hs' : OpS G r' g') (ho' : OpR X (compareOp op') r') (ha : JE X G Y W a fa) (hb : JE X G Y W b fb) (hc : JE X G Y W c fc) (hm : lastMarks [op, op'] [b, c] = false := by with_unfolding_all rfl) :
    JT X G Y W (.Compare a [op, op'] [b, c] pos) (fT (fChain g g' fa fb fc)) := PT.weak (pt_chain ho ho' ha hb hc hm) fun _ _ _ h => t_chain hs hs' (tT_tE h)
end
end Nz

set_option Elab.async false
set_option linter.all false
set_option maxRecDepth 100000
set_option maxHeartbeats 4000000
/-! Nz15: repetition. -/
namespace Nz
open PySem L2
theorem tuple_mulW1 (l : Addr) (items : Array Value) (n : Nat) (dd : Option Addr) (sl : Array (Option Value)) (u : Tok) :
    Meets (Builtin.«tuple.__mul__» ⟨[.ref l, .int 1 u], []⟩) (fun _ R s => s.heap.get? l = some { cls := .type "tuple", dict := dd, data := .seq items n, slots := sl } ∧ R (.ok (.ret (Value.ref l))) s) :=
  .of_wp fun prog w A R s h => by
    obtain ⟨hp, g, d, tk, os⟩ := s
    obtain ⟨hl, h⟩ := h
    have f1 := AutoSeq1.idx_int
    have c1 : (items.isEmpty || (1 : Int) == 1) = true := by simp
    wp_walk using wpAny_loadPart' hl
    repeat (first
      | (refine wpAny_ite_false (decide_eq_false (by decide)) ?_; wp_walk using wpAny_loadPart' hl)
      | (refine wpAny_ite_true (decide_eq_true c1) ?_; wp_walk using wpAny_loadPart' hl))
    exact ⟨_, rfl, h⟩
def rRepT1 (K : PySem.W.Frag) : R2 := fun x y H Q => ∃ l xs, x = .ref l ∧ y = .int 1 ∧ SqT K H l xs ∧ Q (.ref l) H
theorem op_repT1 {X : Cx} : OpR X (binaryOp .Mult) (rRepT1 X.K) := by
  intro pins s σ H x y v u Q I rx ry h
  obtain ⟨l, xs, rfl, rfl, hT, q⟩ := h
  cases rx
  obtain ⟨t, rfl⟩ := ry
  obtain ⟨its, r, ⟨⟨cls, dd, data, sl⟩, ho, hc, n, hd⟩, hs⟩ := I.tuple hT
  simp only at hc hd
  subst hc hd
  refine wpAny_binaryOp_repeat_ref (T := "tuple") (U := "int") (by decide) ⟨_, ho, rfl⟩ (fun s' => typeIs_int s' 1 t) noFill_tuple_mul F.fills_int_mul F.slot_int_rmul repeat_tuple F.slot_int_index.lookup
    (call_meets F.slot_int_rmul (typeIs_int s 1 t) F.entry_int_rmul (F.args_int_rmul_2 _ _) (int_rmul_tuple 1 t l its.toArray n dd sl)
      ⟨ho, rfl, ⟨_, ho, rfl⟩, call_meets F.slot_tuple_mul ⟨_, ho, rfl⟩ F.entry_tuple_mul (F.args_tuple_mul_2 _ _) (tuple_mulW1 l its.toArray n dd sl t) ⟨ho, ?_⟩⟩)
  exact ⟨.ref l, _, I, rfl, q⟩
def rMulA (K : PySem.W.Frag) : R2 := fun x y H Q => (rI CMul fun i j => .int (i * j)) x y H Q ∨ (rRep x y H Q ∨ (rRepT K x y H Q ∨ rRepT1 K x y H Q))
theorem o_mulA {X : Cx} : OpR X (binaryOp .Mult) (rMulA X.K) := op_mul.or (op_rep.or (op_repT.or op_repT1))
def gMulA (a b : D) : Option Pr := match a, b with
  | .int i, .int j => if mulOk i j then some (.d (.int (i * j))) else none
  | .lst a, .int j => if decide (-1000000 ≤ j) && decide (j ≤ 1000000) && decide (a.length * j.toNat ≤ 100000) then some (.newL (List.replicate j.toNat a).flatten) else none
  | .tup a, .int j => if j = 1 then some (.newT a) else if decide (a ≠ []) && decide (2 ≤ j) && decide (j ≤ 1000) && decide (a.length ≤ 1000) then some (.newT (List.replicate j.toNat a).flatten) else none
  | _, _ => none
section
variable {G : Gi} {F H : Hp}
theorem Reps.rep {xs : List V} {ds : List D} (h : Reps G F xs ds) : ∀ n : Nat, Reps G F (List.replicate n xs).flatten (List.replicate n ds).flatten
  | 0 => .nil
  | n + 1 => by
    rw [List.replicate_succ, List.replicate_succ, List.flatten_cons, List.flatten_cons]
    exact Reps.append h (Reps.rep h n)
theorem s_mulA : OpS G (rMulA G.K) gMulA := by
  intro F H x y a b pr hF hx hy hg Q hq
  unfold gMulA at hg
  split at hg
  · exact .inl (s_mul F H x y _ _ pr hF hx hy (by unfold gMul; exact hg) Q hq)
  · split at hg
    · rename_i a j h
      cases hg
      rw [Bool.and_eq_true, Bool.and_eq_true, decide_eq_true_eq, decide_eq_true_eq, decide_eq_true_eq] at h
      obtain ⟨p, xs, rfl, h1, h2⟩ := opd_lst hF hx
      obtain rfl := opd_int hy
      exact .inr (.inl ⟨p, j, xs, rfl, rfl, h1, by omega, by omega, by rw [h2.length]; exact le_line h.2, fun r hr => hq r _ hr (h2.rep _)⟩)
    · cases hg
  · rename_i a j
    have rx := opd_rep hx (by intro _ z; cases z)
    obtain ⟨p, xs, rfl, h1, h2⟩ := opd_tup hF hx
    obtain rfl := opd_int hy
    split at hg
    · rename_i h
      cases hg
      subst h
      exact .inr (.inr (.inr ⟨p, xs, rfl, rfl, h1, hq.1 _ rx⟩))
    · split at hg
      · rename_i h
        cases hg
        rw [Bool.and_eq_true, Bool.and_eq_true, Bool.and_eq_true, decide_eq_true_eq, decide_eq_true_eq, decide_eq_true_eq, decide_eq_true_eq] at h
        exact .inr (.inr (.inl ⟨p, j, xs, rfl, rfl, h1, fun e => h.1.1.1 (by have := h2.length; rw [e] at this; exact List.eq_nil_of_length_eq_zero this.symm), h.1.1.2, h.1.2, by rw [h2.length]; exact h.2, fun r hr => hq.2 r _ hr (h2.rep _)⟩))
      · cases hg
  · cases hg
end
end Nz

set_option Elab.async false
set_option linter.all false
set_option maxRecDepth 100000
set_option maxHeartbeats 4000000
/-! Nz16: the evaluator by equations. -/
namespace Nz
open PySem L2
section
variable (f g : EF) (fs : AF) (t tb : TF) (s u : SF) (i : Nat)
def aD : Rv → Env → Out Rv := asD
def k1 (h : D → Option Pr) (a : Rv) (ρ : Env) : Out Rv := ofP ρ ((res ρ a).bind h)
def o2 (h : D → D → Option Pr) (a b : Option D) : Option Pr := a.bind fun x => b.bind fun y => h x y
def k2b (h : D → D → Option Pr) (a b : Rv) (ρ : Env) : Out Rv := ofP ρ (o2 h (res ρ a) (res ρ b))
def k2a (h : D → D → Option Pr) (a : Rv) (ρ : Env) : Out Rv := (opd g ρ).bind (k2b h a)
def kT (r : Rv) (ρ : Env) : Out Bool := isB ρ (res ρ r)
def kAnd (b : Bool) (ρ : Env) : Out Bool := if b then tb ρ else .ok false ρ
def kOr (b : Bool) (ρ : Env) : Out Bool := if b then .ok true ρ else tb ρ
def kNot (b : Bool) (ρ : Env) : Out Bool := .ok (!b) ρ
def kAndE (b : Bool) (ρ : Env) : Out Rv := if b then g ρ else .ok (.d (.bl false)) ρ
def kOrE (b : Bool) (ρ : Env) : Out Rv := if b then .ok (.d (.bl true)) ρ else g ρ
def kNotE (b : Bool) (ρ : Env) : Out Rv := .ok (.d (.bl !b)) ρ
def kIfE (b : Bool) (ρ : Env) : Out Rv := if b then f ρ else g ρ
def kIfS (b : Bool) (ρ : Env) : Out Fl := if b then s ρ else u ρ
def kCons2 (r : Rv) (rs : List Rv) (ρ : Env) : Out (List Rv) := .ok (r :: rs) ρ
def kCons (r : Rv) (ρ : Env) : Out (List Rv) := (fs ρ).bind (kCons2 r)
def kz2 (d : D) (ds : List D) (ρ : Env) : Out (List D) := .ok (d :: ds) ρ
def kz (rs : List Rv) (d : D) (ρ : Env) : Out (List D) := (frzs rs ρ).bind (kz2 d)
def kTup2 (ds : List D) (ρ : Env) : Out Rv := lim ds.length (.ok (.d (.tup ds)) ρ)
def kTup (rs : List Rv) (ρ : Env) : Out Rv := (frzs rs ρ).bind kTup2
def kLst2 (ds : List D) (ρ : Env) : Out Rv := lim ds.length (.ok (.new (.lst ds)) ρ)
def kLst (rs : List Rv) (ρ : Env) : Out Rv := (frzs rs ρ).bind kLst2
def kPart (r : Rv) (ρ : Env) : Out (Option Int) := isI ρ (res ρ r)
def kSl3 (h : D → Option Int → Option Int → Option Pr) (a : Rv) (l u : Option Int) (ρ : Env) : Out Rv := ofP ρ ((res ρ a).bind fun x => h x l u)
def kSl2 (h : D → Option Int → Option Int → Option Pr) (hi : OF) (a : Rv) (l : Option Int) (ρ : Env) : Out Rv := (hi ρ).bind (kSl3 h a l)
def kSl1 (h : D → Option Int → Option Int → Option Pr) (lo hi : OF) (a : Rv) (ρ : Env) : Out Rv := (lo ρ).bind (kSl2 h hi a)
def kBlt (h : List D → Option Pr) (rs : List Rv) (ρ : Env) : Out Rv := ofP ρ ((ress ρ rs).bind h)
def kDrop (_ : Rv) (ρ : Env) : Out Fl := .ok .next ρ
def kAsg2 (_ : Unit) (ρ : Env) : Out Fl := .ok .next ρ
def kAsg (r : Rv) (ρ : Env) : Out Fl := (store i r ρ).bind kAsg2
def kRng1 (rs : List Rv) (ρ : Env) : Out Src := rngSrc1 (ress ρ rs) ρ
def kRng2 (rs : List Rv) (ρ : Env) : Out Src := rngSrc2 (ress ρ rs) ρ
def kCall3 (rs : List Rv) (Φ : Fn) (as : List Arg) (b : Bool) (ρ : Env) : Out Rv := if b then callK rs as (Φ as) ρ else .stuck
def kCall2 (rs : List Rv) (Φ : Fn) (ρ : Env) : Option (List Arg) → Out Rv
  | some as => kCall3 rs Φ as (lentOnce rs as) ρ
  | none => .stuck
def kCall (sg : List Bool) (Φ : Fn) (rs : List Rv) (ρ : Env) : Out Rv := kCall2 rs Φ ρ (mkArgs sg rs ρ)
def kMut2 (m : List D → List D → Option (List D × D)) (as : List D) (ρ : Env) : Out Rv := mutAt i m as ρ
def kMut (m : List D → List D → Option (List D × D)) (rs : List Rv) (ρ : Env) : Out Rv := (frzs rs ρ).bind (kMut2 i m)
def kLoop2 (l : Env → Out Fl) (fl : Fl) (ρ : Env) : Out Fl := turnK l fl ρ
def kLoop (b : SF) (l : Env → Out Fl) (_ : Unit) (ρ : Env) : Out Fl := (b ρ).bind (kLoop2 l)
end
section
variable {f g : EF} {fs : AF} {ρ : Env} {t : TF} {s u : SF} {i : Nat}
@[simp] theorem fC_ap {d : D} : fC d ρ = .ok (.d d) ρ := rfl
@[simp] theorem opd_ap : opd f ρ = (f ρ).bind asD := rfl
@[simp] theorem asD_d {x : D} : asD (.d x) ρ = .ok (.d x) ρ := rfl
@[simp] theorem asD_slot : asD (.slot i) ρ = .ok (.slot i) ρ := rfl
@[simp] theorem asD_new {ds : List D} : asD (.new (.lst ds)) ρ = .ok (.d (.lst ds)) ρ := rfl
@[simp] theorem f1_ap {h : D → Option Pr} : f1 h f ρ = (opd f ρ).bind (k1 h) := rfl
@[simp] theorem f2_ap {h : D → D → Option Pr} : f2 h f g ρ = (opd f ρ).bind (k2a g h) := rfl
@[simp] theorem res_d {x : D} : res ρ (.d x) = some x := rfl
@[simp] theorem res_slot : res ρ (.slot i) = resS ρ[i]? := rfl
@[simp] theorem resS_d {x : D} : resS (some (.d x)) = some x := rfl
@[simp] theorem resS_own {x : List D} : resS (some (.own (.lst x))) = some (.lst x) := rfl
@[simp] theorem resS_io {x : List D} : resS (some (.io (.lst x))) = some (.lst x) := rfl
@[simp] theorem resS_rd {x : List D} : resS (some (.rd (.lst x))) = some (.lst x) := rfl
@[simp] theorem ress_nil : ress ρ [] = some [] := rfl
@[simp] theorem ress_cons {r : Rv} {rs : List Rv} : ress ρ (r :: rs) = (res ρ r).bind fun d => (ress ρ rs).map (d :: ·) := rfl
@[simp] theorem ofP_d {x : D} : ofP ρ (some (.d x)) = .ok (.d x) ρ := rfl
@[simp] theorem ofP_l {x : List D} : ofP ρ (some (.newL x)) = .ok (.new (.lst x)) ρ := rfl
@[simp] theorem ofP_t {x : List D} : ofP ρ (some (.newT x)) = .ok (.d (.tup x)) ρ := rfl
@[simp] theorem isB_b {b : Bool} : isB ρ (some (.bl b)) = .ok b ρ := rfl
@[simp] theorem fT_ap : fT f ρ = (opd f ρ).bind kT := rfl
variable {ta tb : TF}
@[simp] theorem gAnd_ap : gAnd ta tb ρ = (ta ρ).bind (kAnd tb) := rfl
@[simp] theorem gOr_ap : gOr ta tb ρ = (ta ρ).bind (kOr tb) := rfl
@[simp] theorem gNot_ap : gNot ta ρ = (ta ρ).bind kNot := rfl
@[simp] theorem fAnd_ap : fAnd f g ρ = (fT f ρ).bind (kAndE g) := rfl
@[simp] theorem fOr_ap : fOr f g ρ = (fT f ρ).bind (kOrE g) := rfl
@[simp] theorem fNot_ap : fNot f ρ = (fT f ρ).bind kNotE := rfl
@[simp] theorem fIf_ap : fIf t f g ρ = (t ρ).bind (kIfE f g) := rfl
@[simp] theorem fNil_ap : fNil ρ = .ok [] ρ := rfl
@[simp] theorem fCons_ap : fCons f fs ρ = (opd f ρ).bind (kCons fs) := rfl
@[simp] theorem frz_d {x : D} : frz (.d x) ρ = .ok x ρ := rfl
@[simp] theorem frzs_nil : frzs [] ρ = .ok [] ρ := rfl
@[simp] theorem frzs_cons {r : Rv} {rs : List Rv} : frzs (r :: rs) ρ = (frz r ρ).bind (kz rs) := rfl
@[simp] theorem lim_pos {α : Type} {n : Nat} {o : Out α} (h : n ≤ 100000) : lim n o = o := by unfold lim; rw [if_pos h]
@[simp] theorem fTup_ap : fTup fs ρ = (fs ρ).bind kTup := rfl
@[simp] theorem fLst_ap : fLst fs ρ = (fs ρ).bind kLst := rfl
@[simp] theorem isI_i {j : Int} : isI ρ (some (.int j)) = .ok (some j) ρ := rfl
@[simp] theorem fPart_ap : fPart f ρ = (opd f ρ).bind kPart := rfl
@[simp] theorem fNo_ap : fNo ρ = .ok none ρ := rfl
@[simp] theorem fSl_ap {h : D → Option Int → Option Int → Option Pr} {lo hi : OF} : fSl h f lo hi ρ = (opd f ρ).bind (kSl1 h lo hi) := rfl
@[simp] theorem fBlt_ap {h : List D → Option Pr} : fBlt h fs ρ = (fs ρ).bind (kBlt h) := rfl
@[simp] theorem fSeq_ap : fSeq s u ρ = (s ρ).bind (seqK u) := rfl
@[simp] theorem seqK_next : seqK u .next ρ = u ρ := rfl
@[simp] theorem seqK_brk : seqK u .brk ρ = .ok .brk ρ := rfl
@[simp] theorem seqK_cont : seqK u .cont ρ = .ok .cont ρ := rfl
@[simp] theorem seqK_ret {r : Rv} : seqK u (.ret r) ρ = .ok (.ret r) ρ := rfl
@[simp] theorem fSkip_ap : fSkip ρ = .ok .next ρ := rfl
@[simp] theorem fIfS_ap : fIfS t s u ρ = (t ρ).bind (kIfS s u) := rfl
@[simp] theorem fDrop_ap : fDrop f ρ = (f ρ).bind kDrop := rfl
@[simp] theorem fAsg_ap : fAsg i f ρ = (f ρ).bind (kAsg i) := rfl
@[simp] theorem retK_d {x : D} : retK (.d x) ρ = .ok (.ret (.d x)) ρ := rfl
@[simp] theorem retK_new {x : Cell} : retK (.new x) ρ = .ok (.ret (.new x)) ρ := rfl
@[simp] theorem fRet_ap : fRet f ρ = (f ρ).bind retK := rfl
@[simp] theorem fRetN_ap : fRetN ρ = .ok (.ret (.d .non)) ρ := rfl
@[simp] theorem turnK_next {l : Env → Out Fl} : turnK l .next ρ = l ρ := rfl
@[simp] theorem turnK_cont {l : Env → Out Fl} : turnK l .cont ρ = l ρ := rfl
@[simp] theorem turnK_brk {l : Env → Out Fl} : turnK l .brk ρ = .ok .next ρ := rfl
@[simp] theorem turnK_ret {l : Env → Out Fl} {r : Rv} : turnK l (.ret r) ρ = .ok (.ret r) ρ := rfl
@[simp] theorem ofO_some : ofO (some ρ) = .ok () ρ := rfl
variable {fi : IF} {tg : GF}
@[simp] theorem fFor_ap : fFor fi tg s ρ = (fi ρ).bind (forK tg s) := rfl
@[simp] theorem forK_items {ds : List D} : forK tg s (.items ds) ρ = loopL tg s ds ρ := rfl
@[simp] theorem fSeqI_ap : fSeqI f ρ = (opd f ρ).bind seqSrc := rfl
@[simp] theorem seqSrc_l {ds : List D} : seqSrc (.d (.lst ds)) ρ = .ok (.items ds) ρ := rfl
@[simp] theorem seqSrc_t {ds : List D} : seqSrc (.d (.tup ds)) ρ = .ok (.items ds) ρ := rfl
@[simp] theorem seqSrc_s {z : Str} : seqSrc (.d (.str z)) ρ = .ok (.items (signs z)) ρ := rfl
@[simp] theorem fRng1_ap : fRng1 fs ρ = (fs ρ).bind kRng1 := rfl
@[simp] theorem fRng2_ap : fRng2 fs ρ = (fs ρ).bind kRng2 := rfl
theorem rng1 {j : Nat} (h : j ≤ 1000000) : rngSrc1 (some [.int (j : Nat)]) ρ = .ok (.items (upto 0 j)) ρ := by
  unfold rngSrc1 small
  simp only [Int.natAbs_natCast, h, decide_true, if_true, Int.toNat_natCast]
@[simp] theorem fComp_ap {c : TF} {vs : List Nat} : fComp fi tg c f vs ρ = (fi ρ).bind (compK tg c f vs) := rfl
@[simp] theorem compK_items {c : TF} {vs : List Nat} {ds : List D} : compK tg c f vs (.items ds) ρ = compI tg c f vs ds ρ := rfl
@[simp] theorem gTrue_ap : gTrue ρ = .ok true ρ := rfl
@[simp] theorem k1_ap {h : D → Option Pr} {a : Rv} : k1 h a ρ = ofP ρ ((res ρ a).bind h) := rfl
@[simp] theorem o2_ap {h : D → D → Option Pr} {x y : D} : o2 h (some x) (some y) = h x y := rfl
@[simp] theorem k2b_ap {h : D → D → Option Pr} {a b : Rv} : k2b h a b ρ = ofP ρ (o2 h (res ρ a) (res ρ b)) := rfl
@[simp] theorem k2a_ap {h : D → D → Option Pr} {a : Rv} : k2a g h a ρ = (opd g ρ).bind (k2b h a) := rfl
@[simp] theorem kT_ap {r : Rv} : kT r ρ = isB ρ (res ρ r) := rfl
@[simp] theorem kAnd_t : kAnd tb true ρ = tb ρ := rfl
@[simp] theorem kAnd_f : kAnd tb false ρ = .ok false ρ := rfl
@[simp] theorem kOr_t : kOr tb true ρ = .ok true ρ := rfl
@[simp] theorem kOr_f : kOr tb false ρ = tb ρ := rfl
@[simp] theorem kNot_ap {b : Bool} : kNot b ρ = .ok (!b) ρ := rfl
@[simp] theorem kAndE_t : kAndE g true ρ = g ρ := rfl
@[simp] theorem kAndE_f : kAndE g false ρ = .ok (.d (.bl false)) ρ := rfl
@[simp] theorem kOrE_t : kOrE g true ρ = .ok (.d (.bl true)) ρ := rfl
@[simp] theorem kOrE_f : kOrE g false ρ = g ρ := rfl
@[simp] theorem kNotE_ap {b : Bool} : kNotE b ρ = .ok (.d (.bl !b)) ρ := rfl
@[simp] theorem kIfE_t : kIfE f g true ρ = f ρ := rfl
@[simp] theorem kIfE_f : kIfE f g false ρ = g ρ := rfl
@[simp] theorem kIfS_t : kIfS s u true ρ = s ρ := rfl
@[simp] theorem kIfS_f : kIfS s u false ρ = u ρ := rfl
@[simp] theorem kCons2_ap {r : Rv} {rs : List Rv} : kCons2 r rs ρ = .ok (r :: rs) ρ := rfl
@[simp] theorem kCons_ap {r : Rv} : kCons fs r ρ = (fs ρ).bind (kCons2 r) := rfl
@[simp] theorem kz2_ap {d : D} {ds : List D} : kz2 d ds ρ = .ok (d :: ds) ρ := rfl
@[simp] theorem kz_ap {rs : List Rv} {d : D} : kz rs d ρ = (frzs rs ρ).bind (kz2 d) := rfl
@[simp] theorem kTup2_ap {ds : List D} : kTup2 ds ρ = lim ds.length (.ok (.d (.tup ds)) ρ) := rfl
@[simp] theorem kTup_ap {rs : List Rv} : kTup rs ρ = (frzs rs ρ).bind kTup2 := rfl
@[simp] theorem kLst2_ap {ds : List D} : kLst2 ds ρ = lim ds.length (.ok (.new (.lst ds)) ρ) := rfl
@[simp] theorem kLst_ap {rs : List Rv} : kLst rs ρ = (frzs rs ρ).bind kLst2 := rfl
@[simp] theorem kPart_ap {r : Rv} : kPart r ρ = isI ρ (res ρ r) := rfl
@[simp] theorem kSl3_ap {h : D → Option Int → Option Int → Option Pr} {a : Rv} {l m : Option Int} : kSl3 h a l m ρ = ofP ρ ((res ρ a).bind fun x => h x l m) := rfl
@[simp] theorem kSl2_ap {h : D → Option Int → Option Int → Option Pr} {hi : OF} {a : Rv} {l : Option Int} : kSl2 h hi a l ρ = (hi ρ).bind (kSl3 h a l) := rfl
@[simp] theorem kSl1_ap {h : D → Option Int → Option Int → Option Pr} {lo hi : OF} {a : Rv} : kSl1 h lo hi a ρ = (lo ρ).bind (kSl2 h hi a) := rfl
@[simp] theorem kBlt_ap {h : List D → Option Pr} {rs : List Rv} : kBlt h rs ρ = ofP ρ ((ress ρ rs).bind h) := rfl
@[simp] theorem kDrop_ap {r : Rv} : kDrop r ρ = .ok .next ρ := rfl
@[simp] theorem kAsg2_ap {r : Unit} : kAsg2 r ρ = .ok .next ρ := rfl
@[simp] theorem kAsg_ap {r : Rv} : kAsg i r ρ = (store i r ρ).bind kAsg2 := rfl
@[simp] theorem kRng1_ap {rs : List Rv} : kRng1 rs ρ = rngSrc1 (ress ρ rs) ρ := rfl
@[simp] theorem kRng2_ap {rs : List Rv} : kRng2 rs ρ = rngSrc2 (ress ρ rs) ρ := rfl
theorem fCall_eq {sg : List Bool} {Φ : Fn} : fCall sg Φ fs ρ = (fs ρ).bind (kCall sg Φ) := by
  unfold fCall
  cases h : fs ρ with
  | ok rs ρ1 =>
    show (match mkArgs sg rs ρ1 with | some as => if lentOnce rs as then callK rs as (Φ as) ρ1 else .stuck | none => .stuck) = kCall2 rs Φ ρ1 (mkArgs sg rs ρ1)
    cases mkArgs sg rs ρ1 <;> rfl
  | exc x ρ1 => rfl
  | stuck => rfl
@[simp] theorem fCall_ap {sg : List Bool} {Φ : Fn} : fCall sg Φ fs ρ = (fs ρ).bind (kCall sg Φ) := fCall_eq
@[simp] theorem kCall_ap {sg : List Bool} {Φ : Fn} {rs : List Rv} : kCall sg Φ rs ρ = kCall2 rs Φ ρ (mkArgs sg rs ρ) := rfl
@[simp] theorem kCall2_ap {Φ : Fn} {rs : List Rv} {as : List Arg} : kCall2 rs Φ ρ (some as) = kCall3 rs Φ as (lentOnce rs as) ρ := rfl
@[simp] theorem kCall3_ap {Φ : Fn} {rs : List Rv} {as : List Arg} : kCall3 rs Φ as true ρ = callK rs as (Φ as) ρ := rfl
@[simp] theorem callK_d {rs : List Rv} {as : List Arg} {x : D} {o : List (Option Cell)} : callK rs as (.ret (.d x) o) ρ = .ok (.d x) (upds rs as o ρ) := rfl
@[simp] theorem callK_n {rs : List Rv} {as : List Arg} {x : Cell} {o : List (Option Cell)} : callK rs as (.ret (.new x) o) ρ = .ok (.new x) (upds rs as o ρ) := rfl
@[simp] theorem upds_io {j : Nat} {rs : List Rv} {c c' : Cell} {as : List Arg} {os : List (Option Cell)} : upds (.slot j :: rs) (.io c :: as) (some c' :: os) ρ = upds rs as os (putC j c' ρ) := rfl
@[simp] theorem upds_nil {as : List Arg} {os : List (Option Cell)} : upds [] as os ρ = ρ := rfl
@[simp] theorem upds_no {r : Rv} {rs : List Rv} {a : Arg} {as : List Arg} {os : List (Option Cell)} : upds (r :: rs) (a :: as) (none :: os) ρ = upds rs as os ρ := by cases r <;> cases a <;> rfl
@[simp] theorem mkArgs_nil : mkArgs [] [] ρ = some [] := rfl
@[simp] theorem mkArgs_cons {m : Bool} {ms : List Bool} {r : Rv} {rs : List Rv} : mkArgs (m :: ms) (r :: rs) ρ = (mkArg m r ρ).bind fun a => (mkArgs ms rs ρ).map (a :: ·) := rfl
@[simp] theorem mkArgE_d {x : D} : mkArg false (.d x) ρ = some (.d x) := rfl
@[simp] theorem once1 {r : Rv} {a : Arg} : lentOnce [r] [a] = true := rfl
@[simp] theorem once_dd {x : D} {r : Rv} {a b : Arg} : lentOnce [r, .d x] [a, b] = true := by cases r <;> cases a <;> cases b <;> rfl
@[simp] theorem once_d2 {x : D} {r : Rv} {a b : Arg} : lentOnce [.d x, r] [a, b] = true := by cases r <;> cases a <;> cases b <;> rfl
@[simp] theorem once_rd {r q : Rv} {x y : D} : lentOnce [r, q] [.d x, .d y] = true := by cases r <;> cases q <;> rfl
@[simp] theorem once_s2 {i j : Nat} {a b : Arg} (h : (i == j) = false) : lentOnce [.slot i, .slot j] [a, b] = true := by
  have h' : (j == i) = false := by rw [beq_eq_false_iff_ne] at h ⊢; exact fun e => h e.symm
  cases a <;> cases b <;> simp [lentOnce, clash, List.range_succ, h, h']
@[simp] theorem once_s3 {i j : Nat} {a b c : Arg} {x : D} (h : (i == j) = false) : lentOnce [.slot i, .slot j, .d x] [a, b, c] = true := by
  have h' : (j == i) = false := by rw [beq_eq_false_iff_ne] at h ⊢; exact fun e => h e.symm
  cases a <;> cases b <;> cases c <;> simp [lentOnce, clash, List.range_succ, h, h']
@[simp] theorem once_s3d {i : Nat} {a b c : Arg} {x y : D} : lentOnce [.slot i, .d x, .d y] [a, b, c] = true := by
  cases a <;> cases b <;> cases c <;> simp [lentOnce, clash, List.range_succ]
@[simp] theorem kMut_ap {m : List D → List D → Option (List D × D)} {rs : List Rv} : kMut i m rs ρ = (frzs rs ρ).bind (kMut2 i m) := rfl
@[simp] theorem loopL_nil {b : SF} : loopL tg b [] ρ = .ok .next ρ := rfl
@[simp] theorem loopL_cons {b : SF} {d : D} {ds : List D} : loopL tg b (d :: ds) ρ = (ofO (tg d ρ)).bind (kLoop b (loopL tg b ds)) := rfl
@[simp] theorem kLoop_ap {b : SF} {l : Env → Out Fl} {z : Unit} : kLoop b l z ρ = (b ρ).bind (kLoop2 l) := rfl
@[simp] theorem kLoop2_ap {l : Env → Out Fl} {fl : Fl} : kLoop2 l fl ρ = turnK l fl ρ := rfl
end
section
variable (i j : Nat) (ρ : Env)
def vr (o : Option Sl) : Out Rv := match o with
  | some (.d x) => .ok (.d x) ρ
  | some (.no) => .stuck
  | some _ => .ok (.slot i) ρ
  | none => .stuck
def nio (o : Option Sl) : Bool := match o with
  | some (.io _) => false
  | some _ => true
  | none => false
def fz (o : Option Sl) : Out D := match o with
  | some (.d x) => .ok x ρ
  | some (.own c) => match c.dat with
    | some d => .ok d (ρ.set i (.d d))
    | none => .stuck
  | _ => .stuck
def gd {α : Type} (b : Bool) (o : Out α) : Out α := if b then o else .stuck
def gs {α : Type} (b : Bool) (o : Option α) : Option α := if b then o else none
def rk (o : Option Sl) : Out Fl := match o with
  | some (.own c) => .ok (.ret (.new c)) (ρ.set j .no)
  | some (.d x) => .ok (.ret (.d x)) ρ
  | _ => .stuck
def la (o : Option Sl) : Bool := match o with
  | some (.own (.lst _)) => true
  | some (.io (.lst _)) => true
  | _ => false
def mo (o : Option (List D × D)) : Out Rv := match o with
  | some (ds', z) => .ok (.d z) (ρ.set i (.own (.lst ds')))
  | none => .stuck
def mi (o : Option (List D × D)) : Out Rv := match o with
  | some (ds', z) => .ok (.d z) (ρ.set i (.io (.lst ds')))
  | none => .stuck
def ma (m : List D → List D → Option (List D × D)) (as : List D) (o : Option Sl) : Out Rv := match o with
  | some (.own (.lst ds)) => mo i ρ (m ds as)
  | some (.io (.lst ds)) => mi i ρ (m ds as)
  | _ => .stuck
def ag (m : Bool) (o : Option Sl) : Option Arg := match o with
  | some (.d x) => if m then none else some (.d x)
  | some (.own c) => some (if m then .io c else .rd c)
  | some (.io c) => some (if m then .io c else .rd c)
  | some (.rd c) => if m then none else some (.rd c)
  | _ => none
def pc (c : Cell) (o : Option Sl) : Env := match o with
  | some (.own _) => ρ.set j (.own c)
  | some (.io _) => ρ.set j (.io c)
  | _ => ρ
def setM (d : D) (o : Option D) (ds _as : List D) : Option (List D × D) := match o with
  | some (.int k) => (ixN ds.length k).map fun n => (ds.set n d, .non)
  | _ => none
def kSet3 (d : D) (r : Rv) (ρ : Env) : Out Fl := (mutAt i (setM d (res ρ r)) [] ρ).bind kDrop
def kSet2 (g : EF) (d : D) (ρ : Env) : Out Fl := gd (lstAt ρ i) ((opd g ρ).bind (kSet3 i d))
def kSet (g : EF) (r : Rv) (ρ : Env) : Out Fl := (frz r ρ).bind (kSet2 i g)
def kAtt2 (nm : Str) (x : D) (ρ : Env) : Out Fl := setA i nm x ρ
def kAtt (nm : Str) (r : Rv) (ρ : Env) : Out Fl := (frz r ρ).bind (kAtt2 i nm)
def sa (nm : Str) (x : D) (o : Option Sl) : Out Fl := match o with
  | some (.io (.ins c fs)) => gd (decide (fs.length < 900)) (.ok .next (ρ.set i (.io (.ins c (putD nm x fs)))))
  | _ => .stuck
end
section
variable {i j : Nat} {ρ : Env} {x : D} {c : Cell} {ds : List D} {m : List D → List D → Option (List D × D)} {as : List D}
@[simp] theorem fVar_ap : fVar i ρ = vr i ρ ρ[i]? := rfl
@[simp] theorem vr_d : vr i ρ (some (.d x)) = .ok (.d x) ρ := rfl
@[simp] theorem vr_own : vr i ρ (some (.own c)) = .ok (.slot i) ρ := rfl
@[simp] theorem vr_io : vr i ρ (some (.io c)) = .ok (.slot i) ρ := rfl
@[simp] theorem vr_rd : vr i ρ (some (.rd c)) = .ok (.slot i) ρ := rfl
@[simp] theorem noIo_ap : noIo ρ i = nio ρ[i]? := rfl
@[simp] theorem nio_no : nio (some .no) = true := rfl
@[simp] theorem nio_d : nio (some (.d x)) = true := rfl
@[simp] theorem nio_own : nio (some (.own c)) = true := rfl
@[simp] theorem nio_rd : nio (some (.rd c)) = true := rfl
@[simp] theorem frz_slot : frz (.slot i) ρ = fz i ρ ρ[i]? := rfl
@[simp] theorem fz_d : fz i ρ (some (.d x)) = .ok x ρ := rfl
@[simp] theorem fz_own : fz i ρ (some (.own (.lst ds))) = .ok (.lst ds) (ρ.set i (.d (.lst ds))) := rfl
@[simp] theorem gd_t {α : Type} {o : Out α} : gd true o = o := rfl
@[simp] theorem gs_t {α : Type} {o : Option α} : gs true o = o := rfl
@[simp] theorem store_d : store i (.d x) ρ = gd (noIo ρ i) (.ok () (ρ.set i (.d x))) := rfl
@[simp] theorem store_new : store i (.new c) ρ = gd (noIo ρ i) (.ok () (ρ.set i (.own c))) := rfl
@[simp] theorem retK_slot : retK (.slot j) ρ = rk j ρ ρ[j]? := rfl
@[simp] theorem rk_own : rk j ρ (some (.own c)) = .ok (.ret (.new c)) (ρ.set j .no) := rfl
@[simp] theorem rk_d : rk j ρ (some (.d x)) = .ok (.ret (.d x)) ρ := rfl
@[simp] theorem lstAt_ap : lstAt ρ i = la ρ[i]? := rfl
@[simp] theorem la_own : la (some (.own (.lst ds))) = true := rfl
@[simp] theorem la_io : la (some (.io (.lst ds))) = true := rfl
@[simp] theorem mutAt_ap : mutAt i m as ρ = ma i ρ m as ρ[i]? := rfl
@[simp] theorem ma_own : ma i ρ m as (some (.own (.lst ds))) = mo i ρ (m ds as) := rfl
@[simp] theorem ma_io : ma i ρ m as (some (.io (.lst ds))) = mi i ρ (m ds as) := rfl
@[simp] theorem mo_some {y : List D} {z : D} : mo i ρ (some (y, z)) = .ok (.d z) (ρ.set i (.own (.lst y))) := rfl
@[simp] theorem mi_some {y : List D} {z : D} : mi i ρ (some (y, z)) = .ok (.d z) (ρ.set i (.io (.lst y))) := rfl
@[simp] theorem mkArg_slot {b : Bool} : mkArg b (.slot j) ρ = ag b ρ[j]? := rfl
@[simp] theorem ag_d : ag false (some (.d x)) = some (.d x) := rfl
@[simp] theorem ag_own : ag false (some (.own c)) = some (.rd c) := rfl
@[simp] theorem ag_rd : ag false (some (.rd c)) = some (.rd c) := rfl
@[simp] theorem ag_ownt : ag true (some (.own c)) = some (.io c) := rfl
@[simp] theorem ag_iot : ag true (some (.io c)) = some (.io c) := rfl
@[simp] theorem putC_ap : putC j c ρ = pc j ρ c ρ[j]? := rfl
@[simp] theorem pc_own {c' : Cell} : pc j ρ c (some (.own c')) = ρ.set j (.own c) := rfl
@[simp] theorem pc_io {c' : Cell} : pc j ρ c (some (.io c')) = ρ.set j (.io c) := rfl
@[simp] theorem gfName_ap {d : D} : gfName i d ρ = gs (noIo ρ i) (some (ρ.set i (.d d))) := rfl
@[simp] theorem gfNil_ap : gfNil [] ρ = some ρ := rfl
@[simp] theorem gfCons_ap {t : GF} {u : GFs} {d : D} {r : List D} : gfCons t u (d :: r) ρ = (t d ρ).bind (u r) := rfl
@[simp] theorem gfTup_ap {u : GFs} {n : Nat} (h : ds.length = n) : gfTup n u (.tup ds) ρ = u ds ρ := by show (if ds.length = n then u ds ρ else none) = _; rw [if_pos h]
@[simp] theorem seqSrc_slot : seqSrc (.slot i) ρ = slotSrc i ρ[i]? ρ := rfl
@[simp] theorem slotSrc_own : slotSrc i (some (.own (.lst ds))) ρ = .ok (.lend i ds) ρ := rfl
@[simp] theorem slotSrc_rd : slotSrc i (some (.rd (.lst ds))) ρ = .ok (.items ds) ρ := rfl
theorem fMut_eq {fs : AF} : fMut m i fs ρ = gd (lstAt ρ i) ((fs ρ).bind (kMut i m)) := by
  unfold fMut gd
  cases lstAt ρ i <;> rfl
@[simp] theorem fMut_ap {fs : AF} : fMut m i fs ρ = gd (lstAt ρ i) ((fs ρ).bind (kMut i m)) := fMut_eq
@[simp] theorem kMut2_ap : kMut2 i m as ρ = mutAt i m as ρ := rfl
@[simp] theorem kSet3_ap {d : D} {r : Rv} : kSet3 i d r ρ = (mutAt i (setM d (res ρ r)) [] ρ).bind kDrop := rfl
@[simp] theorem kSet2_ap {g : EF} {d : D} : kSet2 i g d ρ = gd (lstAt ρ i) ((opd g ρ).bind (kSet3 i d)) := rfl
@[simp] theorem kSet_ap {g : EF} {r : Rv} : kSet i g r ρ = (frz r ρ).bind (kSet2 i g) := rfl
theorem fSetI_eq {f g : EF} : fSetI f i g ρ = (opd f ρ).bind (kSet i g) := by
  unfold fSetI
  congr 1
@[simp] theorem fSetI_ap {f g : EF} : fSetI f i g ρ = (opd f ρ).bind (kSet i g) := fSetI_eq
theorem set0 {d a b c e f : D} : setM d (some (.int 0)) [a, b, c, e, f] as = some ([d, b, c, e, f], .non) := rfl
theorem set1 {d a b c e f : D} : setM d (some (.int 1)) [a, b, c, e, f] as = some ([a, d, c, e, f], .non) := rfl
theorem set2 {d a b c e f : D} : setM d (some (.int 2)) [a, b, c, e, f] as = some ([a, b, d, e, f], .non) := rfl
theorem set3 {d a b c e f : D} : setM d (some (.int 3)) [a, b, c, e, f] as = some ([a, b, c, d, f], .non) := rfl
theorem set4 {d a b c e f : D} : setM d (some (.int 4)) [a, b, c, e, f] as = some ([a, b, c, e, d], .non) := rfl
@[simp] theorem fSetA_ap {f : EF} {nm : Str} : fSetA f i nm ρ = (opd f ρ).bind (kAtt i nm) := rfl
@[simp] theorem kAtt_ap {nm : Str} {r : Rv} : kAtt i nm r ρ = (frz r ρ).bind (kAtt2 i nm) := rfl
@[simp] theorem kAtt2_ap {nm : Str} : kAtt2 i nm x ρ = sa i ρ nm x ρ[i]? := by
  show setA i nm x ρ = _
  unfold setA
  generalize ρ[i]? = o
  rcases o with _ | sl
  · rfl
  · cases sl with
    | io c =>
      cases c with
      | lst _ => rfl
      | dic _ => rfl
      | ins k fs =>
        show (if fs.length < 900 then _ else _) = gd (decide (fs.length < 900)) _
        unfold gd
        by_cases h : fs.length < 900
        · rw [if_pos h, decide_eq_true h]; rfl
        · rw [if_neg h, decide_eq_false h]; rfl
    | _ => rfl
@[simp] theorem sa_ap {nm : Str} {k : Nat} {fs : List (Str × D)} : sa i ρ nm x (some (.io (.ins k fs))) = gd (decide (fs.length < 900)) (.ok .next (ρ.set i (.io (.ins k (putD nm x fs))))) := rfl
end
end Nz

set_option Elab.async false
set_option linter.all false
set_option maxRecDepth 100000
set_option maxHeartbeats 4000000
/-! NzP: a, b = x, y and a, b, c = x, y, z with plain local names. -/
namespace Nz
open PySem L2
section
variable {G : Gi} {Y : Xi} {W : WX} {B : Bs} {F H : Hp} {σ : L2.St} {ρ ρ' : Env}
theorem frzs_no_exc : ∀ {rs : List Rv} {ρ ρ' : Env} {x : Ex}, frzs rs ρ ≠ .exc x ρ' := by
  intro rs
  induction rs with
  | nil => intro ρ ρ' x h; cases h
  | cons r rs ih =>
    intro ρ ρ' x h
    unfold frzs at h
    cases q : frz r ρ with
    | exc y ρ1 => exact frz_no_exc q
    | stuck => rw [q] at h; cases h
    | ok d ρ1 =>
      rw [q] at h
      have h' : (frzs rs ρ1).bind (fun ds ρ2 => .ok (d :: ds) ρ2) = .exc x ρ' := h
      cases q2 : frzs rs ρ1 with
      | exc y ρ2 => exact ih q2
      | stuck => rw [q2] at h'; cases h'
      | ok ds ρ2 => rw [q2] at h'; cases h'
theorem frzs_postS {rs : List Rv} {us : List V} {k : List D → Env → Out Fl} {D' : Ends} (S : StOk G B F H σ ρ) (hf : rs.all flatR = true) (R : RvReps G B F H σ ρ us rs) (h : PostS G Y B W D' F ((frzs rs ρ).bind k))
    : ∃ ds ρ' F', frzs rs ρ = .ok ds ρ' ∧ Sub F F' ∧ StOk G B F' H σ ρ' ∧ Reps G F' us ds ∧ PostS G Y B W D' F' (k ds ρ') := by
  cases q : frzs rs ρ with
  | exc x ρ1 => exact (frzs_no_exc q).elim
  | stuck => rw [q] at h; exact False.elim h
  | ok ds ρ1 =>
    rw [q] at h
    obtain ⟨F1, e1, S1, r1⟩ := frzs_ok S hf R q
    exact ⟨ds, ρ1, F1, rfl, e1, S1, r1, PostS.mono (F := F) h e1⟩
/-- a, b = x, y -/
def parK (i j : Nat) (ds : List D) (ρ : Env) : Out Fl := match ds with
  | [a, b] => if noIo ρ i && noIo (ρ.set i (.d a)) j then .ok .next ((ρ.set i (.d a)).set j (.d b)) else .stuck
  | _ => .stuck
def fPar (i j : Nat) (g : AF) : SF := fun ρ => (g ρ).bind fun rs ρ1 => (frzs rs ρ1).bind (parK i j)
theorem t_par {i j : Nat} {g : AF} (hg : Flat g) {D' : Ends} (h : tS G Y W (fPar i j g) D' σ H) : tPar i j (tA G Y W g) D' σ H := by
  obtain ⟨B, F, ρ, S, p⟩ := h
  refine ⟨_, F, ρ, S, PostA.ofG (PostS.seqG p fun rs ρ1 F1 H1 hr e1 S1 p1 us R => ?_)⟩
  obtain ⟨ds, ρ2, F2, _, e2, S2, r2, p2⟩ := frzs_postS S1 (hg _ _ _ hr) R p1
  unfold parK at p2
  split at p2
  · split at p2
    · rename_i a b hio
      simp only [Bool.and_eq_true] at hio
      cases r2 with
      | cons ra r2 =>
        cases r2 with
        | cons rb r2 =>
          cases r2
          exact ⟨_, _, rfl, p2 _ F2 H1 Sub.rfl ((S2.setD (noIo_ne hio.1) ra).setD (noIo_ne hio.2) rb)⟩
    · exact False.elim p2
  · exact False.elim p2
/-- x += y of ints in a plain local name -/
def augK (i : Nat) (a : Int) (o : Option D) (ρ : Env) : Out Fl := match o with
  | some (.int b) => if noIo ρ i then .ok .next (ρ.set i (.d (.int (a + b)))) else .stuck
  | _ => .stuck
def fAug (i : Nat) (f : EF) : SF := fun ρ => match ρ[i]? with
  | some (.d (.int a)) => (opd f ρ).bind fun r ρ1 => augK i a (res ρ1 r) ρ1
  | _ => .stuck
theorem t_aug {i : Nat} {f : EF} {D' : Ends} (h : tS G Y W (fAug i f) D' σ H) : tAug i (tE G Y W f) (ipI fun a b => a + b) D' σ H := by
  obtain ⟨B, F, ρ, S, p⟩ := h
  unfold fAug at p
  split at p
  · rename_i a hq
    obtain ⟨v, g1, g2⟩ := S.dat i _ hq
    cases g2
    refine ⟨_, g1, tE_opd ⟨B, F, ρ, S, Post.ofG (PostS.seqG p fun r ρ1 F1 H1 _ e1 S1 p1 u R => ?_)⟩⟩
    cases hra : res ρ1 r with
    | none => rw [hra] at p1; exact False.elim p1
    | some d =>
      rw [hra] at p1
      unfold augK at p1
      split at p1
      · rename_i b e
        cases e
        have hu := opd_int (S1.opd R hra)
        subst hu
        split at p1
        · rename_i hio
          exact ⟨a, b, rfl, rfl, p1 _ F1 H1 Sub.rfl (S1.setD (noIo_ne hio) (.int _))⟩
        · exact False.elim p1
      · exact False.elim p1
  · exact False.elim p
/-- tuple(range(..)) -/
def tupRng1 (o : Option (List D)) : Option Pr := match o with
  | some [.int j] => if small j then some (.newT (upto 0 j.toNat)) else none
  | _ => none
def fTRng1 (fa : EF) : EF := fun ρ => (opd fa ρ).bind fun a ρ1 => ofP ρ1 (tupRng1 (ress ρ1 [a]))
theorem t_trng1 {fa : EF} {Q : VK} (h : tE G Y W (fTRng1 fa) σ H Q) : tTupRg (tRg1 (tE G Y W fa)) σ H Q := by
  obtain ⟨B, F, ρ, S, p⟩ := h
  refine tE_opd ⟨B, F, ρ, S, Post.seq p fun a ρ1 u F1 H1 ha e1 S1 R1 p1 => ?_⟩
  obtain ⟨pr, hpr, q⟩ := Post.ofP S1 p1
  cases hra : ress ρ1 [a] with
  | none => rw [hra] at hpr; cases hpr
  | some ds =>
    rw [hra] at hpr
    unfold tupRng1 at hpr
    split at hpr
    · rename_i j e
      cases e
      obtain ⟨u', e, hu⟩ := opds1 (S1.opds (.cons R1 .nil) hra)
      cases e
      obtain rfl := opd_int hu
      split at hpr
      · rename_i hs
        cases hpr
        obtain ⟨h1, h2⟩ := small_of hs
        have hs' := of_decide_eq_true hs
        refine ⟨j, rfl, ⟨by omega, by omega, h1, h2, by omega⟩, fun r hr => ?_⟩
        have := q.2 r _ hr (rgV_reps (G := G) (F := F1) 0 j |> fun z => by rw [Int.sub_zero] at z; exact z)
        exact this
      · cases hpr
    · cases hpr
end
section
variable {X : Cx} {G : Gi} {Y : Xi} {W : WX} {k : Nat} {fs : AF} {pos : Pos}
theorem js_par (i j : Nat) {x y : Str} {a b : Expr} {px py pt : Pos} {kt k2 pt2} (C : Ctx X G W k) (hf : Flat fs) (ha : JA X G Y W [a, b] fs) (hij : i ≠ j := by decide)
    (hi : X.N[i]? = some x := by rfl) (hj : X.N[j]? = some y := by rfl)
    (hx : X.env.scope.names.lookup x = some .local := by rfl) (hy : X.env.scope.names.lookup y = some .local := by rfl)
    (hw : swappedStores [.Tuple [.Name x px, .Name y py] kt pt] (.Tuple [a, b] k2 pt2) X.env = pure (some [x, y]) := by rfl)
    (hs : swapsWithSole [.Tuple [.Name x px, .Name y py] kt pt] (.Tuple [a, b] k2 pt2) pos.line X.env = pure false := by rfl) :
    JS X G Y W (.Assign [.Tuple [.Name x px, .Name y py] kt pt] (.Tuple [a, b] k2 pt2) pos) (fPar i j fs) :=
  PS.weak (ps_par C.calm C.nd hi hj hij hx hy ha hw hs) fun _ _ _ => t_par hf
theorem js_aug (i : Nat) {x : Str} {e : Expr} {fe : EF} {p : Pos} (C : Ctx X G W k) (he : JE X G Y W e fe) (hi : X.N[i]? = some x := by rfl) (hx : Loc X.env.scope x := by first | exact Or.inl rfl | exact Or.inr rfl) (hf : X.fn x = true ∨ X.env.scope.names.lookup x = some .local := by first | exact .inl rfl | exact .inr rfl) :
    JS X G Y W (.AugAssign (.Name x p) .Add e pos) (fAug i fe) :=
  PS.weak (ps_aug C.nd hi hx he ip_add hf) fun _ _ _ => t_aug
theorem je_trng1 {a : Expr} {fa : EF} {p p2 pos2 : Pos} (C : Ctx X G W k) (hl : X.mg "tuple" = none) (hr : X.mg "range" = none) (ha : JE X G Y W a fa) (hgl : Gl X "tuple" := by rfl) (hgr : Gl X "range" := by rfl) (na : starEach [a] X.env = (false, eval a X.env) :: starEach [] X.env := by rfl)
    (nb : starEach [.Call (.Name "range" p2) [a] [] pos2] X.env = (false, eval (.Call (.Name "range" p2) [a] [] pos2) X.env) :: starEach [] X.env := by rfl) : JE X G Y W (.Call (.Name "tuple" p) [.Call (.Name "range" p2) [a] [] pos2] [] pos) (fTRng1 fa) :=
  PE.weak (pe_tupRg C.calm hgl hl (prg_1 hgr hr ha na) nb) fun _ _ _ => t_trng1
end
end Nz

set_option Elab.async false
set_option linter.all false
set_option maxRecDepth 100000
set_option maxHeartbeats 4000000
/-! NzQ: x != y by an own __eq__. -/
namespace PySem.W
open PySem PySem.Calls PyProof.Rows Builtin
section
variable {prog : Program} {w : World} {A : Around} {E : Value → Shared → Prop} {s : Shared} {K : Frag} {x y C L f : Addr} {h₀ : Heap} {m : Str → Option Value} {ox oy : Obj} {od od' : Option Obj} {name : Str}
theorem ifBoundB_K {M : Model} {T id : String} {args : List Value} {Q : Option Value → Shared → Prop} (X : K.In s.heap) (I : InstAt s.heap x ox C od) (hs : findIn K (.ref C) name = some (some (.builtin id))) (S : Slot T name id)
    (h : wpAny M A (call (.builtin id) (.ref x :: args)) (fun v => Q (some v)) E s) : wpAny M A (callSpecialIfBound? (.ref x) name args) Q E s := by
  simp only [callSpecialIfBound?, bindSpecialIfBound?]
  refine wpAny_holding (wpAny_bind (wpAny_bind (wpAny_bind (I.type.here ((looks_findIn X hs).here ?_)))))
  simp only [S.bind]
  refine wpAny_bind (wpAny_askSetting (wpAny_ite ?_))
  have fin : wpAny M A (call (.builtin id) ([.ref x] ++ args) >>= fun v => pure (some v)) Q E s := wpAny_bind (wpAny_mono h (fun v s' h' => wpAny_pure h') fun _ _ h' => h')
  split
  · exact wpAny_bind (wpAny_pure (wpAny_pure fin))
  · exact wpAny_tryCatch (wpAny_bind (wpAny_pure (wpAny_pure fin)))
theorem objNe_K (hu : A.units < cLine) (X : K.In s.heap) (I : InstAt s.heap x ox C od) (he : findIn K (.ref C) "__eq__" = some (some (.ref f))) (hf : isFn K (.ref f) = true) {Q : Fin → Shared → Prop}
    (h : wpAny (model prog w) A (call (.ref f) [.ref x, .ref y]) (fun v s' => ∃ b, v = .bool b ∧ Q (.done (.ret (.bool (!b)))) s') E s) :
    wpAny (model prog w) A (Builtin.«object.__ne__» ⟨[.ref x, .ref y], []⟩) Q E s := by
  unfold Builtin.«object.__ne__»
  repeat (first
    | with_reducible refine wpAny_cRoomFor hu ?_
    | (refine wpAny_bind (m := callSpecialIfBound? (.ref x) (Str.ofString "__eq__") [.ref y])
        (ifBound_K X I he hf (wpAny_mono h (fun r s' hr => by
          obtain ⟨b, rfl, hq⟩ := hr
          repeat (first | exact hq | exact wpAny_pure hq | exact wpAny_truthy_bool hq | (refine wpAny_bind (m := truthy (.bool _)) (wpAny_truthy_bool ?_)) | wp_step)) fun _ _ e => e)))
    | wp_step)
theorem ne_K {Q : Value → Shared → Prop} (hu : A.units + 1 < cLine) (F : Fr h₀ L s.heap m) (X₀ : K.In h₀) (I : InstAt s.heap x ox C od) (I' : InstAt s.heap y oy C od') (mk : makesIn K C = true)
    (hn : findIn K (.ref C) "__ne__" = some (some (.builtin "object.__ne__"))) (he : findIn K (.ref C) "__eq__" = some (some (.ref f))) (hf : isFn K (.ref f) = true)
    (h : wpAny (model prog w) A.in1 (call (.ref f) [.ref x, .ref y]) (fun v s' => ∃ b, v = .bool b ∧ Q (.bool (!b)) s') E s) : wpAny (model prog w) A (richCompare .NotEq (.ref x) (.ref y)) Q E s := by
  have X := X₀.keeps F.keep
  have one : wpAny (model prog w) A (tryCompare (.ref x) "__ne__" (.ref y)) (fun r s' => ∃ v, r = some v ∧ Q v s') E s := by
    unfold tryCompare
    have isI : Looks (model prog w) s.heap (isInstance (.ref x) (.type "object")) true := I.type.andThen (makes_of X mk).top
    refine wpAny_bind (ifBoundB_K X I hn PySem.F.cmp_object.ne (wpAny_call (codeAny_call_builtin PySem.F.cmp_object.ne.plain PySem.F.cmpEntry_ne
      (check_slot PySem.F.cmpKind_ne PySem.F.cmpSplit_ne isI (PySem.F.cmpArgs_ne _ _) (objNe_K (A := A.in1) hu X I he hf (wpAny_mono h (fun v s' hv => ?_) fun _ _ e => e))))))
    obtain ⟨b, rfl, hq⟩ := hv
    first | exact ⟨b, rfl, wpAny_pure ⟨_, rfl, hq⟩⟩ | exact ⟨b, rfl, wpAny_pure (wpAny_pure ⟨_, rfl, hq⟩)⟩
  unfold richCompare
  simp only [oneThing_ref]
  refine wpAny_holding (wpAny_bind (wpAny_cRoomFor (Nat.lt_of_succ_lt hu) ?_))
  rw [cmpInfo_NotEq]
  dsimp only
  refine wpAny_bind (I.type.here (wpAny_bind (I'.type.here ?_)))
  rw [show (Value.ref C != Value.ref C) = false from by simp]
  simp only [Bool.false_eq_true, if_false]
  refine wpAny_bind (wpAny_pure ?_)
  simp only [Bool.false_eq_true, if_false]
  refine wpAny_bind (wpAny_mono one (fun r s' z => ?_) fun _ _ e => e)
  obtain ⟨v, rfl, hq⟩ := z
  exact wpAny_pure hq
end
end PySem.W
namespace Nz
open PySem L2
/-- a class of the module with its own __eq__ and no __ne__ -/
structure EqOk (P : Program) (w : World) (mg : Str → Option Value) (base : Heap) (G : Gi) (Y : Xi) (k c : Nat) (Φ : Fn) : Prop where
  ex : ∃ f fd ps, PySem.W.makesIn G.K (G.cls c) = true ∧ PySem.W.findIn G.K (.ref (G.cls c)) "__ne__" = some (some (.builtin "object.__ne__")) ∧ PySem.W.findIn G.K (.ref (G.cls c)) "__eq__" = some (some (.ref f)) ∧
    PySem.W.isFn G.K (.ref f) = true ∧ Binds G.K fd ps [] ∧ ps.length = 2 ∧ FnOk P w G.K mg base (L2.CX P w) k f fd ps (spF G Y 2 Φ)
section
variable {G : Gi} {Y : Xi} {W : WX} {B : Bs} {F H : Hp} {σ : L2.St} {ρ ρ' : Env}
def neR (Φ : Fn) (x y : D) (ρ : Env) : Out Rv := match Φ [.d x, .d y] with
  | .ret (.d (.bl r)) [none, none] => .ok (.d (.bl !r)) ρ
  | _ => .stuck
def neK (c : Nat) (Φ : Fn) (a b : Rv) (ρ : Env) : Out Rv := match a, b with
  | .d (.obj c1 fs), .d (.obj c2 gs) => if c1 = c ∧ c2 = c then neR Φ (.obj c1 fs) (.obj c2 gs) ρ else .stuck
  | _, _ => .stuck
def neA (c : Nat) (Φ : Fn) (g : EF) (a : Rv) (ρ : Env) : Out Rv := (opd g ρ).bind (neK c Φ a)
/-- a != b, two objects of the class c whose own == is Φ -/
def fNeO (c : Nat) (Φ : Fn) (fa fb : EF) : EF := fun ρ => (opd fa ρ).bind (neA c Φ fb)
def rNeO (G : Gi) (Y : Xi) (c : Nat) (Φ : Fn) : R2 := fun x y H Q => ∃ a b dx dy fs gs, x = .ref a ∧ y = .ref b ∧ H a = some (.ins (G.cls c) dx fs) ∧ H b = some (.ins (G.cls c) dy gs) ∧
  spF G Y 2 Φ [x, y] H (fun v H' => ∃ r, v = .bl r ∧ Q (.bl !r) H') (fun _ _ _ => False)
theorem t_neO {c : Nat} {Φ : Fn} {fa fb : EF} {Q : VK} (h : tE G Y W (fNeO c Φ fa fb) σ H Q) : tOp (rNeO G Y c Φ) (tE G Y W fa) (tE G Y W fb) σ H Q := by
  obtain ⟨B, F, ρ, S, p⟩ := h
  refine tE_opd ⟨_, F, ρ, S, Post.seq p fun a ρ1 u F1 H1 ha e1 S1 R1 p1 => ?_⟩
  refine tE_opd ⟨_, F1, ρ1, S1, Post.seq p1 fun b ρ2 v F2 H2 hb e2 S2 R2 p2 => ?_⟩
  have R1' : RvRep G B F2 H2 σ ρ2 u a := flat_stays (opd_flat ha) e2 R1
  unfold neK at p2
  split at p2
  · rename_i a' b' c1 fs c2 gs
    split at p2
    · rename_i hc
      obtain ⟨rfl, rfl⟩ := hc
      unfold neR at p2
      split at p2
      · rename_i r hΦ
        have k1 : Rep G F2 u (.obj c2 fs) := R1'
        have k2 : Rep G F2 v (.obj c2 gs) := R2
        have RR : RvReps G B F2 H2 σ ρ2 [u, v] [.d (.obj c2 fs), .d (.obj c2 gs)] := .cons k1 (.cons k2 .nil)
        have hm : mkArgs [false, false] [Rv.d (.obj c2 fs), Rv.d (.obj c2 gs)] ρ2 = some [.d (.obj c2 fs), .d (.obj c2 gs)] := rfl
        have ho : lentOnce [Rv.d (.obj c2 fs), Rv.d (.obj c2 gs)] [.d (.obj c2 fs), .d (.obj c2 gs)] = true := by rfl
        have S3 := call_start S2 RR hm ho
        have sp : spF G Y 2 Φ [u, v] H2 (fun z H' => ∃ r, z = .bl r ∧ Q (.bl !r) H') (fun _ _ _ => False) := by
          refine ⟨rfl, F2, [.d (.obj c2 fs), .d (.obj c2 gs)], rfl, S3, ?_⟩
          rw [hΦ]
          intro z F' H' E R'
          have R2' : Rep G F' z (.bl r) := R'
          have hb := call_back S2 RR hm ho E
          have eu : upds [Rv.d (.obj c2 fs), Rv.d (.obj c2 gs)] [.d (.obj c2 fs), .d (.obj c2 gs)] [none, none] ρ2 = ρ2 := rfl
          rw [eu] at hb
          cases R2'
          exact ⟨r, rfl, p2 (.bl !r) F' H' E.ex hb (.bl _)⟩
        cases k1 with
        | obj g1 _ _ =>
          cases k2 with
          | obj g2 _ _ => exact ⟨_, _, _, _, _, _, rfl, rfl, S2.fh _ _ g1, S2.fh _ _ g2, sp⟩
      · exact False.elim p2
    · exact False.elim p2
  · exact False.elim p2
end
section
variable {X : Cx} {G : Gi} {Y : Xi} {W : WX} {k : Nat} {a b : Expr} {fa fb : EF} {pos : Pos}
theorem op_neO {c : Nat} {Φ : Fn} (C : Ctx X G W (k + 1)) (Dk : EqOk X.prog X.w X.mg X.base G Y k c Φ) : OpR X (compareOp .NotEq) (rNeO G Y c Φ) := by
  intro pins s σ H x y v u Q I rx ry h
  obtain ⟨a, b, dx, dy, fs, gs, rfl, rfl, ha, hb, hsp⟩ := h
  cases rx
  cases ry
  obtain ⟨f, fd, ps, hmk, hn, he, hf, hbd, hps, FF⟩ := Dk.ex
  rw [← C.hK] at hmk hn he hf hbd FF
  obtain ⟨mA, J, _⟩ := ins_get I.hok ha
  obtain ⟨mB, J', _⟩ := ins_get I.hok hb
  obtain ⟨od, J, _⟩ := J.look
  obtain ⟨od', J', _⟩ := J'.look
  obtain ⟨m, hF⟩ := I.fr
  show wpAny (model X.prog X.w) X.A (richCompare .NotEq (.ref a) (.ref b)) (EP X pins σ Q) X.xe s
  refine PySem.W.ne_K (by have := C.room.units; omega) hF I.ok.mod.kin J J' hmk hn he hf ?_
  have hl := FF.len _ _ _ _ hsp
  have r2 : Vals [V.ref a, V.ref b] [Value.ref a, Value.ref b] := .cons rfl (.cons rfl .nil)
  refine wpAny_call (codeAny_mono (FF.run X.A.in1 X.stack s H ⟨[.ref a, .ref b], []⟩ [.ref a, .ref b] [.ref a, .ref b] _ (fun _ _ _ => False) C.room.in1 I.env0.in1 (by
    have := hbd s [.ref a, .ref b] I.kIn (by simpa using hl)
    simpa using this) r2 hsp) fun r s' hq => ?_)
  cases r with
  | error e => exact passes_call C.tk (fun _ _ _ _ z => False.elim z) pins σ H s e s' I hq
  | ok fl =>
    cases fl with
    | ret w =>
      obtain ⟨z, H', I', rz, t, ez, q⟩ := I.after hq
      subst ez
      cases rz
      exact ⟨t, rfl, .bl !t, H', I', rfl, q⟩
    | next => exact False.elim hq
    | brk => exact False.elim hq
    | cont => exact False.elim hq
theorem je_neO {c : Nat} {Φ : Fn} (C : Ctx X G W (k + 1)) (Dk : EqOk X.prog X.w X.mg X.base G Y k c Φ) (ha : JE X G Y W a fa) (hb : JE X G Y W b fb) (hm : behindInMarks .NotEq b = false := by first | exact nomark _ | rfl) : JE X G Y W (.Compare a [.NotEq] [b] pos) (fNeO c Φ fa fb) :=
  PE.weak (pe_cmpR (op_neO C Dk) ha hb hm) fun _ _ _ => t_neO
theorem jt_neO {c : Nat} {Φ : Fn} (C : Ctx X G W (k + 1)) (Dk : EqOk X.prog X.w X.mg X.base G Y k c Φ) (ha : JE X G Y W a fa) (hb : JE X G Y W b fb) (hm : behindInMarks .NotEq b = false := by first | exact nomark _ | rfl) : JT X G Y W (.Compare a [.NotEq] [b] pos) (fT (fNeO c Φ fa fb)) :=
  PT.weak (pt_cmpR (op_neO C Dk) ha hb hm) fun _ _ _ h => t_neO (tT_tE h)
end
end Nz

set_option Elab.async false
set_option linter.all false
set_option maxRecDepth 100000
set_option maxHeartbeats 4000000
/-! NzR: t[::-1] of tuples, list of a text, own == and != with anything. -/
namespace HT
open PySem PyProof.Rows
theorem rev_places (n : Nat) : Builtin.Slice.slicePlaces ((n : Int) - 1) (-1) (-1) = n := by
  unfold Builtin.Slice.slicePlaces
  have h1 : ¬ ((-1 : Int) > 0) := by decide
  simp only [h1, if_false]
  by_cases h : (n : Int) - 1 > -1
  · rw [if_pos h]
    have e : ((n : Int) - 1 - -1 - 1) / (- -1) + 1 = (n : Int) := by
      rw [show (- -1 : Int) = 1 by decide, Int.ediv_one]
      omega
    rw [e, Int.toNat_natCast]
  · rw [if_neg h]
    have : n = 0 := by omega
    subst this
    rfl
theorem rev_range (n : Nat) : (List.range n).map (fun k => n - 1 - k) = (List.range n).reverse := by
  apply List.ext_getElem
  · simp
  · intro i h1 h2
    rw [List.getElem_map, List.getElem_reverse]
    simp
theorem fm_congr {α β : Type} {f g : α → Option β} : ∀ l : List α, (∀ a ∈ l, f a = g a) → l.filterMap f = l.filterMap g
  | [], _ => rfl
  | a :: l, h => by rw [List.filterMap_cons, List.filterMap_cons, h a (by simp), fm_congr l fun b hb => h b (by simp [hb])]
theorem rev_pick (xs : Array Value) : ((List.range xs.size).filterMap fun (m : Nat) => xs[(((xs.size : Int) - 1) + (m : Int) * (-1)).toNat]?).toArray = xs.toList.reverse.toArray := by
  congr 1
  have e1 : (List.range xs.size).filterMap (fun (m : Nat) => xs[(((xs.size : Int) - 1) + (m : Int) * (-1)).toNat]?) = ((List.range xs.size).map fun k => xs.size - 1 - k).filterMap fun k => xs[k]? := by
    rw [List.filterMap_map]
    exact fm_congr _ fun m hm => by
      have := List.mem_range.mp hm
      show _ = xs[xs.size - 1 - m]?
      congr 1
      omega
  have h := pick_gen xs 0 xs.size
  have e2 : (fun (m : Nat) => xs[(((0 : Nat) : Int) + (m : Int) * 1).toNat]?) = fun k => xs[k]? := by
    funext m
    congr 1
    try omega
  rw [e2, List.drop_zero, List.take_of_length_le (by rw [Array.length_toList]; exact Nat.le_refl _)] at h
  have h2 : (List.range xs.size).filterMap (fun k => xs[k]?) = xs.toList := by
    have := congrArg Array.toList h
    simpa using this
  rw [e1, rev_range, List.filterMap_reverse, h2]
section
variable {prog : Program} {w : World} {A : Around} {E : Value → Shared → Prop} {s : Shared}
theorem sliceApplied_rev {sl : Addr} {vk : Value} {n : Nat} {Q : Int × Int × Nat → Shared → Prop} (hs : s.heap.IsSliceOf sl .none .none vk) (pk : IsPart vk (some (-1)))
    (h : Q ((n : Int) - 1, -1, n) s) : wpAny (model prog w) A (Builtin.Slice.sliceApplied (.ref sl) (pure (n : Int))) Q E s := by
  obtain ⟨os, hos, hcs, hds⟩ := id hs
  unfold Builtin.Slice.sliceApplied Builtin.Slice.sliceFields
  refine wpAny_bind (wpAny_bind (wpAny_field hos hds (x := .none) rfl (wpAny_bind (wpAny_field hos hds (x := .none) rfl (wpAny_bind (wpAny_field hos hds (x := vk) rfl (wpAny_pure ?_)))))))
  refine wpAny_bind (slicePart_ pk ?_)
  show wpAny _ _ (if ((-1 : Int) == 0) = true then _ else _) _ _ s
  rw [if_neg (by decide)]
  refine wpAny_bind (slicePart_none (wpAny_bind (slicePart_none (wpAny_bind (wpAny_pure ?_)))))
  show wpAny _ _ (pure ((n : Int) - 1, (-1 : Int), Builtin.Slice.slicePlaces ((n : Int) - 1) (-1) (-1))) _ _ s
  rw [rev_places]
  exact wpAny_pure h
theorem getItem_tuple_rev {t sl : Addr} {items : Array Value} {vk : Value} {Q : Value → Shared → Prop} (ht : IsTup s.heap t items) (hs : s.heap.IsSliceOf sl .none .none vk) (pk : IsPart vk (some (-1)))
    (h : Q (.ref s.heap.objs.size) { s with heap := s.heap.push { cls := .type "tuple", data := .seq items.toList.reverse.toArray } })
    (hsz : items.size ≤ sizeLine) : wpAny (model prog w) A (getItem (.ref t) (.ref sl)) Q E s := by
  have htake : sizeOk (.seq items.toList.reverse.toArray) := by
    show items.toList.reverse.toArray.size ≤ sizeLine
    rw [List.size_toArray, List.length_reverse, Array.length_toList]
    exact hsz
  obtain ⟨os, hos, hcs, hds⟩ := id hs
  have hTs : s.TypeIs (.ref sl) "slice" := ⟨os, hos, hcs⟩
  unfold getItem
  try with_reducible refine wpAny_holding ?_
  first | refine wpAny_bind (wpAny_pure ?_) | skip
  refine wpAny_bind (wpAny_sequenceKey ht.typeIs (by decide) ?_)
  refine wpAny_bind (wpAny_callSpecial?_slot (name := Str.ofString "__getitem__") ht.typeIs PyProof.Rows.slot_tuple_getitem
    (wpAny_call_entry PyProof.Rows.slot_tuple_getitem ht.typeIs entry_tuple_getitem ?_ (args_tuple_getitem _ _)))
  show wpAny _ _ (Builtin.Tuple.tupleItemsOf (.ref t) >>= _) _ _ s
  refine wpAny_bind (tupleItemsOf_ ht ?_)
  refine wpAny_bind (wpAny_typeOf hTs ?_)
  rw [if_pos (by decide)]
  refine wpAny_bind (sliceApplied_rev hs pk ?_)
  have hno : ¬ ((((items.size : Int) - 1) == 0 && (-1 : Int) == 1 && items.size == items.size) = true) := by
    intro q
    rw [Bool.and_eq_true, Bool.and_eq_true] at q
    exact absurd q.1.2 (by decide)
  show wpAny _ _ (if (((items.size : Int) - 1) == 0 && (-1 : Int) == 1 && items.size == items.size) = true then _ else _) _ _ s
  rw [if_neg hno, rev_pick]
  first
    | exact wpAny_bind (m := Builtin.Tuple.tupleExact _) (wpAny_newObj_type (wpAny_pure ⟨_, rfl, wpAny_pure h⟩) htake)
    | exact wpAny_bind (m := Builtin.Tuple.tupleExact _) (wpAny_newObj_type (wpAny_bind (wpAny_pure (wpAny_pure ⟨_, rfl, wpAny_pure h⟩))) htake)
    | exact wpAny_bind (wpAny_bind (m := Builtin.Tuple.tupleExact _) (wpAny_newObj_type (wpAny_pure (wpAny_pure ⟨_, rfl, wpAny_pure h⟩)) htake))
    | exact wpAny_bind (wpAny_bind (m := Builtin.Tuple.tupleExact _) (wpAny_newObj_type (wpAny_pure ⟨_, rfl, wpAny_pure h⟩) htake))
end
end HT
namespace L2
open PySem PySem.Spec PyProof.Rows
def tRev (K : PySem.W.Frag) (te : TE) (ts : TO) : TE := fun σ H Q => te σ H fun x H1 => ts σ H1 fun o H2 => o = some (-1) ∧ ∃ a xs, x = .ref a ∧ SqT K H2 a xs ∧ ∀ p, H2 p = none → Q (.ref p) (upd H2 p (.tup xs.reverse))
theorem Vals.rev {xs : List V} {us : List Value} (r : Vals xs us) : Vals xs.reverse us.reverse := by
  induction r with
  | nil => exact .nil
  | cons h _ ih => rw [List.reverse_cons, List.reverse_cons]; exact ih.append (.cons h .nil)
section
variable {X : Cx} {e st : Expr} {te : TE} {ts : TO} {pos p2 : Pos}
theorem pe_rev (he : PE X e te) (hs : PO X (some st) ts) : PE X (.Subscript e (.Slice none none (some st) p2) pos) (tRev X.K te ts) := by
  refine ⟨fun pins s σ H Q I h => ?_⟩
  refine Subscript_ (thn (he.run pins s σ H _ I h) fun v s1 ⟨x, H1, I1, r1, q1⟩ => ?_)
  refine wpAny_Slice ?_
  rw [evalPart_none]
  refine wpAny_pure (wpAny_pure ?_)
  refine thn (hs.run pins s1 σ H1 _ I1 q1) fun vk s3 ⟨o, H3, I3, pk, q3⟩ => ?_
  obtain ⟨rfl, a, xs, rfl, hx, q⟩ := q3
  cases r1
  have I4 : Inv X pins σ H3 { s3 with heap := s3.heap.push { cls := .type "slice", data := .fields #[.none, .none, vk] } } := I3.kept (t' := s3.toks) fun b ob q => Heap.get?_push_of_some _ q
  obtain ⟨its, r, ht, hz⟩ := I4.tuple hx
  have hg : wpAny (model X.prog X.w) X.A (getItem (.ref a) (.ref s3.heap.objs.size)) (EP X pins σ Q) X.xe { s3 with heap := s3.heap.push { cls := .type "slice", data := .fields #[.none, .none, vk] } } := by
    refine HT.getItem_tuple_rev ht (Heap.IsSliceOf.new ..) pk ?_ (by rw [List.size_toArray, ← r.length]; exact hz)
    refine ⟨.ref _, _, I4.laid (t' := s3.toks) (o := .tup xs.reverse) (fun b ob q => Heap.get?_push_of_some _ q) (Nat.le_refl _) ?_, rfl, q _ (I4.hok.fresh (Nat.le_refl _))⟩
    exact ⟨by rw [List.length_reverse]; exact hz, _, r.rev, IsTup.new _ _⟩
  show wpAny (model X.prog X.w) X.A (subscriptTail e (.Slice none none (some st) p2) (.ref a) (.ref s3.heap.objs.size)) (EP X pins σ Q) X.xe { s3 with heap := s3.heap.push { cls := .type "slice", data := .fields #[.none, .none, vk] } }
  exact tail_any (ops := [.ref a, .ref s3.heap.objs.size]) ht.typeIs PyProof.Rows.slot_tuple_getitem.lookup hg (by with_unfolding_all rfl)
end
end L2
namespace Nz
open PySem L2
section
variable {G : Gi} {Y : Xi} {W : WX} {B : Bs} {F H : Hp} {σ : L2.St} {ρ ρ' : Env}
def gRev (a : D) (o : Option Int) : Option Pr := match a, o with
  | .tup ds, some i => if i = -1 then some (.newT ds.reverse) else none
  | _, _ => none
def fRev (fa : EF) (hi : OF) : EF := fun ρ => (opd fa ρ).bind fun a ρ1 => (hi ρ1).bind fun u ρ2 => ofP ρ2 ((res ρ2 a).bind fun x => gRev x u)
theorem Reps.rev {F : Hp} {xs : List V} {ds : List D} (h : Reps G F xs ds) : Reps G F xs.reverse ds.reverse := by
  have app : ∀ {xs : List V} {ds : List D} {ys : List V} {es : List D}, Reps G F xs ds → Reps G F ys es → Reps G F (xs ++ ys) (ds ++ es) := by
    intro xs
    induction xs with
    | nil => intro ds ys es h h2; cases h; exact h2
    | cons x xs ih =>
      intro ds ys es h h2
      cases h with
      | cons r t => exact .cons r (ih t h2)
  induction xs generalizing ds with
  | nil => cases h; exact .nil
  | cons x xs ih =>
    cases h with
    | cons r t =>
      rw [List.reverse_cons, List.reverse_cons]
      exact app (ih t) (.cons r .nil)
theorem t_rev {fa : EF} {hi : OF} {Q : VK} (h : tE G Y W (fRev fa hi) σ H Q) : tRev G.K (tE G Y W fa) (tO G Y W hi) σ H Q := by
  obtain ⟨B, F, ρ, S, p⟩ := h
  refine tE_opd ⟨_, F, ρ, S, Post.ofG (PostG.seq p.g fun a ρ1 F1 H1 ha e1 S1 p1 u R => ?_)⟩
  refine ⟨_, F1, ρ1, S1, PostG.seq p1 fun l ρ2 F2 H2 _ e2 S2 p2 => ?_⟩
  obtain ⟨pr, hpr, q⟩ := Post.ofP S2 (Post.ofG p2)
  have R' : RvRep G B F2 H2 σ ρ2 u a := flat_stays (opd_flat ha) e2 R
  cases hra : res ρ2 a with
  | none => rw [hra] at hpr; cases hpr
  | some x =>
    rw [hra] at hpr
    have hpr' : gRev x l = some pr := hpr
    unfold gRev at hpr'
    split at hpr'
    · rename_i ds i
      split at hpr'
      · rename_i hi'
        cases hpr'
        obtain ⟨b, xs, rfl, h1, h2⟩ := opd_tup S2.fh (S2.opd R' hra)
        exact ⟨by rw [hi'], b, xs, rfl, h1, fun p hp => q.2 p _ hp h2.rev⟩
      · cases hpr'
    · cases hpr'
end
section
variable {X : Cx} {G : Gi} {Y : Xi} {W : WX} {k : Nat} {e st : Expr} {fa : EF} {fs : OF} {pos p2 : Pos}
theorem je_rev (C : Ctx X G W k) (h : JE X G Y W e fa) (hs : JO X G Y W (some st) fs) : JE X G Y W (.Subscript e (.Slice none none (some st) p2) pos) (fRev fa fs) :=
  PE.weak (pe_rev h hs) fun σ H Q q => by rw [C.hK]; exact t_rev q
end
end Nz

/-! ### list of a text -/
namespace L2
open PySem PySem.Spec PyProof.Rows
def rListS : List V → Hp → VK → Prop := fun xs H Q => ∃ z : Str, xs = [.str z] ∧ z.cps.size ≤ sizeLine ∧ ∀ l, H l = none → Q (.ref l) (upd H l (.lst (z.cps.toList.map fun c => V.str ⟨#[c]⟩)))
theorem vals_signs {z : Str} {acc : Array Value} (h : ItemsOf (SignAt z) acc z.cps.size) : Vals (z.cps.toList.map fun c => V.str ⟨#[c]⟩) acc.toList := by
  obtain ⟨h1, h2⟩ := h
  have go : ∀ (cs : List Nat) (us : List Value), cs.length = us.length → (∀ (j : Nat) (u : Value), us[j]? = some u → ∃ c t, cs[j]? = some c ∧ u = Value.str ⟨#[c]⟩ t) → Vals (cs.map fun c => V.str ⟨#[c]⟩) us := by
    intro cs
    induction cs with
    | nil =>
      intro us hl _
      cases us with
      | nil => exact .nil
      | cons u us => cases hl
    | cons c cs ih =>
      intro us hl h
      cases us with
      | nil => cases hl
      | cons u us =>
        obtain ⟨c', t, e1, e2⟩ := h 0 u rfl
        cases e1
        exact .cons ⟨t, e2⟩ (ih us (by simpa using hl) fun j u hj => h (j + 1) u hj)
  refine go _ _ (by rw [Array.length_toList, Array.length_toList, h1]) fun j u hj => ?_
  rw [Array.getElem?_toList] at hj
  obtain ⟨c, t, e1, e2⟩ := h2 j u hj
  exact ⟨c, t, by rw [Array.getElem?_toList]; exact e1, e2⟩
theorem call_listS {X : Cx} (hc : X.calm = true) : CallR X (.type "list") rListS := by
  intro pins s σ H xs us Q I r h
  obtain ⟨z, rfl, hz, q⟩ := h
  obtain ⟨u, rfl, rx⟩ := vals1 r
  obtain ⟨t, rfl⟩ := rx
  refine call_list_str (I.ok.hd hc) z t (fun h' tk acc' c' kp e hi => ?_) hz
  exact ⟨.ref s.heap.objs.size, _, I.laid (t' := tk) kp (Nat.le_refl _) (show ObjOk X.prog X.w _ h' _ (.lst (z.cps.toList.map fun c => V.str ⟨#[c]⟩)) from ⟨by rw [List.length_map, Array.length_toList]; exact hz, acc'.toList, c', vals_signs hi, e⟩), rfl, q _ (I.hok.fresh (Nat.le_refl _))⟩
end L2
namespace Nz
open PySem L2
section
variable {G : Gi} {Y : Xi} {W : WX} {B : Bs} {F H : Hp} {σ : L2.St} {ρ ρ' : Env}
def gListS (as : List D) : Option Pr := match as with
  | [.str z] => if z.cps.size ≤ 100000 then some (.newL (signs z)) else none
  | as => gList as
theorem reps_signs (z : Str) : Reps G F (z.cps.toList.map fun c => V.str ⟨#[c]⟩) (signs z) := by
  unfold signs
  induction z.cps.toList with
  | nil => exact .nil
  | cons c cs ih => exact .cons (.str _) ih
theorem s_listS : CaS G (fun xs H Q => (∃ p ys, xs = [.ref p] ∧ (SqL G.K H p ys ∨ SqT G.K H p ys) ∧ ∀ l, H l = none → Q (.ref l) (upd H l (.lst ys))) ∨ rListS xs H Q) gListS := by
  intro F H xs as pr hF hx hg Q hq
  unfold gListS at hg
  split at hg
  · split at hg
    · rename_i hz
      cases hg
      obtain ⟨u, rfl, hu⟩ := opds1 hx
      obtain rfl := opd_str hu
      exact .inr ⟨_, rfl, Nat.le_trans hz (by decide), fun l hl => hq l _ hl (reps_signs _)⟩
    · cases hg
  · exact .inl (s_list F H xs _ pr hF hx hg Q hq)
end
theorem o_listS {X : Cx} (hc : X.calm = true) : CallR X (.type "list") (fun xs H Q => (∃ p ys, xs = [.ref p] ∧ (SqL X.K H p ys ∨ SqT X.K H p ys) ∧ ∀ l, H l = none → Q (.ref l) (upd H l (.lst ys))) ∨ rListS xs H Q) := call_list_of.or (call_listS hc)
end Nz
/-! ### own == and != with anything -/
namespace PySem.W
open PySem PySem.Calls PyProof.Rows Builtin
section
variable {prog : Program} {w : World} {A : Around} {E : Value → Shared → Prop} {s : Shared} {K : Frag} {x C L f : Addr} {h₀ : Heap} {m : Str → Option Value} {ox : Obj} {od : Option Obj} {b tb : Value}
theorem objNeV_K (hu : A.units < cLine) (X : K.In s.heap) (I : InstAt s.heap x ox C od) (he : findIn K (.ref C) "__eq__" = some (some (.ref f))) (hf : isFn K (.ref f) = true) {Q : Fin → Shared → Prop}
    (h : wpAny (model prog w) A (call (.ref f) [.ref x, b]) (fun v s' => ∃ r, v = .bool r ∧ Q (.done (.ret (.bool (!r)))) s') E s) :
    wpAny (model prog w) A (Builtin.«object.__ne__» ⟨[.ref x, b], []⟩) Q E s := by
  unfold Builtin.«object.__ne__»
  repeat (first
    | with_reducible refine wpAny_cRoomFor hu ?_
    | (refine wpAny_bind (m := callSpecialIfBound? (.ref x) (Str.ofString "__eq__") [b])
        (ifBound_K X I he hf (wpAny_mono h (fun r s' hr => by
          obtain ⟨t, rfl, hq⟩ := hr
          repeat (first | exact hq | exact wpAny_pure hq | exact wpAny_truthy_bool hq | (refine wpAny_bind (m := truthy (.bool _)) (wpAny_truthy_bool ?_)) | wp_step)) fun _ _ e => e)))
    | wp_step)
theorem neV_K {Q : Value → Shared → Prop} (hu : A.units + 1 < cLine) (F : Fr h₀ L s.heap m) (X₀ : K.In h₀) (I : InstAt s.heap x ox C od) (hb : Looks (model prog w) s.heap (typeOf b) tb) (hnf : notFirst K C tb = true) (mk : makesIn K C = true)
    (hn : findIn K (.ref C) "__ne__" = some (some (.builtin "object.__ne__"))) (he : findIn K (.ref C) "__eq__" = some (some (.ref f))) (hf : isFn K (.ref f) = true)
    (h : wpAny (model prog w) A.in1 (call (.ref f) [.ref x, b]) (fun v s' => ∃ r, v = .bool r ∧ Q (.bool (!r)) s') E s) : wpAny (model prog w) A (richCompare .NotEq (.ref x) b) Q E s := by
  have X := X₀.keeps F.keep
  have one : wpAny (model prog w) A (tryCompare (.ref x) "__ne__" b) (fun r s' => ∃ v, r = some v ∧ Q v s') E s := by
    unfold tryCompare
    have isI : Looks (model prog w) s.heap (isInstance (.ref x) (.type "object")) true := I.type.andThen (makes_of X mk).top
    refine wpAny_bind (ifBoundB_K X I hn PySem.F.cmp_object.ne (wpAny_call (codeAny_call_builtin PySem.F.cmp_object.ne.plain PySem.F.cmpEntry_ne
      (check_slot PySem.F.cmpKind_ne PySem.F.cmpSplit_ne isI (PySem.F.cmpArgs_ne _ _) (objNeV_K (A := A.in1) hu X I he hf (wpAny_mono h (fun v s' hv => ?_) fun _ _ e => e))))))
    obtain ⟨r, rfl, hq⟩ := hv
    first | exact ⟨r, rfl, wpAny_pure ⟨_, rfl, hq⟩⟩ | exact ⟨r, rfl, wpAny_pure (wpAny_pure ⟨_, rfl, hq⟩)⟩
  unfold richCompare
  simp only [oneThing_ref]
  refine wpAny_holding (wpAny_bind (wpAny_cRoomFor (Nat.lt_of_succ_lt hu) ?_))
  rw [cmpInfo_NotEq]
  dsimp only
  refine wpAny_bind (I.type.here (wpAny_bind (hb.here ?_)))
  split
  · rename_i q
    have e : subIn K tb (.ref C) = some false := by
      rcases Bool.or_eq_true_iff.mp hnf with e | e
      · rw [beq_iff_eq.mp e] at q; simp at q
      · exact beq_iff_eq.mp e
    refine wpAny_bind ((looks_subIn X e).here ?_)
    simp only [Bool.false_eq_true, if_false]
    refine wpAny_bind (wpAny_mono one (fun r s' z => ?_) fun _ _ e => e)
    obtain ⟨v, rfl, hq⟩ := z
    exact wpAny_pure hq
  · refine wpAny_bind (wpAny_pure ?_)
    simp only [Bool.false_eq_true, if_false]
    refine wpAny_bind (wpAny_mono one (fun r s' z => ?_) fun _ _ e => e)
    obtain ⟨v, rfl, hq⟩ := z
    exact wpAny_pure hq
end
end PySem.W

namespace Nz
open PySem L2
section
variable {G : Gi} {Y : Xi} {W : WX} {B : Bs} {F H : Hp} {σ : L2.St} {ρ ρ' : Env}
def eqR (neg : Bool) (Φ : Fn) (x y : D) (ρ : Env) : Out Rv := match Φ [.d x, .d y] with
  | .ret (.d (.bl r)) [none, none] => .ok (.d (.bl (if neg then !r else r))) ρ
  | _ => .stuck
def plainK (y : D) : Bool := match y.kd with
  | some (.inl T) => T != "dict"
  | _ => false
def eqK (neg : Bool) (c : Nat) (Φ : Fn) (a b : Rv) (ρ : Env) : Out Rv := match a, b with
  | .d (.obj c1 fs), .d y => if c1 = c then (match y with
    | .obj c2 gs => if c2 = c then eqR neg Φ (.obj c fs) (.obj c gs) ρ else .stuck
    | y => if plainK y then eqR neg Φ (.obj c fs) y ρ else .stuck) else .stuck
  | _, _ => .stuck
def eqA (neg : Bool) (c : Nat) (Φ : Fn) (g : EF) (a : Rv) (ρ : Env) : Out Rv := (opd g ρ).bind (eqK neg c Φ a)
/-- a == b, a != b: a an object of the class c whose own == is Φ, b anything -/
def fEqO (neg : Bool) (c : Nat) (Φ : Fn) (fa fb : EF) : EF := fun ρ => (opd fa ρ).bind (eqA neg c Φ fb)
def rEqO (neg : Bool) (G : Gi) (Y : Xi) (c : Nat) (Φ : Fn) : R2 := fun x y H Q => ∃ a dx fs, x = .ref a ∧ H a = some (.ins (G.cls c) dx fs) ∧ ((∃ b dy gs, y = .ref b ∧ H b = some (.ins (G.cls c) dy gs)) ∨ ∃ T, T ∈ ["NoneType", "bool", "int", "str", "tuple", "list"] ∧ TyX G.K H y (.type T)) ∧
  spF G Y 2 Φ [x, y] H (fun v H' => ∃ r, v = .bl r ∧ Q (.bl (if neg then !r else r)) H') (fun _ _ _ => False)
theorem eqR_sp {neg : Bool} {c : Nat} {Φ : Fn} {fs : List D} {y : D} {u v : V} {Q : VK} (S : StOk G B F H σ ρ) (k1 : Rep G F u (.obj c fs)) (k2 : Rep G F v y) (p : Post G Y B W σ F Q (eqR neg Φ (.obj c fs) y ρ)) :
    spF G Y 2 Φ [u, v] H (fun z H' => ∃ r, z = .bl r ∧ Q (.bl (if neg then !r else r)) H') (fun _ _ _ => False) := by
  unfold eqR at p
  split at p
  · rename_i r hΦ
    have RR : RvReps G B F H σ ρ [u, v] [.d (.obj c fs), .d y] := .cons k1 (.cons k2 .nil)
    have hm : mkArgs [false, false] [Rv.d (.obj c fs), Rv.d y] ρ = some [.d (.obj c fs), .d y] := rfl
    have ho : lentOnce [Rv.d (.obj c fs), Rv.d y] [.d (.obj c fs), .d y] = true := by rfl
    have S3 := call_start S RR hm ho
    refine ⟨rfl, F, [.d (.obj c fs), .d y], rfl, S3, ?_⟩
    rw [hΦ]
    intro z F' H' E R'
    have R2' : Rep G F' z (.bl r) := R'
    have hb := call_back S RR hm ho E
    have eu : upds [Rv.d (.obj c fs), Rv.d y] [.d (.obj c fs), .d y] [none, none] ρ = ρ := rfl
    rw [eu] at hb
    cases R2'
    exact ⟨r, rfl, p (.bl (if neg then !r else r)) F' H' E.ex hb (.bl _)⟩
  · exact False.elim p
theorem plain_ty {y : D} (h : plainK y = true) : ∃ T, y.kd = some (.inl T) ∧ T ∈ ["NoneType", "bool", "int", "str", "tuple", "list"] := by
  unfold plainK at h
  split at h
  · rename_i T q
    refine ⟨T, q, ?_⟩
    cases y <;> first | (cases q; decide) | (cases q; done) | (cases q; exact absurd h (by decide))
  · cases h
theorem t_eqO {neg : Bool} {c : Nat} {Φ : Fn} {fa fb : EF} {Q : VK} (h : tE G Y W (fEqO neg c Φ fa fb) σ H Q) : tOp (rEqO neg G Y c Φ) (tE G Y W fa) (tE G Y W fb) σ H Q := by
  obtain ⟨B, F, ρ, S, p⟩ := h
  refine tE_opd ⟨_, F, ρ, S, Post.seq p fun a ρ1 u F1 H1 ha e1 S1 R1 p1 => ?_⟩
  refine tE_opd ⟨_, F1, ρ1, S1, Post.seq p1 fun b ρ2 v F2 H2 hb e2 S2 R2 p2 => ?_⟩
  have R1' : RvRep G B F2 H2 σ ρ2 u a := flat_stays (opd_flat ha) e2 R1
  unfold eqK at p2
  split at p2
  · rename_i c1 fs y
    split at p2
    · rename_i hc
      subst hc
      have k1 : Rep G F2 u (.obj c1 fs) := R1'
      have k2 : Rep G F2 v y := R2
      have ins : ∃ a dx fs, u = .ref a ∧ H2 a = some (.ins (G.cls c1) dx fs) := by
        cases k1 with
        | obj g1 _ _ => exact ⟨_, _, _, rfl, S2.fh _ _ g1⟩
      obtain ⟨a0, dx, gs0, eu, hi⟩ := ins
      split at p2
      · rename_i c2 gs
        split at p2
        · rename_i hc2
          subst hc2
          refine ⟨a0, dx, gs0, eu, hi, .inl ?_, eqR_sp S2 k1 k2 p2⟩
          cases k2 with
          | obj g2 _ _ => exact ⟨_, _, _, rfl, S2.fh _ _ g2⟩
        · exact False.elim p2
      · split at p2
        · rename_i hp
          obtain ⟨T, hT, hm⟩ := plain_ty hp
          exact ⟨a0, dx, gs0, eu, hi, .inr ⟨T, hm, tyx_of S2.fh (.inl k2) hT (fun c e => by cases e)⟩, eqR_sp S2 k1 k2 p2⟩
        · exact False.elim p2
    · exact False.elim p2
  · exact False.elim p2
end
section
variable {X : Cx} {G : Gi} {Y : Xi} {W : WX} {k : Nat} {a b : Expr} {fa fb : EF} {pos : Pos}
theorem plain_nf {K : PySem.W.Frag} {C : Addr} {T : String} (h : T ∈ ["NoneType", "bool", "int", "str", "tuple", "list"]) : PySem.W.notFirst K C (.type T) = true := by
  have e : PySem.W.subIn K (.type T) (.ref C) = some false := by
    simp only [List.mem_cons, List.not_mem_nil, or_false] at h
    rcases h with rfl | rfl | rfl | rfl | rfl | rfl <;> rfl
  unfold PySem.W.notFirst
  rw [e]
  simp
theorem op_eqO (neg : Bool) {c : Nat} {Φ : Fn} (C : Ctx X G W (k + 1)) (Dk : EqOk X.prog X.w X.mg X.base G Y k c Φ) : OpR X (compareOp (if neg then .NotEq else .Eq)) (rEqO neg G Y c Φ) := by
  intro pins s σ H x y v u Q I rx ry h
  obtain ⟨a, dx, fs, rfl, ha, hy, hsp⟩ := h
  cases rx
  obtain ⟨f, fd, ps, hmk, hn, he, hf, hbd, hps, FF⟩ := Dk.ex
  rw [← C.hK] at hmk hn he hf hbd FF hy
  obtain ⟨mA, J, _⟩ := ins_get I.hok ha
  obtain ⟨od, J, _⟩ := J.look
  obtain ⟨m, hF⟩ := I.fr
  have hl := FF.len _ _ _ _ hsp
  have r2 : Vals [V.ref a, y] [Value.ref a, u] := .cons rfl (.cons ry .nil)
  have ty : ∃ tb, PySem.W.Looks (model X.prog X.w) s.heap (typeOf u) tb ∧ PySem.W.notFirst X.K (G.cls c) tb = true := by
    rcases hy with ⟨b, dy, gs, rfl, hb⟩ | ⟨T, hT, ht⟩
    · cases ry
      obtain ⟨mB, J', _⟩ := ins_get I.hok hb
      obtain ⟨od', J', _⟩ := J'.look
      exact ⟨.ref (G.cls c), J'.type, by simp [PySem.W.notFirst]⟩
    · obtain ⟨P, kx, hP, _⟩ := kit_of I ry ht
      exact ⟨_, kx.ty _ _ I.kIn hP, plain_nf hT⟩
  obtain ⟨tb, hlk, hnf⟩ := ty
  have run : ∀ (A : Around) (QQ : Value → Shared → Prop), Room k A → A.frames = X.A.frames → (∀ t s', EP X pins σ (fun z H' => ∃ r, z = .bl r ∧ Q (.bl (if neg then !r else r)) H') t s' → QQ t s') → wpAny (model X.prog X.w) A (call (.ref f) [.ref a, u]) QQ X.xe s := by
    intro A QQ hr hfr hq
    have e0 : Env0 X.prog X.w X.K X.mg X.base A X.stack s H := by
      have e := I.env0
      exact ⟨by rw [hfr]; exact e.frames, e.mod, e.bs, e.bsz, e.funs, e.frf, e.hok, e.bare⟩
    refine wpAny_call (codeAny_mono (FF.run A X.stack s H ⟨[.ref a, u], []⟩ [.ref a, u] [.ref a, y] _ (fun _ _ _ => False) hr e0 (by
      have := hbd s [.ref a, u] I.kIn (by simpa using hl)
      simpa using this) r2 hsp) fun r s' hq' => ?_)
    cases r with
    | error e => exact passes_call C.tk (fun _ _ _ _ z => False.elim z) pins σ H s e s' I hq'
    | ok fl =>
      cases fl with
      | ret w => exact hq w s' (I.after hq')
      | next => exact False.elim hq'
      | brk => exact False.elim hq'
      | cont => exact False.elim hq'
  cases neg with
  | true =>
    show wpAny (model X.prog X.w) X.A (richCompare .NotEq (.ref a) u) (EP X pins σ Q) X.xe s
    refine PySem.W.neV_K (by have := C.room.units; omega) hF I.ok.mod.kin J hlk hnf hmk hn he hf (run _ _ C.room.in1 rfl fun t s' z => ?_)
    obtain ⟨z, H', I', rz, r, ez, q⟩ := z
    subst ez
    cases rz
    exact ⟨r, rfl, .bl !r, H', I', rfl, q⟩
  | false =>
    show wpAny (model X.prog X.w) X.A (richCompare .Eq (.ref a) u) (EP X pins σ Q) X.xe s
    refine PySem.W.cmp_K (op := .Eq) C.room.units0 hF I.ok.mod.kin J hlk hnf he hf (run _ _ (C.room.mono (Nat.le_succ _)) rfl fun t s' z => ?_)
    obtain ⟨z, H', I', rz, r, ez, q⟩ := z
    subst ez
    cases rz
    exact ⟨.bl r, H', I', rfl, q⟩
theorem je_eqO (neg : Bool) {c : Nat} {Φ : Fn} {op : CmpOp} (C : Ctx X G W (k + 1)) (Dk : EqOk X.prog X.w X.mg X.base G Y k c Φ) (ha : JE X G Y W a fa) (hb : JE X G Y W b fb) (hop : op = if neg then .NotEq else .Eq := by rfl) (hm : behindInMarks op b = false := by first | exact nomark _ | rfl) : JE X G Y W (.Compare a [op] [b] pos) (fEqO neg c Φ fa fb) := by
  subst hop
  exact PE.weak (pe_cmpR (op_eqO neg C Dk) ha hb hm) fun _ _ _ => t_eqO
theorem jt_eqO (neg : Bool) {c : Nat} {Φ : Fn} {op : CmpOp} (C : Ctx X G W (k + 1)) (Dk : EqOk X.prog X.w X.mg X.base G Y k c Φ) (ha : JE X G Y W a fa) (hb : JE X G Y W b fb) (hop : op = if neg then .NotEq else .Eq := by rfl) (hm : behindInMarks op b = false := by first | exact nomark _ | rfl) : JT X G Y W (.Compare a [op] [b] pos) (fT (fEqO neg c Φ fa fb)) := by
  subst hop
  exact PT.weak (pt_cmpR (op_eqO neg C Dk) ha hb hm) fun _ _ _ h => t_eqO (tT_tE h)
end
end Nz
namespace Nz
open PySem L2
def kk6 : List String := ["NoneType", "bool", "int", "str", "tuple", "list"]
theorem kitOne_plain {K : PySem.W.Frag} {C : Addr} {T : String} (mk : PySem.W.makesIn K C = true) (ty : PySem.W.typeIn K (.ref C) = some (.type "type")) (h : T ∈ kk6) : PySem.W.kitOne K (.type T) (.ref C) = some false := by
  have e : PySem.W.subIn K (.type T) (.ref C) = some false := by
    unfold kk6 at h
    simp only [List.mem_cons, List.not_mem_nil, or_false] at h
    rcases h with rfl | rfl | rfl | rfl | rfl | rfl <;> rfl
  have cl : (PySem.W.clsIn K C).isSome = true := by
    unfold PySem.W.makesIn at mk
    unfold PySem.W.clsIn
    split at mk
    · rename_i q
      rw [q]
      rfl
    · cases mk
  unfold PySem.W.kitOne
  rw [if_neg (by simp)]
  unfold PySem.W.kitCls
  show (if ((PySem.W.clsIn K C).isSome && PySem.W.typeIn K (.ref C) == some (.type "type")) = true then PySem.W.subIn K (.type T) (.ref C) else none) = some false
  rw [if_pos (by rw [cl, ty]; simp), e]
end Nz

set_option Elab.async false
set_option linter.all false
set_option maxRecDepth 100000
set_option maxHeartbeats 4000000
/-! NzD: dicts with texts as keys: {}, d[k] = v, d[k]. -/
namespace Nz
open PySem L2
section
variable {G : Gi} {Y : Xi} {W : WX} {B : Bs} {F H : Hp} {σ : L2.St} {ρ ρ' : Env}
def dicOf : Option Sl → Option (List (Str × D))
  | some (.own (.dic fs)) => some fs
  | some (.io (.dic fs)) => some fs
  | some (.rd (.dic fs)) => some fs
  | _ => none
def DRep (G : Gi) (F : Hp) (gs : List (Key × V)) (fs : List (Str × D)) : Prop := gs.map (·.1) = fs.map (fun p => Sum.inr p.1) ∧ Reps G F (gs.map (·.2)) (fs.map (·.2))
theorem dic_at {i : Nat} {fs : List (Str × D)} (S : StOk G B F H σ ρ) (h : dicOf ρ[i]? = some fs) : ∃ p gs, At σ i p ∧ H p = some (.dK gs) ∧ DRep G F gs fs := by
  cases q : ρ[i]? with
  | none => rw [q] at h; cases h
  | some sl =>
    rw [q] at h
    cases sl with
    | no => cases h
    | d x => cases h
    | own c =>
      cases c with
      | lst ds => cases h
      | ins c fs => cases h
      | dic fs =>
        cases h
        obtain ⟨p, o, g1, _, g3, ⟨gs, rfl, h1, h2⟩, _⟩ := S.own i _ q
        exact ⟨p, gs, g1, g3, h1, h2⟩
    | io c =>
      cases c with
      | lst ds => cases h
      | ins c fs => cases h
      | dic fs =>
        cases h
        obtain ⟨p, o, g1, _, _, _, g3, ⟨gs, rfl, h1, h2⟩⟩ := S.io i _ q
        exact ⟨p, gs, g1, g3, h1, h2⟩
    | rd c =>
      cases c with
      | lst ds => cases h
      | ins c fs => cases h
      | dic fs =>
        cases h
        obtain ⟨p, o, g1, gv, na, _, g3, ⟨gs, rfl, h1, h2⟩⟩ := S.rd i _ q
        exact ⟨p, gs, g1, S.keep p _ g3 na, h1, h2⟩
def lookD (s : Str) (fs : List (Str × D)) : Option D := (fs.find? fun p => decide (p.1 = s)).map (·.2)
theorem look_ok {s : Str} {d : D} : ∀ {fs : List (Str × D)} {gs : List (Key × V)}, DRep G F gs fs → lookD s fs = some d → ∃ v, valV gs (Sum.inr s : Key) = some v ∧ Rep G F v d
  | [], _, _, h => by cases h
  | p :: fs, gs, ⟨h1, h2⟩, h => by
    cases gs with
    | nil => cases h1
    | cons g gs =>
      rw [List.map_cons, List.map_cons] at h1 h2
      injection h1 with k1 k2
      cases h2 with
      | cons r1 r2 =>
        unfold lookD at h
        rw [List.find?_cons] at h
        by_cases e : p.1 = s
        · rw [decide_eq_true e] at h
          have h' : some p.2 = some d := h
          cases h'
          exact ⟨g.2, valV_pos (by rw [k1, e]), r1⟩
        · rw [decide_eq_false e] at h
          obtain ⟨v, q1, q2⟩ := look_ok (fs := fs) (gs := gs) ⟨k2, r2⟩ h
          exact ⟨v, by rw [valV_neg (by rw [k1]; exact fun z => e (Sum.inr.inj z))]; exact q1, q2⟩
def putF (s : Str) (d : D) (fs : List (Str × D)) : List (Str × D) := if (fs.any fun p => decide (p.1 = s)) = true then fs.map (fun p => if p.1 = s then (p.1, d) else p) else fs ++ [(s, d)]
theorem any_same {s : Str} : ∀ {fs : List (Str × D)} {gs : List (Key × V)}, gs.map (·.1) = fs.map (fun p => Sum.inr p.1) → (gs.any fun kv => decide (kv.1 = (Sum.inr s : Key))) = fs.any fun p => decide (p.1 = s)
  | [], gs, h => by
    cases gs with
    | nil => rfl
    | cons g gs => cases h
  | p :: fs, gs, h => by
    cases gs with
    | nil => cases h
    | cons g gs =>
      rw [List.map_cons, List.map_cons] at h
      injection h with k1 k2
      rw [List.any_cons, List.any_cons, any_same k2, k1]
      congr 1
      exact decide_eq_decide.mpr ⟨fun z => Sum.inr.inj z, fun z => by rw [z]⟩
theorem map_put {s : Str} {d : D} {v : V} (r : Rep G F v d) : ∀ {fs : List (Str × D)} {gs : List (Key × V)}, DRep G F gs fs → DRep G F (gs.map fun kv => if kv.1 = (Sum.inr s : Key) then (kv.1, v) else kv) (fs.map fun p => if p.1 = s then (p.1, d) else p)
  | [], gs, ⟨h1, h2⟩ => by
    cases gs with
    | nil => exact ⟨rfl, .nil⟩
    | cons g gs => cases h1
  | p :: fs, gs, ⟨h1, h2⟩ => by
    cases gs with
    | nil => cases h1
    | cons g gs =>
      rw [List.map_cons, List.map_cons] at h1 h2
      injection h1 with k1 k2
      cases h2 with
      | cons r1 r2 =>
        obtain ⟨q1, q2⟩ := map_put r (fs := fs) (gs := gs) ⟨k2, r2⟩
        by_cases e : p.1 = s
        · have e' : g.1 = (Sum.inr s : Key) := by rw [k1, e]
          refine ⟨?_, ?_⟩
          · rw [List.map_cons, List.map_cons, List.map_cons, List.map_cons, q1, if_pos e', if_pos e, k1]
          · rw [List.map_cons, List.map_cons, List.map_cons, List.map_cons, if_pos e', if_pos e]
            exact .cons r q2
        · have e' : ¬ g.1 = (Sum.inr s : Key) := by rw [k1]; exact fun z => e (Sum.inr.inj z)
          refine ⟨?_, ?_⟩
          · rw [List.map_cons, List.map_cons, List.map_cons, List.map_cons, q1, if_neg e', if_neg e, k1]
          · rw [List.map_cons, List.map_cons, List.map_cons, List.map_cons, if_neg e', if_neg e]
            exact .cons r1 q2
theorem reps_app : ∀ {xs : List V} {ds : List D} {ys : List V} {es : List D}, Reps G F xs ds → Reps G F ys es → Reps G F (xs ++ ys) (ds ++ es) := by
  intro xs
  induction xs with
  | nil => intro ds ys es h h2; cases h; exact h2
  | cons x xs ih =>
    intro ds ys es h h2
    cases h with
    | cons r t => exact .cons r (ih t h2)
theorem put_ok {s : Str} {d : D} {v : V} (r : Rep G F v d) {fs : List (Str × D)} {gs : List (Key × V)} (h : DRep G F gs fs) : DRep G F (putK gs (Sum.inr s : Key) v) (putF s d fs) := by
  unfold putK putF
  rw [any_same h.1]
  by_cases e : (fs.any fun p => decide (p.1 = s)) = true
  · rw [if_pos e, if_pos e]
    exact map_put r h
  · rw [if_neg e, if_neg e]
    refine ⟨by rw [List.map_append, List.map_append, h.1]; rfl, ?_⟩
    rw [List.map_append, List.map_append]
    exact reps_app h.2 (.cons r .nil)
theorem DRep.len {gs : List (Key × V)} {fs : List (Str × D)} (h : DRep G F gs fs) : gs.length = fs.length := by
  have := congrArg List.length h.1
  simpa using this
/-! {} -/
def fDic : EF := fun ρ => .ok (.new (.dic [])) ρ
theorem t_dic {Q : VK} (h : tE G Y W fDic σ H Q) : tDNewK σ H Q := by
  obtain ⟨B, F, ρ, S, p⟩ := h
  intro a ha
  refine p _ F _ Sub.rfl (S.beside ha) ⟨a, _, rfl, S.fh.free ha, upd_same, ⟨[], rfl, rfl, .nil⟩, S.new0 ha, fun i k hk hat => ?_⟩
  rcases hk with hk | hk
  · obtain ⟨q, o, g1, _, g3, _⟩ := S.own i k hk
    obtain rfl := at_inj g1 hat; rw [ha] at g3; cases g3
  · obtain ⟨q, o, g1, _, _, _, g3, _⟩ := S.io i k hk
    obtain rfl := at_inj g1 hat; rw [ha] at g3; cases g3
/-! d[k] -/
def getK (i : Nat) (k : Option D) (ρ : Env) : Out Rv := match k, dicOf ρ[i]? with
  | some (.str s), some fs => (match lookD s fs with
    | some d => .ok (.d d) ρ
    | none => .stuck)
  | _, _ => .stuck
def getR (i : Nat) (r : Rv) (ρ : Env) : Out Rv := getK i (res ρ r) ρ
def fGetD (i : Nat) (fk : EF) : EF := fun ρ => if (dicOf ρ[i]?).isSome then (opd fk ρ).bind (getR i) else .stuck
theorem t_getD {i : Nat} {fk : EF} {Q : VK} (h : tE G Y W (fGetD i fk) σ H Q) : tDGet (tVar i) (tE G Y W fk) σ H Q := by
  obtain ⟨B, F, ρ, S, p⟩ := h
  unfold fGetD at p
  by_cases hd : (dicOf ρ[i]?).isSome = true
  · rw [if_pos hd] at p
    obtain ⟨fs0, h0⟩ := Option.isSome_iff_exists.mp hd
    obtain ⟨a, gs0, g1, _, _⟩ := dic_at S h0
    refine ⟨_, g1, tE_opd ⟨B, F, ρ, S, Post.seq p fun r ρ1 u F1 H1 ha e1 S1 R1 p1 => ?_⟩⟩
    unfold getR getK at p1
    split at p1
    · rename_i s fs hk hf
      split at p1
      · rename_i d hl
        obtain ⟨b, gs, k1, k2, k3⟩ := dic_at S1 hf
        obtain rfl := at_inj g1 k1
        obtain ⟨v, hv, rv⟩ := look_ok k3 hl
        have hu := opd_str (S1.opd R1 hk)
        subst hu
        have dg := DGet.k (k := (Sum.inr s : Key)) k2
        rw [hv] at dg
        exact ⟨_, v, rfl, dg, p1 v F1 H1 Sub.rfl S1 rv⟩
      · exact False.elim p1
    · exact False.elim p1
  · rw [if_neg hd] at p; exact False.elim p
/-! d[k] = v -/
def putK3 (i : Nat) (d : D) (k : Option D) (ρ : Env) : Out Fl := match k, ρ[i]? with
  | some (.str s), some (.own (.dic fs)) => if fs.length < 1000 then .ok .next (ρ.set i (.own (.dic (putF s d fs)))) else .stuck
  | some (.str s), some (.io (.dic fs)) => if fs.length < 1000 then .ok .next (ρ.set i (.io (.dic (putF s d fs)))) else .stuck
  | _, _ => .stuck
def putR (i : Nat) (d : D) (r : Rv) (ρ : Env) : Out Fl := putK3 i d (res ρ r) ρ
def putR2 (i : Nat) (fk : EF) (d : D) (ρ : Env) : Out Fl := if (dicOf ρ[i]?).isSome then (opd fk ρ).bind (putR i d) else .stuck
def putR1 (i : Nat) (fk : EF) (r : Rv) (ρ : Env) : Out Fl := (frz r ρ).bind (putR2 i fk)
def fSetD (f : EF) (i : Nat) (fk : EF) : SF := fun ρ => (opd f ρ).bind (putR1 i fk)
theorem t_setD {f fk : EF} {i : Nat} {D : Ends} (h : tS G Y W (fSetD f i fk) D σ H) : sDPut (tVar i) (tE G Y W fk) (tE G Y W f) D σ H := by
  obtain ⟨B, F, ρ, S, p⟩ := h
  refine tE_opd ⟨_, F, ρ, S, Post.ofG (PostS.seqG p fun r ρ1 F1 H1 _ e1 S1 p1 u R => ?_)⟩
  obtain ⟨d, ρ2, F2, _, e2, S2, r2, p2⟩ := frz_post (Pp := fun o F => PostS G Y B W D F o) S1 R (fun _ h => h) (fun _ _ _ e h => h.mono e) p1
  unfold putR2 at p2
  by_cases hd : (dicOf ρ2[i]?).isSome = true
  · rw [if_pos hd] at p2
    obtain ⟨fs0, h0⟩ := Option.isSome_iff_exists.mp hd
    obtain ⟨a, gs0, g1, _, _⟩ := dic_at S2 h0
    refine ⟨_, g1, tE_opd ⟨_, F2, ρ2, S2, Post.ofG (PostS.seqG p2 fun j ρ3 F3 H3 _ e3 S3 p3 w Rj => ?_)⟩⟩
    have fin : ∀ (s : Str) (fs : List (Str × Nz.D)) (sl' : Sl), res ρ3 j = some (.str s) → dicOf ρ3[i]? = some fs → fs.length < 1000 → (∀ sl, ρ3[i]? = some sl → sl.put (.dic (putF s d fs)) = some sl') → PostS G Y B W D F3 (.ok .next (ρ3.set i sl')) → ∃ b H4, V.ref a = .ref b ∧ DPut H3 b w u H4 ∧ D.nx σ H4 := by
      intro s fs sl' hk hf hl hp p
      obtain ⟨b, gs, k1, k2, k3⟩ := dic_at S3 hf
      obtain rfl := at_inj g1 k1
      have hw := opd_str (S3.opd Rj hk)
      subst hw
      have hs : ∃ sl, ρ3[i]? = some sl := by
        cases q : ρ3[i]? with
        | none => rw [q] at hf; cases hf
        | some sl => exact ⟨sl, rfl⟩
      obtain ⟨sl, hsl⟩ := hs
      have ok := put_ok (s := s) (r2.mono e3 _) k3
      have S4 := S3.change hsl (hp sl hsl) g1 (c' := .dic (putF s d fs)) ⟨_, rfl, ok.1, ok.2⟩
      exact ⟨_, _, rfl, DPut.k (k := (Sum.inr s : Key)) k2 (by rw [k3.len]; exact Nat.lt_of_lt_of_le hl (by decide)), p σ F3 _ Sub.rfl S4⟩
    unfold putR putK3 at p3
    split at p3
    · rename_i s fs hk hf
      split at p3
      · rename_i hl
        exact fin s fs _ hk (by rw [hf]; rfl) hl (fun sl h => by rw [hf] at h; cases h; rfl) p3
      · exact False.elim p3
    · rename_i s fs hk hf
      split at p3
      · rename_i hl
        exact fin s fs _ hk (by rw [hf]; rfl) hl (fun sl h => by rw [hf] at h; cases h; rfl) p3
      · exact False.elim p3
    · exact False.elim p3
  · rw [if_neg hd] at p2; exact False.elim p2
end
section
variable {X : Cx} {G : Gi} {Y : Xi} {W : WX} {k : Nat} {e l : Expr} {fa fk : EF} {pos : Pos}
theorem je_dic : JE X G Y W (.Dict [] [] pos) fDic := PE.weak pe_dnewK fun _ _ _ => t_dic
theorem je_getD (i : Nat) {x : Str} {p : Pos} (C : Ctx X G W k) (hk : JE X G Y W l fk) (hN : X.N[i]? = some x := by rfl) (hv : Vis X.env.scope x := by first | exact Or.inl rfl | exact Or.inr (Or.inl rfl) | exact Or.inr (Or.inr rfl)) (hd : (x == ("__debug__" : Str)) = false := by decide)
    (hcd : (x == ("__classdict__" : Str)) = false := by decide) (hs : NoSl l := by exact fun _ _ => rfl) : JE X G Y W (.Subscript (.Name x p) l pos) (fGetD i fk) :=
  PE.weak (pe_dget (by have := C.room.units; omega) (pe_var hN hv hd hcd) hk hs) fun _ _ _ => t_getD
theorem js_setD (i : Nat) {x : Str} {p p2 : Pos} (C : Ctx X G W k) (h : JE X G Y W e fa) (hk : JE X G Y W l fk) (hN : X.N[i]? = some x := by rfl) (hv : Vis X.env.scope x := by first | exact Or.inl rfl | exact Or.inr (Or.inl rfl) | exact Or.inr (Or.inr rfl)) (hd : (x == ("__debug__" : Str)) = false := by decide)
    (hcd : (x == ("__classdict__" : Str)) = false := by decide) (hs : swapsWith e (some (.Subscript (.Name x p) l p2)) pos.line X.env = pure false := by rfl) : JS X G Y W (.Assign [.Subscript (.Name x p) l p2] e pos) (fSetD fa i fk) :=
  PS.weak (ps_dput (by have := C.room.units; omega) (pe_var hN hv hd hcd) hk h hs) fun _ _ _ => t_setD
end
end Nz

set_option Elab.async false
set_option linter.all false
set_option maxRecDepth 100000
set_option maxHeartbeats 4000000
/-! NzM: a tuple no times; a list that becomes data. -/
namespace Nz
open PySem L2 PySem.Spec PyProof.Rows
theorem tuple_mulW0 (l : Addr) (items : Array Value) (n : Nat) (dd : Option Addr) (sl : Array (Option Value)) (u : Tok) (hi : items.isEmpty = false) :
    Meets (Builtin.«tuple.__mul__» ⟨[.ref l, .int 0 u], []⟩) (fun _ R s => s.heap.get? l = some { cls := .type "tuple", dict := dd, data := .seq items n, slots := sl } ∧
      R (.ok (.ret (Value.ref s.heap.objs.size))) { s with heap := s.heap.push { cls := Value.type "tuple", data := Data.seq #[] }, toks := s.toks }) :=
  .of_wp fun prog w A R s h => by
    obtain ⟨hp, g, d, tk, os⟩ := s
    obtain ⟨hl, h⟩ := h
    have f1 := AutoSeq1.idx_int
    have c1 : (items.isEmpty || (0 : Int) == 1) = false := by rw [hi]; rfl
    have c2 : (decide ((0 : Int) ≤ 0) || items.isEmpty) = true := rfl
    wp_walk using wpAny_loadPart' hl
    repeat (first
      | (refine wpAny_ite_false (decide_eq_false (by decide)) ?_; wp_walk using wpAny_loadPart' hl)
      | (refine wpAny_ite_false (decide_eq_false (by rw [c1]; exact Bool.false_ne_true)) ?_; wp_walk using wpAny_loadPart' hl)
      | (refine wpAny_ite_true (decide_eq_true c2) ?_; wp_walk using wpAny_loadPart' hl))
    exact ⟨_, rfl, h⟩
def rRepT0 (K : PySem.W.Frag) : R2 := fun x y H Q => ∃ l xs, x = .ref l ∧ y = .int 0 ∧ SqT K H l xs ∧ xs ≠ [] ∧ ∀ p, H p = none → Q (.ref p) (upd H p (.tup []))
theorem op_repT0 {X : Cx} : OpR X (binaryOp .Mult) (rRepT0 X.K) := by
  intro pins s σ H x y v u Q I rx ry h
  obtain ⟨l, xs, rfl, rfl, hT, hne, q⟩ := h
  cases rx
  obtain ⟨t, rfl⟩ := ry
  obtain ⟨its, r, ⟨⟨cls, dd, data, sl⟩, ho, hc, n, hd⟩, hs⟩ := I.tuple hT
  simp only at hc hd
  subst hc hd
  have hle : its.length = xs.length := r.length.symm
  have hi : its.toArray.isEmpty = false := by
    cases its with
    | nil => exact absurd (List.eq_nil_of_length_eq_zero hle.symm) hne
    | cons a b => rfl
  refine wpAny_binaryOp_repeat_ref (T := "tuple") (U := "int") (by decide) ⟨_, ho, rfl⟩ (fun s' => typeIs_int s' 0 t) noFill_tuple_mul F.fills_int_mul F.slot_int_rmul repeat_tuple F.slot_int_index.lookup
    (call_meets F.slot_int_rmul (typeIs_int s 0 t) F.entry_int_rmul (F.args_int_rmul_2 _ _) (int_rmul_tuple 0 t l its.toArray n dd sl)
      ⟨ho, rfl, ⟨_, ho, rfl⟩, call_meets F.slot_tuple_mul ⟨_, ho, rfl⟩ F.entry_tuple_mul (F.args_tuple_mul_2 _ _) (tuple_mulW0 l its.toArray n dd sl t hi) ⟨ho, ?_⟩⟩)
  refine ⟨.ref s.heap.objs.size, _, I.laid (t' := s.toks) (o := .tup []) (fun b ob q => Heap.get?_push_of_some _ q) (Nat.le_refl _) ?_, rfl, q _ (I.hok.fresh (Nat.le_refl _))⟩
  exact ⟨by simp, [], .nil, IsTup.new _ _⟩
def rMulB (K : PySem.W.Frag) : R2 := fun x y H Q => rMulA K x y H Q ∨ rRepT0 K x y H Q
theorem o_mulB {X : Cx} : OpR X (binaryOp .Mult) (rMulB X.K) := o_mulA.or op_repT0
def gMulB (a b : D) : Option Pr := match a, b with
  | .tup (x :: xs), .int 0 => some (.newT [])
  | a, b => gMulA a b
section
variable {G : Gi} {F H : Hp} {Y : Xi} {B : Bs} {W : WX} {σ : L2.St} {X : Cx} {e : Expr} {fa : EF}
theorem s_mulB : OpS G (rMulB G.K) gMulB := by
  intro F H x y a b pr hF hx hy hg Q hq
  unfold gMulB at hg
  split at hg
  · cases hg
    obtain ⟨p, xs, rfl, h1, h2⟩ := opd_tup hF hx
    obtain rfl := opd_int hy
    exact .inr ⟨p, xs, rfl, rfl, h1, fun e => by (have := h2.length; rw [e] at this; cases this), fun r hr => hq.2 r [] hr .nil⟩
  · exact .inl (s_mulA F H x y _ _ pr hF hx hy hg Q hq)
/-- the value becomes data -/
def fFz (f : EF) : EF := fun ρ => (opd f ρ).bind fun r ρ1 => (frz r ρ1).bind fun d ρ2 => .ok (.d d) ρ2
theorem t_fz {f : EF} {Q : VK} (h : tE G Y W (fFz f) σ H Q) : tE G Y W f σ H Q := by
  obtain ⟨B, F, ρ, S, p⟩ := h
  refine tE_opd ⟨B, F, ρ, S, Post.ofG (PostG.seq p.g fun r ρ1 F1 H1 _ e1 S1 p1 u R => ?_)⟩
  cases q : frz r ρ1 with
  | exc x ρ2 => exact (frz_no_exc q).elim
  | stuck => rw [q] at p1; exact p1.elim
  | ok d ρ2 =>
    rw [q] at p1
    obtain ⟨F2, e2, S2, r2⟩ := frz_ok S1 R q
    exact p1 F2 H1 e2 S2 u r2
theorem je_fz (h : JE X G Y W e fa) : JE X G Y W e (fFz fa) := PE.weak h fun _ _ _ => t_fz
end
end Nz

set_option Elab.async false
set_option linter.all false
set_option maxRecDepth 100000
set_option maxHeartbeats 4000000
/-! NzE: own errors: raise X(), raise X(v), try .. except X as e. -/
namespace Nz
open PySem L2 PySem.Spec PyProof.Rows
section
variable {X : Cx} {C : Addr} {bmB : List Value} {B newId initId : String}
/-- X() -/
theorem pmk_own0 {x : Str} {p pos : Pos} (F : ExcBaseFacts B newId initId bmB) (q : PySem.W.excIn X.K C bmB newId = true) (gC : X.mg x = some (.ref C)) (kC : PySem.W.keepIn X.K (.ref C) = true) (r : Raises X (.ref C)) (hg : Gl X x)
    (hdb : (x == ("__debug__" : Str)) = false := by decide) : PMk X (.Call (.Name x p) [] [] pos) (fun _ H Q => Q (.ref C) none H) := by
  intro pins s σ H Q I h
  refine wpAny_Call_Name_kw (ld_glob I hg gC ?_ hdb)
  refine PySem.W.callWith_K0 I.kIn kC ?_
  show wpAny _ _ (call (.ref C) []) _ _ _
  obtain ⟨bm, N, nm, qn, bs, hdct, sn, sub, ab, col, dd, k0, k1, k2, k3, k5, mN, hC, hN, hni, T⟩ := exc_obj I.kIn q
  exact wpAny_call_exc_subT F T hC hN hni (fun h' e hm => mk_of I hm r h (I.hok.gone hm.new)) (Nat.zero_le _)
end
/-- what the text's part says of an own error without fields -/
structure Xc (K : PySem.W.Frag) (mg : Str → Option Value) (x : Str) (C : Addr) : Prop where
  gC : mg x = some (.ref C)
  ex : PySem.W.excIn K C [.type "ValueError", .type "Exception", .type "BaseException", .type "object"] "ValueError.__new__" = true
  kC : PySem.W.keepIn K (.ref C) = true
  bC : PySem.W.subIn K (.ref C) (.type "BaseException") = some true
  tC : PySem.W.typeIn K (.ref C) = some (.type "type")
section
variable {X : Cx} {G : Gi} {Y : Xi} {W : WX} {B : Bs} {F H F' H' : Hp} {σ : L2.St} {ρ ρ' : Env} {k : Nat} {pos pos' p : Pos} {e : Expr} {fa : EF}
theorem StOk.setNo {i : Nat} {z : Option V} (S : StOk G B F H σ ρ) (hi : ρ[i]? = some .no) : StOk G B F H (σ.set i z) ρ := by
  have ne : ∀ (j : Nat) (sl : Sl), ρ[j]? = some sl → sl ≠ .no → (σ.set i z)[j]? = σ[j]? := fun j sl h hn => by
    rw [List.getElem?_set_ne]
    intro h2
    subst h2
    rw [hi] at h
    exact hn (Option.some.inj h).symm
  refine ⟨S.ff, S.fh, S.keep, S.grow, fun j d w => ?_, fun j c w => ?_, fun j c w => ?_, fun j c w => ?_, fun j l c c' a h1 h2 h3 h4 h5 => ?_, fun j l c c' a h1 h2 h3 h4 h5 => ?_, by rw [List.length_set]; exact S.len, S.in0, S.sub0, S.inR, S.all⟩
  · rw [ne j _ w (by intro z; cases z)]; exact S.dat j d w
  · obtain ⟨p, o, h1, h2⟩ := S.own j c w
    exact ⟨p, o, (ne j _ w (by intro z; cases z)).trans h1, h2⟩
  · obtain ⟨p, o, h1, h2⟩ := S.io j c w
    exact ⟨p, o, (ne j _ w (by intro z; cases z)).trans h1, h2⟩
  · obtain ⟨p, o, h1, h2⟩ := S.rd j c w
    exact ⟨p, o, (ne j _ w (by intro z; cases z)).trans h1, h2⟩
  · have e1 : (σ.set i z)[j]? = σ[j]? := ne j _ h2 (by intro z; cases z)
    have e2 : (σ.set i z)[l]? = σ[l]? := by rcases h3 with h3 | h3 <;> exact ne l _ h3 (by intro z; cases z)
    exact S.dist j l c c' a h1 h2 h3 (e1.symm.trans h4) (e2.symm.trans h5)
  · have e1 : (σ.set i z)[j]? = σ[j]? := ne j _ h2 (by intro z; cases z)
    have e2 : (σ.set i z)[l]? = σ[l]? := ne l _ h3 (by intro z; cases z)
    exact S.distI j l c c' a h1 h2 h3 (e1.symm.trans h4) (e2.symm.trans h5)
/-! ### raise X() -/
def fRaise (c : Nat) : SF := fun ρ => .exc ⟨c, []⟩ ρ
theorem js_raise0 (c : Nat) {x : Str} (C : Ctx X G W k) (T : Xc X.K X.mg x (Y.cls c)) (hg : Gl X x := by rfl) (hdb : (x == ("__debug__" : Str)) = false := by decide) : JS X G Y W (.Raise (some (.Call (.Name x p) [] [] pos)) none pos') (fRaise c) :=
  PS.weak (ps_raise C.calm C.tk (pmk_own0 F.excBase_ValueError T.ex T.gC T.kC (raises_own T.bC T.tC) hg hdb)) fun D σ H h => by
    obtain ⟨B, F, ρ, S, p⟩ := h
    exact p _ none σ F H Sub.rfl S ⟨rfl, .inl ⟨rfl, rfl⟩⟩
/-! ### try .. except -/
/-- what the clause hears: true: its own error -/
def fTry (i : Nat) (m : Nat → Option Bool) (h : Ex → SF) (f : SF) : SF := fun ρ => match f ρ with
  | .exc x ρ1 => (match m x.cls with
    | some true => (match ρ1[i]? with
      | some .no => h x ρ1
      | _ => .stuck)
    | some false => .exc x ρ1
    | none => .stuck)
  | .ok r ρ1 => .ok r ρ1
  | .stuck => .stuck
/-- what the suite must make of it -/
def HdOk (G : Gi) (Y : Xi) (i : Nat) (m : Nat → Option Bool) (h : Ex → SF) (ts : Addr → Value → Option Addr → TS) : Prop :=
  ∀ (W : WX) (D : Ends) (B : Bs) (F H : Hp) (σ : L2.St) (ρ : Env) (x : Ex) (a : Addr) (cls : Value) (d : Option Addr), m x.cls = some true → StOk G B F H σ ρ → ρ[i]? = some .no → ExRep G Y F x cls d → PostS G Y B W D F (h x ρ) →
    ts a cls d { nx := fun σ' H' => D.nx (σ'.set i none) H', rt := D.rt, bk := fun σ' H' => D.bk (σ'.set i none) H', ct := fun σ' H' => D.ct (σ'.set i none) H' } (σ.set i (some (.ref a))) H
theorem t_try {i : Nat} {m : Nat → Option Bool} {h : Ex → SF} {f : SF} {cv : Value} {ts : Addr → Value → Option Addr → TS} (hm : ∀ c b, m c = some b → PySem.W.exmOne X.K (.ref (Y.cls c)) cv = some b) (hh : HdOk G Y i m h ts) {D : Ends} (q : tS G Y W (fTry i m h f) D σ H) :
    tS G Y (wAs X.K cv i ts W D) f D σ H := by
  obtain ⟨B, F, ρ, S, p⟩ := q
  refine ⟨B, F, ρ, S, ?_⟩
  unfold fTry at p
  revert p
  cases f ρ with
  | stuck => exact fun p => p
  | ok fl ρ1 => cases fl <;> exact fun p => p
  | exc x ρ1 =>
    intro p cls dx σ' F' H' e S' R
    have p1 : PostS G Y B W D F (match m x.cls with
      | some true => (match ρ1[i]? with
        | some .no => h x ρ1
        | _ => .stuck)
      | some false => .exc x ρ1
      | none => .stuck) := p
    cases q1 : m x.cls with
    | none => rw [q1] at p1; exact p1.elim
    | some b =>
      rw [q1] at p1
      have hb := hm _ _ q1
      rw [← R.1] at hb
      refine ⟨b, hb, fun hb1 a ha => ?_, fun hb1 => ?_⟩
      · subst hb1
        have p2 : PostS G Y B W D F (match ρ1[i]? with
          | some .no => h x ρ1
          | _ => .stuck) := p1
        cases q2 : ρ1[i]? with
        | none => rw [q2] at p2; exact p2.elim
        | some sl =>
          rw [q2] at p2
          cases sl with
          | no => exact hh W D B F' H' σ' ρ1 x a cls dx q1 S' q2 R (PostS.mono (F := F) p2 e)
          | d y => exact p2.elim
          | own c => exact p2.elim
          | io c => exact p2.elim
          | rd c => exact p2.elim
      · subst hb1
        exact p1 cls dx σ' F' H' e S' R
theorem js_try (i : Nat) {x n : Str} {cv : Value} {body suite : List Stmt} {b₀ : Stmt} {np : Pos} {m : Nat → Option Bool} {h : Ex → SF} {f : SF} {ts : Addr → Value → Option Addr → TS} (C : Ctx X G W k) (hc : Names X x cv) (hm : ∀ c b, m c = some b → PySem.W.exmOne X.K (.ref (Y.cls c)) cv = some b)
    (hh : HdOk G Y i m h ts)
    (hb : ∀ (W' : WX) (pn : List (Addr × Obj)) (xe : Value → Shared → Prop), Ctx (X.tr pn xe) G W' k → JSs (X.tr pn xe) G Y W' body f)
    (hsu : ∀ (a : Addr) (oe : Obj) (cls : Value) (d : Option Addr) (pn : List (Addr × Obj)), Zc cls d oe → (∃ vs, oe.data = .fields vs) → PSs (X.suite a ((a, oe) :: pn)) (b₀ :: suite) (ts a cls d))
    (hs : X.stack = X.env :: X.outer := by rfl) (hf : X.env.frame = some X.env.locals := by rfl) (hi : X.N[i]? = some n := by rfl) (hln : X.env.kindOf n = some .local := by rfl) :
    JS X G Y W (.Try body [.ExceptHandler (some (.Name x np)) (some n) (b₀ :: suite) pos'] [] [] pos) (fTry i m h f) :=
  PS.weak (ps_try_as hs hf C.nd hi hln hc C.tk (tb := fun W' => tS G Y W' f) (fun W' pn xe tk po => hb W' pn xe ⟨C.hK, C.calm, C.nd, tk, po, C.room⟩) hsu) fun D σ H q => t_try hm hh q
/-! ### the suite: if isinstance(e, A) and not isinstance(e, B): v = '..' -/
def teIs (K : PySem.W.Frag) (i : Nat) (a : Addr) (cls : Value) (d : Option Addr) (cv : Value) : TE := fun σ H Q => ∃ D b, cls = .ref D ∧ d = none ∧ ExcC K D ∧ σ[i]? = some (some (.ref a)) ∧ PySem.W.kitOne K (.ref D) cv = some b ∧ Q (.bl b) H
theorem pe_isE {i : Nat} {a CA : Addr} {oe : Obj} {cls : Value} {d : Option Addr} {pn : List (Addr × Obj)} {x A : Str} {p1 p2 p3 p4 : Pos} (hz : Zc cls d oe) (hf : ∃ vs, oe.data = .fields vs) (hm : X.mg "isinstance" = none) (gA : X.mg A = some (.ref CA))
    (hN : X.N[i]? = some x) (hv : Vis X.env.scope x) (hg : Gl X "isinstance") (hgA : Gl X A) (hd : (x == ("__debug__" : Str)) = false) (hcd : (x == ("__classdict__" : Str)) = false) (hdA : (A == ("__debug__" : Str)) = false) (he : starEach [.Name x p2, .Name A p3] X.env = (false, eval (.Name x p2) X.env) :: starEach [.Name A p3] X.env) (hpl : (backTo p4 (starEach [.Name A p3] X.env)).any (·.1) = false) :
    PE (X.suite a ((a, oe) :: pn)) (.Call (.Name "isinstance" p1) [.Name x p2, .Name A p3] [] p4) (teIs X.K i a cls d (.ref CA)) := by
  refine ⟨fun pins s σ H Q I h => ?_⟩
  obtain ⟨D, b, rfl, rfl, hE, hs, hk, q⟩ := h
  refine (pe_callB (X := X.suite a ((a, oe) :: pn)) (call_isE hE hz hf) hg hm (by decide +kernel) (pa_cons (pe_var hN hv hd hcd) (pa_cons (pe_glob (v := .ref CA) hgA gA rfl hdA) pa_nil)) (by decide) (by decide) he hpl).run pins s σ H Q I ?_
  exact ⟨_, hs, .ref CA, .ref CA, b, rfl, fun u hu => hu, hk, q⟩
def ts1 (K : PySem.W.Frag) (i j : Nat) (a : Addr) (cls : Value) (d : Option Addr) (A B : Addr) (s : Str) : TS := fun D σ H => ∃ Dc bA bB, cls = .ref Dc ∧ d = none ∧ ExcC K Dc ∧ σ[i]? = some (some (.ref a)) ∧ PySem.W.kitOne K (.ref Dc) (.ref A) = some bA ∧ PySem.W.kitOne K (.ref Dc) (.ref B) = some bB ∧
  D.nx (if bA && !bB then σ.set j (some (.str s)) else σ) H
theorem ps_if1 {i j : Nat} {a CA CB : Addr} {oe : Obj} {cls : Value} {d : Option Addr} {pn : List (Addr × Obj)} {x A B v s : Str} {p1 p2 p3 p4 p5 p6 p7 p8 p9 p10 p11 p12 p13 p14 : Pos} {jj : Nat} (nd : X.N.Nodup) (hz : Zc cls d oe) (hf : ∃ vs, oe.data = .fields vs) (hm : X.mg "isinstance" = none) (gA : X.mg A = some (.ref CA)) (gB : X.mg B = some (.ref CB))
    (hN : X.N[i]? = some x := by rfl) (hN2 : X.N[j]? = some v := by rfl) (hv : Vis X.env.scope x := by first | exact Or.inl rfl | exact Or.inr (Or.inl rfl)) (hl : Loc X.env.scope v := by first | exact Or.inl rfl | exact Or.inr rfl) (hg : Gl X "isinstance" := by rfl) (hgA : Gl X A := by rfl) (hgB : Gl X B := by rfl)
    (hd : (x == ("__debug__" : Str)) = false := by decide) (hcd : (x == ("__classdict__" : Str)) = false := by decide) (hdA : (A == ("__debug__" : Str)) = false := by decide) (hdB : (B == ("__debug__" : Str)) = false := by decide)
    (he : starEach [.Name x p2, .Name A p3] X.env = (false, eval (.Name x p2) X.env) :: starEach [.Name A p3] X.env := by rfl) (hpl : (backTo p4 (starEach [.Name A p3] X.env)).any (·.1) = false := by rfl)
    (he2 : starEach [.Name x p6, .Name B p7] X.env = (false, eval (.Name x p6) X.env) :: starEach [.Name B p7] X.env := by rfl) (hpl2 : (backTo p8 (starEach [.Name B p7] X.env)).any (·.1) = false := by rfl)
    (ht : ∀ whole, isTrue (.Call (.Name "isinstance" p1) [.Name x p2, .Name A p3] [] p4) X.env whole = (do let v ← whole; standAt p4; holding [v] (truthy v)) := by intro _; rfl)
    (ht2 : ∀ whole, isTrue (.Call (.Name "isinstance" p5) [.Name x p6, .Name B p7] [] p8) X.env whole = (do let v ← whole; standAt p8; holding [v] (truthy v)) := by intro _; rfl)
    (hs : swapsWith (.Constant (.str s) jj p12) (some (.Name v p11)) p13.line X.env = pure false := by rfl) (hfn : X.fn v = true ∨ X.env.scope.names.lookup v = some .local := by first | exact .inl rfl | exact .inr rfl) :
    PS (X.suite a ((a, oe) :: pn)) (.If (.BoolOp .And [.Call (.Name "isinstance" p1) [.Name x p2, .Name A p3] [] p4, .UnaryOp .Not (.Call (.Name "isinstance" p5) [.Name x p6, .Name B p7] [] p8) p9] p10) [.Assign [.Name v p11] (.Constant (.str s) jj p12) p13] [] p14) (ts1 X.K i j a cls d CA CB s) := by
  have eA : PE (X.suite a ((a, oe) :: pn)) (.Call (.Name "isinstance" p1) [.Name x p2, .Name A p3] [] p4) (teIs X.K i a cls d (.ref CA)) := pe_isE hz hf hm gA hN hv hg hgA hd hcd hdA he hpl
  have eB : PE (X.suite a ((a, oe) :: pn)) (.Call (.Name "isinstance" p5) [.Name x p6, .Name B p7] [] p8) (teIs X.K i a cls d (.ref CB)) := pe_isE hz hf hm gB hN hv hg hgB hd hcd hdB he2 hpl2
  refine PS.weak (ps_if (PW.pt (pw_and (pt_val eA ht) (pw_and1 (pt_not (pt_val eB ht2))))) (pss_one (ps_set (X := X.suite a ((a, oe) :: pn)) nd hN2 hl pe_str hs hfn)) pss_nil) fun D σ H h => ?_
  obtain ⟨Dc, bA, bB, e1, e2, hE, hsl, k1, k2, q⟩ := h
  refine ⟨Dc, bA, e1, e2, hE, hsl, k1, bA, rfl, ?_⟩
  cases bA with
  | false => exact q
  | true =>
    refine ⟨Dc, bB, e1, e2, hE, hsl, k2, bB, rfl, ?_⟩
    cases bB with
    | true => exact q
    | false => exact q
/-- the suites' outcome, told of the error's number -/
def hIf (i j : Nat) (dec : Nat → Option (Option Str)) (x : Ex) : SF := fun ρ => match x.args, dec x.cls with
  | [], some (some s) => if j = i then .stuck else if noIo ρ j then .ok .next (ρ.set j (.d (.str s))) else .stuck
  | [], some none => .ok .next ρ
  | _, _ => .stuck
theorem ex_none {x : Ex} {cls : Value} {d : Option Addr} (R : ExRep G Y F x cls d) (ha : x.args = []) (hY : Y.att x.cls ≠ []) : d = none := by
  rcases R.2 with h | ⟨a, fs, h1, h2, h3, h4⟩
  · exact h.2
  · rw [ha] at h4
    have hl := h4.length
    rw [List.length_map, List.length_nil] at hl
    have : fs = [] := List.eq_nil_of_length_eq_zero hl
    rw [this] at h3
    exact absurd h3.symm hY
theorem st_at {i : Nat} {sl : Sl} (S : StOk G B F H σ ρ) (h : ρ[i]? = some sl) (z : Option V) : (σ.set i z)[i]? = some z := by
  have := lt_of_get h
  rw [List.getElem?_set_self (by rw [S.len]; exact this)]
/-- how one condition decides -/
def Dec (K : PySem.W.Frag) (Y : Xi) (A B : Addr) (s : Str) (dec : Nat → Option (Option Str)) : Prop := ∀ c o, dec c = some o → ExcC K (Y.cls c) ∧ Y.att c ≠ [] ∧ ∃ bA bB, PySem.W.kitOne K (.ref (Y.cls c)) (.ref A) = some bA ∧ PySem.W.kitOne K (.ref (Y.cls c)) (.ref B) = some bB ∧ o = if bA && !bB then some s else none
theorem hd_if1 {i j : Nat} {m : Nat → Option Bool} {CA CB : Addr} {s : Str} {dec : Nat → Option (Option Str)} (hD : Dec G.K Y CA CB s dec) : HdOk G Y i m (hIf i j dec) (fun a cls d => ts1 G.K i j a cls d CA CB s) := by
  intro W D B F H σ ρ x a cls d _ S hi R p
  unfold hIf at p
  cases ha : x.args with
  | cons y ys => rw [ha] at p; exact p.elim
  | nil =>
    rw [ha] at p
    cases hd : dec x.cls with
    | none => rw [hd] at p; exact p.elim
    | some o =>
      rw [hd] at p
      obtain ⟨hE, hY, bA, bB, k1, k2, ho⟩ := hD _ _ hd
      refine ⟨Y.cls x.cls, bA, bB, R.1, ex_none R ha hY, hE, st_at S hi _, k1, k2, ?_⟩
      cases o with
      | some s' =>
        by_cases hq : (bA && !bB) = true
        · rw [if_pos hq] at ho ⊢
          cases ho
          have p' : PostS G Y B W D F (if j = i then .stuck else if noIo ρ j then .ok .next (ρ.set j (.d (.str s))) else .stuck) := p
          by_cases hji : j = i
          · rw [if_pos hji] at p'; exact p'.elim
          · rw [if_neg hji] at p'
            by_cases hno : noIo ρ j = true
            · rw [if_pos hno] at p'
              refine p' _ F H Sub.rfl ?_
              have S1 := S.setNo (z := some (.ref a)) hi
              have S2 := S1.setD (noIo_ne hno) (d := .str s) (v := .str s) (.str _)
              exact S2.setNo (by rw [List.getElem?_set_ne hji]; exact hi)
            · rw [if_neg hno] at p'; exact p'.elim
        · rw [if_neg hq] at ho; cases ho
      | none =>
        by_cases hq : (bA && !bB) = true
        · rw [if_pos hq] at ho; cases ho
        · rw [if_neg hq]
          have p' : PostS G Y B W D F (.ok .next ρ) := p
          exact p' _ F H Sub.rfl ((S.setNo (z := some (.ref a)) hi).setNo hi)
/-! ### raise X(v), X with a field of its own -/
def spX1 (K : PySem.W.Frag) (C : Addr) (f : Str) : Sp := fun vs H Q _ => ∃ (a : Addr) (y : V), vs = [.ref a, y] ∧ H a = some (exo a C none) ∧ ∀ dx, H dx = none → dx ≠ a → Q .non (upd (upd H dx (exd dx [(f, y)])) a (exo a C (some dx)))
theorem init1_ok {P : Program} {w : World} {K : PySem.W.Frag} {mg : Str → Option Value} {base : Heap} {fl qual : Str} {st : Stmt} {f : Addr} {fd : FuncData} {p1 p2 p3 p4 : Pos} {C : Addr} (T : OexC K C) (hno : PySem.W.findIn K (.ref C) fl = some none) (Fn : Fun K "__init__" qual st f fd) (S : FnScope ["self", fl] ["self", fl] (defScope st))
    (hb : defBody st = [.Assign [.Attribute (.Name "self" p1) fl p2] (.Name fl p3) p4]) (h0 : (defScope st).names.lookup ("self" : Str) = some .local) (h1 : (defScope st).names.lookup fl = some .local)
    (hd : (fl == ("__debug__" : Str)) = false) (hcd : (fl == ("__classdict__" : Str)) = false) (n : Nat) : FnOk P w K mg base (L2.CX P w) (n + 1) f fd ["self", fl] (spX1 K C fl) := by
  refine Fn.okX S (fun vs H Q E h => by obtain ⟨a, y, e, _⟩ := h; rw [e]; rfl) fun cdv A outer s H vs Q E _ h => ?_
  obtain ⟨a, y, rfl, ea, q⟩ := h
  rw [hb]
  refine ⟨_, pss_one (ps_ost (pe_var (i := 0) rfl (.inl h0)) (pe_var (i := 1) rfl (.inl h1) hd hcd)), ?_⟩
  exact ⟨y, rfl, .ref a, rfl, a, C, rfl, T, hno, .inl ⟨ea, fun dx n ne => q dx n ne⟩⟩
def fRaise1 (c : Nat) (f : EF) : SF := fun ρ => (opd f ρ).bind fun r ρ1 => (frz r ρ1).bind fun d ρ2 => .exc ⟨c, [d]⟩ ρ2
theorem js_raise1 (c : Nat) {x fl : Str} {fI : Addr} {fd : FuncData} (C : Ctx X G W k) (C1 : Room (k + 1) X.A) (T : OexC X.K (Y.cls c)) (hY : Y.att c = [fl]) (gC : X.mg x = some (.ref (Y.cls c))) (iC : PySem.W.findIn X.K (.ref (Y.cls c)) "__init__" = some (some (.ref fI))) (tI : PySem.W.typeIn X.K (.ref fI) = some (.type "function"))
    (F1 : FnOk X.prog X.w X.K X.mg X.base (L2.CX X.prog X.w) k fI fd ["self", fl] (spX1 X.K (Y.cls c) fl)) (hb : Binds X.K fd ["self", fl] []) (h : JE X G Y W e fa) (hg : Gl X x := by rfl) (hdb : (x == ("__debug__" : Str)) = false := by decide)
    (he : starEach [e] X.env = (false, eval e X.env) :: starEach [] X.env := by rfl) (hpl : (backTo pos (starEach [] X.env)).any (·.1) = false := by rfl) :
    JS X G Y W (.Raise (some (.Call (.Name x p) [e] [] pos)) none pos') (fRaise1 c fa) := by
  refine PS.weak (ps_raise C.calm C.tk (pmk_oex T iC tI F1 C1 hb .nil (passes_call C.tk fun _ _ _ _ h => h.elim) hg gC (pa_cons h pa_nil he) hdb he hpl)) fun D σ H q => ?_
  obtain ⟨B, F, ρ, S, p⟩ := q
  refine tE_opd ⟨B, F, ρ, S, Post.ofG (PostS.seqG p fun r ρ1 F1 H1 _ e1 S1 p1 u R => ?_)⟩
  obtain ⟨d, ρ2, F2, _, e2, S2, r2, p2⟩ := frz_post (Pp := fun o F => PostS G Y B W D F o) S1 R (fun _ h => h) (fun _ _ _ e h => h.mono e) p1
  refine ⟨by simp, fun a ha => ⟨a, u, rfl, upd_same, fun dx hn ne => ⟨rfl, dx, [(fl, u)], upd_same, ?_, ?_, ?_⟩⟩⟩
  · rw [upd_ne ne, upd_same]
  · rw [upd_ne ne] at hn; exact hn
  · have hn1 : H1 dx = none := by rw [upd_ne ne] at hn; exact hn
    have eH : upd (del (upd (upd (upd H1 a (exo a (Y.cls c) none)) dx (exd dx [(fl, u)])) a (exo a (Y.cls c) (some dx))) a) dx (.xd [(fl, u)]) = upd H1 dx (.xd [(fl, u)]) := by
      funext b
      by_cases hb : b = dx
      · rw [hb, upd_same, upd_same]
      · rw [upd_ne hb, upd_ne hb]
        by_cases hba : b = a
        · rw [hba, del_same, ha]
        · rw [del_ne hba, upd_ne hba, upd_ne hb, upd_ne hba]
    rw [eH]
    have S3 := S2.laid (o := .xd [(fl, u)]) hn1
    have e3 : Sub F2 (upd F2 dx (.xd [(fl, u)])) := Sub.new (S2.fh.free hn1)
    exact p2 _ _ σ _ _ e3 S3 ⟨rfl, .inr ⟨dx, [(fl, u)], rfl, upd_same, hY.symm, .cons (r2.mono e3 _) .nil⟩⟩
/-! ### the suite: v = e.f -/
def hFld (i j c : Nat) (x : Ex) : SF := fun ρ => match x.args with
  | [y] => if j = i then .stuck else if x.cls = c then (if noIo ρ j then .ok .next (ρ.set j (.d y)) else .stuck) else .stuck
  | _ => .stuck
theorem hd_fld {i j c : Nat} {m : Nat → Option Bool} {fl : Str} (hY : Y.att c = [fl]) : HdOk G Y i m (hFld i j c) (fun a cls d => tAsg (tXf a cls d (Y.cls c) fl (tVar i)) (gName j)) := by
  intro W D B F H σ ρ x a cls d _ S hi R p
  unfold hFld at p
  cases ha : x.args with
  | nil => rw [ha] at p; exact p.elim
  | cons y ys =>
    cases ys with
    | cons y2 ys => rw [ha] at p; exact p.elim
    | nil =>
      rw [ha] at p
      have p' : PostS G Y B W D F (if j = i then .stuck else if x.cls = c then (if noIo ρ j then .ok .next (ρ.set j (.d y)) else .stuck) else .stuck) := p
      by_cases hji : j = i
      · rw [if_pos hji] at p'; exact p'.elim
      · rw [if_neg hji] at p'
        by_cases hc : x.cls = c
        · rw [if_pos hc] at p'
          by_cases hno : noIo ρ j = true
          · rw [if_pos hno] at p'
            subst hc
            rcases R.2 with h | ⟨dd, fs, h1, h2, h3, h4⟩
            · rw [ha] at h; cases h.1
            · rw [hY] at h3
              rw [ha] at h4
              match fs, h3, h4 with
              | [(f1, v)], h3, h4 =>
                have hf1 : f1 = fl := by simpa using h3
                subst hf1
                have hv : Rep G F v y := by
                  cases h4 with
                  | cons r _ => exact r
                refine ⟨.ref a, st_at S hi _, rfl, R.1, dd, [(f1, v)], v, h1, S.fh _ _ h2, ?_, ?_⟩
                · simp
                · refine p' _ F H Sub.rfl ?_
                  have S1 := S.setNo (z := some (.ref a)) hi
                  have S2 := S1.setD (noIo_ne hno) hv
                  exact S2.setNo (by rw [List.getElem?_set_ne hji]; exact hi)
          · rw [if_neg hno] at p'; exact p'.elim
        · rw [if_neg hc] at p'; exact p'.elim
theorem pss_fld {i j : Nat} {a C : Addr} {oe : Obj} {cls : Value} {d : Option Addr} {pn : List (Addr × Obj)} {x v fl : Str} {p1 p2 p3 p4 : Pos} (nd : X.N.Nodup) (T : XfC X.K C) (hno : PySem.W.findIn X.K (.ref C) fl = some none) (hz : Zc cls d oe) (hf : ∃ vs, oe.data = .fields vs)
    (hN : X.N[i]? = some x := by rfl) (hN2 : X.N[j]? = some v := by rfl) (hv : Vis X.env.scope x := by first | exact Or.inl rfl | exact Or.inr (Or.inl rfl)) (hl : Loc X.env.scope v := by first | exact Or.inl rfl | exact Or.inr rfl)
    (hd : (x == ("__debug__" : Str)) = false := by decide) (hcd : (x == ("__classdict__" : Str)) = false := by decide) (hb : attributeBase (.Name x p2) fl X.env (eval (.Name x p2) X.env) = eval (.Name x p2) X.env := by rfl)
    (hs : swapsWith (.Attribute (.Name x p2) fl p3) (some (.Name v p1)) p4.line X.env = pure false := by rfl) (hfn : X.fn v = true ∨ X.env.scope.names.lookup v = some .local := by first | exact .inl rfl | exact .inr rfl) :
    PSs (X.suite a ((a, oe) :: pn)) [.Assign [.Name v p1] (.Attribute (.Name x p2) fl p3) p4] (tAsg (tXf a cls d C fl (tVar i)) (gName j)) :=
  pss_one (ps_set (X := X.suite a ((a, oe) :: pn)) nd hN2 hl (pe_xf T hno hz hf (pe_var hN hv hd hcd) hb) hs hfn)
/-! ### two conditions one behind another -/
def Dec2 (K : PySem.W.Frag) (Y : Xi) (A B : Addr) (s : Str) (A2 B2 : Addr) (s2 : Str) (dec : Nat → Option (Option Str)) : Prop := ∀ c o, dec c = some o → ∃ o1 o2 : Option Str, Dec K Y A B s (fun z => if z = c then some o1 else none) ∧ Dec K Y A2 B2 s2 (fun z => if z = c then some o2 else none) ∧ o = (match o2 with | some z => some z | none => o1)
theorem hd_if2 {i j : Nat} {m : Nat → Option Bool} {CA CB CA2 CB2 : Addr} {s s2 : Str} {dec : Nat → Option (Option Str)} (hD : Dec2 G.K Y CA CB s CA2 CB2 s2 dec) : HdOk G Y i m (hIf i j dec) (fun a cls d => tSeq (ts1 G.K i j a cls d CA CB s) (ts1 G.K i j a cls d CA2 CB2 s2)) := by
  intro W D B F H σ ρ x a cls d _ S hi R p
  unfold hIf at p
  cases ha : x.args with
  | cons y ys => rw [ha] at p; exact p.elim
  | nil =>
    rw [ha] at p
    cases hd : dec x.cls with
    | none => rw [hd] at p; exact p.elim
    | some o =>
      rw [hd] at p
      obtain ⟨o1, o2, D1, D2, ho⟩ := hD _ _ hd
      obtain ⟨hE, hY, bA, bB, k1, k2, ho1⟩ := D1 x.cls o1 (if_pos rfl)
      obtain ⟨_, _, bA2, bB2, k3, k4, ho2⟩ := D2 x.cls o2 (if_pos rfl)
      have hdn := ex_none R ha hY
      have S1 := S.setNo (z := some (.ref a)) hi
      have a0 : (σ.set i (some (V.ref a)))[i]? = some (some (.ref a)) := st_at S hi _
      -- what is wanted in the end
      have fin : ∀ (σ2 : L2.St), (o = none → σ2 = σ.set i (some (V.ref a))) → (∀ z, o = some z → σ2 = (σ.set i (some (V.ref a))).set j (some (.str z))) → D.nx (σ2.set i none) H := fun σ2 g1 g2 => by
        cases o with
        | none =>
          have p' : PostS G Y B W D F (.ok .next ρ) := p
          rw [g1 rfl]
          exact p' _ F H Sub.rfl (S1.setNo hi)
        | some z =>
          have p' : PostS G Y B W D F (if j = i then .stuck else if noIo ρ j then .ok .next (ρ.set j (.d (.str z))) else .stuck) := p
          by_cases hji : j = i
          · rw [if_pos hji] at p'; exact p'.elim
          · rw [if_neg hji] at p'
            by_cases hno : noIo ρ j = true
            · rw [if_pos hno] at p'
              rw [g2 z rfl]
              refine p' _ F H Sub.rfl ?_
              exact (S1.setD (noIo_ne hno) (d := .str z) (v := .str z) (.str _)).setNo (by rw [List.getElem?_set_ne hji]; exact hi)
            · rw [if_neg hno] at p'; exact p'.elim
      have hji : o ≠ none → j ≠ i := fun hn e => by
        cases o with
        | none => exact hn rfl
        | some z =>
          have p' : PostS G Y B W D F (if j = i then .stuck else if noIo ρ j then .ok .next (ρ.set j (.d (.str z))) else .stuck) := p
          rw [if_pos e] at p'
          exact p'.elim
      refine ⟨Y.cls x.cls, bA, bB, R.1, hdn, hE, a0, k1, k2, ?_⟩
      by_cases q1 : (bA && !bB) = true
      · rw [if_pos q1] at ho1 ⊢
        have hon : o ≠ none := fun e => by
          rw [e, ho1] at ho
          cases o2 <;> cases ho
        refine ⟨Y.cls x.cls, bA2, bB2, R.1, hdn, hE, by rw [List.getElem?_set_ne (hji hon)]; exact a0, k3, k4, ?_⟩
        by_cases q2 : (bA2 && !bB2) = true
        · rw [if_pos q2] at ho2 ⊢
          rw [ho2] at ho
          refine fin _ (fun e => absurd e hon) fun z e => ?_
          rw [e] at ho
          cases ho
          rw [List.set_set]
        · rw [if_neg q2] at ho2 ⊢
          rw [ho2, ho1] at ho
          refine fin _ (fun e => absurd e hon) fun z e => ?_
          rw [e] at ho
          cases ho
          rfl
      · rw [if_neg q1] at ho1 ⊢
        refine ⟨Y.cls x.cls, bA2, bB2, R.1, hdn, hE, a0, k3, k4, ?_⟩
        by_cases q2 : (bA2 && !bB2) = true
        · rw [if_pos q2] at ho2 ⊢
          rw [ho2] at ho
          refine fin _ (fun e => by rw [e] at ho; cases ho) fun z e => ?_
          rw [e] at ho
          cases ho
          rfl
        · rw [if_neg q2] at ho2 ⊢
          rw [ho2, ho1] at ho
          exact fin _ (fun _ => rfl) fun z e => by rw [e] at ho; cases ho
/-! ### what the text's part says -/
theorem kitOne_ref {K : PySem.W.Frag} {t C : Addr} {b : Bool} (hdct : PySem.W.hasDictIn K C = true) (ht : PySem.W.typeIn K (.ref C) = some (.type "type")) (hs : PySem.W.subIn K (.ref t) (.ref t) = some true) (h : PySem.W.subIn K (.ref t) (.ref C) = some b) : PySem.W.kitOne K (.ref t) (.ref C) = some b := by
  unfold PySem.W.kitOne
  by_cases e : t = C
  · subst e
    rw [if_pos (by simp), ← hs, h]
  · rw [if_neg (by simpa using e)]
    unfold PySem.W.kitCls
    obtain ⟨cd, hc, _⟩ := PySem.W.any_some hdct
    show (if ((PySem.W.clsIn K C).isSome && PySem.W.typeIn K (.ref C) == some (.type "type")) = true then PySem.W.subIn K (.ref t) (.ref C) else none) = _
    rw [if_pos (by rw [hc, ht]; simp), h]
structure Ox (K : PySem.W.Frag) (mg : Str → Option Value) (x : Str) (C : Addr) (fl : Str) : Prop where
  gC : mg x = some (.ref C)
  ox : OexC K C
  xf : XfC K C
  no : PySem.W.findIn K (.ref C) fl = some none
def ExOk (P : Program) (w : World) (K : PySem.W.Frag) (mg : Str → Option Value) (base : Heap) (C : Addr) (fl : Str) (k : Nat) : Prop := ∃ (fI : Addr) (fd : FuncData), PySem.W.findIn K (.ref C) "__init__" = some (some (.ref fI)) ∧ PySem.W.typeIn K (.ref fI) = some (.type "function") ∧
  FnOk P w K mg base (L2.CX P w) k fI fd ["self", fl] (spX1 K C fl) ∧ Binds K fd ["self", fl] []
theorem js_raise1e (c : Nat) {x fl : Str} (C : Ctx X G W k) (C1 : Room (k + 1) X.A) (T : Ox X.K X.mg x (Y.cls c) fl) (hY : Y.att c = [fl]) (E : ExOk X.prog X.w X.K X.mg X.base (Y.cls c) fl k) (h : JE X G Y W e fa) (hg : Gl X x := by rfl) (hdb : (x == ("__debug__" : Str)) = false := by decide)
    (he : starEach [e] X.env = (false, eval e X.env) :: starEach [] X.env := by rfl) (hpl : (backTo pos (starEach [] X.env)).any (·.1) = false := by rfl) :
    JS X G Y W (.Raise (some (.Call (.Name x p) [e] [] pos)) none pos') (fRaise1 c fa) := by
  obtain ⟨fI, fd, iC, tI, F1, hb⟩ := E
  exact js_raise1 c C C1 T.ox hY T.gC iC tI F1 hb h hg hdb he hpl
end
end Nz

set_option Elab.async false
set_option linter.all false
set_option maxRecDepth 100000
set_option maxHeartbeats 4000000
/-! NzF: text[::-1]. -/
namespace Nz
open PySem L2 PySem.Spec PyProof.Rows
def revS (z : Str) : Str := ⟨z.cps.toList.reverse.toArray⟩
theorem fm_all {α : Type} (l : List α) : ∀ n, n = l.length → (List.range n).filterMap (fun k => l[k]?) = l := by
  induction l with
  | nil => intro n h; subst h; rfl
  | cons a l ih =>
    intro n h
    subst h
    rw [List.length_cons, List.range_succ_eq_map, List.filterMap_cons]
    simp only [List.getElem?_cons_zero]
    rw [List.filterMap_map]
    congr 1
    have := ih l.length rfl
    refine Eq.trans ?_ this
    congr 1
theorem picked_rev (z : Str) : ((Builtin.Str.strSliceIndices none none (-1) z.length).filterMap (z.cps[·]?)).toArray = z.cps.toList.reverse.toArray := by
  have e : Builtin.Str.strSliceIndices none none (-1) z.length = (List.range z.length).reverse := by
    unfold Builtin.Str.strSliceIndices sliceRange
    have h1 : ¬ ((-1 : Int) > 0) := by decide
    simp only [h1, if_false]
    have hc : (if (z.length : Int) - 1 > -1 then ((z.length : Int) - 1 - -1 - -1 - 1) / (- -1) else 0).toNat = z.length := by
      by_cases h : (z.length : Int) - 1 > -1
      · rw [if_pos h]
        have e2 : ((z.length : Int) - 1 - -1 - -1 - 1) / (- -1) = (z.length : Int) := by
          rw [show (- -1 : Int) = 1 by decide, Int.ediv_one]
          omega
        rw [e2, Int.toNat_natCast]
      · rw [if_neg h]
        omega
    rw [hc, ← HT.rev_range]
    apply List.map_congr_left
    intro k hk
    have := List.mem_range.mp hk
    omega
  rw [e, List.filterMap_reverse]
  congr 2
  have h := fm_all z.cps.toList z.length (by rw [Array.length_toList]; rfl)
  refine Eq.trans ?_ h
  congr 1
  funext k
  rw [Array.getElem?_toList]
def tRevS (te : TE) (ts : TO) : TE := fun σ H Q => te σ H fun x H1 => ts σ H1 fun o H2 => o = some (-1) ∧ ∃ z, x = .str z ∧ z.length ≤ sizeLine ∧ Q (.str (revS z)) H2
section
variable {X : Cx} {e st : Expr} {te : TE} {ts : TO} {pos p2 : Pos}
theorem pe_revS (he : PE X e te) (hs : PO X (some st) ts) : PE X (.Subscript e (.Slice none none (some st) p2) pos) (tRevS te ts) := by
  refine ⟨fun pins s σ H Q I h => ?_⟩
  refine Subscript_ (thn (he.run pins s σ H _ I h) fun v s1 ⟨x, H1, I1, r1, q1⟩ => ?_)
  refine wpAny_Slice ?_
  rw [evalPart_none]
  refine wpAny_pure (wpAny_pure ?_)
  refine thn (hs.run pins s1 σ H1 _ I1 q1) fun vk s3 ⟨o, H3, I3, pk, q3⟩ => ?_
  obtain ⟨rfl, z, rfl, hz, q⟩ := q3
  obtain ⟨t, rfl⟩ := r1
  have I4 : Inv X pins σ H3 { s3 with heap := s3.heap.push { cls := .type "slice", data := .fields #[.none, .none, vk] } } := I3.kept (t' := s3.toks) fun b ob q => Heap.get?_push_of_some _ q
  obtain ⟨w, rfl, hw⟩ := IsPart.raw pk
  have hg : wpAny (model X.prog X.w) X.A (getItem (.str z t) (.ref s3.heap.objs.size)) (EP X pins σ Q) X.xe { s3 with heap := s3.heap.push { cls := .type "slice", data := .fields #[.none, .none, partValue w] } } := by
    refine wpAny_getItem_str_slice (l := none) (u := none) (st := w) ⟨_, Heap.get?_push_size _ rfl, rfl, rfl⟩ (by rw [hw]; rfl) ?_
    unfold sliceMade slicePicked
    rw [hw]
    have hn : ((Option.getD (some (-1 : Int)) 1 == 1 && (Builtin.Str.strSliceIndices (Option.map (fun x => x.1) (none : Option (Int × Tok))) (Option.map (fun x => x.1) (none : Option (Int × Tok))) (Option.getD (some (-1 : Int)) 1) z.length).length == z.length) = true) = False := by
      simp
    rw [if_neg (by rw [hn]; exact id)]
    show Made.post (Made.str ⟨((Builtin.Str.strSliceIndices none none (-1) z.length).filterMap (z.cps[·]?)).toArray⟩) (EP X pins σ Q) _
    rw [picked_rev]
    refine ⟨?_, .str _, H3, I4.tok _, ⟨_, rfl⟩, q⟩
    show z.cps.toList.reverse.toArray.size ≤ sizeLine
    rw [List.size_toArray, List.length_reverse, Array.length_toList]
    exact hz
  show wpAny (model X.prog X.w) X.A (subscriptTail e (.Slice none none (some st) p2) (.str z t) (.ref s3.heap.objs.size)) (EP X pins σ Q) X.xe { s3 with heap := s3.heap.push { cls := .type "slice", data := .fields #[.none, .none, partValue w] } }
  exact tail_any (ops := [.str z t, .ref s3.heap.objs.size]) (typeIs_str _ _ _) F.slot_str_getitem.lookup hg (by with_unfolding_all rfl)
end
section
variable {G : Gi} {Y : Xi} {W : WX} {B : Bs} {F H : Hp} {σ : L2.St} {ρ ρ' : Env} {X : Cx} {k : Nat} {e st : Expr} {fa : EF} {fs : OF} {pos p2 : Pos}
def gRevS (a : D) (o : Option Int) : Option Pr := match a, o with
  | .str z, some i => if i = -1 then (if z.length ≤ 100000 then some (.d (.str (revS z))) else none) else none
  | _, _ => none
def fRevS (fa : EF) (hi : OF) : EF := fun ρ => (opd fa ρ).bind fun a ρ1 => (hi ρ1).bind fun u ρ2 => ofP ρ2 ((res ρ2 a).bind fun x => gRevS x u)
theorem t_revS {fa : EF} {hi : OF} {Q : VK} (h : tE G Y W (fRevS fa hi) σ H Q) : tRevS (tE G Y W fa) (tO G Y W hi) σ H Q := by
  obtain ⟨B, F, ρ, S, p⟩ := h
  refine tE_opd ⟨_, F, ρ, S, Post.ofG (PostG.seq p.g fun a ρ1 F1 H1 ha e1 S1 p1 u R => ?_)⟩
  refine ⟨_, F1, ρ1, S1, PostG.seq p1 fun l ρ2 F2 H2 _ e2 S2 p2 => ?_⟩
  obtain ⟨pr, hpr, q⟩ := Post.ofP S2 (Post.ofG p2)
  have R' : RvRep G B F2 H2 σ ρ2 u a := flat_stays (opd_flat ha) e2 R
  cases hra : res ρ2 a with
  | none => rw [hra] at hpr; cases hpr
  | some x =>
    rw [hra] at hpr
    have hpr' : gRevS x l = some pr := hpr
    unfold gRevS at hpr'
    split at hpr'
    · rename_i z i
      split at hpr'
      · rename_i hi'
        split at hpr'
        · rename_i hz
          cases hpr'
          have hx := S2.opd R' hra
          rw [opd_str hx]
          exact ⟨by rw [hi'], _, rfl, le_line hz, q _ (.str _)⟩
        · cases hpr'
      · cases hpr'
    · cases hpr'
theorem je_revS (h : JE X G Y W e fa) (hs : JO X G Y W (some st) fs) : JE X G Y W (.Subscript e (.Slice none none (some st) p2) pos) (fRevS fa fs) :=
  PE.weak (pe_revS h hs) fun _ _ _ => t_revS
end
/-! ### greater, of texts too -/
def gGtA (a b : D) : Option Pr := match a, b with
  | .int i, .int j => some (.d (.bl (decide (j < i))))
  | .str s, .str t => some (.d (.bl (decide (t.cps.toList < s.cps.toList))))
  | _, _ => none
def rGtA : R2 := fun x y H Q => (rI0 fun i j => .bl (decide (j < i))) x y H Q ∨ ∃ i j, x = .str i ∧ y = .str j ∧ Q (.bl (decide (j.cps.toList < i.cps.toList))) H
theorem o_gtA {X : Cx} : OpR X (compareOp .Gt) rGtA := op_gt.or op_gt_str
theorem s_gtA {G : Gi} : OpS G rGtA gGtA := by
  intro F H x y a b pr hF hx hy hg Q hq
  unfold gGtA at hg
  split at hg
  · cases hg
    obtain rfl := opd_int hx
    obtain rfl := opd_int hy
    exact .inl ⟨_, _, rfl, rfl, hq _ (.bl _)⟩
  · cases hg
    obtain rfl := opd_str hx
    obtain rfl := opd_str hy
    exact .inr ⟨_, _, rfl, rfl, hq _ (.bl _)⟩
  · cases hg
/-! ### the greatest of a list of ints -/
def maxL (a : Int) : List Int → Int
  | [] => a
  | b :: r => maxL (if b > a then b else a) r
theorem maxL_mem : ∀ (r : List Int) (a : Int), maxL a r ∈ a :: r
  | [], a => by show a ∈ [a]; simp
  | b :: r, a => by
    have h := maxL_mem r (if b > a then b else a)
    show maxL (if b > a then b else a) r ∈ a :: b :: r
    rcases List.mem_cons.mp h with h | h
    · rw [h]
      split <;> simp
    · simp [h]
theorem maxL_ge : ∀ (r : List Int) (a : Int), ∀ y ∈ a :: r, y ≤ maxL a r
  | [], a, y, h => by rw [List.mem_singleton.mp h]; exact Int.le_refl _
  | b :: r, a, y, h => by
    have ih := maxL_ge r (if b > a then b else a)
    have h0 := ih _ (List.mem_cons_self ..)
    show y ≤ maxL (if b > a then b else a) r
    rcases List.mem_cons.mp h with rfl | h
    · refine Int.le_trans ?_ h0
      split <;> omega
    · rcases List.mem_cons.mp h with rfl | h
      · refine Int.le_trans ?_ h0
        split <;> omega
      · exact ih y (List.mem_cons_of_mem _ h)
def gMaxL (as : List D) : Option Pr := match as with
  | [.lst ds] => (intsOf ds).bind fun ns => match ns with
    | [] => none
    | a :: r => some (.d (.int (maxL a r)))
  | _ => none
theorem s_maxL {G : Gi} : CaS G (rMax G.K) gMaxL := by
  intro F H xs as pr hF hx hg Q hq
  unfold gMaxL at hg
  split at hg
  · rename_i ds
    obtain ⟨u, rfl, hu⟩ := opds1 hx
    obtain ⟨p, ys, rfl, h1, h2⟩ := opd_lst hF hu
    cases q : intsOf ds with
    | none => rw [q] at hg; cases hg
    | some ns =>
      rw [q] at hg
      cases ns with
      | nil => cases hg
      | cons a r =>
        cases hg
        obtain rfl := intsOf_rep q h2
        refine ⟨p, a :: r, rfl, .inl (.inl h1), by simp, fun m hm hge => ?_⟩
        have e : m = maxL a r := Int.le_antisymm (maxL_ge r a m hm) (hge _ (maxL_mem r a))
        rw [e]
        exact hq _ (.int _)
  · cases hg
theorem gMaxL_of {ns : List Int} {m : Int} (h1 : m ∈ ns) (h2 : ∀ y ∈ ns, y ≤ m) : gMaxL [.lst (ns.map D.int)] = some (.d (.int m)) := by
  have e : ∀ ns : List Int, intsOf (ns.map D.int) = some ns := fun ns => by
    induction ns with
    | nil => rfl
    | cons a r ih => show (intsOf (r.map D.int)).map (a :: ·) = _; rw [ih]; rfl
  show (intsOf (ns.map D.int)).bind _ = _
  rw [e]
  cases ns with
  | nil => cases h1
  | cons a r =>
    have e2 : m = maxL a r := Int.le_antisymm (maxL_ge r a m h1) (h2 _ (maxL_mem r a))
    rw [e2]
    rfl
end Nz

set_option Elab.async false
set_option linter.all false
set_option maxRecDepth 100000
set_option maxHeartbeats 4000000
/-! Nz17: comprehensions and loops by induction. -/
namespace Nz
open PySem L2
section
variable {t : GF} {c : TF} {e : EF} {vs : List Nat} {ρ ρ1 ρ2 ρ3 : Nz.Env} {d x : D} {ds acc : List D} {i : Nat}
theorem compL_t (h1 : t d ρ = some ρ1) (h2 : c ρ1 = .ok true ρ2) (h3 : opd e ρ2 = .ok (.d x) ρ3) (h4 : vs.all (noIo ρ3) = true) (h5 : acc.length ≤ 100000) : compL t c e vs (d :: ds) acc ρ = compL t c e vs ds (acc ++ [x]) (wipeE ρ3 vs) := by
  show (ofO (t d ρ)).bind _ = _
  rw [h1]
  simp only [ofO_some, Out.bind_ok, h2, if_true, h3, frz_d, h4, lim_pos h5]
theorem compL_f (h1 : t d ρ = some ρ1) (h2 : c ρ1 = .ok false ρ2) (h4 : vs.all (noIo ρ2) = true) : compL t c e vs (d :: ds) acc ρ = compL t c e vs ds acc (wipeE ρ2 vs) := by
  show (ofO (t d ρ)).bind _ = _
  rw [h1]
  simp only [ofO_some, Out.bind_ok, h2, h4, if_true, Bool.false_eq_true, if_false]
theorem set_no (h : ρ[i]? = some .no) : ρ.set i .no = ρ := by
  obtain ⟨hl, he⟩ := List.getElem?_eq_some_iff.mp h
  rw [← he, List.set_getElem_self]
theorem noIo_set {s : D} (h : i < ρ.length) : noIo (ρ.set i (.d s)) i = true := by
  unfold noIo
  rw [List.getElem?_set_self h]
theorem noIo_at_no (h : ρ[i]? = some .no) : noIo ρ i = true := by unfold noIo; rw [h]
/-- one plain target, a test and an item without traces -/
theorem compL_pure {α : Type} {F : α → D} {keep : α → Bool} {val : α → D} (hi : ρ[i]? = some .no) : ∀ (xs : List α) (acc : List D), acc.length + xs.length ≤ 100000 →
    (∀ a ∈ xs, c (ρ.set i (.d (F a))) = .ok (keep a) (ρ.set i (.d (F a))) ∧ (keep a = true → opd e (ρ.set i (.d (F a))) = .ok (.d (val a)) (ρ.set i (.d (F a))))) →
    compL (gfName i) c e [i] (xs.map F) acc ρ = .ok (acc ++ (xs.filter keep).map val) ρ
  | [], acc, _, _ => by simp [compL]
  | a :: xs, acc, hl, hs => by
    have il : i < ρ.length := lt_of_get hi
    obtain ⟨h2, h3⟩ := hs a (by simp)
    have h1 : gfName i (F a) ρ = some (ρ.set i (.d (F a))) := by unfold gfName; rw [if_pos (noIo_at_no hi)]
    have h4 : ([i].all (noIo (ρ.set i (.d (F a))))) = true := by simp only [List.all_cons, List.all_nil, Bool.and_true]; exact noIo_set il
    have h5 : wipeE (ρ.set i (.d (F a))) [i] = ρ := by
      show ((ρ.set i (.d (F a))).set i .no) = ρ
      rw [List.set_set, set_no hi]
    simp only [List.length_cons] at hl
    rw [List.map_cons]
    cases q : keep a with
    | true =>
      rw [q] at h2
      rw [compL_t h1 h2 (h3 q) h4 (by omega), h5, compL_pure hi xs _ (by simp; omega) fun b hb => hs b (by simp [hb])]
      simp [q]
    | false =>
      rw [q] at h2
      rw [compL_f h1 h2 h4, h5, compL_pure hi xs _ (by omega) fun b hb => hs b (by simp [hb])]
      simp [q]
theorem compI_pure {α : Type} {F : α → D} {keep : α → Bool} {val : α → D} (hi : ρ[i]? = some .no) {xs : List α} (hl : xs.length ≤ 100000)
    (hs : ∀ a ∈ xs, c (ρ.set i (.d (F a))) = .ok (keep a) (ρ.set i (.d (F a))) ∧ (keep a = true → opd e (ρ.set i (.d (F a))) = .ok (.d (val a)) (ρ.set i (.d (F a))))) :
    compI (gfName i) c e [i] (xs.map F) ρ = .ok (.new (.lst ((xs.filter keep).map val))) ρ := by
  unfold compI
  have h1 : ([i].all (plainAt ρ)) = true := by simp [plainAt, hi]
  rw [if_pos h1]
  have h2 : wipeE ρ [i] = ρ := set_no hi
  rw [h2, compL_pure hi xs [] (by simpa using hl) hs]
  show Out.ok _ (restoreE ρ ρ [i]) = _
  have h3 : restoreE ρ ρ [i] = ρ := by
    show ρ.set i ((ρ[i]?).getD .no) = ρ
    rw [hi]
    exact set_no hi
  rw [h3, List.nil_append]
/-- the same, every item kept -/
theorem compI_map {α : Type} {F val : α → D} (hi : ρ[i]? = some .no) {xs : List α} (hl : xs.length ≤ 100000)
    (hs : ∀ a ∈ xs, opd e (ρ.set i (.d (F a))) = .ok (.d (val a)) (ρ.set i (.d (F a)))) :
    compI (gfName i) gTrue e [i] (xs.map F) ρ = .ok (.new (.lst (xs.map val))) ρ := by
  have := compI_pure (c := gTrue) (keep := fun _ => true) (F := F) (val := val) (e := e) hi hl fun a ha => ⟨rfl, fun _ => hs a ha⟩
  rw [this]
  have : xs.filter (fun _ => true) = xs := List.filter_eq_self.mpr fun _ _ => rfl
  rw [this]
inductive All2 {α β : Type} (P : α → β → Prop) : List α → List β → Prop
  | nil : All2 P [] []
  | cons {a : α} {b : β} {as : List α} {bs : List β} : P a b → All2 P as bs → All2 P (a :: as) (b :: bs)
theorem All2.length {α β : Type} {P : α → β → Prop} : ∀ {as : List α} {bs : List β}, All2 P as bs → as.length = bs.length
  | _, _, .nil => rfl
  | _, _, .cons _ h => by simp [h.length]
theorem All2.map {α β : Type} {f : α → β} : ∀ {as : List α} {bs : List β}, All2 (fun a b => b = f a) as bs → bs = as.map f
  | _, _, .nil => rfl
  | _, _, .cons h t => by rw [List.map_cons, h, t.map]
theorem All2.all {α β : Type} {P : α → β → Prop} {Q : β → Prop} (hq : ∀ a b, P a b → Q b) : ∀ {as : List α} {bs : List β}, All2 P as bs → ∀ b ∈ bs, Q b
  | _, _, .nil, _, h => by cases h
  | _, _, .cons h t, b, hb => by
    rcases List.mem_cons.mp hb with rfl | hb
    · exact hq _ _ h
    · exact t.all hq b hb
/-- with a cell that is drawn from: R t is the frame where the cell is t -/
theorem compL_io {α : Type} {F : α → D} {T : Cell → Prop} {R : Cell → Nz.Env} {P : α → D → Prop} (hi : ∀ k, (R k)[i]? = some .no) : ∀ (xs : List α) (acc : List D) (k : Cell), T k → acc.length + xs.length ≤ 100000 →
    (∀ a ∈ xs, ∀ k, T k → ∃ k' b, T k' ∧ c ((R k).set i (.d (F a))) = .ok b ((R k').set i (.d (F a))) ∧ (b = true → ∃ k'' y, T k'' ∧ P a y ∧ opd e ((R k').set i (.d (F a))) = .ok (.d y) ((R k'').set i (.d (F a))))) →
    ∃ k' zs ys, T k' ∧ List.Sublist zs xs ∧ All2 P zs ys ∧ compL (gfName i) c e [i] (xs.map F) acc (R k) = .ok (acc ++ ys) (R k')
  | [], acc, k, hk, _, _ => ⟨k, [], [], hk, .slnil, .nil, by simp [compL]⟩
  | a :: xs, acc, k, hk, hl, hs => by
    have il : ∀ k, i < (R k).length := fun k => lt_of_get (hi k)
    have h1 : gfName i (F a) (R k) = some ((R k).set i (.d (F a))) := by unfold gfName; rw [if_pos (noIo_at_no (hi k))]
    have h4 : ∀ k, ([i].all (noIo ((R k).set i (.d (F a))))) = true := fun k => by simp only [List.all_cons, List.all_nil, Bool.and_true]; exact noIo_set (il k)
    have h5 : ∀ k, wipeE ((R k).set i (.d (F a))) [i] = R k := fun k => by
      show (((R k).set i (.d (F a))).set i .no) = R k
      rw [List.set_set, set_no (hi k)]
    simp only [List.length_cons] at hl
    obtain ⟨k1, b, hk1, h2, h3⟩ := hs a (by simp) k hk
    cases b with
    | true =>
      obtain ⟨k2, y, hk2, hp, h3⟩ := h3 rfl
      obtain ⟨k3, zs, ys, hk3, q1, q2, q3⟩ := compL_io hi xs (acc ++ [y]) k2 hk2 (by simp; omega) fun b hb => hs b (by simp [hb])
      refine ⟨k3, a :: zs, y :: ys, hk3, .cons₂ _ q1, .cons hp q2, ?_⟩
      rw [List.map_cons, compL_t h1 h2 h3 (h4 k2) (by omega), h5, q3, List.append_assoc]
      rfl
    | false =>
      obtain ⟨k3, zs, ys, hk3, q1, q2, q3⟩ := compL_io hi xs acc k1 hk1 (by omega) fun b hb => hs b (by simp [hb])
      refine ⟨k3, zs, ys, hk3, .cons _ q1, q2, ?_⟩
      rw [List.map_cons, compL_f h1 h2 (h4 k1), h5, q3]
/-- nothing left out -/
theorem compL_ioM {α : Type} {F : α → D} {T : Cell → Prop} {R : Cell → Nz.Env} {P : α → D → Prop} (hi : ∀ k, (R k)[i]? = some .no) : ∀ (xs : List α) (acc : List D) (k : Cell), T k → acc.length + xs.length ≤ 100000 →
    (∀ a ∈ xs, ∀ k, T k → ∃ k'' y, T k'' ∧ P a y ∧ opd e ((R k).set i (.d (F a))) = .ok (.d y) ((R k'').set i (.d (F a)))) →
    ∃ k' ys, T k' ∧ All2 P xs ys ∧ compL (gfName i) gTrue e [i] (xs.map F) acc (R k) = .ok (acc ++ ys) (R k')
  | [], acc, k, hk, _, _ => ⟨k, [], hk, .nil, by simp [compL]⟩
  | a :: xs, acc, k, hk, hl, hs => by
    have il : ∀ k, i < (R k).length := fun k => lt_of_get (hi k)
    have h1 : gfName i (F a) (R k) = some ((R k).set i (.d (F a))) := by unfold gfName; rw [if_pos (noIo_at_no (hi k))]
    have h4 : ∀ k, ([i].all (noIo ((R k).set i (.d (F a))))) = true := fun k => by simp only [List.all_cons, List.all_nil, Bool.and_true]; exact noIo_set (il k)
    have h5 : ∀ k, wipeE ((R k).set i (.d (F a))) [i] = R k := fun k => by
      show (((R k).set i (.d (F a))).set i .no) = R k
      rw [List.set_set, set_no (hi k)]
    simp only [List.length_cons] at hl
    obtain ⟨k2, y, hk2, hp, h3⟩ := hs a (by simp) k hk
    obtain ⟨k3, ys, hk3, q2, q3⟩ := compL_ioM hi xs (acc ++ [y]) k2 hk2 (by simp; omega) fun b hb => hs b (by simp [hb])
    refine ⟨k3, y :: ys, hk3, .cons hp q2, ?_⟩
    rw [List.map_cons, compL_t (c := gTrue) h1 rfl h3 (h4 k2) (by omega), h5, q3, List.append_assoc]
    rfl
theorem compI_of {acc : List D} (hi : ρ[i]? = some .no) (hi2 : ρ1[i]? = some .no) (h : compL (gfName i) c e [i] ds [] ρ = .ok acc ρ1) : compI (gfName i) c e [i] ds ρ = .ok (.new (.lst acc)) ρ1 := by
  unfold compI
  have h1 : ([i].all (plainAt ρ)) = true := by simp [plainAt, hi]
  rw [if_pos h1]
  have h2 : wipeE ρ [i] = ρ := set_no hi
  rw [h2, h]
  show Out.ok _ (restoreE ρ ρ1 [i]) = _
  have h3 : restoreE ρ ρ1 [i] = ρ1 := by
    show ρ1.set i ((ρ[i]?).getD .no) = ρ1
    rw [hi]
    exact set_no hi2
  rw [h3]
def bk (i : Nat) (ρ : Nz.Env) (o : Option Sl) : Nz.Env := match o with
  | some (.rd c) => ρ.set i (.own c)
  | _ => ρ
@[simp] theorem back_ap : back i ρ = bk i ρ ρ[i]? := rfl
@[simp] theorem bk_rd {k : Cell} : bk i ρ (some (.rd k)) = ρ.set i (.own k) := rfl
@[simp] theorem mapEnv_ok {α : Type} {h : Nz.Env → Nz.Env} {a : α} : mapEnv h (.ok a ρ) = .ok a (h ρ) := rfl
@[simp] theorem compK_lend {j : Nat} : compK t c e vs (.lend j ds) ρ = mapEnv (back j) (compI t c e vs ds (ρ.set j (.rd (.lst ds)))) := rfl
@[simp] theorem forK_lend {j : Nat} {b : SF} : forK t b (.lend j ds) ρ = mapEnv (back j) (loopL t b ds (ρ.set j (.rd (.lst ds)))) := rfl
@[simp] theorem fEnum_ap {fa : EF} : fEnum fa ρ = (opd fa ρ).bind enumSrc := rfl
@[simp] theorem enumSrc_t : enumSrc (.d (.tup ds)) ρ = .ok (.items (enumD 0 ds)) ρ := rfl
/-- the kinds of data by lists of texts -/
theorem strsOf_map : ∀ ss : List Str, strsOf (ss.map D.str) = some ss
  | [] => rfl
  | s :: ss => by show (strsOf (ss.map D.str)).map (s :: ·) = _; rw [strsOf_map ss]; rfl
theorem blsOf_map : ∀ ss : List Bool, blsOf (ss.map D.bl) = some ss
  | [] => rfl
  | s :: ss => by show (blsOf (ss.map D.bl)).map (s :: ·) = _; rw [blsOf_map ss]; rfl
theorem flats_str : ∀ ss : List Str, flats (ss.map D.str) = some (ss.map V.str)
  | [] => rfl
  | s :: ss => by show (D.flat (.str s)).bind (fun v => (flats (ss.map D.str)).map (v :: ·)) = _; rw [flats_str ss]; rfl
end
end Nz

set_option Elab.async false
set_option linter.all false
set_option maxRecDepth 100000
set_option maxHeartbeats 4000000
namespace KK
open PySem L2 Nz
open Nz (D Env Arg)
def top (i : Nat) : Stmt := PySem.Challenge.pw_narrowahead_k03_whole_conditions_of_lots.main.body.getD i (.Pass ⟨0, 0, 0, 0⟩)
def mm_SeatError : Nat → Option Bool := fun c => match c with | 0 => some true | 1 => some true | _ => none
def de__law_tried : Nat → Option (Option Str) := fun c => match c with | 0 => some (some "marks") | 1 => some (some "lot") | _ => none
def isiT (a b : Sum String Nat) : Option Bool := match a with
  | .inl s => (match b with | .inl t => kitB s t | .inr _ => none)
  | .inr _ => none
abbrev s0 : Stmt := top 8
/-- is_pair: 0 thing -/
def b0 (Φ : Nat → Fn) : SF :=
  (fRet (fAnd (fBlt (gIsi isiT) (fCons (fVar 0) (fCons (fC (.ty "tuple")) fNil))) (f2 gEq (fBlt gLen (fCons (fVar 0) fNil)) (fC (.int (2))))))
abbrev s1 : Stmt := top 9
/-- is_ascending: 0 items 1 at -/
def b1 (Φ : Nat → Fn) : SF :=
  (fRet (fBlt gAll (fCons (fComp (fRng2 (fCons (fC (.int (1))) (fCons (fBlt gLen (fCons (fVar 0) fNil)) fNil))) (gfName 1) gTrue (f2 gLt (f2 gIx (fVar 0) (f2 Nz.gSub (fVar 1) (fC (.int (1))))) (f2 gIx (fVar 0) (fVar 1))) [1]) fNil)))
abbrev s2 : Stmt := top 10
/-- is_marks: 0 thing 1 sign -/
def b2 (Φ : Nat → Fn) : SF :=
  (fSeq (fIfS (gOr (gNot (fT (fBlt (gIsi isiT) (fCons (fVar 0) (fCons (fC (.ty "str")) fNil))))) (fT (f2 gGt (fBlt gLen (fCons (fVar 0) fNil)) (fC (.int 5)))))
  (fRet (fC (.bl false)))
  fSkip)
  (fRet (fAnd (fBlt gAll (fCons (fComp (fSeqI (fVar 0)) (gfName 1) gTrue (f2 gIn (fVar 1) (fC (.str "abcdefghijklmnopqrstuvwxyz"))) [1]) fNil)) (fCall [false] (Φ 1) (fCons (fVar 0) fNil)))))
abbrev s3 : Stmt := top 11
/-- is_kind: 0 marks 1 thing 2 sign -/
def b3 (Φ : Nat → Fn) : SF :=
  (fRet (fAnd (fBlt (gIsi isiT) (fCons (fVar 1) (fCons (fC (.ty "str")) fNil))) (fAnd (fBlt gAll (fCons (fComp (fSeqI (fVar 1)) (gfName 2) gTrue (f2 gIn (fVar 2) (fVar 0)) [2]) fNil)) (fCall [false] (Φ 1) (fCons (fVar 1) fNil)))))
abbrev s4 : Stmt := top 12
/-- is_lot: 0 marks 1 thing 2 kind -/
def b4 (Φ : Nat → Fn) : SF :=
  (fSeq (fIfS (gOr (gNot (fT (fBlt (gIsi isiT) (fCons (fVar 1) (fCons (fC (.ty "tuple")) fNil))))) (fT (f2 gEq (fBlt gLen (fCons (fVar 1) fNil)) (fC (.int (0))))))
  (fRet (fC (.bl false)))
  fSkip)
  (fRet (fAnd (fBlt gAll (fCons (fComp (fSeqI (fVar 1)) (gfName 2) gTrue (fCall [false, false] (Φ 3) (fCons (fVar 0) (fCons (fVar 2) fNil))) [2]) fNil)) (fCall [false] (Φ 1) (fCons (fVar 1) fNil)))))
abbrev s5 : Stmt := top 13
/-- check_marks: 0 thing -/
def b5 (Φ : Nat → Fn) : SF :=
  (fIfS (gNot (fT (fCall [false] (Φ 2) (fCons (fVar 0) fNil))))
  (fRaise 0)
  fSkip)
abbrev s6 : Stmt := top 14
/-- check_lot: 0 marks 1 thing -/
def b6 (Φ : Nat → Fn) : SF :=
  (fIfS (gNot (fT (fCall [false, false] (Φ 4) (fCons (fVar 0) (fCons (fVar 1) fNil)))))
  (fRaise 1)
  fSkip)
abbrev s7 : Stmt := top 16
/-- all_kinds: 0 marks 1 found 2 mark 3 kind -/
def b7 (Φ : Nat → Fn) : SF :=
  (fSeq (fAsg 1 (fLst (fCons (fC (.str "")) fNil)))
  (fSeq (fFor (fSeqI (fVar 0)) (gfName 2)
  (fAsg 1 (f2 gAdd (fVar 1) (fComp (fSeqI (fVar 1)) (gfName 3) gTrue (f2 gAdd (fVar 3) (fVar 2)) [3]))))
  (fRet (fBlt gSorted (fCons (fVar 1) fNil)))))
abbrev s8 : Stmt := top 21
/-- size_of: 0 thing -/
def b8 (Φ : Nat → Fn) : SF :=
  (fSeq (fIfS (gNot (fT (fCall [false] (Φ 0) (fCons (fVar 0) fNil))))
  (fRet (fTup (fCons (fC (.int (0))) (fCons (fC (.int (0))) fNil))))
  fSkip)
  (fSeq (fIfS (fT (f2 gEq (f2 gIx (fVar 0) (fC (.int (0)))) (fC (.str "has"))))
  (fRet (fIf (gAnd (fT (fBlt (gIsi isiT) (fCons (f2 gIx (fVar 0) (fC (.int (1)))) (fCons (fC (.ty "str")) fNil)))) (fT (f2 gEq (fBlt gLen (fCons (f2 gIx (fVar 0) (fC (.int (1)))) fNil)) (fC (.int (1)))))) (fTup (fCons (fC (.int (1))) (fCons (fC (.int (1))) fNil))) (fTup (fCons (fC (.int (0))) (fCons (fC (.int (0))) fNil)))))
  fSkip)
  (fSeq (fIfS (fT (f2 gEq (f2 gIx (fVar 0) (fC (.int (0)))) (fC (.str "not"))))
  (fRet (fCall [false] (Φ 9) (fCons (fLst (fCons (f2 gIx (fVar 0) (fC (.int (1)))) fNil)) fNil)))
  fSkip)
  (fSeq (fIfS (gOr (fT (f2 gNin (f2 gIx (fVar 0) (fC (.int (0)))) (fTup (fCons (fC (.str "all")) (fCons (fC (.str "any")) fNil))))) (gOr (gNot (fT (fBlt (gIsi isiT) (fCons (f2 gIx (fVar 0) (fC (.int (1)))) (fCons (fC (.ty "tuple")) fNil))))) (fT (f2 gGt (fBlt gLen (fCons (f2 gIx (fVar 0) (fC (.int (1)))) fNil)) (fC (.int 10))))))
  (fRet (fTup (fCons (fC (.int (0))) (fCons (fC (.int (0))) fNil))))
  fSkip)
  (fRet (fCall [false] (Φ 9) (fCons (fBlt gListS (fCons (f2 gIx (fVar 0) (fC (.int (1)))) fNil)) fNil)))))))
abbrev s9 : Stmt := top 22
/-- joined_sizes: 0 parts 1 many 2 deep 3 part 4 size 5 depth -/
def b9 (Φ : Nat → Fn) : SF :=
  (fSeq (fAsg 1 (fC (.int (1))))
  (fSeq (fAsg 2 (fC (.int (1))))
  (fSeq (fFor (fSeqI (fVar 0)) (gfName 3)
  (fSeq (fAsgG (fCall [false] (Φ 8) (fCons (fVar 3) fNil)) (gfTup 2 (gfCons (gfName 4) (gfCons (gfName 5) gfNil))))
  (fSeq (fIfS (gOr (fT (f2 gEq (fVar 4) (fC (.int (0))))) (gOr (fT (f2 gGt (f2 gAdd (fVar 1) (fVar 4)) (fC (.int 1000)))) (fT (f2 gGe (fVar 5) (fC (.int 20))))))
  (fRet (fTup (fCons (fC (.int (0))) (fCons (fC (.int (0))) fNil))))
  fSkip)
  (fSeq (fAug 1 (fVar 4))
  (fAsg 2 (fBlt gMax2 (fCons (fVar 2) (fCons (f2 gAdd (fVar 5) (fC (.int (1)))) fNil))))))))
  (fRet (fTup (fCons (fVar 1) (fCons (fVar 2) fNil)))))))
abbrev s10 : Stmt := top 23
/-- has_known_marks: 0 marks 1 condition 2 part -/
def b10 (Φ : Nat → Fn) : SF :=
  (fSeq (fIfS (fT (f2 gEq (f2 gIx (fVar 1) (fC (.int (0)))) (fC (.str "has"))))
  (fRet (f2 gIn (f2 gIx (fVar 1) (fC (.int (1)))) (fVar 0)))
  fSkip)
  (fSeq (fIfS (fT (f2 gEq (f2 gIx (fVar 1) (fC (.int (0)))) (fC (.str "not"))))
  (fRet (fCall [false, false] (Φ 10) (fCons (fVar 0) (fCons (f2 gIx (fVar 1) (fC (.int (1)))) fNil))))
  fSkip)
  (fRet (fBlt gAll (fCons (fComp (fSeqI (f2 gIx (fVar 1) (fC (.int (1))))) (gfName 2) gTrue (fCall [false, false] (Φ 10) (fCons (fVar 0) (fCons (fVar 2) fNil))) [2]) fNil)))))
abbrev s11 : Stmt := top 24
/-- check_condition: 0 marks 1 thing -/
def b11 (Φ : Nat → Fn) : SF :=
  (fIfS (gOr (fT (f2 gEq (f2 gIx (fCall [false] (Φ 8) (fCons (fVar 1) fNil)) (fC (.int (0)))) (fC (.int (0))))) (gNot (fT (fCall [false, false] (Φ 10) (fCons (fVar 0) (fCons (fVar 1) fNil))))))
  fNever
  fSkip)
abbrev s12 : Stmt := top 25
/-- holds: 0 condition 1 kind 2 told 3 part -/
def b12 (Φ : Nat → Fn) : SF :=
  (fSeq (fIfS (fT (f2 gEq (f2 gIx (fVar 0) (fC (.int (0)))) (fC (.str "has"))))
  (fRet (f2 gIn (f2 gIx (fVar 0) (fC (.int (1)))) (fVar 1)))
  fSkip)
  (fSeq (fIfS (fT (f2 gEq (f2 gIx (fVar 0) (fC (.int (0)))) (fC (.str "not"))))
  (fRet (fNot (fCall [false, false] (Φ 12) (fCons (f2 gIx (fVar 0) (fC (.int (1)))) (fCons (fVar 1) fNil)))))
  fSkip)
  (fSeq (fAsg 2 (fComp (fSeqI (f2 gIx (fVar 0) (fC (.int (1))))) (gfName 3) gTrue (fCall [false, false] (Φ 12) (fCons (fVar 3) (fCons (fVar 1) fNil))) [3]))
  (fRet (fIf (fT (f2 gEq (f2 gIx (fVar 0) (fC (.int (0)))) (fC (.str "all")))) (fBlt gAll (fCons (fVar 2) fNil)) (fBlt gAny (fCons (fVar 2) fNil)))))))
abbrev s13 : Stmt := top 26
/-- lot_of: 0 marks 1 condition 2 kind -/
def b13 (Φ : Nat → Fn) : SF :=
  (fSeq (fDrop (fCall [false] (Φ 5) (fCons (fVar 0) fNil)))
  (fSeq (fDrop (fCall [false, false] (Φ 11) (fCons (fVar 0) (fCons (fVar 1) fNil))))
  (fRet (fBlt gTuple (fCons (fComp (fSeqI (fCall [false] (Φ 7) (fCons (fVar 0) fNil))) (gfName 2) (fT (fCall [false, false] (Φ 12) (fCons (fVar 1) (fCons (fVar 2) fNil)))) (fVar 2) [2]) fNil)))))
abbrev s14 : Stmt := top 27
/-- split_of: 0 marks 1 lot 2 mark 3 own 4 rest 5 kind -/
def b14 (Φ : Nat → Fn) : SF :=
  (fSeq (fIfS (fT (f2 gEq (fBlt gLen (fCons (fVar 1) fNil)) (fC (.int (0)))))
  (fRet (fTup (fCons (fC (.str "any")) (fCons (fTup fNil) fNil))))
  fSkip)
  (fSeq (fIfS (fT (f2 gEq (fBlt gLen (fCons (fVar 1) fNil)) (fBlt gLen (fCons (fCall [false] (Φ 7) (fCons (fVar 0) fNil)) fNil))))
  (fRet (fTup (fCons (fC (.str "all")) (fCons (fTup fNil) fNil))))
  fSkip)
  (fSeq (fAsg 2 (f2 gIx (fVar 0) (fC (.int (0)))))
  (fSeq (fAsg 3 (fCall [false, false] (Φ 14) (fCons (fSl gSl (fVar 0) (fPart (fC (.int (1)))) fNo) (fCons (fComp (fSeqI (fVar 1)) (gfName 5) (fT (f2 gEq (fSl gSl (fVar 5) fNo (fPart (fC (.int (1))))) (fVar 2))) (fSl gSl (fVar 5) (fPart (fC (.int (1)))) fNo) [5]) fNil))))
  (fSeq (fAsg 4 (fCall [false, false] (Φ 14) (fCons (fSl gSl (fVar 0) (fPart (fC (.int (1)))) fNo) (fCons (fComp (fSeqI (fVar 1)) (gfName 5) (fT (f2 gNe (fSl gSl (fVar 5) fNo (fPart (fC (.int (1))))) (fVar 2))) (fVar 5) [5]) fNil))))
  (fRet (fTup (fCons (fC (.str "any")) (fCons (fTup (fCons (fTup (fCons (fC (.str "all")) (fCons (fTup (fCons (fTup (fCons (fC (.str "has")) (fCons (fVar 2) fNil))) (fCons (fVar 3) fNil))) fNil))) (fCons (fTup (fCons (fC (.str "all")) (fCons (fTup (fCons (fTup (fCons (fC (.str "not")) (fCons (fTup (fCons (fC (.str "has")) (fCons (fVar 2) fNil))) fNil))) (fCons (fVar 4) fNil))) fNil))) fNil))) fNil)))))))))
abbrev s15 : Stmt := top 28
/-- condition_of: 0 marks 1 lot -/
def b15 (Φ : Nat → Fn) : SF :=
  (fSeq (fDrop (fCall [false] (Φ 5) (fCons (fVar 0) fNil)))
  (fSeq (fDrop (fCall [false, false] (Φ 6) (fCons (fVar 0) (fCons (fVar 1) fNil))))
  (fRet (fCall [false, false] (Φ 14) (fCons (fVar 0) (fCons (fBlt gListS (fCons (fVar 1) fNil)) fNil))))))
abbrev s16 : Stmt := top 30
/-- _law_tape: 0 _law_script -/
def b16 (Φ : Nat → Fn) : SF :=
  (fRet (fLst (fCons (fBlt gListS (fCons (fVar 0) fNil)) (fCons (fC (.int (0))) (fCons (fC (.int (0))) (fCons (fC (.int (1))) (fCons (fC (.int (0))) fNil)))))))
abbrev s17 : Stmt := top 31
/-- _law_pick: 0 _law_tape_here 1 _law_many 2 _law_cell 3 _law_mixed 4 _law_digit -/
def b17 (Φ : Nat → Fn) : SF :=
  (fSeq (fIfS (fT (f2 gGt (f2 gIx (fVar 0) (fC (.int (2)))) (fC (.int (1)))))
  (fSeq (fAsg 4 (f2 gMod (fBlt gInt (fCons (f2 gIx (fVar 0) (fC (.int (2)))) fNil)) (fVar 1)))
  (fSeq (fSetI (f2 gDiv (f2 gIx (fVar 0) (fC (.int (2)))) (fVar 1)) 0 (fC (.int (2))))
  (fRet (fVar 4))))
  fSkip)
  (fSeq (fSetI (f2 gAdd (f2 gIx (fVar 0) (fC (.int (4)))) (fC (.int (1)))) 0 (fC (.int (4))))
  (fSeq (fAsg 2 (fC (.int (0))))
  (fSeq (fIfS (fT (f2 gLt (f2 gIx (fVar 0) (fC (.int (1)))) (fBlt gLen (fCons (f2 gIx (fVar 0) (fC (.int (0)))) fNil))))
  (fSeq (fAsg 2 (f2 gIx (f2 gIx (fVar 0) (fC (.int (0)))) (f2 gIx (fVar 0) (fC (.int (1))))))
  (fSetI (f2 gAdd (f2 gIx (fVar 0) (fC (.int (1)))) (fC (.int (1)))) 0 (fC (.int (1)))))
  fSkip)
  (fSeq (fIfS (fT (f2 gGe (fVar 2) (f2 gPow (fC (.int (10))) (fC (.int (18))))))
  (fSeq (fSetI (f2 gDiv (fVar 2) (fVar 1)) 0 (fC (.int (2))))
  (fRet (f2 gMod (fBlt gInt (fCons (fVar 2) fNil)) (fVar 1))))
  fSkip)
  (fSeq (fAsg 3 (f2 gMod (fBlt gInt (fCons (f2 gAdd (f2 gAdd (f2 gMulA (f2 gIx (fVar 0) (fC (.int (3)))) (fC (.int (48271)))) (f2 gMod (fBlt gInt (fCons (fVar 2) fNil)) (fC (.int (2147483629))))) (f2 gMulA (f2 gIx (fVar 0) (fC (.int (4)))) (fC (.int (69621))))) fNil)) (fC (.int (2147483647)))))
  (fSeq (fAsg 3 (f2 gMod (fBlt gInt (fCons (f2 gMulA (fVar 3) (f2 gAdd (f2 gDiv (fVar 3) (fC (.int (1009)))) (fC (.int (40692))))) fNil)) (fC (.int (2147483399)))))
  (fSeq (fSetI (fVar 3) 0 (fC (.int (3))))
  (fRet (f2 gMod (fBlt gInt (fCons (f2 gDiv (fVar 3) (fC (.int (16)))) fNil)) (fVar 1)))))))))))
abbrev s18 : Stmt := top 32
/-- _law_kinds: 0 _law_marks_here 1 _law_found 2 _law_mark 3 _law_kind -/
def b18 (Φ : Nat → Fn) : SF :=
  (fSeq (fAsg 1 (fLst (fCons (fC (.str "")) fNil)))
  (fSeq (fFor (fSeqI (fVar 0)) (gfName 2)
  (fAsg 1 (f2 gAdd (fVar 1) (fComp (fSeqI (fVar 1)) (gfName 3) gTrue (f2 gAdd (fVar 3) (fVar 2)) [3]))))
  (fRet (fBlt gSorted (fCons (fVar 1) fNil)))))
abbrev s19 : Stmt := top 33
/-- _law_marks: 0 _law_tape_here -/
def b19 (Φ : Nat → Fn) : SF :=
  (fRet (f2 gIx (fLst (fCons (fC (.str "ab")) (fCons (fC (.str "abc")) (fCons (fC (.str "abc")) (fCons (fC (.str "ab")) (fCons (fC (.str "x")) (fCons (fC (.str "")) (fCons (fC (.str "bdy")) (fCons (fC (.str "abcd")) (fCons (fC (.str "aeioz")) fNil)))))))))) (fCall [true, false] (Φ 17) (fCons (fVar 0) (fCons (fC (.int (9))) fNil)))))
abbrev s20 : Stmt := top 34
/-- _law_lot: 0 _law_tape_here 1 _law_every 2 _law_found 3 _law_few 4 _law_kind 5 _law_k -/
def b20 (Φ : Nat → Fn) : SF :=
  (fSeq (fIfS (gAnd (fT (f2 gGt (fBlt gLen (fCons (fVar 1) fNil)) (fC (.int (8))))) (fT (f2 gEq (fCall [true, false] (Φ 17) (fCons (fVar 0) (fCons (fC (.int (2))) fNil))) (fC (.int (0))))))
  (fSeq (fAsg 3 (fComp (fRng1 (fCons (f2 gAdd (fC (.int (1))) (fCall [true, false] (Φ 17) (fCons (fVar 0) (fCons (fC (.int (4))) fNil)))) fNil)) (gfName 5) gTrue (f2 gIx (fVar 1) (fCall [true, false] (Φ 17) (fCons (fVar 0) (fCons (fBlt gLen (fCons (fVar 1) fNil)) fNil)))) [5]))
  (fRet (fBlt gTuple (fCons (fBlt gSorted (fCons (fComp (fSeqI (fVar 1)) (gfName 4) (fT (f2 gIn (fVar 4) (fVar 3))) (fVar 4) [4]) fNil)) fNil))))
  fSkip)
  (fSeq (fAsg 2 (fComp (fSeqI (fVar 1)) (gfName 4) (fT (f2 gEq (fCall [true, false] (Φ 17) (fCons (fVar 0) (fCons (fC (.int (2))) fNil))) (fC (.int (0))))) (fVar 4) [4]))
  (fSeq (fIfS (fT (f2 gEq (fBlt gLen (fCons (fVar 2) fNil)) (fC (.int (0)))))
  (fAsg 2 (fLst (fCons (f2 gIx (fVar 1) (fCall [true, false] (Φ 17) (fCons (fVar 0) (fCons (fBlt gLen (fCons (fVar 1) fNil)) fNil)))) fNil)))
  fSkip)
  (fRet (fBlt gTuple (fCons (fVar 2) fNil))))))
abbrev s21 : Stmt := top 37
/-- _law_odd: 0 _law_tape_here 1 _law_things -/
def b21 (Φ : Nat → Fn) : SF :=
  (fSeq (fAsg 1 (fLst (fCons (fC .non) (fCons (fC (.bl true)) (fCons (fC (.bl false)) (fCons (fC (.int (0))) (fCons (fC (.int (1))) (fCons (f1 gNeg (fC (.int (1)))) (fCons (f2 gPow (fC (.int (10))) (fC (.int (20)))) (fCons (fC (.str "")) (fCons (fC (.str "a")) (fCons (fC (.str "ab")) (fCons (fC (.str "ba")) (fCons (fC (.str "A")) (fCons (fC (.str "aa")) (fCons (fC (.str "abcdef")) (fCons (fTup fNil) (fCons (fLst fNil) (fCons fDic (fCons (fTup (fCons (fC (.str "")) fNil)) fNil))))))))))))))))))))
  (fSeq (fAsg 1 (f2 gAdd (fVar 1) (fLst (fCons (fTup (fCons (fC (.str "a")) fNil)) (fCons (fLst (fCons (fC (.str "a")) fNil)) (fCons (fTup (fCons (fC (.str "a")) (fCons (fC (.str "a")) fNil))) (fCons (fTup (fCons (fC (.str "b")) (fCons (fC (.str "a")) fNil))) (fCons (fTup (fCons (fC (.str "ab")) (fCons (fC (.str "a")) fNil))) (fCons (fTup (fCons (fTup (fCons (fC (.str "a")) fNil)) fNil)) (fCons (fTup (fCons (fTup (fCons (fC (.str "a")) fNil)) (fCons (fTup fNil) fNil))) (fCons (fTup (fCons (fC (.int (1))) fNil)) (fCons (fTup (fCons (fC (.str "a")) (fCons (fC (.int (1))) fNil))) fNil))))))))))))
  (fSeq (fAsg 1 (f2 gAdd (fVar 1) (fLst (fCons (fTup (fCons (fC (.bl true)) (fCons (fC (.str "a")) fNil))) (fCons (fTup (fCons (fC (.str "z")) fNil)) (fCons (fTup (fCons (fTup (fCons (fC (.str "a")) fNil)) (fCons (fLst (fCons (fC (.str "a")) fNil)) fNil))) (fCons (fC (.str "a,b")) (fCons (fTup (fCons (fC (.int (0))) (fCons (fC (.int (1))) fNil))) (fCons (fTup (fCons (fC (.str "has")) (fCons (fC (.str "a")) fNil))) (fCons (fTup (fCons (fC (.str "a")) (fCons (fC (.str "b")) (fCons (fC (.str "")) fNil)))) fNil))))))))))
  (fRet (f2 gIx (fVar 1) (fCall [true, false] (Φ 17) (fCons (fVar 0) (fCons (fBlt gLen (fCons (fVar 1) fNil)) fNil))))))))
abbrev s22 : Stmt := top 39
/-- _law_is_up: 0 _law_items 1 _law_at -/
def b22 (Φ : Nat → Fn) : SF :=
  (fRet (f2 gEq (fBlt gLen (fCons (fComp (fRng2 (fCons (fC (.int (1))) (fCons (fBlt gLen (fCons (fVar 0) fNil)) fNil))) (gfName 1) (gNot (fT (f2 gLt (f2 gIx (fVar 0) (f2 Nz.gSub (fVar 1) (fC (.int (1))))) (f2 gIx (fVar 0) (fVar 1))))) (fVar 1) [1]) fNil)) (fC (.int (0)))))
abbrev s23 : Stmt := top 40
/-- _law_is_marks: 0 _law_thing 1 _law_sign -/
def b23 (Φ : Nat → Fn) : SF :=
  (fSeq (fIfS (gOr (gNot (fT (fBlt (gIsi isiT) (fCons (fVar 0) (fCons (fC (.ty "str")) fNil))))) (gOr (fT (f2 gGtA (fBlt gLen (fCons (fVar 0) fNil)) (fC (.int (5))))) (gNot (fT (fCall [false] (Φ 22) (fCons (fVar 0) fNil))))))
  (fRet (fC (.bl false)))
  fSkip)
  (fRet (f2 gEq (fBlt gLen (fCons (fComp (fSeqI (fVar 0)) (gfName 1) (gOr (fT (f2 gLt (fVar 1) (fC (.str "a")))) (fT (f2 gGtA (fVar 1) (fC (.str "z"))))) (fVar 1) [1]) fNil)) (fC (.int (0))))))
abbrev s24 : Stmt := top 41
/-- _law_is_kind: 0 _law_marks_here 1 _law_thing 2 _law_sign -/
def b24 (Φ : Nat → Fn) : SF :=
  (fRet (fAnd (fBlt (gIsi isiT) (fCons (fVar 1) (fCons (fC (.ty "str")) fNil))) (fAnd (f2 gEq (fBlt gLen (fCons (fComp (fSeqI (fVar 1)) (gfName 2) (fT (f2 gNin (fVar 2) (fVar 0))) (fVar 2) [2]) fNil)) (fC (.int (0)))) (fCall [false] (Φ 22) (fCons (fVar 1) fNil)))))
abbrev s25 : Stmt := top 42
/-- _law_is_lot: 0 _law_marks_here 1 _law_thing 2 _law_kind -/
def b25 (Φ : Nat → Fn) : SF :=
  (fSeq (fIfS (gOr (gNot (fT (fBlt (gIsi isiT) (fCons (fVar 1) (fCons (fC (.ty "tuple")) fNil))))) (fT (f2 gEq (fBlt gLen (fCons (fVar 1) fNil)) (fC (.int (0))))))
  (fRet (fC (.bl false)))
  fSkip)
  (fRet (fAnd (f2 gEq (fBlt gLen (fCons (fComp (fSeqI (fVar 1)) (gfName 2) (gNot (fT (fCall [false, false] (Φ 24) (fCons (fVar 0) (fCons (fVar 2) fNil))))) (fVar 2) [2]) fNil)) (fC (.int (0)))) (fCall [false] (Φ 22) (fCons (fVar 1) fNil)))))
abbrev s26 : Stmt := top 44
/-- _law_size: 0 _law_marks_here 1 _law_thing 2 _law_parts 3 _law_sizes 4 _law_part 5 _law_size_here 6 _law_deep -/
def b26 (Φ : Nat → Fn) : SF :=
  (fSeq (fIfS (gOr (gNot (fT (fBlt (gIsi isiT) (fCons (fVar 1) (fCons (fC (.ty "tuple")) fNil))))) (fT (f2 gNe (fBlt gLen (fCons (fVar 1) fNil)) (fC (.int (2))))))
  (fRet (fTup (fCons (fC (.int (0))) (fCons (fC (.int (0))) fNil))))
  fSkip)
  (fSeq (fIfS (fT (f2 gEq (f2 gIx (fVar 1) (fC (.int (0)))) (fC (.str "has"))))
  (fRet (fTup (fCons (fBlt gInt (fCons (fAnd (fBlt (gIsi isiT) (fCons (f2 gIx (fVar 1) (fC (.int (1)))) (fCons (fC (.ty "str")) fNil))) (fAnd (f2 gEq (fBlt gLen (fCons (f2 gIx (fVar 1) (fC (.int (1)))) fNil)) (fC (.int (1)))) (f2 gIn (f2 gIx (fVar 1) (fC (.int (1)))) (fVar 0)))) fNil)) (fCons (fC (.int (1))) fNil))))
  fSkip)
  (fSeq (fAsg 2 (fLst (fCons (f2 gIx (fVar 1) (fC (.int (1)))) fNil)))
  (fSeq (fIfS (fT (f2 gIn (f2 gIx (fVar 1) (fC (.int (0)))) (fLst (fCons (fC (.str "all")) (fCons (fC (.str "any")) fNil)))))
  (fSeq (fIfS (gOr (gNot (fT (fBlt (gIsi isiT) (fCons (f2 gIx (fVar 1) (fC (.int (1)))) (fCons (fC (.ty "tuple")) fNil))))) (fT (f2 gGt (fBlt gLen (fCons (f2 gIx (fVar 1) (fC (.int (1)))) fNil)) (fC (.int (10))))))
  (fRet (fTup (fCons (fC (.int (0))) (fCons (fC (.int (0))) fNil))))
  fSkip)
  (fAsg 2 (fBlt gListS (fCons (f2 gIx (fVar 1) (fC (.int (1)))) fNil))))
  (fIfS (fT (f2 gNe (f2 gIx (fVar 1) (fC (.int (0)))) (fC (.str "not"))))
  (fRet (fTup (fCons (fC (.int (0))) (fCons (fC (.int (0))) fNil))))
  fSkip))
  (fSeq (fAsg 3 (fComp (fSeqI (fVar 2)) (gfName 4) gTrue (fCall [false, false] (Φ 26) (fCons (fVar 0) (fCons (fVar 4) fNil))) [4]))
  (fSeq (fIfS (fT (f2 gGt (fBlt gLen (fCons (fComp (fSeqI (fVar 3)) (gfTup 2 (gfCons (gfName 5) (gfCons (gfName 6) gfNil))) (fT (f2 gEq (fVar 5) (fC (.int (0))))) (fVar 5) [5, 6]) fNil)) (fC (.int (0)))))
  (fRet (fTup (fCons (fC (.int (0))) (fCons (fC (.int (0))) fNil))))
  fSkip)
  (fRet (fTup (fCons (f2 gAdd (fC (.int (1))) (fBlt gSum (fCons (fComp (fSeqI (fVar 3)) (gfTup 2 (gfCons (gfName 5) (gfCons (gfName 6) gfNil))) gTrue (fVar 5) [5, 6]) fNil))) (fCons (f2 gAdd (fC (.int (1))) (fBlt gMaxL (fCons (f2 gAdd (fLst (fCons (fC (.int (0))) fNil)) (fComp (fSeqI (fVar 3)) (gfTup 2 (gfCons (gfName 5) (gfCons (gfName 6) gfNil))) gTrue (fVar 6) [5, 6])) fNil))) fNil))))))))))
abbrev s27 : Stmt := top 45
/-- _law_holds: 0 _law_condition 1 _law_kind 2 _law_told 3 _law_part -/
def b27 (Φ : Nat → Fn) : SF :=
  (fSeq (fIfS (fT (f2 gEq (f2 gIx (fVar 0) (fC (.int (0)))) (fC (.str "has"))))
  (fRet (f2 gIn (f2 gIx (fVar 0) (fC (.int (1)))) (fVar 1)))
  fSkip)
  (fSeq (fIfS (fT (f2 gEq (f2 gIx (fVar 0) (fC (.int (0)))) (fC (.str "not"))))
  (fRet (fNot (fCall [false, false] (Φ 27) (fCons (f2 gIx (fVar 0) (fC (.int (1)))) (fCons (fVar 1) fNil)))))
  fSkip)
  (fSeq (fAsg 2 (fComp (fSeqI (f2 gIx (fVar 0) (fC (.int (1))))) (gfName 3) gTrue (fCall [false, false] (Φ 27) (fCons (fVar 3) (fCons (fVar 1) fNil))) [3]))
  (fSeq (fIfS (fT (f2 gEq (f2 gIx (fVar 0) (fC (.int (0)))) (fC (.str "all"))))
  (fRet (f2 gNin (fC (.bl false)) (fVar 2)))
  fSkip)
  (fRet (f2 gIn (fC (.bl true)) (fVar 2)))))))
abbrev s28 : Stmt := top 46
/-- _law_tried: 0 _law_marks_here 1 _law_lot_here 2 _law_found 3 e -/
def b28 (Φ : Nat → Fn) : SF :=
  (fSeq (fAsg 2 (fC (.str "other")))
  (fSeq (fTry 3 mm_SeatError (hIf 3 2 de__law_tried)
  (fSeq (fDrop (fCall [false, false] (Φ 15) (fCons (fVar 0) (fCons (fVar 1) fNil))))
  (fAsg 2 (fC (.str "told")))))
  (fRet (fVar 2))))
abbrev s29 : Stmt := top 47
/-- law: 0 _law_script 1 _law_tape_here 2 _law_marks_here 3 _law_every 4 _law_lot_here 5 _law_k 6 _law_told 7 _law_thing 8 _law_other 9 _law_due 10 _law_many 11 _law_deep 12 _law_kind -/
def b29 (Φ : Nat → Fn) : SF :=
  (fSeq (fAsg 1 (fCall [false] (Φ 16) (fCons (fVar 0) fNil)))
  (fSeq (fAsg 2 (fCall [true] (Φ 19) (fCons (fVar 1) fNil)))
  (fSeq (fAsg 3 (fCall [false] (Φ 18) (fCons (fVar 2) fNil)))
  (fSeq (fFor (fSeqI (fLst (fCons (fCall [true, false] (Φ 20) (fCons (fVar 1) (fCons (fVar 3) fNil))) (fCons (fBlt gTuple (fCons (fVar 3) fNil)) (fCons (fTup (fCons (f2 gIx (fVar 3) (fCall [true, false] (Φ 17) (fCons (fVar 1) (fCons (fBlt gLen (fCons (fVar 3) fNil)) fNil)))) fNil)) fNil))))) (gfName 4)
  (fSeq (fAsg 6 (fCall [false, false] (Φ 15) (fCons (fVar 2) (fCons (fVar 4) fNil))))
  (fSeq (fAsgG (fCall [false, false] (Φ 26) (fCons (fVar 2) (fCons (fVar 6) fNil))) (gfTup 2 (gfCons (gfName 10) (gfCons (gfName 11) gfNil))))
  (fSeq (fIfS (gOr (fT (f2 gLt (fVar 10) (fC (.int (1))))) (gOr (fT (f2 gGt (fVar 10) (fC (.int (1000))))) (fT (f2 gGt (fVar 11) (fC (.int (20)))))))
  (fRet (fC (.bl false)))
  fSkip)
  (fSeq (fIfS (gOr (fT (f2 gNe (fBlt gTuple (fCons (fComp (fSeqI (fVar 3)) (gfName 12) (fT (fCall [false, false] (Φ 27) (fCons (fVar 6) (fCons (fVar 12) fNil)))) (fVar 12) [12]) fNil)) (fVar 4))) (fT (f2 gNe (fCall [false, false] (Φ 13) (fCons (fVar 2) (fCons (fVar 6) fNil))) (fVar 4))))
  (fRet (fC (.bl false)))
  fSkip)
  (fIfS (fT (f2 gNe (fCall [false, false] (Φ 15) (fCons (fVar 2) (fCons (fVar 4) fNil))) (fVar 6)))
  (fRet (fC (.bl false)))
  fSkip))))))
  (fSeq (fFor (fRng1 (fCons (fC (.int (3))) fNil)) (gfName 5)
  (fSeq (fAsg 7 (f2 gIx (fLst (fCons (fCall [true] (Φ 21) (fCons (fVar 1) fNil)) (fCons (fBlt gListS (fCons (fVar 3) fNil)) (fCons (f2 gAdd (fTup (fCons (fC (.str "")) fNil)) (fBlt gTuple (fCons (fVar 3) fNil))) (fCons (f2 gAdd (fRev (fBlt gTuple (fCons (fVar 3) fNil)) (fPart (f1 gNeg (fC (.int (1)))))) (fTup (fCons (fC (.str "")) fNil))) fNil))))) (fCall [true, false] (Φ 17) (fCons (fVar 1) (fCons (fC (.int (4))) fNil)))))
  (fSeq (fAsg 8 (f2 gIx (fLst (fCons (fVar 2) (fCons (fVar 2) (fCons (fCall [true] (Φ 21) (fCons (fVar 1) fNil)) fNil)))) (fCall [true, false] (Φ 17) (fCons (fVar 1) (fCons (fC (.int (3))) fNil)))))
  (fSeq (fAsg 9 (fC (.str "told")))
  (fSeq (fIfS (gNot (fT (fCall [false] (Φ 23) (fCons (fVar 8) fNil))))
  (fAsg 9 (fC (.str "marks")))
  (fIfS (gNot (fT (fCall [false, false] (Φ 25) (fCons (fVar 8) (fCons (fVar 7) fNil)))))
  (fAsg 9 (fC (.str "lot")))
  fSkip))
  (fIfS (fT (f2 gNe (fCall [false, false] (Φ 28) (fCons (fVar 8) (fCons (fVar 7) fNil))) (fVar 9)))
  (fRet (fC (.bl false)))
  fSkip))))))
  (fRet (f2 gEq (fCall [false, false] (Φ 28) (fCons (fVar 2) (fCons (fTup fNil) fNil))) (fC (.str "lot")))))))))
def step (Φ : Nat → Fn) : Nat → Fn
  | 0 => defF 1 1 (b0 Φ)
  | 1 => defF 1 2 (b1 Φ)
  | 2 => defF 1 2 (b2 Φ)
  | 3 => defF 2 3 (b3 Φ)
  | 4 => defF 2 3 (b4 Φ)
  | 5 => defF 1 1 (b5 Φ)
  | 6 => defF 2 2 (b6 Φ)
  | 7 => defF 1 4 (b7 Φ)
  | 8 => defF 1 1 (b8 Φ)
  | 9 => defF 1 6 (b9 Φ)
  | 10 => defF 2 3 (b10 Φ)
  | 11 => defF 2 2 (b11 Φ)
  | 12 => defF 2 4 (b12 Φ)
  | 13 => defF 2 3 (b13 Φ)
  | 14 => defF 2 6 (b14 Φ)
  | 15 => defF 2 2 (b15 Φ)
  | 16 => defF 1 1 (b16 Φ)
  | 17 => defF 2 5 (b17 Φ)
  | 18 => defF 1 4 (b18 Φ)
  | 19 => defF 1 1 (b19 Φ)
  | 20 => defF 2 6 (b20 Φ)
  | 21 => defF 1 2 (b21 Φ)
  | 22 => defF 1 2 (b22 Φ)
  | 23 => defF 1 2 (b23 Φ)
  | 24 => defF 2 3 (b24 Φ)
  | 25 => defF 2 3 (b25 Φ)
  | 26 => defF 2 7 (b26 Φ)
  | 27 => defF 2 4 (b27 Φ)
  | 28 => defF 2 4 (b28 Φ)
  | 29 => defF 1 13 (b29 Φ)
  | _ => fun _ => .stuck
def run : Nat → Nat → Fn
  | 0 => fun _ _ => .stuck
  | n + 1 => step (run n)
structure Tx (mg : Str → Option Value) (G : Gi) (Y : Xi) : Prop where
  n_all : mg "all" = none
  n_any : mg "any" = none
  n_int : mg "int" = none
  n_isinstance : mg "isinstance" = none
  n_len : mg "len" = none
  n_list : mg "list" = none
  n_max : mg "max" = none
  n_range : mg "range" = none
  n_sorted : mg "sorted" = none
  n_str : mg "str" = none
  n_sum : mg "sum" = none
  n_tuple : mg "tuple" = none
  c_MOST_CONDITIONS : ∃ t, mg "MOST_CONDITIONS" = some (.int 1000 t)
  c_MOST_DEEP : ∃ t, mg "MOST_DEEP" = some (.int 20 t)
  c_MOST_MARKS : ∃ t, mg "MOST_MARKS" = some (.int 5 t)
  c_MOST_PARTS : ∃ t, mg "MOST_PARTS" = some (.int 10 t)
  c_SMALL : ∃ t, mg "SMALL" = some (.str "abcdefghijklmnopqrstuvwxyz" t)
  isi : IsiOk G isiT
  g_NoMarks : mg "NoMarks" = some (.ref (Y.cls 0))
  g_NoLot : mg "NoLot" = some (.ref (Y.cls 1))
  g_SeatError : mg "SeatError" = some (.ref (Y.cls 2))
  g_NoCondition : mg "NoCondition" = some (.ref (Y.cls 3))
  x_NoMarks : Xc G.K mg "NoMarks" (Y.cls 0)
  x_NoLot : Xc G.K mg "NoLot" (Y.cls 1)
  em_SeatError : ∀ c b, mm_SeatError c = some b → PySem.W.exmOne G.K (.ref (Y.cls c)) (.ref (Y.cls 2)) = some b
  de__law_tried : Dec2 G.K Y (Y.cls 0) (Y.cls 1) "marks" (Y.cls 1) (Y.cls 3) "lot" de__law_tried
structure Lv (P : Program) (w : World) (mg : Str → Option Value) (base : Heap) (G : Gi) (Y : Xi) (k : Nat) (Φ : Nat → Fn) : Prop where
  f0 : DefOk P w mg base G Y k 1 "is_pair" (Φ 0)
  f1 : DefOk P w mg base G Y k 1 "is_ascending" (Φ 1)
  f2 : DefOk P w mg base G Y k 1 "is_marks" (Φ 2)
  f3 : DefOk P w mg base G Y k 2 "is_kind" (Φ 3)
  f4 : DefOk P w mg base G Y k 2 "is_lot" (Φ 4)
  f5 : DefOk P w mg base G Y k 1 "check_marks" (Φ 5)
  f6 : DefOk P w mg base G Y k 2 "check_lot" (Φ 6)
  f7 : DefOk P w mg base G Y k 1 "all_kinds" (Φ 7)
  f8 : DefOk P w mg base G Y k 1 "size_of" (Φ 8)
  f9 : DefOk P w mg base G Y k 1 "joined_sizes" (Φ 9)
  f10 : DefOk P w mg base G Y k 2 "has_known_marks" (Φ 10)
  f11 : DefOk P w mg base G Y k 2 "check_condition" (Φ 11)
  f12 : DefOk P w mg base G Y k 2 "holds" (Φ 12)
  f13 : DefOk P w mg base G Y k 2 "lot_of" (Φ 13)
  f14 : DefOk P w mg base G Y k 2 "split_of" (Φ 14)
  f15 : DefOk P w mg base G Y k 2 "condition_of" (Φ 15)
  f16 : DefOk P w mg base G Y k 1 "_law_tape" (Φ 16)
  f17 : DefOk P w mg base G Y k 2 "_law_pick" (Φ 17)
  f18 : DefOk P w mg base G Y k 1 "_law_kinds" (Φ 18)
  f19 : DefOk P w mg base G Y k 1 "_law_marks" (Φ 19)
  f20 : DefOk P w mg base G Y k 2 "_law_lot" (Φ 20)
  f21 : DefOk P w mg base G Y k 1 "_law_odd" (Φ 21)
  f22 : DefOk P w mg base G Y k 1 "_law_is_up" (Φ 22)
  f23 : DefOk P w mg base G Y k 1 "_law_is_marks" (Φ 23)
  f24 : DefOk P w mg base G Y k 2 "_law_is_kind" (Φ 24)
  f25 : DefOk P w mg base G Y k 2 "_law_is_lot" (Φ 25)
  f26 : DefOk P w mg base G Y k 2 "_law_size" (Φ 26)
  f27 : DefOk P w mg base G Y k 2 "_law_holds" (Φ 27)
  f28 : DefOk P w mg base G Y k 2 "_law_tried" (Φ 28)
  f29 : DefOk P w mg base G Y k 1 "law" (Φ 29)
section
variable {P : Program} {w : World} {mg : Str → Option Value} {base : Heap} {G : Gi} {Y : Xi} {k : Nat} {Φ : Nat → Fn}
theorem d0 (T : Tx mg G Y) (L : Lv P w mg base G Y k Φ) {f : Addr} {cdv : Value} {A : Around} {outer : List PySem.Env} {s : Shared} {H : Hp} {E : XK} (C1 : Ctx (cxOf (L2.CX P w) P w G.K mg base ["thing"] "is_pair" (defScope s0) f cdv A outer s H E) G (fun cls d _ H => E cls d H) (k + 1)) : JSs (cxOf (L2.CX P w) P w G.K mg base ["thing"] "is_pair" (defScope s0) f cdv A outer s H E) G Y (fun cls d _ H => E cls d H) (defBody s0) (b0 Φ) := by
  have C : Ctx (cxOf (L2.CX P w) P w G.K mg base ["thing"] "is_pair" (defScope s0) f cdv A outer s H E) G (fun cls d _ H => E cls d H) k := ⟨C1.hK, C1.calm, C1.nd, C1.tk, C1.po, C1.room.mono (Nat.le_succ _)⟩
  have hW : ∀ (cls : Value) (d : Option Addr) (σ σ2 : L2.St) (H : Hp), (fun cls d _ H => E cls d H : WX) cls d σ H → (fun cls d _ H => E cls d H : WX) cls d σ2 H := fun _ _ _ _ _ h => h
  exact (jss_one (js_ret (je_and (je_blt (s_isi T.isi) call_isi T.n_isinstance (by decide +kernel) (ja_cons (je_var 0) (ja_cons (je_ty T.n_tuple (by decide +kernel)) ja_nil))) (je_one (je_cmp s_eq (op_eqD C.room.units) (je_blt s_len o_len T.n_len (by decide +kernel) (ja_cons (je_var 0) ja_nil)) je_int)))))
theorem sc0 : FnScope ["thing"] ["thing"] (defScope s0) := ⟨rfl, rfl, rfl, by decide +kernel, rfl, by decide +kernel, by decide +kernel⟩
theorem d1 (T : Tx mg G Y) (L : Lv P w mg base G Y k Φ) {f : Addr} {cdv : Value} {A : Around} {outer : List PySem.Env} {s : Shared} {H : Hp} {E : XK} (C1 : Ctx (cxOf (L2.CX P w) P w G.K mg base ["items", "at"] "is_ascending" (defScope s1) f cdv A outer s H E) G (fun cls d _ H => E cls d H) (k + 1)) : JSs (cxOf (L2.CX P w) P w G.K mg base ["items", "at"] "is_ascending" (defScope s1) f cdv A outer s H E) G Y (fun cls d _ H => E cls d H) (defBody s1) (b1 Φ) := by
  have C : Ctx (cxOf (L2.CX P w) P w G.K mg base ["items", "at"] "is_ascending" (defScope s1) f cdv A outer s H E) G (fun cls d _ H => E cls d H) k := ⟨C1.hK, C1.calm, C1.nd, C1.tk, C1.po, C1.room.mono (Nat.le_succ _)⟩
  have hW : ∀ (cls : Value) (d : Option Addr) (σ σ2 : L2.St) (H : Hp), (fun cls d _ H => E cls d H : WX) cls d σ H → (fun cls d _ H => E cls d H : WX) cls d σ2 H := fun _ _ _ _ _ h => h
  exact (jss_one (js_ret (je_blt s_all (cr_all C.calm) T.n_all (by decide +kernel) (ja_cons (je_lc [("at", 1)] C (ji_rng2 T.n_range (ja_cons je_int (ja_cons (je_blt s_len o_len T.n_len (by decide +kernel) (ja_cons (je_var 0) ja_nil)) ja_nil))) (by rfl) (fun _ _ _ _ _ C => (jg_name 1 C)) (fun _ _ _ _ _ C => jts_nil) (fun _ _ _ _ _ C => (je_cmp s_lt o_lt (je_ix s_ix ix_seq (je_var 0) (je_bin s_sub op_sub (je_var 1) je_int)) (je_ix s_ix ix_seq (je_var 0) (je_var 1))))) ja_nil))))
theorem sc1 : FnScope ["items", "at"] ["items"] (defScope s1) := ⟨rfl, rfl, rfl, by decide +kernel, rfl, by decide +kernel, by decide +kernel⟩
theorem d2 (T : Tx mg G Y) (L : Lv P w mg base G Y k Φ) {f : Addr} {cdv : Value} {A : Around} {outer : List PySem.Env} {s : Shared} {H : Hp} {E : XK} (C1 : Ctx (cxOf (L2.CX P w) P w G.K mg base ["thing", "sign"] "is_marks" (defScope s2) f cdv A outer s H E) G (fun cls d _ H => E cls d H) (k + 1)) : JSs (cxOf (L2.CX P w) P w G.K mg base ["thing", "sign"] "is_marks" (defScope s2) f cdv A outer s H E) G Y (fun cls d _ H => E cls d H) (defBody s2) (b2 Φ) := by
  have C : Ctx (cxOf (L2.CX P w) P w G.K mg base ["thing", "sign"] "is_marks" (defScope s2) f cdv A outer s H E) G (fun cls d _ H => E cls d H) k := ⟨C1.hK, C1.calm, C1.nd, C1.tk, C1.po, C1.room.mono (Nat.le_succ _)⟩
  have hW : ∀ (cls : Value) (d : Option Addr) (σ σ2 : L2.St) (H : Hp), (fun cls d _ H => E cls d H : WX) cls d σ H → (fun cls d _ H => E cls d H : WX) cls d σ2 H := fun _ _ _ _ _ h => h
  exact (jss_cons (js_if (jt_w (jw_or (jt_not (jt_val (je_blt (s_isi T.isi) call_isi T.n_isinstance (by decide +kernel) (ja_cons (je_var 0) (ja_cons (je_ty T.n_str (by decide +kernel)) ja_nil))))) (jw_or1 (jt_cmp s_cmp op_gt (je_blt s_len o_len T.n_len (by decide +kernel) (ja_cons (je_var 0) ja_nil)) (je_globI T.c_MOST_MARKS)))))
  (jss_one (js_ret je_bl))
  jss_nil)
  (jss_one (js_ret (je_and (je_blt s_all (cr_all C.calm) T.n_all (by decide +kernel) (ja_cons (je_lc [("sign", 1)] C (ji_seq C (je_var 0)) (by rfl) (fun _ _ _ _ _ C => (jg_name 1 C)) (fun _ _ _ _ _ C => jts_nil) (fun _ _ _ _ _ C => (je_cmp s_in o_in (je_var 1) (je_globS T.c_SMALL)))) ja_nil)) (je_one (je_call [false] C L.f1 (ja_cons (je_var 0) ja_nil)))))))
theorem sc2 : FnScope ["thing", "sign"] ["thing"] (defScope s2) := ⟨rfl, rfl, rfl, by decide +kernel, rfl, by decide +kernel, by decide +kernel⟩
theorem d3 (T : Tx mg G Y) (L : Lv P w mg base G Y k Φ) {f : Addr} {cdv : Value} {A : Around} {outer : List PySem.Env} {s : Shared} {H : Hp} {E : XK} (C1 : Ctx (cxOf (L2.CX P w) P w G.K mg base ["marks", "thing", "sign"] "is_kind" (defScope s3) f cdv A outer s H E) G (fun cls d _ H => E cls d H) (k + 1)) : JSs (cxOf (L2.CX P w) P w G.K mg base ["marks", "thing", "sign"] "is_kind" (defScope s3) f cdv A outer s H E) G Y (fun cls d _ H => E cls d H) (defBody s3) (b3 Φ) := by
  have C : Ctx (cxOf (L2.CX P w) P w G.K mg base ["marks", "thing", "sign"] "is_kind" (defScope s3) f cdv A outer s H E) G (fun cls d _ H => E cls d H) k := ⟨C1.hK, C1.calm, C1.nd, C1.tk, C1.po, C1.room.mono (Nat.le_succ _)⟩
  have hW : ∀ (cls : Value) (d : Option Addr) (σ σ2 : L2.St) (H : Hp), (fun cls d _ H => E cls d H : WX) cls d σ H → (fun cls d _ H => E cls d H : WX) cls d σ2 H := fun _ _ _ _ _ h => h
  exact (jss_one (js_ret (je_and (je_blt (s_isi T.isi) call_isi T.n_isinstance (by decide +kernel) (ja_cons (je_var 1) (ja_cons (je_ty T.n_str (by decide +kernel)) ja_nil))) (je_and (je_blt s_all (cr_all C.calm) T.n_all (by decide +kernel) (ja_cons (je_lc [("sign", 2)] C (ji_seq C (je_var 1)) (by rfl) (fun _ _ _ _ _ C => (jg_name 2 C)) (fun _ _ _ _ _ C => jts_nil) (fun _ _ _ _ _ C => (je_cmp s_in o_in (je_var 2) (je_var 0)))) ja_nil)) (je_one (je_call [false] C L.f1 (ja_cons (je_var 1) ja_nil)))))))
theorem sc3 : FnScope ["marks", "thing", "sign"] ["marks", "thing"] (defScope s3) := ⟨rfl, rfl, rfl, by decide +kernel, rfl, by decide +kernel, by decide +kernel⟩
theorem d4 (T : Tx mg G Y) (L : Lv P w mg base G Y k Φ) {f : Addr} {cdv : Value} {A : Around} {outer : List PySem.Env} {s : Shared} {H : Hp} {E : XK} (C1 : Ctx (cxOf (L2.CX P w) P w G.K mg base ["marks", "thing", "kind"] "is_lot" (defScope s4) f cdv A outer s H E) G (fun cls d _ H => E cls d H) (k + 1)) : JSs (cxOf (L2.CX P w) P w G.K mg base ["marks", "thing", "kind"] "is_lot" (defScope s4) f cdv A outer s H E) G Y (fun cls d _ H => E cls d H) (defBody s4) (b4 Φ) := by
  have C : Ctx (cxOf (L2.CX P w) P w G.K mg base ["marks", "thing", "kind"] "is_lot" (defScope s4) f cdv A outer s H E) G (fun cls d _ H => E cls d H) k := ⟨C1.hK, C1.calm, C1.nd, C1.tk, C1.po, C1.room.mono (Nat.le_succ _)⟩
  have hW : ∀ (cls : Value) (d : Option Addr) (σ σ2 : L2.St) (H : Hp), (fun cls d _ H => E cls d H : WX) cls d σ H → (fun cls d _ H => E cls d H : WX) cls d σ2 H := fun _ _ _ _ _ h => h
  exact (jss_cons (js_if (jt_w (jw_or (jt_not (jt_val (je_blt (s_isi T.isi) call_isi T.n_isinstance (by decide +kernel) (ja_cons (je_var 1) (ja_cons (je_ty T.n_tuple (by decide +kernel)) ja_nil))))) (jw_or1 (jt_cmp s_eq (op_eqD C.room.units) (je_blt s_len o_len T.n_len (by decide +kernel) (ja_cons (je_var 1) ja_nil)) je_int))))
  (jss_one (js_ret je_bl))
  jss_nil)
  (jss_one (js_ret (je_and (je_blt s_all (cr_all C.calm) T.n_all (by decide +kernel) (ja_cons (je_lc [("kind", 2)] C (ji_seq C (je_var 1)) (by rfl) (fun _ _ _ _ _ C => (jg_name 2 C)) (fun _ _ _ _ _ C => jts_nil) (fun _ _ _ _ _ C => (je_call [false, false] C L.f3 (ja_cons (je_var 0) (ja_cons (je_var 2) ja_nil))))) ja_nil)) (je_one (je_call [false] C L.f1 (ja_cons (je_var 1) ja_nil)))))))
theorem sc4 : FnScope ["marks", "thing", "kind"] ["marks", "thing"] (defScope s4) := ⟨rfl, rfl, rfl, by decide +kernel, rfl, by decide +kernel, by decide +kernel⟩
theorem d5 (T : Tx mg G Y) (L : Lv P w mg base G Y k Φ) {f : Addr} {cdv : Value} {A : Around} {outer : List PySem.Env} {s : Shared} {H : Hp} {E : XK} (C1 : Ctx (cxOf (L2.CX P w) P w G.K mg base ["thing"] "check_marks" (defScope s5) f cdv A outer s H E) G (fun cls d _ H => E cls d H) (k + 1)) : JSs (cxOf (L2.CX P w) P w G.K mg base ["thing"] "check_marks" (defScope s5) f cdv A outer s H E) G Y (fun cls d _ H => E cls d H) (defBody s5) (b5 Φ) := by
  have C : Ctx (cxOf (L2.CX P w) P w G.K mg base ["thing"] "check_marks" (defScope s5) f cdv A outer s H E) G (fun cls d _ H => E cls d H) k := ⟨C1.hK, C1.calm, C1.nd, C1.tk, C1.po, C1.room.mono (Nat.le_succ _)⟩
  have hW : ∀ (cls : Value) (d : Option Addr) (σ σ2 : L2.St) (H : Hp), (fun cls d _ H => E cls d H : WX) cls d σ H → (fun cls d _ H => E cls d H : WX) cls d σ2 H := fun _ _ _ _ _ h => h
  exact (jss_one (js_if (jt_not (jt_val (je_call [false] C L.f2 (ja_cons (je_var 0) ja_nil))))
  (jss_one (js_raise0 0 C T.x_NoMarks))
  jss_nil))
theorem sc5 : FnScope ["thing"] ["thing"] (defScope s5) := ⟨rfl, rfl, rfl, by decide +kernel, rfl, by decide +kernel, by decide +kernel⟩
theorem d6 (T : Tx mg G Y) (L : Lv P w mg base G Y k Φ) {f : Addr} {cdv : Value} {A : Around} {outer : List PySem.Env} {s : Shared} {H : Hp} {E : XK} (C1 : Ctx (cxOf (L2.CX P w) P w G.K mg base ["marks", "thing"] "check_lot" (defScope s6) f cdv A outer s H E) G (fun cls d _ H => E cls d H) (k + 1)) : JSs (cxOf (L2.CX P w) P w G.K mg base ["marks", "thing"] "check_lot" (defScope s6) f cdv A outer s H E) G Y (fun cls d _ H => E cls d H) (defBody s6) (b6 Φ) := by
  have C : Ctx (cxOf (L2.CX P w) P w G.K mg base ["marks", "thing"] "check_lot" (defScope s6) f cdv A outer s H E) G (fun cls d _ H => E cls d H) k := ⟨C1.hK, C1.calm, C1.nd, C1.tk, C1.po, C1.room.mono (Nat.le_succ _)⟩
  have hW : ∀ (cls : Value) (d : Option Addr) (σ σ2 : L2.St) (H : Hp), (fun cls d _ H => E cls d H : WX) cls d σ H → (fun cls d _ H => E cls d H : WX) cls d σ2 H := fun _ _ _ _ _ h => h
  exact (jss_one (js_if (jt_not (jt_val (je_call [false, false] C L.f4 (ja_cons (je_var 0) (ja_cons (je_var 1) ja_nil)))))
  (jss_one (js_raise0 1 C T.x_NoLot))
  jss_nil))
theorem sc6 : FnScope ["marks", "thing"] ["marks", "thing"] (defScope s6) := ⟨rfl, rfl, rfl, by decide +kernel, rfl, by decide +kernel, by decide +kernel⟩
theorem d7 (T : Tx mg G Y) (L : Lv P w mg base G Y k Φ) {f : Addr} {cdv : Value} {A : Around} {outer : List PySem.Env} {s : Shared} {H : Hp} {E : XK} (C1 : Ctx (cxOf (L2.CX P w) P w G.K mg base ["marks", "found", "mark", "kind"] "all_kinds" (defScope s7) f cdv A outer s H E) G (fun cls d _ H => E cls d H) (k + 1)) : JSs (cxOf (L2.CX P w) P w G.K mg base ["marks", "found", "mark", "kind"] "all_kinds" (defScope s7) f cdv A outer s H E) G Y (fun cls d _ H => E cls d H) (defBody s7) (b7 Φ) := by
  have C : Ctx (cxOf (L2.CX P w) P w G.K mg base ["marks", "found", "mark", "kind"] "all_kinds" (defScope s7) f cdv A outer s H E) G (fun cls d _ H => E cls d H) k := ⟨C1.hK, C1.calm, C1.nd, C1.tk, C1.po, C1.room.mono (Nat.le_succ _)⟩
  have hW : ∀ (cls : Value) (d : Option Addr) (σ σ2 : L2.St) (H : Hp), (fun cls d _ H => E cls d H : WX) cls d σ H → (fun cls d _ H => E cls d H : WX) cls d σ2 H := fun _ _ _ _ _ h => h
  exact (jss_cons (js_asg 1 C (je_lst (flat_cons flat_nil) (ja_cons je_str ja_nil)))
  (jss_cons (js_for (ws := [2]) C (ji_seq C (je_var 0)) (jg_name 2 C)
  (jss_one (js_asg 1 C (je_bin s_add o_add (je_var 1) (je_lc [("kind", 3)] C (ji_seq C (je_var 1)) (by rfl) (fun _ _ _ _ _ C => (jg_name 3 C)) (fun _ _ _ _ _ C => jts_nil) (fun _ _ _ _ _ C => (je_bin s_add o_add (je_var 3) (je_var 2))))))))
  (jss_one (js_ret (je_blt s_sorted (o_sorted C.room.units) T.n_sorted (by decide +kernel) (ja_cons (je_var 1) ja_nil))))))
theorem sc7 : FnScope ["marks", "found", "mark", "kind"] ["marks"] (defScope s7) := ⟨rfl, rfl, rfl, by decide +kernel, rfl, by decide +kernel, by decide +kernel⟩
theorem d8 (T : Tx mg G Y) (L : Lv P w mg base G Y k Φ) {f : Addr} {cdv : Value} {A : Around} {outer : List PySem.Env} {s : Shared} {H : Hp} {E : XK} (C1 : Ctx (cxOf (L2.CX P w) P w G.K mg base ["thing"] "size_of" (defScope s8) f cdv A outer s H E) G (fun cls d _ H => E cls d H) (k + 1)) : JSs (cxOf (L2.CX P w) P w G.K mg base ["thing"] "size_of" (defScope s8) f cdv A outer s H E) G Y (fun cls d _ H => E cls d H) (defBody s8) (b8 Φ) := by
  have C : Ctx (cxOf (L2.CX P w) P w G.K mg base ["thing"] "size_of" (defScope s8) f cdv A outer s H E) G (fun cls d _ H => E cls d H) k := ⟨C1.hK, C1.calm, C1.nd, C1.tk, C1.po, C1.room.mono (Nat.le_succ _)⟩
  have hW : ∀ (cls : Value) (d : Option Addr) (σ σ2 : L2.St) (H : Hp), (fun cls d _ H => E cls d H : WX) cls d σ H → (fun cls d _ H => E cls d H : WX) cls d σ2 H := fun _ _ _ _ _ h => h
  exact (jss_cons (js_if (jt_not (jt_val (je_call [false] C L.f0 (ja_cons (je_var 0) ja_nil))))
  (jss_one (js_ret (je_tup (flat_cons (flat_cons flat_nil)) (ja_cons je_int (ja_cons je_int ja_nil)))))
  jss_nil)
  (jss_cons (js_if (jt_cmp s_eq (op_eqD C.room.units) (je_ix s_ix ix_seq (je_var 0) je_int) je_str)
  (jss_one (js_ret (je_if (jt_w (jw_and (jt_val (je_blt (s_isi T.isi) call_isi T.n_isinstance (by decide +kernel) (ja_cons (je_ix s_ix ix_seq (je_var 0) je_int) (ja_cons (je_ty T.n_str (by decide +kernel)) ja_nil)))) (jw_and1 (jt_cmp s_eq (op_eqD C.room.units) (je_blt s_len o_len T.n_len (by decide +kernel) (ja_cons (je_ix s_ix ix_seq (je_var 0) je_int) ja_nil)) je_int)))) (je_tup (flat_cons (flat_cons flat_nil)) (ja_cons je_int (ja_cons je_int ja_nil))) (je_tup (flat_cons (flat_cons flat_nil)) (ja_cons je_int (ja_cons je_int ja_nil))))))
  jss_nil)
  (jss_cons (js_if (jt_cmp s_eq (op_eqD C.room.units) (je_ix s_ix ix_seq (je_var 0) je_int) je_str)
  (jss_one (js_ret (je_call [false] C L.f9 (ja_cons (je_lst (flat_cons flat_nil) (ja_cons (je_ix s_ix ix_seq (je_var 0) je_int) ja_nil)) ja_nil))))
  jss_nil)
  (jss_cons (js_if (jt_w (jw_or (jt_cmp s_nin o_nin (je_ix s_ix ix_seq (je_var 0) je_int) (je_tup (flat_cons (flat_cons flat_nil)) (ja_cons je_str (ja_cons je_str ja_nil)))) (jw_or (jt_not (jt_val (je_blt (s_isi T.isi) call_isi T.n_isinstance (by decide +kernel) (ja_cons (je_ix s_ix ix_seq (je_var 0) je_int) (ja_cons (je_ty T.n_tuple (by decide +kernel)) ja_nil))))) (jw_or1 (jt_cmp s_cmp op_gt (je_blt s_len o_len T.n_len (by decide +kernel) (ja_cons (je_ix s_ix ix_seq (je_var 0) je_int) ja_nil)) (je_globI T.c_MOST_PARTS))))))
  (jss_one (js_ret (je_tup (flat_cons (flat_cons flat_nil)) (ja_cons je_int (ja_cons je_int ja_nil)))))
  jss_nil)
  (jss_one (js_ret (je_call [false] C L.f9 (ja_cons (je_bty s_listS (o_listS C.calm) T.n_list (by decide +kernel) (ja_cons (je_ix s_ix ix_seq (je_var 0) je_int) ja_nil)) ja_nil))))))))
theorem sc8 : FnScope ["thing"] ["thing"] (defScope s8) := ⟨rfl, rfl, rfl, by decide +kernel, rfl, by decide +kernel, by decide +kernel⟩
theorem d9 (T : Tx mg G Y) (L : Lv P w mg base G Y k Φ) {f : Addr} {cdv : Value} {A : Around} {outer : List PySem.Env} {s : Shared} {H : Hp} {E : XK} (C1 : Ctx (cxOf (L2.CX P w) P w G.K mg base ["parts", "many", "deep", "part", "size", "depth"] "joined_sizes" (defScope s9) f cdv A outer s H E) G (fun cls d _ H => E cls d H) (k + 1)) : JSs (cxOf (L2.CX P w) P w G.K mg base ["parts", "many", "deep", "part", "size", "depth"] "joined_sizes" (defScope s9) f cdv A outer s H E) G Y (fun cls d _ H => E cls d H) (defBody s9) (b9 Φ) := by
  have C : Ctx (cxOf (L2.CX P w) P w G.K mg base ["parts", "many", "deep", "part", "size", "depth"] "joined_sizes" (defScope s9) f cdv A outer s H E) G (fun cls d _ H => E cls d H) k := ⟨C1.hK, C1.calm, C1.nd, C1.tk, C1.po, C1.room.mono (Nat.le_succ _)⟩
  have hW : ∀ (cls : Value) (d : Option Addr) (σ σ2 : L2.St) (H : Hp), (fun cls d _ H => E cls d H : WX) cls d σ H → (fun cls d _ H => E cls d H : WX) cls d σ2 H := fun _ _ _ _ _ h => h
  exact (jss_cons (js_asg 1 C je_int)
  (jss_cons (js_asg 2 C je_int)
  (jss_cons (js_for (ws := [3]) C (ji_seq C (je_var 0)) (jg_name 3 C)
  (jss_cons (js_asgT (ws := [4, 5]) C (je_call [false] C L.f8 (ja_cons (je_var 3) ja_nil)) (jg_tup C (jgs_cons (jg_name 4 C) (jgs_cons (jg_name 5 C) jgs_nil))))
  (jss_cons (js_if (jt_w (jw_or (jt_cmp s_eq (op_eqD C.room.units) (je_var 4) je_int) (jw_or (jt_cmp s_cmp op_gt (je_bin s_add o_add (je_var 1) (je_var 4)) (je_globI T.c_MOST_CONDITIONS)) (jw_or1 (jt_cmp s_cmp op_ge (je_var 5) (je_globI T.c_MOST_DEEP))))))
  (jss_one (js_ret (je_tup (flat_cons (flat_cons flat_nil)) (ja_cons je_int (ja_cons je_int ja_nil)))))
  jss_nil)
  (jss_cons (js_aug 1 C (je_var 4))
  (jss_one (js_asg 2 C (je_blt s_max2 (call_max2 C.calm) T.n_max (by decide +kernel) (ja_cons (je_var 2) (ja_cons (je_bin s_add o_add (je_var 5) je_int) ja_nil)))))))))
  (jss_one (js_ret (je_tup (flat_cons (flat_cons flat_nil)) (ja_cons (je_var 1) (ja_cons (je_var 2) ja_nil))))))))
theorem sc9 : FnScope ["parts", "many", "deep", "part", "size", "depth"] ["parts"] (defScope s9) := ⟨rfl, rfl, rfl, by decide +kernel, rfl, by decide +kernel, by decide +kernel⟩
theorem d10 (T : Tx mg G Y) (L : Lv P w mg base G Y k Φ) {f : Addr} {cdv : Value} {A : Around} {outer : List PySem.Env} {s : Shared} {H : Hp} {E : XK} (C1 : Ctx (cxOf (L2.CX P w) P w G.K mg base ["marks", "condition", "part"] "has_known_marks" (defScope s10) f cdv A outer s H E) G (fun cls d _ H => E cls d H) (k + 1)) : JSs (cxOf (L2.CX P w) P w G.K mg base ["marks", "condition", "part"] "has_known_marks" (defScope s10) f cdv A outer s H E) G Y (fun cls d _ H => E cls d H) (defBody s10) (b10 Φ) := by
  have C : Ctx (cxOf (L2.CX P w) P w G.K mg base ["marks", "condition", "part"] "has_known_marks" (defScope s10) f cdv A outer s H E) G (fun cls d _ H => E cls d H) k := ⟨C1.hK, C1.calm, C1.nd, C1.tk, C1.po, C1.room.mono (Nat.le_succ _)⟩
  have hW : ∀ (cls : Value) (d : Option Addr) (σ σ2 : L2.St) (H : Hp), (fun cls d _ H => E cls d H : WX) cls d σ H → (fun cls d _ H => E cls d H : WX) cls d σ2 H := fun _ _ _ _ _ h => h
  exact (jss_cons (js_if (jt_cmp s_eq (op_eqD C.room.units) (je_ix s_ix ix_seq (je_var 1) je_int) je_str)
  (jss_one (js_ret (je_cmp s_in o_in (je_ix s_ix ix_seq (je_var 1) je_int) (je_var 0))))
  jss_nil)
  (jss_cons (js_if (jt_cmp s_eq (op_eqD C.room.units) (je_ix s_ix ix_seq (je_var 1) je_int) je_str)
  (jss_one (js_ret (je_call [false, false] C L.f10 (ja_cons (je_var 0) (ja_cons (je_ix s_ix ix_seq (je_var 1) je_int) ja_nil)))))
  jss_nil)
  (jss_one (js_ret (je_blt s_all (cr_all C.calm) T.n_all (by decide +kernel) (ja_cons (je_lc [("part", 2)] C (ji_seq C (je_ix s_ix ix_seq (je_var 1) je_int)) (by rfl) (fun _ _ _ _ _ C => (jg_name 2 C)) (fun _ _ _ _ _ C => jts_nil) (fun _ _ _ _ _ C => (je_call [false, false] C L.f10 (ja_cons (je_var 0) (ja_cons (je_var 2) ja_nil))))) ja_nil))))))
theorem sc10 : FnScope ["marks", "condition", "part"] ["marks", "condition"] (defScope s10) := ⟨rfl, rfl, rfl, by decide +kernel, rfl, by decide +kernel, by decide +kernel⟩
theorem d11 (T : Tx mg G Y) (L : Lv P w mg base G Y k Φ) {f : Addr} {cdv : Value} {A : Around} {outer : List PySem.Env} {s : Shared} {H : Hp} {E : XK} (C1 : Ctx (cxOf (L2.CX P w) P w G.K mg base ["marks", "thing"] "check_condition" (defScope s11) f cdv A outer s H E) G (fun cls d _ H => E cls d H) (k + 1)) : JSs (cxOf (L2.CX P w) P w G.K mg base ["marks", "thing"] "check_condition" (defScope s11) f cdv A outer s H E) G Y (fun cls d _ H => E cls d H) (defBody s11) (b11 Φ) := by
  have C : Ctx (cxOf (L2.CX P w) P w G.K mg base ["marks", "thing"] "check_condition" (defScope s11) f cdv A outer s H E) G (fun cls d _ H => E cls d H) k := ⟨C1.hK, C1.calm, C1.nd, C1.tk, C1.po, C1.room.mono (Nat.le_succ _)⟩
  have hW : ∀ (cls : Value) (d : Option Addr) (σ σ2 : L2.St) (H : Hp), (fun cls d _ H => E cls d H : WX) cls d σ H → (fun cls d _ H => E cls d H : WX) cls d σ2 H := fun _ _ _ _ _ h => h
  exact (jss_one (js_if (jt_w (jw_or (jt_cmp s_eq (op_eqD C.room.units) (je_ix s_ix ix_seq (je_call [false] C L.f8 (ja_cons (je_var 1) ja_nil)) je_int) je_int) (jw_or1 (jt_not (jt_val (je_call [false, false] C L.f10 (ja_cons (je_var 0) (ja_cons (je_var 1) ja_nil))))))))
  (jss_one js_never)
  jss_nil))
theorem sc11 : FnScope ["marks", "thing"] ["marks", "thing"] (defScope s11) := ⟨rfl, rfl, rfl, by decide +kernel, rfl, by decide +kernel, by decide +kernel⟩
theorem d12 (T : Tx mg G Y) (L : Lv P w mg base G Y k Φ) {f : Addr} {cdv : Value} {A : Around} {outer : List PySem.Env} {s : Shared} {H : Hp} {E : XK} (C1 : Ctx (cxOf (L2.CX P w) P w G.K mg base ["condition", "kind", "told", "part"] "holds" (defScope s12) f cdv A outer s H E) G (fun cls d _ H => E cls d H) (k + 1)) : JSs (cxOf (L2.CX P w) P w G.K mg base ["condition", "kind", "told", "part"] "holds" (defScope s12) f cdv A outer s H E) G Y (fun cls d _ H => E cls d H) (defBody s12) (b12 Φ) := by
  have C : Ctx (cxOf (L2.CX P w) P w G.K mg base ["condition", "kind", "told", "part"] "holds" (defScope s12) f cdv A outer s H E) G (fun cls d _ H => E cls d H) k := ⟨C1.hK, C1.calm, C1.nd, C1.tk, C1.po, C1.room.mono (Nat.le_succ _)⟩
  have hW : ∀ (cls : Value) (d : Option Addr) (σ σ2 : L2.St) (H : Hp), (fun cls d _ H => E cls d H : WX) cls d σ H → (fun cls d _ H => E cls d H : WX) cls d σ2 H := fun _ _ _ _ _ h => h
  exact (jss_cons (js_if (jt_cmp s_eq (op_eqD C.room.units) (je_ix s_ix ix_seq (je_var 0) je_int) je_str)
  (jss_one (js_ret (je_cmp s_in o_in (je_ix s_ix ix_seq (je_var 0) je_int) (je_var 1))))
  jss_nil)
  (jss_cons (js_if (jt_cmp s_eq (op_eqD C.room.units) (je_ix s_ix ix_seq (je_var 0) je_int) je_str)
  (jss_one (js_ret (je_not (je_call [false, false] C L.f12 (ja_cons (je_ix s_ix ix_seq (je_var 0) je_int) (ja_cons (je_var 1) ja_nil))))))
  jss_nil)
  (jss_cons (js_asgLc 2 [("part", 3)] C (ji_seq C (je_ix s_ix ix_seq (je_var 0) je_int)) (by rfl) (fun _ _ _ _ _ C => (jg_name 3 C)) (fun _ _ _ _ _ C => jts_nil) (fun _ _ _ _ _ C => (je_call [false, false] C L.f12 (ja_cons (je_var 3) (ja_cons (je_var 1) ja_nil)))) (sw_true rfl rfl rfl (by rfl)))
  (jss_one (js_ret (je_if (jt_cmp s_eq (op_eqD C.room.units) (je_ix s_ix ix_seq (je_var 0) je_int) je_str) (je_blt s_all (cr_all C.calm) T.n_all (by decide +kernel) (ja_cons (je_var 2) ja_nil)) (je_blt s_any (cr_any C.calm) T.n_any (by decide +kernel) (ja_cons (je_var 2) ja_nil))))))))
theorem sc12 : FnScope ["condition", "kind", "told", "part"] ["condition", "kind"] (defScope s12) := ⟨rfl, rfl, rfl, by decide +kernel, rfl, by decide +kernel, by decide +kernel⟩
theorem d13 (T : Tx mg G Y) (L : Lv P w mg base G Y k Φ) {f : Addr} {cdv : Value} {A : Around} {outer : List PySem.Env} {s : Shared} {H : Hp} {E : XK} (C1 : Ctx (cxOf (L2.CX P w) P w G.K mg base ["marks", "condition", "kind"] "lot_of" (defScope s13) f cdv A outer s H E) G (fun cls d _ H => E cls d H) (k + 1)) : JSs (cxOf (L2.CX P w) P w G.K mg base ["marks", "condition", "kind"] "lot_of" (defScope s13) f cdv A outer s H E) G Y (fun cls d _ H => E cls d H) (defBody s13) (b13 Φ) := by
  have C : Ctx (cxOf (L2.CX P w) P w G.K mg base ["marks", "condition", "kind"] "lot_of" (defScope s13) f cdv A outer s H E) G (fun cls d _ H => E cls d H) k := ⟨C1.hK, C1.calm, C1.nd, C1.tk, C1.po, C1.room.mono (Nat.le_succ _)⟩
  have hW : ∀ (cls : Value) (d : Option Addr) (σ σ2 : L2.St) (H : Hp), (fun cls d _ H => E cls d H : WX) cls d σ H → (fun cls d _ H => E cls d H : WX) cls d σ2 H := fun _ _ _ _ _ h => h
  exact (jss_cons (js_drop (je_call [false] C L.f5 (ja_cons (je_var 0) ja_nil)))
  (jss_cons (js_drop (je_call [false, false] C L.f11 (ja_cons (je_var 0) (ja_cons (je_var 1) ja_nil))))
  (jss_one (js_ret (je_bty s_tuple call_tuple_of T.n_tuple (by decide +kernel) (ja_cons (je_lc [("kind", 2)] C (ji_seq C (je_call [false] C L.f7 (ja_cons (je_var 0) ja_nil))) (by rfl) (fun _ _ _ _ _ C => (jg_name 2 C)) (fun _ _ _ _ _ C => (jts_one (jt_val (je_call [false, false] C L.f12 (ja_cons (je_var 1) (ja_cons (je_var 2) ja_nil)))))) (fun _ _ _ _ _ C => (je_var 2))) ja_nil))))))
theorem sc13 : FnScope ["marks", "condition", "kind"] ["marks", "condition"] (defScope s13) := ⟨rfl, rfl, rfl, by decide +kernel, rfl, by decide +kernel, by decide +kernel⟩
theorem d14 (T : Tx mg G Y) (L : Lv P w mg base G Y k Φ) {f : Addr} {cdv : Value} {A : Around} {outer : List PySem.Env} {s : Shared} {H : Hp} {E : XK} (C1 : Ctx (cxOf (L2.CX P w) P w G.K mg base ["marks", "lot", "mark", "own", "rest", "kind"] "split_of" (defScope s14) f cdv A outer s H E) G (fun cls d _ H => E cls d H) (k + 1)) : JSs (cxOf (L2.CX P w) P w G.K mg base ["marks", "lot", "mark", "own", "rest", "kind"] "split_of" (defScope s14) f cdv A outer s H E) G Y (fun cls d _ H => E cls d H) (defBody s14) (b14 Φ) := by
  have C : Ctx (cxOf (L2.CX P w) P w G.K mg base ["marks", "lot", "mark", "own", "rest", "kind"] "split_of" (defScope s14) f cdv A outer s H E) G (fun cls d _ H => E cls d H) k := ⟨C1.hK, C1.calm, C1.nd, C1.tk, C1.po, C1.room.mono (Nat.le_succ _)⟩
  have hW : ∀ (cls : Value) (d : Option Addr) (σ σ2 : L2.St) (H : Hp), (fun cls d _ H => E cls d H : WX) cls d σ H → (fun cls d _ H => E cls d H : WX) cls d σ2 H := fun _ _ _ _ _ h => h
  exact (jss_cons (js_if (jt_cmp s_eq (op_eqD C.room.units) (je_blt s_len o_len T.n_len (by decide +kernel) (ja_cons (je_var 1) ja_nil)) je_int)
  (jss_one (js_ret (je_tup (flat_cons (flat_cons flat_nil)) (ja_cons je_str (ja_cons (je_tup flat_nil ja_nil) ja_nil)))))
  jss_nil)
  (jss_cons (js_if (jt_cmp s_eq (op_eqD C.room.units) (je_blt s_len o_len T.n_len (by decide +kernel) (ja_cons (je_var 1) ja_nil)) (je_blt s_len o_len T.n_len (by decide +kernel) (ja_cons (je_call [false] C L.f7 (ja_cons (je_var 0) ja_nil)) ja_nil)))
  (jss_one (js_ret (je_tup (flat_cons (flat_cons flat_nil)) (ja_cons je_str (ja_cons (je_tup flat_nil ja_nil) ja_nil)))))
  jss_nil)
  (jss_cons (js_asg 2 C (je_ix s_ix ix_seq (je_var 0) je_int))
  (jss_cons (js_asg 3 C (je_call [false, false] C L.f14 (ja_cons (je_sl s_sl o_sl (je_var 0) (jo_some je_int) jo_none) (ja_cons (je_lc [("kind", 5)] C (ji_seq C (je_var 1)) (by rfl) (fun _ _ _ _ _ C => (jg_name 5 C)) (fun _ _ _ _ _ C => (jts_one (jt_cmp s_eq (op_eqD C.room.units) (je_sl s_sl o_sl (je_var 5) jo_none (jo_some je_int)) (je_var 2)))) (fun _ _ _ _ _ C => (je_sl s_sl o_sl (je_var 5) (jo_some je_int) jo_none))) ja_nil))))
  (jss_cons (js_asg 4 C (je_call [false, false] C L.f14 (ja_cons (je_sl s_sl o_sl (je_var 0) (jo_some je_int) jo_none) (ja_cons (je_lc [("kind", 5)] C (ji_seq C (je_var 1)) (by rfl) (fun _ _ _ _ _ C => (jg_name 5 C)) (fun _ _ _ _ _ C => (jts_one (jt_cmp s_ne (op_neD C.room.units) (je_sl s_sl o_sl (je_var 5) jo_none (jo_some je_int)) (je_var 2)))) (fun _ _ _ _ _ C => (je_var 5))) ja_nil))))
  (jss_one (js_ret (je_tup (flat_cons (flat_cons flat_nil)) (ja_cons je_str (ja_cons (je_tup (flat_cons (flat_cons flat_nil)) (ja_cons (je_tup (flat_cons (flat_cons flat_nil)) (ja_cons je_str (ja_cons (je_tup (flat_cons (flat_cons flat_nil)) (ja_cons (je_tup (flat_cons (flat_cons flat_nil)) (ja_cons je_str (ja_cons (je_var 2) ja_nil))) (ja_cons (je_var 3) ja_nil))) ja_nil))) (ja_cons (je_tup (flat_cons (flat_cons flat_nil)) (ja_cons je_str (ja_cons (je_tup (flat_cons (flat_cons flat_nil)) (ja_cons (je_tup (flat_cons (flat_cons flat_nil)) (ja_cons je_str (ja_cons (je_tup (flat_cons (flat_cons flat_nil)) (ja_cons je_str (ja_cons (je_var 2) ja_nil))) ja_nil))) (ja_cons (je_var 4) ja_nil))) ja_nil))) ja_nil))) ja_nil))))))))))
theorem sc14 : FnScope ["marks", "lot", "mark", "own", "rest", "kind"] ["marks", "lot"] (defScope s14) := ⟨rfl, rfl, rfl, by decide +kernel, rfl, by decide +kernel, by decide +kernel⟩
theorem d15 (T : Tx mg G Y) (L : Lv P w mg base G Y k Φ) {f : Addr} {cdv : Value} {A : Around} {outer : List PySem.Env} {s : Shared} {H : Hp} {E : XK} (C1 : Ctx (cxOf (L2.CX P w) P w G.K mg base ["marks", "lot"] "condition_of" (defScope s15) f cdv A outer s H E) G (fun cls d _ H => E cls d H) (k + 1)) : JSs (cxOf (L2.CX P w) P w G.K mg base ["marks", "lot"] "condition_of" (defScope s15) f cdv A outer s H E) G Y (fun cls d _ H => E cls d H) (defBody s15) (b15 Φ) := by
  have C : Ctx (cxOf (L2.CX P w) P w G.K mg base ["marks", "lot"] "condition_of" (defScope s15) f cdv A outer s H E) G (fun cls d _ H => E cls d H) k := ⟨C1.hK, C1.calm, C1.nd, C1.tk, C1.po, C1.room.mono (Nat.le_succ _)⟩
  have hW : ∀ (cls : Value) (d : Option Addr) (σ σ2 : L2.St) (H : Hp), (fun cls d _ H => E cls d H : WX) cls d σ H → (fun cls d _ H => E cls d H : WX) cls d σ2 H := fun _ _ _ _ _ h => h
  exact (jss_cons (js_drop (je_call [false] C L.f5 (ja_cons (je_var 0) ja_nil)))
  (jss_cons (js_drop (je_call [false, false] C L.f6 (ja_cons (je_var 0) (ja_cons (je_var 1) ja_nil))))
  (jss_one (js_ret (je_call [false, false] C L.f14 (ja_cons (je_var 0) (ja_cons (je_bty s_listS (o_listS C.calm) T.n_list (by decide +kernel) (ja_cons (je_var 1) ja_nil)) ja_nil)))))))
theorem sc15 : FnScope ["marks", "lot"] ["marks", "lot"] (defScope s15) := ⟨rfl, rfl, rfl, by decide +kernel, rfl, by decide +kernel, by decide +kernel⟩
theorem d16 (T : Tx mg G Y) (L : Lv P w mg base G Y k Φ) {f : Addr} {cdv : Value} {A : Around} {outer : List PySem.Env} {s : Shared} {H : Hp} {E : XK} (C1 : Ctx (cxOf (L2.CX P w) P w G.K mg base ["_law_script"] "_law_tape" (defScope s16) f cdv A outer s H E) G (fun cls d _ H => E cls d H) (k + 1)) : JSs (cxOf (L2.CX P w) P w G.K mg base ["_law_script"] "_law_tape" (defScope s16) f cdv A outer s H E) G Y (fun cls d _ H => E cls d H) (defBody s16) (b16 Φ) := by
  have C : Ctx (cxOf (L2.CX P w) P w G.K mg base ["_law_script"] "_law_tape" (defScope s16) f cdv A outer s H E) G (fun cls d _ H => E cls d H) k := ⟨C1.hK, C1.calm, C1.nd, C1.tk, C1.po, C1.room.mono (Nat.le_succ _)⟩
  have hW : ∀ (cls : Value) (d : Option Addr) (σ σ2 : L2.St) (H : Hp), (fun cls d _ H => E cls d H : WX) cls d σ H → (fun cls d _ H => E cls d H : WX) cls d σ2 H := fun _ _ _ _ _ h => h
  exact (jss_one (js_ret (je_lst (flat_cons (flat_cons (flat_cons (flat_cons (flat_cons flat_nil))))) (ja_cons (je_bty s_listS (o_listS C.calm) T.n_list (by decide +kernel) (ja_cons (je_var 0) ja_nil)) (ja_cons je_int (ja_cons je_int (ja_cons je_int (ja_cons je_int ja_nil))))))))
theorem sc16 : FnScope ["_law_script"] ["_law_script"] (defScope s16) := ⟨rfl, rfl, rfl, by decide +kernel, rfl, by decide +kernel, by decide +kernel⟩
theorem d17 (T : Tx mg G Y) (L : Lv P w mg base G Y k Φ) {f : Addr} {cdv : Value} {A : Around} {outer : List PySem.Env} {s : Shared} {H : Hp} {E : XK} (C1 : Ctx (cxOf (L2.CX P w) P w G.K mg base ["_law_tape_here", "_law_many", "_law_cell", "_law_mixed", "_law_digit"] "_law_pick" (defScope s17) f cdv A outer s H E) G (fun cls d _ H => E cls d H) (k + 1)) : JSs (cxOf (L2.CX P w) P w G.K mg base ["_law_tape_here", "_law_many", "_law_cell", "_law_mixed", "_law_digit"] "_law_pick" (defScope s17) f cdv A outer s H E) G Y (fun cls d _ H => E cls d H) (defBody s17) (b17 Φ) := by
  have C : Ctx (cxOf (L2.CX P w) P w G.K mg base ["_law_tape_here", "_law_many", "_law_cell", "_law_mixed", "_law_digit"] "_law_pick" (defScope s17) f cdv A outer s H E) G (fun cls d _ H => E cls d H) k := ⟨C1.hK, C1.calm, C1.nd, C1.tk, C1.po, C1.room.mono (Nat.le_succ _)⟩
  have hW : ∀ (cls : Value) (d : Option Addr) (σ σ2 : L2.St) (H : Hp), (fun cls d _ H => E cls d H : WX) cls d σ H → (fun cls d _ H => E cls d H : WX) cls d σ2 H := fun _ _ _ _ _ h => h
  exact (jss_cons (js_if (jt_cmp s_cmp op_gt (je_ix s_ix ix_seq (je_var 0) je_int) je_int)
  (jss_cons (js_asg 4 C (je_bin s_mod op_mod (je_bty s_int call_int1 T.n_int (by decide +kernel) (ja_cons (je_ix s_ix ix_seq (je_var 0) je_int) ja_nil)) (je_var 1)))
  (jss_cons (js_setI 0 C (je_bin s_div op_fdiv (je_ix s_ix ix_seq (je_var 0) je_int) (je_var 1)) je_int (hpg := fun h => pg_sub (pv 0) h set_list))
  (jss_one (js_ret (je_var 4)))))
  jss_nil)
  (jss_cons (js_setI 0 C (je_bin s_add o_add (je_ix s_ix ix_seq (je_var 0) je_int) je_int) je_int (hpg := fun h => pg_sub (pv 0) h set_list))
  (jss_cons (js_asg 2 C je_int)
  (jss_cons (js_if (jt_cmp s_lt o_lt (je_ix s_ix ix_seq (je_var 0) je_int) (je_blt s_len o_len T.n_len (by decide +kernel) (ja_cons (je_ix s_ix ix_seq (je_var 0) je_int) ja_nil)))
  (jss_cons (js_asg 2 C (je_ix s_ix ix_seq (je_ix s_ix ix_seq (je_var 0) je_int) (je_ix s_ix ix_seq (je_var 0) je_int)))
  (jss_one (js_setI 0 C (je_bin s_add o_add (je_ix s_ix ix_seq (je_var 0) je_int) je_int) je_int (hpg := fun h => pg_sub (pv 0) h set_list))))
  jss_nil)
  (jss_cons (js_if (jt_cmp s_cmp op_ge (je_var 2) (je_bin s_pow op_pow je_int je_int))
  (jss_cons (js_setI 0 C (je_bin s_div op_fdiv (je_var 2) (je_var 1)) je_int (hpg := fun h => pg_sub (pv 0) h set_list))
  (jss_one (js_ret (je_bin s_mod op_mod (je_bty s_int call_int1 T.n_int (by decide +kernel) (ja_cons (je_var 2) ja_nil)) (je_var 1)))))
  jss_nil)
  (jss_cons (js_asg 3 C (je_bin s_mod op_mod (je_bty s_int call_int1 T.n_int (by decide +kernel) (ja_cons (je_bin s_add o_add (je_bin s_add o_add (je_bin s_mulA o_mulA (je_ix s_ix ix_seq (je_var 0) je_int) je_int) (je_bin s_mod op_mod (je_bty s_int call_int1 T.n_int (by decide +kernel) (ja_cons (je_var 2) ja_nil)) je_int)) (je_bin s_mulA o_mulA (je_ix s_ix ix_seq (je_var 0) je_int) je_int)) ja_nil)) je_int))
  (jss_cons (js_asg 3 C (je_bin s_mod op_mod (je_bty s_int call_int1 T.n_int (by decide +kernel) (ja_cons (je_bin s_mulA o_mulA (je_var 3) (je_bin s_add o_add (je_bin s_div op_fdiv (je_var 3) je_int) je_int)) ja_nil)) je_int))
  (jss_cons (js_setI 0 C (je_var 3) je_int (hpg := fun h => pg_sub (pv 0) h set_list))
  (jss_one (js_ret (je_bin s_mod op_mod (je_bty s_int call_int1 T.n_int (by decide +kernel) (ja_cons (je_bin s_div op_fdiv (je_var 3) je_int) ja_nil)) (je_var 1))))))))))))
theorem sc17 : FnScope ["_law_tape_here", "_law_many", "_law_cell", "_law_mixed", "_law_digit"] ["_law_tape_here", "_law_many"] (defScope s17) := ⟨rfl, rfl, rfl, by decide +kernel, rfl, by decide +kernel, by decide +kernel⟩
theorem d18 (T : Tx mg G Y) (L : Lv P w mg base G Y k Φ) {f : Addr} {cdv : Value} {A : Around} {outer : List PySem.Env} {s : Shared} {H : Hp} {E : XK} (C1 : Ctx (cxOf (L2.CX P w) P w G.K mg base ["_law_marks_here", "_law_found", "_law_mark", "_law_kind"] "_law_kinds" (defScope s18) f cdv A outer s H E) G (fun cls d _ H => E cls d H) (k + 1)) : JSs (cxOf (L2.CX P w) P w G.K mg base ["_law_marks_here", "_law_found", "_law_mark", "_law_kind"] "_law_kinds" (defScope s18) f cdv A outer s H E) G Y (fun cls d _ H => E cls d H) (defBody s18) (b18 Φ) := by
  have C : Ctx (cxOf (L2.CX P w) P w G.K mg base ["_law_marks_here", "_law_found", "_law_mark", "_law_kind"] "_law_kinds" (defScope s18) f cdv A outer s H E) G (fun cls d _ H => E cls d H) k := ⟨C1.hK, C1.calm, C1.nd, C1.tk, C1.po, C1.room.mono (Nat.le_succ _)⟩
  have hW : ∀ (cls : Value) (d : Option Addr) (σ σ2 : L2.St) (H : Hp), (fun cls d _ H => E cls d H : WX) cls d σ H → (fun cls d _ H => E cls d H : WX) cls d σ2 H := fun _ _ _ _ _ h => h
  exact (jss_cons (js_asg 1 C (je_lst (flat_cons flat_nil) (ja_cons je_str ja_nil)))
  (jss_cons (js_for (ws := [2]) C (ji_seq C (je_var 0)) (jg_name 2 C)
  (jss_one (js_asg 1 C (je_bin s_add o_add (je_var 1) (je_lc [("_law_kind", 3)] C (ji_seq C (je_var 1)) (by rfl) (fun _ _ _ _ _ C => (jg_name 3 C)) (fun _ _ _ _ _ C => jts_nil) (fun _ _ _ _ _ C => (je_bin s_add o_add (je_var 3) (je_var 2))))))))
  (jss_one (js_ret (je_blt s_sorted (o_sorted C.room.units) T.n_sorted (by decide +kernel) (ja_cons (je_var 1) ja_nil))))))
theorem sc18 : FnScope ["_law_marks_here", "_law_found", "_law_mark", "_law_kind"] ["_law_marks_here"] (defScope s18) := ⟨rfl, rfl, rfl, by decide +kernel, rfl, by decide +kernel, by decide +kernel⟩
theorem d19 (T : Tx mg G Y) (L : Lv P w mg base G Y k Φ) {f : Addr} {cdv : Value} {A : Around} {outer : List PySem.Env} {s : Shared} {H : Hp} {E : XK} (C1 : Ctx (cxOf (L2.CX P w) P w G.K mg base ["_law_tape_here"] "_law_marks" (defScope s19) f cdv A outer s H E) G (fun cls d _ H => E cls d H) (k + 1)) : JSs (cxOf (L2.CX P w) P w G.K mg base ["_law_tape_here"] "_law_marks" (defScope s19) f cdv A outer s H E) G Y (fun cls d _ H => E cls d H) (defBody s19) (b19 Φ) := by
  have C : Ctx (cxOf (L2.CX P w) P w G.K mg base ["_law_tape_here"] "_law_marks" (defScope s19) f cdv A outer s H E) G (fun cls d _ H => E cls d H) k := ⟨C1.hK, C1.calm, C1.nd, C1.tk, C1.po, C1.room.mono (Nat.le_succ _)⟩
  have hW : ∀ (cls : Value) (d : Option Addr) (σ σ2 : L2.St) (H : Hp), (fun cls d _ H => E cls d H : WX) cls d σ H → (fun cls d _ H => E cls d H : WX) cls d σ2 H := fun _ _ _ _ _ h => h
  exact (jss_one (js_ret (je_ix s_ix ix_seq (je_lst (flat_cons (flat_cons (flat_cons (flat_cons (flat_cons (flat_cons (flat_cons (flat_cons (flat_cons flat_nil))))))))) (ja_cons je_str (ja_cons je_str (ja_cons je_str (ja_cons je_str (ja_cons je_str (ja_cons je_str (ja_cons je_str (ja_cons je_str (ja_cons je_str ja_nil)))))))))) (je_call [true, false] C L.f17 (ja_cons (je_var 0) (ja_cons je_int ja_nil))))))
theorem sc19 : FnScope ["_law_tape_here"] ["_law_tape_here"] (defScope s19) := ⟨rfl, rfl, rfl, by decide +kernel, rfl, by decide +kernel, by decide +kernel⟩
theorem d20 (T : Tx mg G Y) (L : Lv P w mg base G Y k Φ) {f : Addr} {cdv : Value} {A : Around} {outer : List PySem.Env} {s : Shared} {H : Hp} {E : XK} (C1 : Ctx (cxOf (L2.CX P w) P w G.K mg base ["_law_tape_here", "_law_every", "_law_found", "_law_few", "_law_kind", "_law_k"] "_law_lot" (defScope s20) f cdv A outer s H E) G (fun cls d _ H => E cls d H) (k + 1)) : JSs (cxOf (L2.CX P w) P w G.K mg base ["_law_tape_here", "_law_every", "_law_found", "_law_few", "_law_kind", "_law_k"] "_law_lot" (defScope s20) f cdv A outer s H E) G Y (fun cls d _ H => E cls d H) (defBody s20) (b20 Φ) := by
  have C : Ctx (cxOf (L2.CX P w) P w G.K mg base ["_law_tape_here", "_law_every", "_law_found", "_law_few", "_law_kind", "_law_k"] "_law_lot" (defScope s20) f cdv A outer s H E) G (fun cls d _ H => E cls d H) k := ⟨C1.hK, C1.calm, C1.nd, C1.tk, C1.po, C1.room.mono (Nat.le_succ _)⟩
  have hW : ∀ (cls : Value) (d : Option Addr) (σ σ2 : L2.St) (H : Hp), (fun cls d _ H => E cls d H : WX) cls d σ H → (fun cls d _ H => E cls d H : WX) cls d σ2 H := fun _ _ _ _ _ h => h
  exact (jss_cons (js_if (jt_w (jw_and (jt_cmp s_cmp op_gt (je_blt s_len o_len T.n_len (by decide +kernel) (ja_cons (je_var 1) ja_nil)) je_int) (jw_and1 (jt_cmp s_eq (op_eqD C.room.units) (je_call [true, false] C L.f17 (ja_cons (je_var 0) (ja_cons je_int ja_nil))) je_int))))
  (jss_cons (js_asg 3 C (je_lc [("_law_k", 5)] C (ji_rng1 T.n_range (ja_cons (je_bin s_add o_add je_int (je_call [true, false] C L.f17 (ja_cons (je_var 0) (ja_cons je_int ja_nil)))) ja_nil)) (by rfl) (fun _ _ _ _ _ C => (jg_name 5 C)) (fun _ _ _ _ _ C => jts_nil) (fun _ _ _ _ _ C => (je_ix s_ix ix_seq (je_var 1) (je_call [true, false] C L.f17 (ja_cons (je_var 0) (ja_cons (je_blt s_len o_len T.n_len (by decide +kernel) (ja_cons (je_var 1) ja_nil)) ja_nil)))))))
  (jss_one (js_ret (je_bty s_tuple call_tuple_of T.n_tuple (by decide +kernel) (ja_cons (je_blt s_sorted (o_sorted C.room.units) T.n_sorted (by decide +kernel) (ja_cons (je_lc [("_law_kind", 4)] C (ji_seq C (je_var 1)) (by rfl) (fun _ _ _ _ _ C => (jg_name 4 C)) (fun _ _ _ _ _ C => (jts_one (jt_cmp s_in o_in (je_var 4) (je_var 3)))) (fun _ _ _ _ _ C => (je_var 4))) ja_nil)) ja_nil)))))
  jss_nil)
  (jss_cons (js_asgLc 2 [("_law_kind", 4)] C (ji_seq C (je_var 1)) (by rfl) (fun _ _ _ _ _ C => (jg_name 4 C)) (fun _ _ _ _ _ C => (jts_one (jt_cmp s_eq (op_eqD C.room.units) (je_call [true, false] C L.f17 (ja_cons (je_var 0) (ja_cons je_int ja_nil))) je_int))) (fun _ _ _ _ _ C => (je_var 4)) (sw_true rfl rfl rfl (by rfl)))
  (jss_cons (js_if (jt_cmp s_eq (op_eqD C.room.units) (je_blt s_len o_len T.n_len (by decide +kernel) (ja_cons (je_var 2) ja_nil)) je_int)
  (jss_one (js_asg 2 C (je_lst (flat_cons flat_nil) (ja_cons (je_ix s_ix ix_seq (je_var 1) (je_call [true, false] C L.f17 (ja_cons (je_var 0) (ja_cons (je_blt s_len o_len T.n_len (by decide +kernel) (ja_cons (je_var 1) ja_nil)) ja_nil)))) ja_nil))))
  jss_nil)
  (jss_one (js_ret (je_bty s_tuple call_tuple_of T.n_tuple (by decide +kernel) (ja_cons (je_var 2) ja_nil)))))))
theorem sc20 : FnScope ["_law_tape_here", "_law_every", "_law_found", "_law_few", "_law_kind", "_law_k"] ["_law_tape_here", "_law_every"] (defScope s20) := ⟨rfl, rfl, rfl, by decide +kernel, rfl, by decide +kernel, by decide +kernel⟩
theorem d21 (T : Tx mg G Y) (L : Lv P w mg base G Y k Φ) {f : Addr} {cdv : Value} {A : Around} {outer : List PySem.Env} {s : Shared} {H : Hp} {E : XK} (C1 : Ctx (cxOf (L2.CX P w) P w G.K mg base ["_law_tape_here", "_law_things"] "_law_odd" (defScope s21) f cdv A outer s H E) G (fun cls d _ H => E cls d H) (k + 1)) : JSs (cxOf (L2.CX P w) P w G.K mg base ["_law_tape_here", "_law_things"] "_law_odd" (defScope s21) f cdv A outer s H E) G Y (fun cls d _ H => E cls d H) (defBody s21) (b21 Φ) := by
  have C : Ctx (cxOf (L2.CX P w) P w G.K mg base ["_law_tape_here", "_law_things"] "_law_odd" (defScope s21) f cdv A outer s H E) G (fun cls d _ H => E cls d H) k := ⟨C1.hK, C1.calm, C1.nd, C1.tk, C1.po, C1.room.mono (Nat.le_succ _)⟩
  have hW : ∀ (cls : Value) (d : Option Addr) (σ σ2 : L2.St) (H : Hp), (fun cls d _ H => E cls d H : WX) cls d σ H → (fun cls d _ H => E cls d H : WX) cls d σ2 H := fun _ _ _ _ _ h => h
  exact (jss_cons (js_asg 1 C (je_lst (flat_cons (flat_cons (flat_cons (flat_cons (flat_cons (flat_cons (flat_cons (flat_cons (flat_cons (flat_cons (flat_cons (flat_cons (flat_cons (flat_cons (flat_cons (flat_cons (flat_cons (flat_cons flat_nil)))))))))))))))))) (ja_cons je_non (ja_cons je_bl (ja_cons je_bl (ja_cons je_int (ja_cons je_int (ja_cons (je_un s_neg un_neg je_int) (ja_cons (je_bin s_pow op_pow je_int je_int) (ja_cons je_str (ja_cons je_str (ja_cons je_str (ja_cons je_str (ja_cons je_str (ja_cons je_str (ja_cons je_str (ja_cons (je_tup flat_nil ja_nil) (ja_cons (je_lst flat_nil ja_nil) (ja_cons je_dic (ja_cons (je_tup (flat_cons flat_nil) (ja_cons je_str ja_nil)) ja_nil))))))))))))))))))))
  (jss_cons (js_asg 1 C (je_bin s_add o_add (je_var 1) (je_lst (flat_cons (flat_cons (flat_cons (flat_cons (flat_cons (flat_cons (flat_cons (flat_cons (flat_cons flat_nil))))))))) (ja_cons (je_tup (flat_cons flat_nil) (ja_cons je_str ja_nil)) (ja_cons (je_lst (flat_cons flat_nil) (ja_cons je_str ja_nil)) (ja_cons (je_tup (flat_cons (flat_cons flat_nil)) (ja_cons je_str (ja_cons je_str ja_nil))) (ja_cons (je_tup (flat_cons (flat_cons flat_nil)) (ja_cons je_str (ja_cons je_str ja_nil))) (ja_cons (je_tup (flat_cons (flat_cons flat_nil)) (ja_cons je_str (ja_cons je_str ja_nil))) (ja_cons (je_tup (flat_cons flat_nil) (ja_cons (je_tup (flat_cons flat_nil) (ja_cons je_str ja_nil)) ja_nil)) (ja_cons (je_tup (flat_cons (flat_cons flat_nil)) (ja_cons (je_tup (flat_cons flat_nil) (ja_cons je_str ja_nil)) (ja_cons (je_tup flat_nil ja_nil) ja_nil))) (ja_cons (je_tup (flat_cons flat_nil) (ja_cons je_int ja_nil)) (ja_cons (je_tup (flat_cons (flat_cons flat_nil)) (ja_cons je_str (ja_cons je_int ja_nil))) ja_nil))))))))))))
  (jss_cons (js_asg 1 C (je_bin s_add o_add (je_var 1) (je_lst (flat_cons (flat_cons (flat_cons (flat_cons (flat_cons (flat_cons (flat_cons flat_nil))))))) (ja_cons (je_tup (flat_cons (flat_cons flat_nil)) (ja_cons je_bl (ja_cons je_str ja_nil))) (ja_cons (je_tup (flat_cons flat_nil) (ja_cons je_str ja_nil)) (ja_cons (je_tup (flat_cons (flat_cons flat_nil)) (ja_cons (je_tup (flat_cons flat_nil) (ja_cons je_str ja_nil)) (ja_cons (je_lst (flat_cons flat_nil) (ja_cons je_str ja_nil)) ja_nil))) (ja_cons je_str (ja_cons (je_tup (flat_cons (flat_cons flat_nil)) (ja_cons je_int (ja_cons je_int ja_nil))) (ja_cons (je_tup (flat_cons (flat_cons flat_nil)) (ja_cons je_str (ja_cons je_str ja_nil))) (ja_cons (je_tup (flat_cons (flat_cons (flat_cons flat_nil))) (ja_cons je_str (ja_cons je_str (ja_cons je_str ja_nil)))) ja_nil))))))))))
  (jss_one (js_ret (je_ix s_ix ix_seq (je_var 1) (je_call [true, false] C L.f17 (ja_cons (je_var 0) (ja_cons (je_blt s_len o_len T.n_len (by decide +kernel) (ja_cons (je_var 1) ja_nil)) ja_nil)))))))))
theorem sc21 : FnScope ["_law_tape_here", "_law_things"] ["_law_tape_here"] (defScope s21) := ⟨rfl, rfl, rfl, by decide +kernel, rfl, by decide +kernel, by decide +kernel⟩
theorem d22 (T : Tx mg G Y) (L : Lv P w mg base G Y k Φ) {f : Addr} {cdv : Value} {A : Around} {outer : List PySem.Env} {s : Shared} {H : Hp} {E : XK} (C1 : Ctx (cxOf (L2.CX P w) P w G.K mg base ["_law_items", "_law_at"] "_law_is_up" (defScope s22) f cdv A outer s H E) G (fun cls d _ H => E cls d H) (k + 1)) : JSs (cxOf (L2.CX P w) P w G.K mg base ["_law_items", "_law_at"] "_law_is_up" (defScope s22) f cdv A outer s H E) G Y (fun cls d _ H => E cls d H) (defBody s22) (b22 Φ) := by
  have C : Ctx (cxOf (L2.CX P w) P w G.K mg base ["_law_items", "_law_at"] "_law_is_up" (defScope s22) f cdv A outer s H E) G (fun cls d _ H => E cls d H) k := ⟨C1.hK, C1.calm, C1.nd, C1.tk, C1.po, C1.room.mono (Nat.le_succ _)⟩
  have hW : ∀ (cls : Value) (d : Option Addr) (σ σ2 : L2.St) (H : Hp), (fun cls d _ H => E cls d H : WX) cls d σ H → (fun cls d _ H => E cls d H : WX) cls d σ2 H := fun _ _ _ _ _ h => h
  exact (jss_one (js_ret (je_cmp s_eq (op_eqD C.room.units) (je_blt s_len o_len T.n_len (by decide +kernel) (ja_cons (je_lc [("_law_at", 1)] C (ji_rng2 T.n_range (ja_cons je_int (ja_cons (je_blt s_len o_len T.n_len (by decide +kernel) (ja_cons (je_var 0) ja_nil)) ja_nil))) (by rfl) (fun _ _ _ _ _ C => (jg_name 1 C)) (fun _ _ _ _ _ C => (jts_one (jt_not (jt_cmp s_lt o_lt (je_ix s_ix ix_seq (je_var 0) (je_bin s_sub op_sub (je_var 1) je_int)) (je_ix s_ix ix_seq (je_var 0) (je_var 1)))))) (fun _ _ _ _ _ C => (je_var 1))) ja_nil)) je_int)))
theorem sc22 : FnScope ["_law_items", "_law_at"] ["_law_items"] (defScope s22) := ⟨rfl, rfl, rfl, by decide +kernel, rfl, by decide +kernel, by decide +kernel⟩
theorem d23 (T : Tx mg G Y) (L : Lv P w mg base G Y k Φ) {f : Addr} {cdv : Value} {A : Around} {outer : List PySem.Env} {s : Shared} {H : Hp} {E : XK} (C1 : Ctx (cxOf (L2.CX P w) P w G.K mg base ["_law_thing", "_law_sign"] "_law_is_marks" (defScope s23) f cdv A outer s H E) G (fun cls d _ H => E cls d H) (k + 1)) : JSs (cxOf (L2.CX P w) P w G.K mg base ["_law_thing", "_law_sign"] "_law_is_marks" (defScope s23) f cdv A outer s H E) G Y (fun cls d _ H => E cls d H) (defBody s23) (b23 Φ) := by
  have C : Ctx (cxOf (L2.CX P w) P w G.K mg base ["_law_thing", "_law_sign"] "_law_is_marks" (defScope s23) f cdv A outer s H E) G (fun cls d _ H => E cls d H) k := ⟨C1.hK, C1.calm, C1.nd, C1.tk, C1.po, C1.room.mono (Nat.le_succ _)⟩
  have hW : ∀ (cls : Value) (d : Option Addr) (σ σ2 : L2.St) (H : Hp), (fun cls d _ H => E cls d H : WX) cls d σ H → (fun cls d _ H => E cls d H : WX) cls d σ2 H := fun _ _ _ _ _ h => h
  exact (jss_cons (js_if (jt_w (jw_or (jt_not (jt_val (je_blt (s_isi T.isi) call_isi T.n_isinstance (by decide +kernel) (ja_cons (je_var 0) (ja_cons (je_ty T.n_str (by decide +kernel)) ja_nil))))) (jw_or (jt_cmp s_gtA o_gtA (je_blt s_len o_len T.n_len (by decide +kernel) (ja_cons (je_var 0) ja_nil)) je_int) (jw_or1 (jt_not (jt_val (je_call [false] C L.f22 (ja_cons (je_var 0) ja_nil))))))))
  (jss_one (js_ret je_bl))
  jss_nil)
  (jss_one (js_ret (je_cmp s_eq (op_eqD C.room.units) (je_blt s_len o_len T.n_len (by decide +kernel) (ja_cons (je_lc [("_law_sign", 1)] C (ji_seq C (je_var 0)) (by rfl) (fun _ _ _ _ _ C => (jg_name 1 C)) (fun _ _ _ _ _ C => (jts_one (jt_w (jw_or (jt_cmp s_lt o_lt (je_var 1) je_str) (jw_or1 (jt_cmp s_gtA o_gtA (je_var 1) je_str)))))) (fun _ _ _ _ _ C => (je_var 1))) ja_nil)) je_int))))
theorem sc23 : FnScope ["_law_thing", "_law_sign"] ["_law_thing"] (defScope s23) := ⟨rfl, rfl, rfl, by decide +kernel, rfl, by decide +kernel, by decide +kernel⟩
theorem d24 (T : Tx mg G Y) (L : Lv P w mg base G Y k Φ) {f : Addr} {cdv : Value} {A : Around} {outer : List PySem.Env} {s : Shared} {H : Hp} {E : XK} (C1 : Ctx (cxOf (L2.CX P w) P w G.K mg base ["_law_marks_here", "_law_thing", "_law_sign"] "_law_is_kind" (defScope s24) f cdv A outer s H E) G (fun cls d _ H => E cls d H) (k + 1)) : JSs (cxOf (L2.CX P w) P w G.K mg base ["_law_marks_here", "_law_thing", "_law_sign"] "_law_is_kind" (defScope s24) f cdv A outer s H E) G Y (fun cls d _ H => E cls d H) (defBody s24) (b24 Φ) := by
  have C : Ctx (cxOf (L2.CX P w) P w G.K mg base ["_law_marks_here", "_law_thing", "_law_sign"] "_law_is_kind" (defScope s24) f cdv A outer s H E) G (fun cls d _ H => E cls d H) k := ⟨C1.hK, C1.calm, C1.nd, C1.tk, C1.po, C1.room.mono (Nat.le_succ _)⟩
  have hW : ∀ (cls : Value) (d : Option Addr) (σ σ2 : L2.St) (H : Hp), (fun cls d _ H => E cls d H : WX) cls d σ H → (fun cls d _ H => E cls d H : WX) cls d σ2 H := fun _ _ _ _ _ h => h
  exact (jss_one (js_ret (je_and (je_blt (s_isi T.isi) call_isi T.n_isinstance (by decide +kernel) (ja_cons (je_var 1) (ja_cons (je_ty T.n_str (by decide +kernel)) ja_nil))) (je_and (je_cmp s_eq (op_eqD C.room.units) (je_blt s_len o_len T.n_len (by decide +kernel) (ja_cons (je_lc [("_law_sign", 2)] C (ji_seq C (je_var 1)) (by rfl) (fun _ _ _ _ _ C => (jg_name 2 C)) (fun _ _ _ _ _ C => (jts_one (jt_cmp s_nin o_nin (je_var 2) (je_var 0)))) (fun _ _ _ _ _ C => (je_var 2))) ja_nil)) je_int) (je_one (je_call [false] C L.f22 (ja_cons (je_var 1) ja_nil)))))))
theorem sc24 : FnScope ["_law_marks_here", "_law_thing", "_law_sign"] ["_law_marks_here", "_law_thing"] (defScope s24) := ⟨rfl, rfl, rfl, by decide +kernel, rfl, by decide +kernel, by decide +kernel⟩
theorem d25 (T : Tx mg G Y) (L : Lv P w mg base G Y k Φ) {f : Addr} {cdv : Value} {A : Around} {outer : List PySem.Env} {s : Shared} {H : Hp} {E : XK} (C1 : Ctx (cxOf (L2.CX P w) P w G.K mg base ["_law_marks_here", "_law_thing", "_law_kind"] "_law_is_lot" (defScope s25) f cdv A outer s H E) G (fun cls d _ H => E cls d H) (k + 1)) : JSs (cxOf (L2.CX P w) P w G.K mg base ["_law_marks_here", "_law_thing", "_law_kind"] "_law_is_lot" (defScope s25) f cdv A outer s H E) G Y (fun cls d _ H => E cls d H) (defBody s25) (b25 Φ) := by
  have C : Ctx (cxOf (L2.CX P w) P w G.K mg base ["_law_marks_here", "_law_thing", "_law_kind"] "_law_is_lot" (defScope s25) f cdv A outer s H E) G (fun cls d _ H => E cls d H) k := ⟨C1.hK, C1.calm, C1.nd, C1.tk, C1.po, C1.room.mono (Nat.le_succ _)⟩
  have hW : ∀ (cls : Value) (d : Option Addr) (σ σ2 : L2.St) (H : Hp), (fun cls d _ H => E cls d H : WX) cls d σ H → (fun cls d _ H => E cls d H : WX) cls d σ2 H := fun _ _ _ _ _ h => h
  exact (jss_cons (js_if (jt_w (jw_or (jt_not (jt_val (je_blt (s_isi T.isi) call_isi T.n_isinstance (by decide +kernel) (ja_cons (je_var 1) (ja_cons (je_ty T.n_tuple (by decide +kernel)) ja_nil))))) (jw_or1 (jt_cmp s_eq (op_eqD C.room.units) (je_blt s_len o_len T.n_len (by decide +kernel) (ja_cons (je_var 1) ja_nil)) je_int))))
  (jss_one (js_ret je_bl))
  jss_nil)
  (jss_one (js_ret (je_and (je_cmp s_eq (op_eqD C.room.units) (je_blt s_len o_len T.n_len (by decide +kernel) (ja_cons (je_lc [("_law_kind", 2)] C (ji_seq C (je_var 1)) (by rfl) (fun _ _ _ _ _ C => (jg_name 2 C)) (fun _ _ _ _ _ C => (jts_one (jt_not (jt_val (je_call [false, false] C L.f24 (ja_cons (je_var 0) (ja_cons (je_var 2) ja_nil))))))) (fun _ _ _ _ _ C => (je_var 2))) ja_nil)) je_int) (je_one (je_call [false] C L.f22 (ja_cons (je_var 1) ja_nil)))))))
theorem sc25 : FnScope ["_law_marks_here", "_law_thing", "_law_kind"] ["_law_marks_here", "_law_thing"] (defScope s25) := ⟨rfl, rfl, rfl, by decide +kernel, rfl, by decide +kernel, by decide +kernel⟩
theorem d26 (T : Tx mg G Y) (L : Lv P w mg base G Y k Φ) {f : Addr} {cdv : Value} {A : Around} {outer : List PySem.Env} {s : Shared} {H : Hp} {E : XK} (C1 : Ctx (cxOf (L2.CX P w) P w G.K mg base ["_law_marks_here", "_law_thing", "_law_parts", "_law_sizes", "_law_part", "_law_size_here", "_law_deep"] "_law_size" (defScope s26) f cdv A outer s H E) G (fun cls d _ H => E cls d H) (k + 1)) : JSs (cxOf (L2.CX P w) P w G.K mg base ["_law_marks_here", "_law_thing", "_law_parts", "_law_sizes", "_law_part", "_law_size_here", "_law_deep"] "_law_size" (defScope s26) f cdv A outer s H E) G Y (fun cls d _ H => E cls d H) (defBody s26) (b26 Φ) := by
  have C : Ctx (cxOf (L2.CX P w) P w G.K mg base ["_law_marks_here", "_law_thing", "_law_parts", "_law_sizes", "_law_part", "_law_size_here", "_law_deep"] "_law_size" (defScope s26) f cdv A outer s H E) G (fun cls d _ H => E cls d H) k := ⟨C1.hK, C1.calm, C1.nd, C1.tk, C1.po, C1.room.mono (Nat.le_succ _)⟩
  have hW : ∀ (cls : Value) (d : Option Addr) (σ σ2 : L2.St) (H : Hp), (fun cls d _ H => E cls d H : WX) cls d σ H → (fun cls d _ H => E cls d H : WX) cls d σ2 H := fun _ _ _ _ _ h => h
  exact (jss_cons (js_if (jt_w (jw_or (jt_not (jt_val (je_blt (s_isi T.isi) call_isi T.n_isinstance (by decide +kernel) (ja_cons (je_var 1) (ja_cons (je_ty T.n_tuple (by decide +kernel)) ja_nil))))) (jw_or1 (jt_cmp s_ne (op_neD C.room.units) (je_blt s_len o_len T.n_len (by decide +kernel) (ja_cons (je_var 1) ja_nil)) je_int))))
  (jss_one (js_ret (je_tup (flat_cons (flat_cons flat_nil)) (ja_cons je_int (ja_cons je_int ja_nil)))))
  jss_nil)
  (jss_cons (js_if (jt_cmp s_eq (op_eqD C.room.units) (je_ix s_ix ix_seq (je_var 1) je_int) je_str)
  (jss_one (js_ret (je_tup (flat_cons (flat_cons flat_nil)) (ja_cons (je_bty s_int call_int1 T.n_int (by decide +kernel) (ja_cons (je_and (je_blt (s_isi T.isi) call_isi T.n_isinstance (by decide +kernel) (ja_cons (je_ix s_ix ix_seq (je_var 1) je_int) (ja_cons (je_ty T.n_str (by decide +kernel)) ja_nil))) (je_and (je_cmp s_eq (op_eqD C.room.units) (je_blt s_len o_len T.n_len (by decide +kernel) (ja_cons (je_ix s_ix ix_seq (je_var 1) je_int) ja_nil)) je_int) (je_one (je_cmp s_in o_in (je_ix s_ix ix_seq (je_var 1) je_int) (je_var 0))))) ja_nil)) (ja_cons je_int ja_nil)))))
  jss_nil)
  (jss_cons (js_asg 2 C (je_lst (flat_cons flat_nil) (ja_cons (je_ix s_ix ix_seq (je_var 1) je_int) ja_nil)))
  (jss_cons (js_if (jt_cmp s_in o_in (je_ix s_ix ix_seq (je_var 1) je_int) (je_lst (flat_cons (flat_cons flat_nil)) (ja_cons je_str (ja_cons je_str ja_nil))))
  (jss_cons (js_if (jt_w (jw_or (jt_not (jt_val (je_blt (s_isi T.isi) call_isi T.n_isinstance (by decide +kernel) (ja_cons (je_ix s_ix ix_seq (je_var 1) je_int) (ja_cons (je_ty T.n_tuple (by decide +kernel)) ja_nil))))) (jw_or1 (jt_cmp s_cmp op_gt (je_blt s_len o_len T.n_len (by decide +kernel) (ja_cons (je_ix s_ix ix_seq (je_var 1) je_int) ja_nil)) je_int))))
  (jss_one (js_ret (je_tup (flat_cons (flat_cons flat_nil)) (ja_cons je_int (ja_cons je_int ja_nil)))))
  jss_nil)
  (jss_one (js_asg 2 C (je_bty s_listS (o_listS C.calm) T.n_list (by decide +kernel) (ja_cons (je_ix s_ix ix_seq (je_var 1) je_int) ja_nil)))))
  (jss_one (js_if (jt_cmp s_ne (op_neD C.room.units) (je_ix s_ix ix_seq (je_var 1) je_int) je_str)
  (jss_one (js_ret (je_tup (flat_cons (flat_cons flat_nil)) (ja_cons je_int (ja_cons je_int ja_nil)))))
  jss_nil)))
  (jss_cons (js_asgLc 3 [("_law_part", 4)] C (ji_seq C (je_var 2)) (by rfl) (fun _ _ _ _ _ C => (jg_name 4 C)) (fun _ _ _ _ _ C => jts_nil) (fun _ _ _ _ _ C => (je_call [false, false] C L.f26 (ja_cons (je_var 0) (ja_cons (je_var 4) ja_nil)))) (sw_true rfl rfl rfl (by rfl)))
  (jss_cons (js_if (jt_cmp s_cmp op_gt (je_blt s_len o_len T.n_len (by decide +kernel) (ja_cons (je_lc [("_law_size_here", 5), ("_law_deep", 6)] C (ji_seq C (je_var 3)) (by rfl) (fun _ _ _ _ _ C => (jg_tup C (jgs_cons (jg_name 5 C) (jgs_cons (jg_name 6 C) jgs_nil)))) (fun _ _ _ _ _ C => (jts_one (jt_cmp s_eq (op_eqD C.room.units) (je_var 5) je_int))) (fun _ _ _ _ _ C => (je_var 5))) ja_nil)) je_int)
  (jss_one (js_ret (je_tup (flat_cons (flat_cons flat_nil)) (ja_cons je_int (ja_cons je_int ja_nil)))))
  jss_nil)
  (jss_one (js_ret (je_tup (flat_cons (flat_cons flat_nil)) (ja_cons (je_bin s_add o_add je_int (je_blt s_sum (cr_sum C.calm) T.n_sum (by decide +kernel) (ja_cons (je_lc [("_law_size_here", 5), ("_law_deep", 6)] C (ji_seq C (je_var 3)) (by rfl) (fun _ _ _ _ _ C => (jg_tup C (jgs_cons (jg_name 5 C) (jgs_cons (jg_name 6 C) jgs_nil)))) (fun _ _ _ _ _ C => jts_nil) (fun _ _ _ _ _ C => (je_var 5))) ja_nil))) (ja_cons (je_bin s_add o_add je_int (je_blt s_maxL (cr_max C.calm) T.n_max (by decide +kernel) (ja_cons (je_bin s_add o_add (je_lst (flat_cons flat_nil) (ja_cons je_int ja_nil)) (je_lc [("_law_size_here", 5), ("_law_deep", 6)] C (ji_seq C (je_var 3)) (by rfl) (fun _ _ _ _ _ C => (jg_tup C (jgs_cons (jg_name 5 C) (jgs_cons (jg_name 6 C) jgs_nil)))) (fun _ _ _ _ _ C => jts_nil) (fun _ _ _ _ _ C => (je_var 6)))) ja_nil))) ja_nil)))))))))))
theorem sc26 : FnScope ["_law_marks_here", "_law_thing", "_law_parts", "_law_sizes", "_law_part", "_law_size_here", "_law_deep"] ["_law_marks_here", "_law_thing"] (defScope s26) := ⟨rfl, rfl, rfl, by decide +kernel, rfl, by decide +kernel, by decide +kernel⟩
theorem d27 (T : Tx mg G Y) (L : Lv P w mg base G Y k Φ) {f : Addr} {cdv : Value} {A : Around} {outer : List PySem.Env} {s : Shared} {H : Hp} {E : XK} (C1 : Ctx (cxOf (L2.CX P w) P w G.K mg base ["_law_condition", "_law_kind", "_law_told", "_law_part"] "_law_holds" (defScope s27) f cdv A outer s H E) G (fun cls d _ H => E cls d H) (k + 1)) : JSs (cxOf (L2.CX P w) P w G.K mg base ["_law_condition", "_law_kind", "_law_told", "_law_part"] "_law_holds" (defScope s27) f cdv A outer s H E) G Y (fun cls d _ H => E cls d H) (defBody s27) (b27 Φ) := by
  have C : Ctx (cxOf (L2.CX P w) P w G.K mg base ["_law_condition", "_law_kind", "_law_told", "_law_part"] "_law_holds" (defScope s27) f cdv A outer s H E) G (fun cls d _ H => E cls d H) k := ⟨C1.hK, C1.calm, C1.nd, C1.tk, C1.po, C1.room.mono (Nat.le_succ _)⟩
  have hW : ∀ (cls : Value) (d : Option Addr) (σ σ2 : L2.St) (H : Hp), (fun cls d _ H => E cls d H : WX) cls d σ H → (fun cls d _ H => E cls d H : WX) cls d σ2 H := fun _ _ _ _ _ h => h
  exact (jss_cons (js_if (jt_cmp s_eq (op_eqD C.room.units) (je_ix s_ix ix_seq (je_var 0) je_int) je_str)
  (jss_one (js_ret (je_cmp s_in o_in (je_ix s_ix ix_seq (je_var 0) je_int) (je_var 1))))
  jss_nil)
  (jss_cons (js_if (jt_cmp s_eq (op_eqD C.room.units) (je_ix s_ix ix_seq (je_var 0) je_int) je_str)
  (jss_one (js_ret (je_not (je_call [false, false] C L.f27 (ja_cons (je_ix s_ix ix_seq (je_var 0) je_int) (ja_cons (je_var 1) ja_nil))))))
  jss_nil)
  (jss_cons (js_asgLc 2 [("_law_part", 3)] C (ji_seq C (je_ix s_ix ix_seq (je_var 0) je_int)) (by rfl) (fun _ _ _ _ _ C => (jg_name 3 C)) (fun _ _ _ _ _ C => jts_nil) (fun _ _ _ _ _ C => (je_call [false, false] C L.f27 (ja_cons (je_var 3) (ja_cons (je_var 1) ja_nil)))) (sw_true rfl rfl rfl (by rfl)))
  (jss_cons (js_if (jt_cmp s_eq (op_eqD C.room.units) (je_ix s_ix ix_seq (je_var 0) je_int) je_str)
  (jss_one (js_ret (je_cmp s_nin o_nin je_bl (je_var 2))))
  jss_nil)
  (jss_one (js_ret (je_cmp s_in o_in je_bl (je_var 2))))))))
theorem sc27 : FnScope ["_law_condition", "_law_kind", "_law_told", "_law_part"] ["_law_condition", "_law_kind"] (defScope s27) := ⟨rfl, rfl, rfl, by decide +kernel, rfl, by decide +kernel, by decide +kernel⟩
theorem d28 (T : Tx mg G Y) (L : Lv P w mg base G Y k Φ) {f : Addr} {cdv : Value} {A : Around} {outer : List PySem.Env} {s : Shared} {H : Hp} {E : XK} (C1 : Ctx (cxOf (L2.CX P w) P w G.K mg base ["_law_marks_here", "_law_lot_here", "_law_found", "e"] "_law_tried" (defScope s28) f cdv A outer s H E) G (fun cls d _ H => E cls d H) (k + 1)) : JSs (cxOf (L2.CX P w) P w G.K mg base ["_law_marks_here", "_law_lot_here", "_law_found", "e"] "_law_tried" (defScope s28) f cdv A outer s H E) G Y (fun cls d _ H => E cls d H) (defBody s28) (b28 Φ) := by
  have C : Ctx (cxOf (L2.CX P w) P w G.K mg base ["_law_marks_here", "_law_lot_here", "_law_found", "e"] "_law_tried" (defScope s28) f cdv A outer s H E) G (fun cls d _ H => E cls d H) k := ⟨C1.hK, C1.calm, C1.nd, C1.tk, C1.po, C1.room.mono (Nat.le_succ _)⟩
  have hW : ∀ (cls : Value) (d : Option Addr) (σ σ2 : L2.St) (H : Hp), (fun cls d _ H => E cls d H : WX) cls d σ H → (fun cls d _ H => E cls d H : WX) cls d σ2 H := fun _ _ _ _ _ h => h
  exact (jss_cons (js_asg 2 C je_str)
  (jss_cons (js_try 3 C ⟨rfl, by decide, .inl T.g_SeatError⟩ T.em_SeatError (hd_if2 T.de__law_tried) (fun W1 pn xe C => (jss_cons (js_drop (je_call [false, false] C L.f15 (ja_cons (je_var 0) (ja_cons (je_var 1) ja_nil))))
  (jss_one (js_asg 2 C je_str)))) (fun a oe cls d pn hz hf => pss_cons (ps_if1 (i := 3) (j := 2) C.nd hz hf T.n_isinstance T.g_NoMarks T.g_NoLot) (pss_one (ps_if1 (i := 3) (j := 2) C.nd hz hf T.n_isinstance T.g_NoLot T.g_NoCondition))))
  (jss_one (js_ret (je_var 2)))))
theorem sc28 : FnScope ["_law_marks_here", "_law_lot_here", "_law_found", "e"] ["_law_marks_here", "_law_lot_here"] (defScope s28) := ⟨rfl, rfl, rfl, by decide +kernel, rfl, by decide +kernel, by decide +kernel⟩
theorem d29 (T : Tx mg G Y) (L : Lv P w mg base G Y k Φ) {f : Addr} {cdv : Value} {A : Around} {outer : List PySem.Env} {s : Shared} {H : Hp} {E : XK} (C1 : Ctx (cxOf (L2.CX P w) P w G.K mg base ["_law_script", "_law_tape_here", "_law_marks_here", "_law_every", "_law_lot_here", "_law_k", "_law_told", "_law_thing", "_law_other", "_law_due", "_law_many", "_law_deep", "_law_kind"] "law" (defScope s29) f cdv A outer s H E) G (fun cls d _ H => E cls d H) (k + 1)) : JSs (cxOf (L2.CX P w) P w G.K mg base ["_law_script", "_law_tape_here", "_law_marks_here", "_law_every", "_law_lot_here", "_law_k", "_law_told", "_law_thing", "_law_other", "_law_due", "_law_many", "_law_deep", "_law_kind"] "law" (defScope s29) f cdv A outer s H E) G Y (fun cls d _ H => E cls d H) (defBody s29) (b29 Φ) := by
  have C : Ctx (cxOf (L2.CX P w) P w G.K mg base ["_law_script", "_law_tape_here", "_law_marks_here", "_law_every", "_law_lot_here", "_law_k", "_law_told", "_law_thing", "_law_other", "_law_due", "_law_many", "_law_deep", "_law_kind"] "law" (defScope s29) f cdv A outer s H E) G (fun cls d _ H => E cls d H) k := ⟨C1.hK, C1.calm, C1.nd, C1.tk, C1.po, C1.room.mono (Nat.le_succ _)⟩
  have hW : ∀ (cls : Value) (d : Option Addr) (σ σ2 : L2.St) (H : Hp), (fun cls d _ H => E cls d H : WX) cls d σ H → (fun cls d _ H => E cls d H : WX) cls d σ2 H := fun _ _ _ _ _ h => h
  exact (jss_cons (js_asg 1 C (je_call [false] C L.f16 (ja_cons (je_var 0) ja_nil)))
  (jss_cons (js_asg 2 C (je_call [true] C L.f19 (ja_cons (je_var 1) ja_nil)))
  (jss_cons (js_asg 3 C (je_call [false] C L.f18 (ja_cons (je_var 2) ja_nil)))
  (jss_cons (js_for (ws := [4]) C (ji_seq C (je_lst (flat_cons (flat_cons (flat_cons flat_nil))) (ja_cons (je_call [true, false] C L.f20 (ja_cons (je_var 1) (ja_cons (je_var 3) ja_nil))) (ja_cons (je_bty s_tuple call_tuple_of T.n_tuple (by decide +kernel) (ja_cons (je_var 3) ja_nil)) (ja_cons (je_tup (flat_cons flat_nil) (ja_cons (je_ix s_ix ix_seq (je_var 3) (je_call [true, false] C L.f17 (ja_cons (je_var 1) (ja_cons (je_blt s_len o_len T.n_len (by decide +kernel) (ja_cons (je_var 3) ja_nil)) ja_nil)))) ja_nil)) ja_nil))))) (jg_name 4 C)
  (jss_cons (js_asg 6 C (je_call [false, false] C L.f15 (ja_cons (je_var 2) (ja_cons (je_var 4) ja_nil))))
  (jss_cons (js_asgT (ws := [10, 11]) C (je_call [false, false] C L.f26 (ja_cons (je_var 2) (ja_cons (je_var 6) ja_nil))) (jg_tup C (jgs_cons (jg_name 10 C) (jgs_cons (jg_name 11 C) jgs_nil))))
  (jss_cons (js_if (jt_w (jw_or (jt_cmp s_lt o_lt (je_var 10) je_int) (jw_or (jt_cmp s_cmp op_gt (je_var 10) je_int) (jw_or1 (jt_cmp s_cmp op_gt (je_var 11) je_int)))))
  (jss_one (js_ret je_bl))
  jss_nil)
  (jss_cons (js_if (jt_w (jw_or (jt_cmp s_ne (op_neD C.room.units) (je_bty s_tuple call_tuple_of T.n_tuple (by decide +kernel) (ja_cons (je_lc [("_law_kind", 12)] C (ji_seq C (je_var 3)) (by rfl) (fun _ _ _ _ _ C => (jg_name 12 C)) (fun _ _ _ _ _ C => (jts_one (jt_val (je_call [false, false] C L.f27 (ja_cons (je_var 6) (ja_cons (je_var 12) ja_nil)))))) (fun _ _ _ _ _ C => (je_var 12))) ja_nil)) (je_var 4)) (jw_or1 (jt_cmp s_ne (op_neD C.room.units) (je_call [false, false] C L.f13 (ja_cons (je_var 2) (ja_cons (je_var 6) ja_nil))) (je_var 4)))))
  (jss_one (js_ret je_bl))
  jss_nil)
  (jss_one (js_if (jt_cmp s_ne (op_neD C.room.units) (je_call [false, false] C L.f15 (ja_cons (je_var 2) (ja_cons (je_var 4) ja_nil))) (je_var 6))
  (jss_one (js_ret je_bl))
  jss_nil)))))))
  (jss_cons (js_for (ws := [5]) C (ji_rng1 T.n_range (ja_cons je_int ja_nil)) (jg_name 5 C)
  (jss_cons (js_asg 7 C (je_ix s_ix ix_seq (je_lst (flat_cons (flat_cons (flat_cons (flat_cons flat_nil)))) (ja_cons (je_call [true] C L.f21 (ja_cons (je_var 1) ja_nil)) (ja_cons (je_bty s_listS (o_listS C.calm) T.n_list (by decide +kernel) (ja_cons (je_var 3) ja_nil)) (ja_cons (je_bin s_add o_add (je_tup (flat_cons flat_nil) (ja_cons je_str ja_nil)) (je_bty s_tuple call_tuple_of T.n_tuple (by decide +kernel) (ja_cons (je_var 3) ja_nil))) (ja_cons (je_bin s_add o_add (je_rev C (je_bty s_tuple call_tuple_of T.n_tuple (by decide +kernel) (ja_cons (je_var 3) ja_nil)) (jo_some (je_un s_neg un_neg je_int))) (je_tup (flat_cons flat_nil) (ja_cons je_str ja_nil))) ja_nil))))) (je_call [true, false] C L.f17 (ja_cons (je_var 1) (ja_cons je_int ja_nil)))))
  (jss_cons (js_asg 8 C (je_ix s_ix ix_seq (je_lst (flat_cons (flat_cons (flat_cons flat_nil))) (ja_cons (je_var 2) (ja_cons (je_var 2) (ja_cons (je_call [true] C L.f21 (ja_cons (je_var 1) ja_nil)) ja_nil)))) (je_call [true, false] C L.f17 (ja_cons (je_var 1) (ja_cons je_int ja_nil)))))
  (jss_cons (js_asg 9 C je_str)
  (jss_cons (js_if (jt_not (jt_val (je_call [false] C L.f23 (ja_cons (je_var 8) ja_nil))))
  (jss_one (js_asg 9 C je_str))
  (jss_one (js_if (jt_not (jt_val (je_call [false, false] C L.f25 (ja_cons (je_var 8) (ja_cons (je_var 7) ja_nil)))))
  (jss_one (js_asg 9 C je_str))
  jss_nil)))
  (jss_one (js_if (jt_cmp s_ne (op_neD C.room.units) (je_call [false, false] C L.f28 (ja_cons (je_var 8) (ja_cons (je_var 7) ja_nil))) (je_var 9))
  (jss_one (js_ret je_bl))
  jss_nil)))))))
  (jss_one (js_ret (je_cmp s_eq (op_eqD C.room.units) (je_call [false, false] C L.f28 (ja_cons (je_var 2) (ja_cons (je_tup flat_nil ja_nil) ja_nil))) je_str))))))))
theorem sc29 : FnScope ["_law_script", "_law_tape_here", "_law_marks_here", "_law_every", "_law_lot_here", "_law_k", "_law_told", "_law_thing", "_law_other", "_law_due", "_law_many", "_law_deep", "_law_kind"] ["_law_script"] (defScope s29) := ⟨rfl, rfl, rfl, by decide +kernel, rfl, by decide +kernel, by decide +kernel⟩
end
def Df (G : Gi) (mg : Str → Option Value) (x qual : Str) (st : Stmt) (ps : List Str) : Prop := ∃ f fd, Fun G.K x qual st f fd ∧ mg x = some (.ref f) ∧ Binds G.K fd ps []
def Dc (G : Gi) (mg : Str → Option Value) (c : Nat) (cn qual : Str) (st : Stmt) (ps : List Str) : Prop := ∃ f fd, Fun G.K "__init__" qual st f fd ∧ Mk G.K (G.cls c) f ∧ Binds G.K fd ps [] ∧ mg cn = some (.ref (G.cls c))
section
variable {P : Program} {w : World} {mg : Str → Option Value} {base : Heap} {G : Gi} {Y : Xi}
theorem never {k n : Nat} {f : Addr} {fd : FuncData} {ps : List Str} : FnOk P w G.K mg base (L2.CX P w) k f fd ps (spF G Y n (fun _ => .stuck)) := ⟨fun _ _ _ _ h => by obtain ⟨_, _, _, _, _, h⟩ := h; exact h.elim, fun _ _ _ _ _ _ _ _ _ _ _ _ _ h => by obtain ⟨_, _, _, _, _, h⟩ := h; exact h.elim⟩
theorem Df.never {k n : Nat} {x qual : Str} {st : Stmt} {ps : List Str} (h : Df G mg x qual st ps) (hn : ps.length = n) : DefOk P w mg base G Y k n x (fun _ => .stuck) := by
  obtain ⟨f, fd, F, hm, hb⟩ := h
  exact ⟨⟨f, fd, ps, hm, F.kp, hb, hn, KK.never⟩, fun _ e => (e rfl).elim⟩
theorem Dc.never {k n c : Nat} {cn qual : Str} {st : Stmt} {ps nms : List Str} (h : Dc G mg c cn qual st ps) (ha : G.att c = nms) (hn : ps.length = n + 1) : ClsOk P w mg base G Y k n cn c nms (fun _ => .stuck) := by
  obtain ⟨f, fd, F, hM, hb, hm⟩ := h
  exact ⟨⟨f, fd, ps, hm, hM, hb, hn, KK.never⟩, fun _ e => (e rfl).elim, ha⟩
theorem Df.step {k n nl : Nat} {x qual : Str} {st : Stmt} {N ps : List Str} {fn : SF} (h : Df G mg x qual st ps) (S : FnScope N ps (defScope st)) (hN : N.length = nl) (hn : ps.length = n)
    (body : ∀ (f : Addr) (cdv : Value) (A : Around) (outer : List PySem.Env) (s : Shared) (H : Hp) (E : XK), Ctx (cxOf (L2.CX P w) P w G.K mg base N qual (defScope st) f cdv A outer s H E) G (fun cls d _ H => E cls d H) k → JSs (cxOf (L2.CX P w) P w G.K mg base N qual (defScope st) f cdv A outer s H E) G Y (fun cls d _ H => E cls d H) (defBody st) fn) : DefOk P w mg base G Y (k + 1) n x (defF n nl fn) := by
  obtain ⟨f, fd, F, hm, hb⟩ := h
  exact def_ok F S hN hn hm hb (body f)
theorem Dc.step {k n nl c : Nat} {cn qual : Str} {st : Stmt} {N ps nms : List Str} {fn : SF} (h : Dc G mg c cn qual st ps) (ha : G.att c = nms) (S : FnScope N ps (defScope st)) (hN : N.length = nl) (hn : ps.length = n + 1)
    (body : ∀ (f : Addr) (cdv : Value) (A : Around) (outer : List PySem.Env) (s : Shared) (H : Hp) (E : XK), Ctx (cxOf (L2.CX P w) P w G.K mg base N qual (defScope st) f cdv A outer s H E) G (fun cls d _ H => E cls d H) k → JSs (cxOf (L2.CX P w) P w G.K mg base N qual (defScope st) f cdv A outer s H E) G Y (fun cls d _ H => E cls d H) (defBody st) fn) : ClsOk P w mg base G Y (k + 1) n cn c nms (defF (n + 1) nl fn) := by
  obtain ⟨f, fd, F, hM, hb, hm⟩ := h
  exact cls_ok F S hN hn hm hM hb ha (body f)
structure Ds (mg : Str → Option Value) (G : Gi) : Prop where
  e0 : Df G mg "is_pair" "is_pair" s0 ["thing"]
  e1 : Df G mg "is_ascending" "is_ascending" s1 ["items"]
  e2 : Df G mg "is_marks" "is_marks" s2 ["thing"]
  e3 : Df G mg "is_kind" "is_kind" s3 ["marks", "thing"]
  e4 : Df G mg "is_lot" "is_lot" s4 ["marks", "thing"]
  e5 : Df G mg "check_marks" "check_marks" s5 ["thing"]
  e6 : Df G mg "check_lot" "check_lot" s6 ["marks", "thing"]
  e7 : Df G mg "all_kinds" "all_kinds" s7 ["marks"]
  e8 : Df G mg "size_of" "size_of" s8 ["thing"]
  e9 : Df G mg "joined_sizes" "joined_sizes" s9 ["parts"]
  e10 : Df G mg "has_known_marks" "has_known_marks" s10 ["marks", "condition"]
  e11 : Df G mg "check_condition" "check_condition" s11 ["marks", "thing"]
  e12 : Df G mg "holds" "holds" s12 ["condition", "kind"]
  e13 : Df G mg "lot_of" "lot_of" s13 ["marks", "condition"]
  e14 : Df G mg "split_of" "split_of" s14 ["marks", "lot"]
  e15 : Df G mg "condition_of" "condition_of" s15 ["marks", "lot"]
  e16 : Df G mg "_law_tape" "_law_tape" s16 ["_law_script"]
  e17 : Df G mg "_law_pick" "_law_pick" s17 ["_law_tape_here", "_law_many"]
  e18 : Df G mg "_law_kinds" "_law_kinds" s18 ["_law_marks_here"]
  e19 : Df G mg "_law_marks" "_law_marks" s19 ["_law_tape_here"]
  e20 : Df G mg "_law_lot" "_law_lot" s20 ["_law_tape_here", "_law_every"]
  e21 : Df G mg "_law_odd" "_law_odd" s21 ["_law_tape_here"]
  e22 : Df G mg "_law_is_up" "_law_is_up" s22 ["_law_items"]
  e23 : Df G mg "_law_is_marks" "_law_is_marks" s23 ["_law_thing"]
  e24 : Df G mg "_law_is_kind" "_law_is_kind" s24 ["_law_marks_here", "_law_thing"]
  e25 : Df G mg "_law_is_lot" "_law_is_lot" s25 ["_law_marks_here", "_law_thing"]
  e26 : Df G mg "_law_size" "_law_size" s26 ["_law_marks_here", "_law_thing"]
  e27 : Df G mg "_law_holds" "_law_holds" s27 ["_law_condition", "_law_kind"]
  e28 : Df G mg "_law_tried" "_law_tried" s28 ["_law_marks_here", "_law_lot_here"]
  e29 : Df G mg "law" "law" s29 ["_law_script"]
theorem lv0 (S : Ds mg G) : Lv P w mg base G Y 0 (run 0) := by
  refine ⟨?_, ?_, ?_, ?_, ?_, ?_, ?_, ?_, ?_, ?_, ?_, ?_, ?_, ?_, ?_, ?_, ?_, ?_, ?_, ?_, ?_, ?_, ?_, ?_, ?_, ?_, ?_, ?_, ?_, ?_⟩
  · exact S.e0.never rfl
  · exact S.e1.never rfl
  · exact S.e2.never rfl
  · exact S.e3.never rfl
  · exact S.e4.never rfl
  · exact S.e5.never rfl
  · exact S.e6.never rfl
  · exact S.e7.never rfl
  · exact S.e8.never rfl
  · exact S.e9.never rfl
  · exact S.e10.never rfl
  · exact S.e11.never rfl
  · exact S.e12.never rfl
  · exact S.e13.never rfl
  · exact S.e14.never rfl
  · exact S.e15.never rfl
  · exact S.e16.never rfl
  · exact S.e17.never rfl
  · exact S.e18.never rfl
  · exact S.e19.never rfl
  · exact S.e20.never rfl
  · exact S.e21.never rfl
  · exact S.e22.never rfl
  · exact S.e23.never rfl
  · exact S.e24.never rfl
  · exact S.e25.never rfl
  · exact S.e26.never rfl
  · exact S.e27.never rfl
  · exact S.e28.never rfl
  · exact S.e29.never rfl
theorem lv1 (T : Tx mg G Y) (S : Ds mg G) {k : Nat} {Φ : Nat → Fn} (L : Lv P w mg base G Y k Φ) : Lv P w mg base G Y (k + 1 + 1) (step Φ) := by
  refine ⟨?_, ?_, ?_, ?_, ?_, ?_, ?_, ?_, ?_, ?_, ?_, ?_, ?_, ?_, ?_, ?_, ?_, ?_, ?_, ?_, ?_, ?_, ?_, ?_, ?_, ?_, ?_, ?_, ?_, ?_⟩
  · exact S.e0.step sc0 rfl rfl (fun f cdv A outer s H E C => d0 T L C)
  · exact S.e1.step sc1 rfl rfl (fun f cdv A outer s H E C => d1 T L C)
  · exact S.e2.step sc2 rfl rfl (fun f cdv A outer s H E C => d2 T L C)
  · exact S.e3.step sc3 rfl rfl (fun f cdv A outer s H E C => d3 T L C)
  · exact S.e4.step sc4 rfl rfl (fun f cdv A outer s H E C => d4 T L C)
  · exact S.e5.step sc5 rfl rfl (fun f cdv A outer s H E C => d5 T L C)
  · exact S.e6.step sc6 rfl rfl (fun f cdv A outer s H E C => d6 T L C)
  · exact S.e7.step sc7 rfl rfl (fun f cdv A outer s H E C => d7 T L C)
  · exact S.e8.step sc8 rfl rfl (fun f cdv A outer s H E C => d8 T L C)
  · exact S.e9.step sc9 rfl rfl (fun f cdv A outer s H E C => d9 T L C)
  · exact S.e10.step sc10 rfl rfl (fun f cdv A outer s H E C => d10 T L C)
  · exact S.e11.step sc11 rfl rfl (fun f cdv A outer s H E C => d11 T L C)
  · exact S.e12.step sc12 rfl rfl (fun f cdv A outer s H E C => d12 T L C)
  · exact S.e13.step sc13 rfl rfl (fun f cdv A outer s H E C => d13 T L C)
  · exact S.e14.step sc14 rfl rfl (fun f cdv A outer s H E C => d14 T L C)
  · exact S.e15.step sc15 rfl rfl (fun f cdv A outer s H E C => d15 T L C)
  · exact S.e16.step sc16 rfl rfl (fun f cdv A outer s H E C => d16 T L C)
  · exact S.e17.step sc17 rfl rfl (fun f cdv A outer s H E C => d17 T L C)
  · exact S.e18.step sc18 rfl rfl (fun f cdv A outer s H E C => d18 T L C)
  · exact S.e19.step sc19 rfl rfl (fun f cdv A outer s H E C => d19 T L C)
  · exact S.e20.step sc20 rfl rfl (fun f cdv A outer s H E C => d20 T L C)
  · exact S.e21.step sc21 rfl rfl (fun f cdv A outer s H E C => d21 T L C)
  · exact S.e22.step sc22 rfl rfl (fun f cdv A outer s H E C => d22 T L C)
  · exact S.e23.step sc23 rfl rfl (fun f cdv A outer s H E C => d23 T L C)
  · exact S.e24.step sc24 rfl rfl (fun f cdv A outer s H E C => d24 T L C)
  · exact S.e25.step sc25 rfl rfl (fun f cdv A outer s H E C => d25 T L C)
  · exact S.e26.step sc26 rfl rfl (fun f cdv A outer s H E C => d26 T L C)
  · exact S.e27.step sc27 rfl rfl (fun f cdv A outer s H E C => d27 T L C)
  · exact S.e28.step sc28 rfl rfl (fun f cdv A outer s H E C => d28 T L C)
  · exact S.e29.step sc29 rfl rfl (fun f cdv A outer s H E C => d29 T L C)
theorem lvs (T : Tx mg G Y) (S : Ds mg G) : ∀ n : Nat, Lv P w mg base G Y (2 * n) (run n)
  | 0 => lv0 S
  | n + 1 => lv1 T S (lvs T S n)
end
theorem all_mk {l : PySem.W.OpenLaw} {w : World} {K : PySem.W.Frag} {h : Heap} {mg : Str → Option Value} {fa  f0 f1 f2 f3 f4 f5 f6 f7 f8 f9 f10 f11 f12 f13 f14 f15 f16 f17 f18 f19 f20 f21 f22 f23 f24 f25 f26 f27 f28 f29 : Addr} (X : K.In h) (Gm : h.Ns mainGlobals mg) (hfa : mg "law" = some (.ref fa))
    {od0 od1 od2 od3 od4 od5 od6 od7 od8 od9 od10 od11 od12 od13 od14 od15 od16 od17 od18 od19 od20 od21 od22 od23 od24 od25 od26 od27 od28 od29 an0 an1 an2 an3 an4 an5 an6 an7 an8 an9 an10 an11 an12 an13 an14 an15 an16 an17 an18 an19 an20 an21 an22 an23 an24 an25 an26 an27 an28 an29 : Option Addr} {sl0 sl1 sl2 sl3 sl4 sl5 sl6 sl7 sl8 sl9 sl10 sl11 sl12 sl13 sl14 sl15 sl16 sl17 sl18 sl19 sl20 sl21 sl22 sl23 sl24 sl25 sl26 sl27 sl28 sl29 : Array (Option Value)} {oc0 oc1 oc2 oc3 oc4 oc5 oc6 oc7 oc8 oc9 oc10 oc11 oc12 oc13 oc14 oc15 oc16 oc17 oc18 oc19 oc20 oc21 oc22 oc23 oc24 oc25 oc26 oc27 oc28 oc29 kV0 kV1 kV2 kV3 kV4 kV5 kV6 kV7 kV8 kV9 kV10 kV11 kV12 kV13 kV14 kV15 kV16 kV17 kV18 kV19 kV20 kV21 kV22 kV23 kV24 kV25 kV26 kV27 kV28 kV29 dc0 dc1 dc2 dc3 dc4 dc5 dc6 dc7 dc8 dc9 dc10 dc11 dc12 dc13 dc14 dc15 dc16 dc17 dc18 dc19 dc20 dc21 dc22 dc23 dc24 dc25 dc26 dc27 dc28 dc29 pm0 pm1 pm2 pm3 pm4 pm5 pm6 pm7 pm8 pm9 pm10 pm11 pm12 pm13 pm14 pm15 pm16 pm17 pm18 pm19 pm20 pm21 pm22 pm23 pm24 pm25 pm26 pm27 pm28 pm29 cd0 cd1 cd2 cd3 cd4 cd5 cd6 cd7 cd8 cd9 cd10 cd11 cd12 cd13 cd14 cd15 cd16 cd17 cd18 cd19 cd20 cd21 cd22 cd23 cd24 cd25 cd26 cd27 cd28 cd29 ct0 ct1 ct2 ct3 ct4 ct5 ct6 ct7 ct8 ct9 ct10 ct11 ct12 ct13 ct14 ct15 ct16 ct17 ct18 ct19 ct20 ct21 ct22 ct23 ct24 ct25 ct26 ct27 ct28 ct29 : Value} {tk_MOST_CONDITIONS : Tok} {tk_MOST_DEEP : Tok} {tk_MOST_MARKS : Tok} {tk_MOST_PARTS : Tok} {tk_SMALL : Tok} {X0 X1 X2 X3 : Addr}
    (a0 : PySem.W.nsIn K mainGlobals "is_pair" = some (some (.ref f0)))
    (l0 : K.lookup f0 = some ⟨oc0, od0, .func (PySem.W.fnOf "is_pair" "is_pair" (defArgs s0) (defBody s0) (defScope s0) .none kV0 dc0 pm0 an0 cd0 ct0), sl0⟩) (c0 : PySem.W.codeIn K cd0 "is_pair" = true) (k0 : PySem.W.keepIn K (.ref f0) = true)
    (a1 : PySem.W.nsIn K mainGlobals "is_ascending" = some (some (.ref f1)))
    (l1 : K.lookup f1 = some ⟨oc1, od1, .func (PySem.W.fnOf "is_ascending" "is_ascending" (defArgs s1) (defBody s1) (defScope s1) .none kV1 dc1 pm1 an1 cd1 ct1), sl1⟩) (c1 : PySem.W.codeIn K cd1 "is_ascending" = true) (k1 : PySem.W.keepIn K (.ref f1) = true)
    (a2 : PySem.W.nsIn K mainGlobals "is_marks" = some (some (.ref f2)))
    (l2 : K.lookup f2 = some ⟨oc2, od2, .func (PySem.W.fnOf "is_marks" "is_marks" (defArgs s2) (defBody s2) (defScope s2) .none kV2 dc2 pm2 an2 cd2 ct2), sl2⟩) (c2 : PySem.W.codeIn K cd2 "is_marks" = true) (k2 : PySem.W.keepIn K (.ref f2) = true)
    (a3 : PySem.W.nsIn K mainGlobals "is_kind" = some (some (.ref f3)))
    (l3 : K.lookup f3 = some ⟨oc3, od3, .func (PySem.W.fnOf "is_kind" "is_kind" (defArgs s3) (defBody s3) (defScope s3) .none kV3 dc3 pm3 an3 cd3 ct3), sl3⟩) (c3 : PySem.W.codeIn K cd3 "is_kind" = true) (k3 : PySem.W.keepIn K (.ref f3) = true)
    (a4 : PySem.W.nsIn K mainGlobals "is_lot" = some (some (.ref f4)))
    (l4 : K.lookup f4 = some ⟨oc4, od4, .func (PySem.W.fnOf "is_lot" "is_lot" (defArgs s4) (defBody s4) (defScope s4) .none kV4 dc4 pm4 an4 cd4 ct4), sl4⟩) (c4 : PySem.W.codeIn K cd4 "is_lot" = true) (k4 : PySem.W.keepIn K (.ref f4) = true)
    (a5 : PySem.W.nsIn K mainGlobals "check_marks" = some (some (.ref f5)))
    (l5 : K.lookup f5 = some ⟨oc5, od5, .func (PySem.W.fnOf "check_marks" "check_marks" (defArgs s5) (defBody s5) (defScope s5) .none kV5 dc5 pm5 an5 cd5 ct5), sl5⟩) (c5 : PySem.W.codeIn K cd5 "check_marks" = true) (k5 : PySem.W.keepIn K (.ref f5) = true)
    (a6 : PySem.W.nsIn K mainGlobals "check_lot" = some (some (.ref f6)))
    (l6 : K.lookup f6 = some ⟨oc6, od6, .func (PySem.W.fnOf "check_lot" "check_lot" (defArgs s6) (defBody s6) (defScope s6) .none kV6 dc6 pm6 an6 cd6 ct6), sl6⟩) (c6 : PySem.W.codeIn K cd6 "check_lot" = true) (k6 : PySem.W.keepIn K (.ref f6) = true)
    (a7 : PySem.W.nsIn K mainGlobals "all_kinds" = some (some (.ref f7)))
    (l7 : K.lookup f7 = some ⟨oc7, od7, .func (PySem.W.fnOf "all_kinds" "all_kinds" (defArgs s7) (defBody s7) (defScope s7) .none kV7 dc7 pm7 an7 cd7 ct7), sl7⟩) (c7 : PySem.W.codeIn K cd7 "all_kinds" = true) (k7 : PySem.W.keepIn K (.ref f7) = true)
    (a8 : PySem.W.nsIn K mainGlobals "size_of" = some (some (.ref f8)))
    (l8 : K.lookup f8 = some ⟨oc8, od8, .func (PySem.W.fnOf "size_of" "size_of" (defArgs s8) (defBody s8) (defScope s8) .none kV8 dc8 pm8 an8 cd8 ct8), sl8⟩) (c8 : PySem.W.codeIn K cd8 "size_of" = true) (k8 : PySem.W.keepIn K (.ref f8) = true)
    (a9 : PySem.W.nsIn K mainGlobals "joined_sizes" = some (some (.ref f9)))
    (l9 : K.lookup f9 = some ⟨oc9, od9, .func (PySem.W.fnOf "joined_sizes" "joined_sizes" (defArgs s9) (defBody s9) (defScope s9) .none kV9 dc9 pm9 an9 cd9 ct9), sl9⟩) (c9 : PySem.W.codeIn K cd9 "joined_sizes" = true) (k9 : PySem.W.keepIn K (.ref f9) = true)
    (a10 : PySem.W.nsIn K mainGlobals "has_known_marks" = some (some (.ref f10)))
    (l10 : K.lookup f10 = some ⟨oc10, od10, .func (PySem.W.fnOf "has_known_marks" "has_known_marks" (defArgs s10) (defBody s10) (defScope s10) .none kV10 dc10 pm10 an10 cd10 ct10), sl10⟩) (c10 : PySem.W.codeIn K cd10 "has_known_marks" = true) (k10 : PySem.W.keepIn K (.ref f10) = true)
    (a11 : PySem.W.nsIn K mainGlobals "check_condition" = some (some (.ref f11)))
    (l11 : K.lookup f11 = some ⟨oc11, od11, .func (PySem.W.fnOf "check_condition" "check_condition" (defArgs s11) (defBody s11) (defScope s11) .none kV11 dc11 pm11 an11 cd11 ct11), sl11⟩) (c11 : PySem.W.codeIn K cd11 "check_condition" = true) (k11 : PySem.W.keepIn K (.ref f11) = true)
    (a12 : PySem.W.nsIn K mainGlobals "holds" = some (some (.ref f12)))
    (l12 : K.lookup f12 = some ⟨oc12, od12, .func (PySem.W.fnOf "holds" "holds" (defArgs s12) (defBody s12) (defScope s12) .none kV12 dc12 pm12 an12 cd12 ct12), sl12⟩) (c12 : PySem.W.codeIn K cd12 "holds" = true) (k12 : PySem.W.keepIn K (.ref f12) = true)
    (a13 : PySem.W.nsIn K mainGlobals "lot_of" = some (some (.ref f13)))
    (l13 : K.lookup f13 = some ⟨oc13, od13, .func (PySem.W.fnOf "lot_of" "lot_of" (defArgs s13) (defBody s13) (defScope s13) .none kV13 dc13 pm13 an13 cd13 ct13), sl13⟩) (c13 : PySem.W.codeIn K cd13 "lot_of" = true) (k13 : PySem.W.keepIn K (.ref f13) = true)
    (a14 : PySem.W.nsIn K mainGlobals "split_of" = some (some (.ref f14)))
    (l14 : K.lookup f14 = some ⟨oc14, od14, .func (PySem.W.fnOf "split_of" "split_of" (defArgs s14) (defBody s14) (defScope s14) .none kV14 dc14 pm14 an14 cd14 ct14), sl14⟩) (c14 : PySem.W.codeIn K cd14 "split_of" = true) (k14 : PySem.W.keepIn K (.ref f14) = true)
    (a15 : PySem.W.nsIn K mainGlobals "condition_of" = some (some (.ref f15)))
    (l15 : K.lookup f15 = some ⟨oc15, od15, .func (PySem.W.fnOf "condition_of" "condition_of" (defArgs s15) (defBody s15) (defScope s15) .none kV15 dc15 pm15 an15 cd15 ct15), sl15⟩) (c15 : PySem.W.codeIn K cd15 "condition_of" = true) (k15 : PySem.W.keepIn K (.ref f15) = true)
    (a16 : PySem.W.nsIn K mainGlobals "_law_tape" = some (some (.ref f16)))
    (l16 : K.lookup f16 = some ⟨oc16, od16, .func (PySem.W.fnOf "_law_tape" "_law_tape" (defArgs s16) (defBody s16) (defScope s16) .none kV16 dc16 pm16 an16 cd16 ct16), sl16⟩) (c16 : PySem.W.codeIn K cd16 "_law_tape" = true) (k16 : PySem.W.keepIn K (.ref f16) = true)
    (a17 : PySem.W.nsIn K mainGlobals "_law_pick" = some (some (.ref f17)))
    (l17 : K.lookup f17 = some ⟨oc17, od17, .func (PySem.W.fnOf "_law_pick" "_law_pick" (defArgs s17) (defBody s17) (defScope s17) .none kV17 dc17 pm17 an17 cd17 ct17), sl17⟩) (c17 : PySem.W.codeIn K cd17 "_law_pick" = true) (k17 : PySem.W.keepIn K (.ref f17) = true)
    (a18 : PySem.W.nsIn K mainGlobals "_law_kinds" = some (some (.ref f18)))
    (l18 : K.lookup f18 = some ⟨oc18, od18, .func (PySem.W.fnOf "_law_kinds" "_law_kinds" (defArgs s18) (defBody s18) (defScope s18) .none kV18 dc18 pm18 an18 cd18 ct18), sl18⟩) (c18 : PySem.W.codeIn K cd18 "_law_kinds" = true) (k18 : PySem.W.keepIn K (.ref f18) = true)
    (a19 : PySem.W.nsIn K mainGlobals "_law_marks" = some (some (.ref f19)))
    (l19 : K.lookup f19 = some ⟨oc19, od19, .func (PySem.W.fnOf "_law_marks" "_law_marks" (defArgs s19) (defBody s19) (defScope s19) .none kV19 dc19 pm19 an19 cd19 ct19), sl19⟩) (c19 : PySem.W.codeIn K cd19 "_law_marks" = true) (k19 : PySem.W.keepIn K (.ref f19) = true)
    (a20 : PySem.W.nsIn K mainGlobals "_law_lot" = some (some (.ref f20)))
    (l20 : K.lookup f20 = some ⟨oc20, od20, .func (PySem.W.fnOf "_law_lot" "_law_lot" (defArgs s20) (defBody s20) (defScope s20) .none kV20 dc20 pm20 an20 cd20 ct20), sl20⟩) (c20 : PySem.W.codeIn K cd20 "_law_lot" = true) (k20 : PySem.W.keepIn K (.ref f20) = true)
    (a21 : PySem.W.nsIn K mainGlobals "_law_odd" = some (some (.ref f21)))
    (l21 : K.lookup f21 = some ⟨oc21, od21, .func (PySem.W.fnOf "_law_odd" "_law_odd" (defArgs s21) (defBody s21) (defScope s21) .none kV21 dc21 pm21 an21 cd21 ct21), sl21⟩) (c21 : PySem.W.codeIn K cd21 "_law_odd" = true) (k21 : PySem.W.keepIn K (.ref f21) = true)
    (a22 : PySem.W.nsIn K mainGlobals "_law_is_up" = some (some (.ref f22)))
    (l22 : K.lookup f22 = some ⟨oc22, od22, .func (PySem.W.fnOf "_law_is_up" "_law_is_up" (defArgs s22) (defBody s22) (defScope s22) .none kV22 dc22 pm22 an22 cd22 ct22), sl22⟩) (c22 : PySem.W.codeIn K cd22 "_law_is_up" = true) (k22 : PySem.W.keepIn K (.ref f22) = true)
    (a23 : PySem.W.nsIn K mainGlobals "_law_is_marks" = some (some (.ref f23)))
    (l23 : K.lookup f23 = some ⟨oc23, od23, .func (PySem.W.fnOf "_law_is_marks" "_law_is_marks" (defArgs s23) (defBody s23) (defScope s23) .none kV23 dc23 pm23 an23 cd23 ct23), sl23⟩) (c23 : PySem.W.codeIn K cd23 "_law_is_marks" = true) (k23 : PySem.W.keepIn K (.ref f23) = true)
    (a24 : PySem.W.nsIn K mainGlobals "_law_is_kind" = some (some (.ref f24)))
    (l24 : K.lookup f24 = some ⟨oc24, od24, .func (PySem.W.fnOf "_law_is_kind" "_law_is_kind" (defArgs s24) (defBody s24) (defScope s24) .none kV24 dc24 pm24 an24 cd24 ct24), sl24⟩) (c24 : PySem.W.codeIn K cd24 "_law_is_kind" = true) (k24 : PySem.W.keepIn K (.ref f24) = true)
    (a25 : PySem.W.nsIn K mainGlobals "_law_is_lot" = some (some (.ref f25)))
    (l25 : K.lookup f25 = some ⟨oc25, od25, .func (PySem.W.fnOf "_law_is_lot" "_law_is_lot" (defArgs s25) (defBody s25) (defScope s25) .none kV25 dc25 pm25 an25 cd25 ct25), sl25⟩) (c25 : PySem.W.codeIn K cd25 "_law_is_lot" = true) (k25 : PySem.W.keepIn K (.ref f25) = true)
    (a26 : PySem.W.nsIn K mainGlobals "_law_size" = some (some (.ref f26)))
    (l26 : K.lookup f26 = some ⟨oc26, od26, .func (PySem.W.fnOf "_law_size" "_law_size" (defArgs s26) (defBody s26) (defScope s26) .none kV26 dc26 pm26 an26 cd26 ct26), sl26⟩) (c26 : PySem.W.codeIn K cd26 "_law_size" = true) (k26 : PySem.W.keepIn K (.ref f26) = true)
    (a27 : PySem.W.nsIn K mainGlobals "_law_holds" = some (some (.ref f27)))
    (l27 : K.lookup f27 = some ⟨oc27, od27, .func (PySem.W.fnOf "_law_holds" "_law_holds" (defArgs s27) (defBody s27) (defScope s27) .none kV27 dc27 pm27 an27 cd27 ct27), sl27⟩) (c27 : PySem.W.codeIn K cd27 "_law_holds" = true) (k27 : PySem.W.keepIn K (.ref f27) = true)
    (a28 : PySem.W.nsIn K mainGlobals "_law_tried" = some (some (.ref f28)))
    (l28 : K.lookup f28 = some ⟨oc28, od28, .func (PySem.W.fnOf "_law_tried" "_law_tried" (defArgs s28) (defBody s28) (defScope s28) .none kV28 dc28 pm28 an28 cd28 ct28), sl28⟩) (c28 : PySem.W.codeIn K cd28 "_law_tried" = true) (k28 : PySem.W.keepIn K (.ref f28) = true)
    (a29 : PySem.W.nsIn K mainGlobals "law" = some (some (.ref f29)))
    (l29 : K.lookup f29 = some ⟨oc29, od29, .func (PySem.W.fnOf "law" "law" (defArgs s29) (defBody s29) (defScope s29) .none kV29 dc29 pm29 an29 cd29 ct29), sl29⟩) (c29 : PySem.W.codeIn K cd29 "law" = true) (k29 : PySem.W.keepIn K (.ref f29) = true)
    (z_all : PySem.W.nsIn K mainGlobals "all" = some none)
    (z_any : PySem.W.nsIn K mainGlobals "any" = some none)
    (z_int : PySem.W.nsIn K mainGlobals "int" = some none)
    (z_isinstance : PySem.W.nsIn K mainGlobals "isinstance" = some none)
    (z_len : PySem.W.nsIn K mainGlobals "len" = some none)
    (z_list : PySem.W.nsIn K mainGlobals "list" = some none)
    (z_max : PySem.W.nsIn K mainGlobals "max" = some none)
    (z_range : PySem.W.nsIn K mainGlobals "range" = some none)
    (z_sorted : PySem.W.nsIn K mainGlobals "sorted" = some none)
    (z_str : PySem.W.nsIn K mainGlobals "str" = some none)
    (z_sum : PySem.W.nsIn K mainGlobals "sum" = some none)
    (z_tuple : PySem.W.nsIn K mainGlobals "tuple" = some none)
    (y_MOST_CONDITIONS : PySem.W.nsIn K mainGlobals "MOST_CONDITIONS" = some (some (.int 1000 tk_MOST_CONDITIONS)))
    (y_MOST_DEEP : PySem.W.nsIn K mainGlobals "MOST_DEEP" = some (some (.int 20 tk_MOST_DEEP)))
    (y_MOST_MARKS : PySem.W.nsIn K mainGlobals "MOST_MARKS" = some (some (.int 5 tk_MOST_MARKS)))
    (y_MOST_PARTS : PySem.W.nsIn K mainGlobals "MOST_PARTS" = some (some (.int 10 tk_MOST_PARTS)))
    (y_SMALL : PySem.W.nsIn K mainGlobals "SMALL" = some (some (.str "abcdefghijklmnopqrstuvwxyz" tk_SMALL)))
    (gX0 : PySem.W.nsIn K mainGlobals "NoMarks" = some (some (.ref X0)))
    (gX1 : PySem.W.nsIn K mainGlobals "NoLot" = some (some (.ref X1)))
    (gX2 : PySem.W.nsIn K mainGlobals "SeatError" = some (some (.ref X2)))
    (gX3 : PySem.W.nsIn K mainGlobals "NoCondition" = some (some (.ref X3)))
    (xkb : PySem.W.specialIn K (.builtin "object.__class__") "__get__" = some (some (.builtin "getset_descriptor.__get__")))
    (xkd : PySem.W.takesIn K (.builtin "object.__class__") = some true)
    (bX0 : PySem.W.subIn K (.ref X0) (.type "BaseException") = some true)
    (hX0 : PySem.W.hasDictIn K X0 = true)
    (tX0 : PySem.W.typeIn K (.ref X0) = some (.type "type"))
    (kX0 : PySem.W.keepIn K (.ref X0) = true)
    (aX0 : PySem.W.findIn K (.ref X0) "__getattribute__" = some (some (.builtin "BaseException.__getattribute__")))
    (uX0 : PySem.W.findIn K (.ref X0) "__getattr__" = some none)
    (eX0 : PySem.W.excIn K X0 [.type "ValueError", .type "Exception", .type "BaseException", .type "object"] "ValueError.__new__" = true)
    (cX0 : PySem.W.findIn K (.ref X0) "__class__" = some (some (.builtin "object.__class__")))
    (mX0 : PySem.W.mroIn K X0 (.type "object") = some true)
    (bX1 : PySem.W.subIn K (.ref X1) (.type "BaseException") = some true)
    (hX1 : PySem.W.hasDictIn K X1 = true)
    (tX1 : PySem.W.typeIn K (.ref X1) = some (.type "type"))
    (kX1 : PySem.W.keepIn K (.ref X1) = true)
    (aX1 : PySem.W.findIn K (.ref X1) "__getattribute__" = some (some (.builtin "BaseException.__getattribute__")))
    (uX1 : PySem.W.findIn K (.ref X1) "__getattr__" = some none)
    (eX1 : PySem.W.excIn K X1 [.type "ValueError", .type "Exception", .type "BaseException", .type "object"] "ValueError.__new__" = true)
    (cX1 : PySem.W.findIn K (.ref X1) "__class__" = some (some (.builtin "object.__class__")))
    (mX1 : PySem.W.mroIn K X1 (.type "object") = some true)
    (bX2 : PySem.W.subIn K (.ref X2) (.type "BaseException") = some true)
    (hX2 : PySem.W.hasDictIn K X2 = true)
    (tX2 : PySem.W.typeIn K (.ref X2) = some (.type "type"))
    (sb0_2 : PySem.W.subIn K (.ref X0) (.ref X2) = some true)
    (sb1_2 : PySem.W.subIn K (.ref X1) (.ref X2) = some true)
    (sb0_0 : PySem.W.subIn K (.ref X0) (.ref X0) = some true)
    (sb1_0 : PySem.W.subIn K (.ref X1) (.ref X0) = some false)
    (sb1_1 : PySem.W.subIn K (.ref X1) (.ref X1) = some true)
    (sb0_1 : PySem.W.subIn K (.ref X0) (.ref X1) = some false)
    (bX3 : PySem.W.subIn K (.ref X3) (.type "BaseException") = some true)
    (hX3 : PySem.W.hasDictIn K X3 = true)
    (tX3 : PySem.W.typeIn K (.ref X3) = some (.type "type"))
    (sb0_3 : PySem.W.subIn K (.ref X0) (.ref X3) = some false)
    (sb1_3 : PySem.W.subIn K (.ref X1) (.ref X3) = some false)
    (hlaw : ∀ ns : List Int, ns.length ≤ 63 → run 30 29 [scr ns] = .ret (.d (.bl true)) [none]) :
    ∃ fd : FuncData, (∀ (s : Shared) (v : Value), BindsTo s fd ⟨[v], []⟩ [("_law_script", v)]) ∧ ∀ base : Heap, K.In base → base.Ns mainGlobals mg → FnOk l.prog w K mg base (L2.CX l.prog w) 60 fa fd ["_law_script"] (spLaw K) := by
  have e := hfa.symm.trans (PySem.W.mg_of X Gm a29)
  cases e
  let G : Gi := ⟨K, fun _ => 0, fun _ => []⟩
  let Y : Xi := ⟨fun c => match c with | 0 => X0 | 1 => X1 | 2 => X2 | _ => X3, fun c => match c with | 0 => ["-"] | 1 => ["-"] | 2 => ["-"] | _ => ["-"]⟩
  have T : Tx mg G Y := ⟨PySem.W.mg_none_of X Gm z_all,
    PySem.W.mg_none_of X Gm z_any,
    PySem.W.mg_none_of X Gm z_int,
    PySem.W.mg_none_of X Gm z_isinstance,
    PySem.W.mg_none_of X Gm z_len,
    PySem.W.mg_none_of X Gm z_list,
    PySem.W.mg_none_of X Gm z_max,
    PySem.W.mg_none_of X Gm z_range,
    PySem.W.mg_none_of X Gm z_sorted,
    PySem.W.mg_none_of X Gm z_str,
    PySem.W.mg_none_of X Gm z_sum,
    PySem.W.mg_none_of X Gm z_tuple,
    ⟨_, PySem.W.mg_of X Gm y_MOST_CONDITIONS⟩,
    ⟨_, PySem.W.mg_of X Gm y_MOST_DEEP⟩,
    ⟨_, PySem.W.mg_of X Gm y_MOST_MARKS⟩,
    ⟨_, PySem.W.mg_of X Gm y_MOST_PARTS⟩,
    ⟨_, PySem.W.mg_of X Gm y_SMALL⟩,
    ⟨fun a b r h => by (cases a <;> cases b <;> first | exact kit_ty h | cases h), fun c b r h => by cases b <;> cases h⟩,
    PySem.W.mg_of X Gm gX0,
    PySem.W.mg_of X Gm gX1,
    PySem.W.mg_of X Gm gX2,
    PySem.W.mg_of X Gm gX3,
    ⟨PySem.W.mg_of X Gm gX0, eX0, kX0, bX0, tX0⟩,
    ⟨PySem.W.mg_of X Gm gX1, eX1, kX1, bX1, tX1⟩,
    fun c b h => match c, h with | 0, h => (by cases h; exact PySem.W.exm_ref bX2 hX2 tX2 sb0_2) | 1, h => (by cases h; exact PySem.W.exm_ref bX2 hX2 tX2 sb1_2) | _ + 2, h => (by cases h),
    fun c o h => match c, h with | 0, h => (by cases h; exact ⟨(some "marks"), none, fun c o h => (if hc : c = 0 then (by dsimp only at h; rw [if_pos hc] at h; cases h; subst hc; exact ⟨⟨aX0, uX0, bX0, hX0, cX0, xkb, xkd, mX0⟩, (by intro z; cases z), _, _, (kitOne_ref hX0 tX0 sb0_0 sb0_0), (kitOne_ref hX1 tX1 sb0_0 sb0_1), rfl⟩) else (by dsimp only at h; rw [if_neg hc] at h; cases h)), fun c o h => (if hc : c = 0 then (by dsimp only at h; rw [if_pos hc] at h; cases h; subst hc; exact ⟨⟨aX0, uX0, bX0, hX0, cX0, xkb, xkd, mX0⟩, (by intro z; cases z), _, _, (kitOne_ref hX1 tX1 sb0_0 sb0_1), (kitOne_ref hX3 tX3 sb0_0 sb0_3), rfl⟩) else (by dsimp only at h; rw [if_neg hc] at h; cases h)), rfl⟩) | 1, h => (by cases h; exact ⟨none, (some "lot"), fun c o h => (if hc : c = 1 then (by dsimp only at h; rw [if_pos hc] at h; cases h; subst hc; exact ⟨⟨aX1, uX1, bX1, hX1, cX1, xkb, xkd, mX1⟩, (by intro z; cases z), _, _, (kitOne_ref hX0 tX0 sb1_1 sb1_0), (kitOne_ref hX1 tX1 sb1_1 sb1_1), rfl⟩) else (by dsimp only at h; rw [if_neg hc] at h; cases h)), fun c o h => (if hc : c = 1 then (by dsimp only at h; rw [if_pos hc] at h; cases h; subst hc; exact ⟨⟨aX1, uX1, bX1, hX1, cX1, xkb, xkd, mX1⟩, (by intro z; cases z), _, _, (kitOne_ref hX1 tX1 sb1_1 sb1_1), (kitOne_ref hX3 tX3 sb1_1 sb1_3), rfl⟩) else (by dsimp only at h; rw [if_neg hc] at h; cases h)), rfl⟩) | _ + 2, h => (by cases h)⟩
  have F0 := fun_mk (st := s0) l0 c0 k0
  have b0 := F0.binds (ps := ["thing"]) fun _ _ _ _ _ _ us hl => match us, hl with | [_], _ => rfl
  have F1 := fun_mk (st := s1) l1 c1 k1
  have b1 := F1.binds (ps := ["items"]) fun _ _ _ _ _ _ us hl => match us, hl with | [_], _ => rfl
  have F2 := fun_mk (st := s2) l2 c2 k2
  have b2 := F2.binds (ps := ["thing"]) fun _ _ _ _ _ _ us hl => match us, hl with | [_], _ => rfl
  have F3 := fun_mk (st := s3) l3 c3 k3
  have b3 := F3.binds (ps := ["marks", "thing"]) fun _ _ _ _ _ _ us hl => match us, hl with | [_, _], _ => rfl
  have F4 := fun_mk (st := s4) l4 c4 k4
  have b4 := F4.binds (ps := ["marks", "thing"]) fun _ _ _ _ _ _ us hl => match us, hl with | [_, _], _ => rfl
  have F5 := fun_mk (st := s5) l5 c5 k5
  have b5 := F5.binds (ps := ["thing"]) fun _ _ _ _ _ _ us hl => match us, hl with | [_], _ => rfl
  have F6 := fun_mk (st := s6) l6 c6 k6
  have b6 := F6.binds (ps := ["marks", "thing"]) fun _ _ _ _ _ _ us hl => match us, hl with | [_, _], _ => rfl
  have F7 := fun_mk (st := s7) l7 c7 k7
  have b7 := F7.binds (ps := ["marks"]) fun _ _ _ _ _ _ us hl => match us, hl with | [_], _ => rfl
  have F8 := fun_mk (st := s8) l8 c8 k8
  have b8 := F8.binds (ps := ["thing"]) fun _ _ _ _ _ _ us hl => match us, hl with | [_], _ => rfl
  have F9 := fun_mk (st := s9) l9 c9 k9
  have b9 := F9.binds (ps := ["parts"]) fun _ _ _ _ _ _ us hl => match us, hl with | [_], _ => rfl
  have F10 := fun_mk (st := s10) l10 c10 k10
  have b10 := F10.binds (ps := ["marks", "condition"]) fun _ _ _ _ _ _ us hl => match us, hl with | [_, _], _ => rfl
  have F11 := fun_mk (st := s11) l11 c11 k11
  have b11 := F11.binds (ps := ["marks", "thing"]) fun _ _ _ _ _ _ us hl => match us, hl with | [_, _], _ => rfl
  have F12 := fun_mk (st := s12) l12 c12 k12
  have b12 := F12.binds (ps := ["condition", "kind"]) fun _ _ _ _ _ _ us hl => match us, hl with | [_, _], _ => rfl
  have F13 := fun_mk (st := s13) l13 c13 k13
  have b13 := F13.binds (ps := ["marks", "condition"]) fun _ _ _ _ _ _ us hl => match us, hl with | [_, _], _ => rfl
  have F14 := fun_mk (st := s14) l14 c14 k14
  have b14 := F14.binds (ps := ["marks", "lot"]) fun _ _ _ _ _ _ us hl => match us, hl with | [_, _], _ => rfl
  have F15 := fun_mk (st := s15) l15 c15 k15
  have b15 := F15.binds (ps := ["marks", "lot"]) fun _ _ _ _ _ _ us hl => match us, hl with | [_, _], _ => rfl
  have F16 := fun_mk (st := s16) l16 c16 k16
  have b16 := F16.binds (ps := ["_law_script"]) fun _ _ _ _ _ _ us hl => match us, hl with | [_], _ => rfl
  have F17 := fun_mk (st := s17) l17 c17 k17
  have b17 := F17.binds (ps := ["_law_tape_here", "_law_many"]) fun _ _ _ _ _ _ us hl => match us, hl with | [_, _], _ => rfl
  have F18 := fun_mk (st := s18) l18 c18 k18
  have b18 := F18.binds (ps := ["_law_marks_here"]) fun _ _ _ _ _ _ us hl => match us, hl with | [_], _ => rfl
  have F19 := fun_mk (st := s19) l19 c19 k19
  have b19 := F19.binds (ps := ["_law_tape_here"]) fun _ _ _ _ _ _ us hl => match us, hl with | [_], _ => rfl
  have F20 := fun_mk (st := s20) l20 c20 k20
  have b20 := F20.binds (ps := ["_law_tape_here", "_law_every"]) fun _ _ _ _ _ _ us hl => match us, hl with | [_, _], _ => rfl
  have F21 := fun_mk (st := s21) l21 c21 k21
  have b21 := F21.binds (ps := ["_law_tape_here"]) fun _ _ _ _ _ _ us hl => match us, hl with | [_], _ => rfl
  have F22 := fun_mk (st := s22) l22 c22 k22
  have b22 := F22.binds (ps := ["_law_items"]) fun _ _ _ _ _ _ us hl => match us, hl with | [_], _ => rfl
  have F23 := fun_mk (st := s23) l23 c23 k23
  have b23 := F23.binds (ps := ["_law_thing"]) fun _ _ _ _ _ _ us hl => match us, hl with | [_], _ => rfl
  have F24 := fun_mk (st := s24) l24 c24 k24
  have b24 := F24.binds (ps := ["_law_marks_here", "_law_thing"]) fun _ _ _ _ _ _ us hl => match us, hl with | [_, _], _ => rfl
  have F25 := fun_mk (st := s25) l25 c25 k25
  have b25 := F25.binds (ps := ["_law_marks_here", "_law_thing"]) fun _ _ _ _ _ _ us hl => match us, hl with | [_, _], _ => rfl
  have F26 := fun_mk (st := s26) l26 c26 k26
  have b26 := F26.binds (ps := ["_law_marks_here", "_law_thing"]) fun _ _ _ _ _ _ us hl => match us, hl with | [_, _], _ => rfl
  have F27 := fun_mk (st := s27) l27 c27 k27
  have b27 := F27.binds (ps := ["_law_condition", "_law_kind"]) fun _ _ _ _ _ _ us hl => match us, hl with | [_, _], _ => rfl
  have F28 := fun_mk (st := s28) l28 c28 k28
  have b28 := F28.binds (ps := ["_law_marks_here", "_law_lot_here"]) fun _ _ _ _ _ _ us hl => match us, hl with | [_, _], _ => rfl
  have F29 := fun_mk (st := s29) l29 c29 k29
  have b29 := F29.binds (ps := ["_law_script"]) fun _ _ _ _ _ _ us hl => match us, hl with | [_], _ => rfl
  have S : Ds mg G := ⟨⟨_, _, F0, PySem.W.mg_of X Gm a0, b0⟩,
    ⟨_, _, F1, PySem.W.mg_of X Gm a1, b1⟩,
    ⟨_, _, F2, PySem.W.mg_of X Gm a2, b2⟩,
    ⟨_, _, F3, PySem.W.mg_of X Gm a3, b3⟩,
    ⟨_, _, F4, PySem.W.mg_of X Gm a4, b4⟩,
    ⟨_, _, F5, PySem.W.mg_of X Gm a5, b5⟩,
    ⟨_, _, F6, PySem.W.mg_of X Gm a6, b6⟩,
    ⟨_, _, F7, PySem.W.mg_of X Gm a7, b7⟩,
    ⟨_, _, F8, PySem.W.mg_of X Gm a8, b8⟩,
    ⟨_, _, F9, PySem.W.mg_of X Gm a9, b9⟩,
    ⟨_, _, F10, PySem.W.mg_of X Gm a10, b10⟩,
    ⟨_, _, F11, PySem.W.mg_of X Gm a11, b11⟩,
    ⟨_, _, F12, PySem.W.mg_of X Gm a12, b12⟩,
    ⟨_, _, F13, PySem.W.mg_of X Gm a13, b13⟩,
    ⟨_, _, F14, PySem.W.mg_of X Gm a14, b14⟩,
    ⟨_, _, F15, PySem.W.mg_of X Gm a15, b15⟩,
    ⟨_, _, F16, PySem.W.mg_of X Gm a16, b16⟩,
    ⟨_, _, F17, PySem.W.mg_of X Gm a17, b17⟩,
    ⟨_, _, F18, PySem.W.mg_of X Gm a18, b18⟩,
    ⟨_, _, F19, PySem.W.mg_of X Gm a19, b19⟩,
    ⟨_, _, F20, PySem.W.mg_of X Gm a20, b20⟩,
    ⟨_, _, F21, PySem.W.mg_of X Gm a21, b21⟩,
    ⟨_, _, F22, PySem.W.mg_of X Gm a22, b22⟩,
    ⟨_, _, F23, PySem.W.mg_of X Gm a23, b23⟩,
    ⟨_, _, F24, PySem.W.mg_of X Gm a24, b24⟩,
    ⟨_, _, F25, PySem.W.mg_of X Gm a25, b25⟩,
    ⟨_, _, F26, PySem.W.mg_of X Gm a26, b26⟩,
    ⟨_, _, F27, PySem.W.mg_of X Gm a27, b27⟩,
    ⟨_, _, F28, PySem.W.mg_of X Gm a28, b28⟩,
    ⟨_, _, F29, PySem.W.mg_of X Gm a29, b29⟩⟩
  refine ⟨PySem.W.fnOf "law" "law" (defArgs s29) (defBody s29) (defScope s29) .none kV29 dc29 pm29 an29 cd29 ct29, fun s v => .of_eq rfl, fun base _ _ => ?_⟩
  have L : Lv l.prog w mg base G Y (2 * 29) (run 29) := lvs T S 29
  exact law_fn (x := "law") (fn_ok (nl := 13) F29 sc29 rfl rfl fun cdv A outer s H E C => d29 T L C) hlaw
end KK

set_option Elab.async false
set_option linter.all false
set_option maxRecDepth 100000
set_option maxHeartbeats 4000000
namespace KK
open PySem L2 Nz
open Nz (D Env Arg)
def tp (ns : List D) (p h s c : Int) : Cell := .lst [.lst ns, .int p, .int h, .int s, .int c]
def mx1 (s c x : Int) : Int := (s * 48271 + x % 2147483629 + (c + 1) * 69621) % 2147483647
def mx2 (s c x : Int) : Int := (mx1 s c x * (mx1 s c x / 1009 + 40692)) % 2147483399
def TapeOk (t : Cell) : Prop := ∃ (ns : List Int) (p h s c : Int), t = tp (ns.map D.int) p h s c ∧ 0 ≤ p
theorem ix0 {a b c d e : D} : gIx (.lst [a, b, c, d, e]) (.int 0) = some (.d a) := rfl
theorem ix1 {a b c d e : D} : gIx (.lst [a, b, c, d, e]) (.int 1) = some (.d b) := rfl
theorem ix2 {a b c d e : D} : gIx (.lst [a, b, c, d, e]) (.int 2) = some (.d c) := rfl
theorem ix3 {a b c d e : D} : gIx (.lst [a, b, c, d, e]) (.int 3) = some (.d d) := rfl
theorem ix4 {a b c d e : D} : gIx (.lst [a, b, c, d, e]) (.int 4) = some (.d e) := rfl
theorem gMod_pos {i j : Int} (h : 0 < j) : gMod (.int i) (.int j) = some (.d (.int (i % j))) := by simp [gMod, h]
theorem gDiv_pos {i j : Int} (h : 0 < j) (h2 : j < 1073741824) : gDiv (.int i) (.int j) = some (.d (.int (i / j))) := by simp [gDiv, h, h2]
theorem gMul_small {i j : Int} (h : j.natAbs < 1000000000000000000) : gMulA (.int i) (.int j) = some (.d (.int (i * j))) := by simp [gMulA, mulOk, h]
theorem gMul_left {i j : Int} (h : i.natAbs < 1000000000000000000) : gMulA (.int i) (.int j) = some (.d (.int (i * j))) := by simp [gMulA, mulOk, h]
theorem gAdd_i {i j : Int} : gAdd (.int i) (.int j) = some (.d (.int (i + j))) := rfl
theorem gSub_i {i j : Int} : Nz.gSub (.int i) (.int j) = some (.d (.int (i - j))) := rfl
theorem gGt_i {i j : Int} : gGt (.int i) (.int j) = some (.d (.bl (decide (j < i)))) := rfl
theorem gGe_i {i j : Int} : gGe (.int i) (.int j) = some (.d (.bl (decide (j ≤ i)))) := rfl
theorem gLt_i {i j : Int} : gLt (.int i) (.int j) = some (.d (.bl (decide (i < j)))) := rfl
theorem gInt_i {i : Int} : gInt [.int i] = some (.d (.int i)) := rfl
theorem gLen_l {ds : List D} : gLen [.lst ds] = some (.d (.int ds.length)) := rfl
theorem gLen_t {ds : List D} : gLen [.tup ds] = some (.d (.int ds.length)) := rfl
theorem gIx_l {ds : List D} {k : Int} {d : D} (h : 0 ≤ k) (h2 : ds[k.toNat]? = some d) : gIx (.lst ds) (.int k) = some (.d d) := by
  have hl : k.toNat < ds.length := by
    rcases Nat.lt_or_ge k.toNat ds.length with q | q
    · exact q
    · rw [List.getElem?_eq_none q] at h2; cases h2
  show (atI ds k).map Pr.d = _
  unfold atI ixN
  rw [if_pos h, if_pos (by omega)]
  simp [h2]
theorem pick0 (n : Nat) (ns : List D) (p h s c m : Int) (h1 : 1 < h) (hm : 0 < m) (hm2 : m < 1073741824) : run (n + 1) 17 [.io (tp ns p h s c), .d (.int m)] = .ret (.d (.int (h % m))) [some (tp ns p (h / m) s c), none] := by
  show finF _ (b17 (run n) [.io (tp ns p h s c), .d (.int m), .no, .no, .no]) = _
  unfold b17 tp
  have e : decide ((1 : Int) < h) = true := decide_eq_true h1
  simp [ix0, ix1, ix2, ix3, ix4, set2, gGt_i, gInt_i, gMod_pos hm, gDiv_pos hm hm2, e]
  rfl
theorem pw18 : gPow (.int 10) (.int 18) = some (.d (.int 1000000000000000000)) := rfl
theorem gMul_a {i : Int} : gMulA (.int i) (.int 48271) = some (.d (.int (i * 48271))) := gMul_small (by decide)
theorem gMul_b {i : Int} : gMulA (.int i) (.int 69621) = some (.d (.int (i * 69621))) := gMul_small (by decide)
theorem gMul_m {i j : Int} : gMulA (.int (i % 2147483647)) (.int j) = some (.d (.int (i % 2147483647 * j))) := gMul_left (by omega)
theorem gMod_a {i : Int} : gMod (.int i) (.int 2147483629) = some (.d (.int (i % 2147483629))) := gMod_pos (by decide)
theorem gMod_b {i : Int} : gMod (.int i) (.int 2147483647) = some (.d (.int (i % 2147483647))) := gMod_pos (by decide)
theorem gMod_c {i : Int} : gMod (.int i) (.int 2147483399) = some (.d (.int (i % 2147483399))) := gMod_pos (by decide)
theorem gDiv_a {i : Int} : gDiv (.int i) (.int 1009) = some (.d (.int (i / 1009))) := gDiv_pos (by decide) (by decide)
theorem gDiv_b {i : Int} : gDiv (.int i) (.int 16) = some (.d (.int (i / 16))) := gDiv_pos (by decide) (by decide)
/-- the two draws behind the cell -/
theorem pick1 (n : Nat) (ds : List D) (p h s c m x : Int) (h1 : ¬ 1 < h) (hp : p < ds.length) (hx : gIx (.lst ds) (.int p) = some (.d (.int x))) (hm : 0 < m) (hm2 : m < 1073741824) : ∃ r p' h' s' c', 0 ≤ r ∧ r < m ∧ (p' = p ∨ p' = p + 1) ∧ run (n + 1) 17 [.io (tp ds p h s c), .d (.int m)] = .ret (.d (.int r)) [some (tp ds p' h' s' c'), none] := by
  have e : decide ((1 : Int) < h) = false := decide_eq_false h1
  have e2 : decide (p < (ds.length : Int)) = true := decide_eq_true hp
  by_cases h3 : 1000000000000000000 ≤ x
  · have e3 : decide ((1000000000000000000 : Int) ≤ x) = true := decide_eq_true h3
    refine ⟨x % m, p + 1, x / m, s, c + 1, Int.emod_nonneg _ (by omega), Int.emod_lt_of_pos _ hm, .inr rfl, ?_⟩
    show finF _ (b17 (run n) [.io (tp ds p h s c), .d (.int m), .no, .no, .no]) = _
    unfold b17 tp
    simp [ix0, ix1, ix2, ix3, ix4, set0, set1, set2, set3, set4, gGt_i, gGe_i, gLt_i, gAdd_i, gLen_l, gInt_i, gMod_pos hm, gDiv_pos hm hm2, e, e2, e3, hx, pw18]
    rfl
  · have e3 : decide ((1000000000000000000 : Int) ≤ x) = false := decide_eq_false h3
    refine ⟨mx2 s c x / 16 % m, p + 1, h, mx2 s c x, c + 1, ?_, ?_, .inr rfl, ?_⟩
    rotate_left 2
    · show finF _ (b17 (run n) [.io (tp ds p h s c), .d (.int m), .no, .no, .no]) = _
      unfold b17 tp
      simp [ix0, ix1, ix2, ix3, ix4, set0, set1, set2, set3, set4, gGt_i, gGe_i, gLt_i, gAdd_i, gLen_l, gInt_i, gMul_a, gMul_b, gMul_m, gMod_a, gMod_b, gMod_c, gDiv_a, gDiv_b, gMod_pos hm, gDiv_pos hm hm2, e, e2, e3, hx, pw18]
      rfl
    · exact Int.emod_nonneg _ (by omega)
    · exact Int.emod_lt_of_pos _ hm
theorem pick2 (n : Nat) (ds : List D) (p h s c m : Int) (h1 : ¬ 1 < h) (hp : ¬ p < ds.length) (hm : 0 < m) (hm2 : m < 1073741824) : ∃ r p' h' s' c', 0 ≤ r ∧ r < m ∧ (p' = p ∨ p' = p + 1) ∧ run (n + 1) 17 [.io (tp ds p h s c), .d (.int m)] = .ret (.d (.int r)) [some (tp ds p' h' s' c'), none] := by
  have e : decide ((1 : Int) < h) = false := decide_eq_false h1
  have e2 : decide (p < (ds.length : Int)) = false := decide_eq_false hp
  have e3 : decide ((1000000000000000000 : Int) ≤ 0) = false := rfl
  refine ⟨mx2 s c 0 / 16 % m, p, h, mx2 s c 0, c + 1, ?_, ?_, .inl rfl, ?_⟩
  rotate_left 2
  · show finF _ (b17 (run n) [.io (tp ds p h s c), .d (.int m), .no, .no, .no]) = _
    unfold b17 tp
    simp [ix0, ix1, ix2, ix3, ix4, set0, set1, set2, set3, set4, gGt_i, gGe_i, gLt_i, gAdd_i, gLen_l, gInt_i, gMul_a, gMul_b, gMul_m, gMod_a, gMod_b, gMod_c, gDiv_a, gDiv_b, gMod_pos hm, gDiv_pos hm hm2, e, e2, e3, pw18]
    have z : mx2 s c 0 = (s * 48271 + (c + 1) * 69621) % 2147483647 * ((s * 48271 + (c + 1) * 69621) % 2147483647 / 1009 + 40692) % 2147483399 := by simp [mx2, mx1]
    rw [z]
    rfl
  · exact Int.emod_nonneg _ (by omega)
  · exact Int.emod_lt_of_pos _ hm
/-- a draw below m -/
theorem pick_ok (n : Nat) {t : Cell} (T : TapeOk t) {m : Int} (hm : 0 < m) (hm2 : m < 1073741824) : ∃ r t', 0 ≤ r ∧ r < m ∧ TapeOk t' ∧ run (n + 1) 17 [.io t, .d (.int m)] = .ret (.d (.int r)) [some t', none] := by
  obtain ⟨ns, p, h, s, c, rfl, hp⟩ := T
  by_cases h1 : 1 < h
  · exact ⟨h % m, _, Int.emod_nonneg _ (by omega), Int.emod_lt_of_pos _ hm, ⟨ns, p, h / m, s, c, rfl, hp⟩, pick0 n _ p h s c m h1 hm hm2⟩
  · by_cases h2 : p < ((ns.map D.int).length : Int)
    · have hl : p.toNat < ns.length := by rw [List.length_map] at h2; omega
      obtain ⟨r, p', h', s', c', q1, q2, q3, q4⟩ := pick1 n (ns.map D.int) p h s c m ns[p.toNat] h1 h2 (gIx_l hp (by rw [List.getElem?_map, List.getElem?_eq_getElem hl]; rfl)) hm hm2
      exact ⟨r, _, q1, q2, ⟨ns, p', h', s', c', rfl, by omega⟩, q4⟩
    · obtain ⟨r, p', h', s', c', q1, q2, q3, q4⟩ := pick2 n (ns.map D.int) p h s c m h1 h2 hm hm2
      exact ⟨r, _, q1, q2, ⟨ns, p', h', s', c', rfl, by omega⟩, q4⟩
theorem tape_ok (n : Nat) (ns : List Int) : run (n + 1) 16 [scr ns] = .ret (.new (tp (ns.map D.int) 0 0 1 0)) [none] := rfl
theorem tape_is (ns : List Int) : TapeOk (tp (ns.map D.int) 0 0 1 0) := ⟨ns, 0, 0, 1, 0, rfl, by decide⟩
end KK

set_option Elab.async false
set_option linter.all false
set_option maxRecDepth 100000
set_option maxHeartbeats 4000000
namespace KK
open PySem L2 Nz
open Nz (D Arg)
def marks9 : List Str := ["ab", "abc", "abc", "ab", "x", "", "bdy", "abcd", "aeioz"]
theorem marks_ok (n : Nat) {t : Cell} (T : TapeOk t) : ∃ m t', m ∈ marks9 ∧ TapeOk t' ∧ run (n + 2) 19 [.io t] = .ret (.d (.str m)) [some t'] := by
  obtain ⟨r, t', h1, h2, h3, h4⟩ := pick_ok n T (m := 9) (by decide) (by decide)
  have e : r = 0 ∨ r = 1 ∨ r = 2 ∨ r = 3 ∨ r = 4 ∨ r = 5 ∨ r = 6 ∨ r = 7 ∨ r = 8 := by omega
  have key : ∀ m : Str, marks9[r.toNat]? = some m → run (n + 2) 19 [.io t] = .ret (.d (.str m)) [some t'] := by
    intro m hm
    show finF _ (b19 (run (n + 1)) [.io t]) = _
    unfold b19
    have hx : gIx (.lst [.str "ab", .str "abc", .str "abc", .str "ab", .str "x", .str "", .str "bdy", .str "abcd", .str "aeioz"]) (.int r) = some (.d (.str m)) := gIx_l h1 (by
      have : (marks9.map D.str)[r.toNat]? = some (.str m) := by rw [List.getElem?_map, hm]; rfl
      exact this)
    simp [h4, hx]
    rfl
  have hm : r.toNat < marks9.length := by show r.toNat < 9; omega
  exact ⟨marks9[r.toNat], t', List.getElem_mem hm, h3, key _ (List.getElem?_eq_getElem hm)⟩
/-! ### what kinds are, by running -/
def resStrs : FOut → Option (List Str)
  | .ret (.new (.lst ds)) [none] => strsOf ds
  | _ => none
theorem strsOf_inv : ∀ {ds : List D} {ss : List Str}, strsOf ds = some ss → ds = ss.map D.str
  | [], _, h => by cases h; rfl
  | d :: ds, ss, h => by
    cases d with
    | str s =>
      have h' : (strsOf ds).map (s :: ·) = some ss := h
      cases q : strsOf ds with
      | none => rw [q] at h'; cases h'
      | some r => rw [q] at h'; cases h'; rw [strsOf_inv q]; rfl
    | _ => cases h
theorem resStrs_inv {o : FOut} {ss : List Str} (h : resStrs o = some ss) : o = .ret (.new (.lst (ss.map D.str))) [none] := by
  unfold resStrs at h
  split at h
  · rw [strsOf_inv h]
  · cases h
def every (m : Str) : List Str := (resStrs (run 1 18 [.d (.str m)])).getD []
theorem kinds_same : marks9.all (fun m => (resStrs (run 1 18 [.d (.str m)]) == some (every m)) && (every m).length ≤ 32 && decide (1 ≤ (every m).length)) = true := by decide +kernel
end KK

set_option Elab.async false
set_option linter.all false
set_option maxRecDepth 100000
set_option maxHeartbeats 4000000
namespace KK
open PySem L2 Nz
open Nz (D Arg)
def okB (b : Bool) : FOut → Bool
  | .ret (.d (.bl c)) [none, none] => b == c
  | _ => false
theorem okB_inv {b : Bool} {o : FOut} (h : okB b o = true) : o = .ret (.d (.bl b)) [none, none] := by
  unfold okB at h
  split at h
  · rw [eq_of_beq h]
  · cases h
def ok1 (b : Bool) : FOut → Bool
  | .ret (.d (.bl c)) [none] => b == c
  | _ => false
theorem ok1_inv {b : Bool} {o : FOut} (h : ok1 b o = true) : o = .ret (.d (.bl b)) [none] := by
  unfold ok1 at h
  split at h
  · rw [eq_of_beq h]
  · cases h
def has (a b : Str) : Bool := b.cps.toList.all fun c => a.cps.toList.contains c
def ltS (a b : Str) : Bool := decide (a.cps.toList < b.cps.toList)
theorem f_marks : marks9.all (fun m => ok1 true (run 2 2 [.d (.str m)])) = true := by decide +kernel
theorem f_kind : marks9.all (fun m => (every m).all fun k => okB true (run 2 3 [.d (.str m), .d (.str k)])) = true := by decide +kernel
theorem f_up : marks9.all (fun m => decide ((every m).Pairwise fun a b => ltS a b = true)) = true := by decide +kernel
variable {m : Str} {n : Nat}
theorem run1 : run (n + 1) 1 = run 1 1 := by
  show defF 1 2 (b1 (run n)) = defF 1 2 (b1 (run 0))
  unfold b1
  rfl
theorem run3 : run (n + 2) 3 = run 2 3 := by
  show defF 2 3 (b3 (run (n + 1))) = defF 2 3 (b3 (run 1))
  unfold b3
  rw [run1]
theorem run2 : run (n + 2) 2 = run 2 2 := by
  show defF 1 2 (b2 (run (n + 1))) = defF 1 2 (b2 (run 1))
  unfold b2
  rw [run1]
theorem run18 : run (n + 1) 18 = run 1 18 := by
  show defF 1 4 (b18 (run n)) = defF 1 4 (b18 (run 0))
  unfold b18
  rfl
theorem kind_ok (hm : m ∈ marks9) {k : Str} (hk : k ∈ every m) : run (n + 2) 3 [.d (.str m), .d (.str k)] = .ret (.d (.bl true)) [none, none] := by
  have h : (every m).all (fun k => okB true (run 2 3 [.d (.str m), .d (.str k)])) = true := List.all_eq_true.mp f_kind m hm
  rw [run3]
  exact okB_inv (List.all_eq_true.mp h k hk)
theorem ismarks_ok (hm : m ∈ marks9) : run (n + 2) 2 [.d (.str m)] = .ret (.d (.bl true)) [none] := by
  have h : ok1 true (run 2 2 [.d (.str m)]) = true := List.all_eq_true.mp f_marks m hm
  rw [run2]
  exact ok1_inv h
theorem every_up (hm : m ∈ marks9) : (every m).Pairwise fun a b => ltS a b = true := by
  have h : decide ((every m).Pairwise fun a b => ltS a b = true) = true := List.all_eq_true.mp f_up m hm
  exact of_decide_eq_true h
theorem kinds_ok (hm : m ∈ marks9) : run (n + 1) 18 [.d (.str m)] = .ret (.new (.lst ((every m).map D.str))) [none] ∧ (every m).length ≤ 32 ∧ 1 ≤ (every m).length := by
  have h : ((resStrs (run 1 18 [.d (.str m)]) == some (every m)) && decide ((every m).length ≤ 32) && decide (1 ≤ (every m).length)) = true := List.all_eq_true.mp kinds_same m hm
  rw [Bool.and_eq_true, Bool.and_eq_true] at h
  obtain ⟨⟨h1, h3⟩, h4⟩ := h
  rw [run18]
  exact ⟨resStrs_inv (eq_of_beq h1), of_decide_eq_true h3, of_decide_eq_true h4⟩
end KK

set_option Elab.async false
set_option linter.all false
set_option maxRecDepth 100000
set_option maxHeartbeats 4000000
namespace KK
open PySem L2 Nz
open Nz (D Arg)
variable {m : Str} {n : Nat}
/-! ### lots -/
def lotD (l : List Str) : D := .tup (l.map D.str)
def lotsD (ls : List (List Str)) : D := .tup (ls.map lotD)
def Good (m : Str) (l : List Str) : Prop := l.Sublist (every m) ∧ l ≠ []
theorem Good.mem {l : List Str} (h : Good m l) {k : Str} (hk : k ∈ l) : k ∈ every m := h.1.subset hk
theorem isi_t {ds : List D} : gIsi isiT [.tup ds, .ty "tuple"] = some (.d (.bl true)) := rfl
theorem isi_b {b : Bool} : gIsi isiT [.bl b, .ty "bool"] = some (.d (.bl true)) := rfl
theorem gEq_i {i j : Int} : gEq (.int i) (.int j) = some (.d (.bl (i == j))) := rfl
theorem gEq_b {i j : Bool} : gEq (.bl i) (.bl j) = some (.d (.bl (i == j))) := by cases i <;> cases j <;> rfl
theorem gNe_b {i j : Bool} : gNe (.bl i) (.bl j) = some (.d (.bl !(i == j))) := by cases i <;> cases j <;> rfl
theorem gLt_s {i j : Str} : gLt (.str i) (.str j) = some (.d (.bl (ltS i j))) := rfl
theorem gAll_map (bs : List Bool) : gAll [.lst (bs.map D.bl)] = some (.d (.bl (bs.all id))) := by show (blsOf _).map _ = _; rw [blsOf_map]; rfl
theorem gIx_t {ds : List D} {k : Int} {d : D} (h : 0 ≤ k) (h2 : ds[k.toNat]? = some d) : gIx (.tup ds) (.int k) = some (.d d) := gIx_l (ds := ds) h h2
theorem all_true {α : Type} (xs : List α) : gAll [.lst (xs.map fun _ => D.bl true)] = some (.d (.bl true)) := by
  have : (xs.map fun _ => D.bl true) = (xs.map fun _ => true).map D.bl := by simp
  rw [this, gAll_map]
  simp
theorem asc_ok {l : List Str} (h : l.Pairwise fun a b => ltS a b = true) (hl : l.length ≤ 1000) : run (n + 1) 1 [.d (lotD l)] = .ret (.d (.bl true)) [none] := by
  show finF _ (b1 (run n) [.d (lotD l), .no]) = _
  unfold b1 lotD
  have hr : ∀ ρ, rngSrc2 (some [.int 1, .int ((l.map D.str).length : Int)]) ρ = .ok (.items ((List.range (l.length - 1)).map fun i => D.int (1 + (i : Nat)))) ρ := by
    intro ρ
    have e : upto 1 (((l.map D.str).length : Int) - 1).toNat = (List.range (l.length - 1)).map fun i => D.int (1 + (i : Nat)) := by
      have : (((l.map D.str).length : Int) - 1).toNat = l.length - 1 := by rw [List.length_map]; omega
      rw [this]; rfl
    have s : (small 1 && small ((l.map D.str).length : Int)) = true := by
      rw [List.length_map]
      unfold small
      rw [Bool.and_eq_true, decide_eq_true_eq, decide_eq_true_eq]
      omega
    show (if (small 1 && small ((l.map D.str).length : Int)) = true then Out.ok (Src.items (upto 1 (((l.map D.str).length : Int) - 1).toNat)) ρ else .stuck) = _
    rw [if_pos s, e]
  have hc := compI_map (i := 1) (e := f2 gLt (f2 gIx (fVar 0) (f2 Nz.gSub (fVar 1) (fC (.int (1))))) (f2 gIx (fVar 0) (fVar 1))) (ρ := [.d (.tup (l.map D.str)), .no]) (F := fun i : Nat => D.int (1 + (i : Nat))) (val := fun _ => D.bl true) (xs := List.range (l.length - 1)) rfl (by simp; omega) (by
    intro i hi
    rw [List.mem_range] at hi
    have e1 : gIx (.tup (l.map D.str)) (.int (1 + (i : Int) - 1)) = some (.d (.str l[i])) := gIx_t (by omega) (by
      have : (1 + (i : Int) - 1).toNat = i := by omega
      rw [this, List.getElem?_map, List.getElem?_eq_getElem (by omega)]; rfl)
    have e2 : gIx (.tup (l.map D.str)) (.int (1 + (i : Int))) = some (.d (.str l[i + 1])) := gIx_t (by omega) (by
      have : (1 + (i : Int)).toNat = i + 1 := by omega
      rw [this, List.getElem?_map, List.getElem?_eq_getElem (by omega)]; rfl)
    have e3 : ltS l[i] l[i + 1] = true := List.pairwise_iff_getElem.mp h i (i + 1) (by omega) (by omega) (by omega)
    simp only [List.set_cons_succ, List.set_cons_zero, opd_ap, f2_ap, fVar_ap, fC_ap, vr_d, Out.bind_ok, asD_d, k2a_ap, k2b_ap, o2_ap, res_d, gSub_i, ofP_d, e1, e2, gLt_s, e3, List.getElem?_cons_zero, List.getElem?_cons_succ])
  simp only [fRet_ap, fBlt_ap, fCons_ap, fComp_ap, fRng2_ap, opd_ap, fC_ap, Out.bind_ok, asD_d, kCons_ap, fVar_ap, List.getElem?_cons_zero, vr_d, fNil_ap, kCons2_ap, kBlt_ap, ress_cons, ress_nil, res_d, Option.bind_some, Option.map_some, gLen_t, ofP_d, kRng2_ap, hr, compK_items, hc, asD_new, all_true, retK_d]
  rfl
theorem Good.up {l : List Str} (hm : m ∈ marks9) (h : Good m l) : l.Pairwise fun a b => ltS a b = true := (every_up hm).sublist h.1
theorem Good.len {l : List Str} (hm : m ∈ marks9) (h : Good m l) : l.length ≤ 32 := Nat.le_trans h.1.length_le (kinds_ok (n := 0) hm).2.1
theorem lot_ok {l : List Str} (hm : m ∈ marks9) (h : Good m l) : run (n + 3) 4 [.d (.str m), .d (lotD l)] = .ret (.d (.bl true)) [none, none] := by
  show finF _ (b4 (run (n + 2)) [.d (.str m), .d (lotD l), .no]) = _
  unfold b4
  have ha := asc_ok (n := n + 1) (h.up hm) (by have := h.len hm; omega)
  have hc := compI_map (i := 2) (e := fCall [false, false] (run (n + 2) 3) (fCons (fVar 0) (fCons (fVar 2) fNil))) (ρ := [.d (.str m), .d (lotD l), .no]) (F := D.str) (val := fun _ => D.bl true) (xs := l) rfl (by have := h.len hm; omega) (by
    intro k hk
    simp [kind_ok (n := n) hm (h.mem hk)])
  have e1 : (((l.map D.str).length : Int) == 0) = false := by
    rw [List.length_map, beq_eq_false_iff_ne]
    have := List.length_pos_iff.mpr h.2
    omega
  unfold lotD at hc ha ⊢
  have e2 : gLen [.tup (l.map D.str)] = some (.d (.int ((l.map D.str).length : Int))) := gLen_t
  simp only [fSeq_ap, fIfS_ap, gOr_ap, gNot_ap, fT_ap, fBlt_ap, fCons_ap, opd_ap, fVar_ap, List.getElem?_cons_succ, List.getElem?_cons_zero, vr_d, Out.bind_ok, asD_d, kCons_ap, fC_ap, fNil_ap, kCons2_ap, kBlt_ap, ress_cons, ress_nil, res_d, Option.bind_some, Option.map_some, isi_t, ofP_d, kT_ap, isB_b, kNot_ap, Bool.not_true, kOr_f, f2_ap, k2a_ap, k2b_ap, o2_ap, e2, gEq_i, e1, kIfS_f, fSkip_ap, seqK_next, fRet_ap, fAnd_ap, fComp_ap, fSeqI_ap, seqSrc_t, compK_items, hc, asD_new, all_true, kAndE_t, fCall_ap, kCall_ap, mkArgs_cons, mkArgs_nil, mkArgE_d, kCall2_ap, once1, kCall3_ap, ha, callK_d, upds_no, upds_nil, retK_d]
  rfl
def seatsD (m : Str) (ls : List (List Str)) : D := .obj 0 [.str m, lotsD ls]
end KK

set_option Elab.async false
set_option linter.all false
set_option maxRecDepth 100000
set_option maxHeartbeats 4000000
namespace KK
open PySem L2 Nz
open Nz (D Arg)
variable {m : Str} {n : Nat}
/-- a loop that looks for something -/
theorem search {α : Type} {F : α → D} {t : GF} {b : SF} {I : Nz.Env → Prop} {ok : α → Bool} {Rt : Rv → Nz.Env → Prop} : ∀ (xs : List α) (ρ : Nz.Env), I ρ →
    (∀ a ∈ xs, ∀ ρ, I ρ → ∃ ρ1, t (F a) ρ = some ρ1 ∧ (ok a = true → ∃ ρ2, I ρ2 ∧ b ρ1 = .ok .next ρ2) ∧ (ok a = false → ∃ r ρ2, Rt r ρ2 ∧ b ρ1 = .ok (.ret r) ρ2)) →
    (xs.all ok = true → ∃ ρ2, I ρ2 ∧ loopL t b (xs.map F) ρ = .ok .next ρ2) ∧ (xs.all ok = false → ∃ r ρ2, Rt r ρ2 ∧ loopL t b (xs.map F) ρ = .ok (.ret r) ρ2)
  | [], ρ, hI, _ => ⟨fun _ => ⟨ρ, hI, rfl⟩, fun h => absurd h (by simp)⟩
  | a :: xs, ρ, hI, hs => by
    obtain ⟨ρ1, h1, h2, h3⟩ := hs a (by simp) ρ hI
    cases q : ok a with
    | true =>
      obtain ⟨ρ2, hI2, h4⟩ := h2 q
      obtain ⟨g1, g2⟩ := search xs ρ2 hI2 fun c hc => hs c (by simp [hc])
      rw [List.all_cons, q, Bool.true_and, List.map_cons, loopL_cons, h1, ofO_some, Out.bind_ok, kLoop_ap, h4, Out.bind_ok, kLoop2_ap, turnK_next]
      exact ⟨g1, g2⟩
    | false =>
      obtain ⟨r, ρ2, hr, h4⟩ := h3 q
      rw [List.all_cons, q, Bool.false_and, List.map_cons, loopL_cons, h1, ofO_some, Out.bind_ok, kLoop_ap, h4, Out.bind_ok, kLoop2_ap, turnK_ret]
      exact ⟨fun h => absurd h (by simp), fun _ => ⟨r, ρ2, hr, rfl⟩⟩
theorem inV_str (x : Str) (xs : List Str) : inV (.str x) (xs.map V.str) = xs.contains x := by
  unfold inV
  rw [List.any_map, Bool.eq_iff_iff, List.any_eq_true, List.contains_iff_mem]
  constructor
  · rintro ⟨y, hy, e⟩
    have : y = x := by simpa [eqV] using e
    exact this ▸ hy
  · intro h
    exact ⟨x, h, by simp [eqV]⟩
theorem gNin_t (x : Str) (xs : List Str) : gNin (.str x) (.tup (xs.map D.str)) = some (.d (.bl !xs.contains x)) := by
  show (inD _ _).map _ = _
  show (Option.bind (some (xs.map D.str)) fun ds => (D.flat (.str x)).bind fun v => (flats ds).map fun vs => inV v vs).map _ = _
  rw [Option.bind_some, flats_str]
  show some (Pr.d (.bl !inV (.str x) (xs.map V.str))) = _
  rw [inV_str]
theorem gIn_t (x : Str) (xs : List Str) : gIn (.str x) (.tup (xs.map D.str)) = some (.d (.bl (xs.contains x))) := by
  show (inD _ _).map _ = _
  show (Option.bind (some (xs.map D.str)) fun ds => (D.flat (.str x)).bind fun v => (flats ds).map fun vs => inV v vs).map _ = _
  rw [Option.bind_some, flats_str]
  show some (Pr.d (.bl (inV (.str x) (xs.map V.str)))) = _
  rw [inV_str]
theorem gIn_l (x : Str) (xs : List Str) : gIn (.str x) (.lst (xs.map D.str)) = some (.d (.bl (xs.contains x))) := gIn_t x xs
def Pl (s : Sl) : Prop := s = .no ∨ ∃ x, s = .d x
theorem Pl.nio {s : Sl} (h : Pl s) : nio (some s) = true := by rcases h with rfl | ⟨x, rfl⟩ <;> rfl
theorem Pl.no : Pl .no := .inl rfl
theorem Pl.d (x : D) : Pl (.d x) := .inr ⟨x, rfl⟩
def EV (m : Str) : Cell := .lst ((every m).map D.str)
theorem f_le : marks9.all (fun m => decide ((every m).Pairwise fun a b => leS a b = true)) = true := by decide +kernel
theorem every_le (hm : m ∈ marks9) : (every m).Pairwise fun a b => leS a b = true := by
  have h : decide ((every m).Pairwise fun a b => leS a b = true) = true := List.all_eq_true.mp f_le m hm
  exact of_decide_eq_true h
theorem sort_id : ∀ {xs : List Str}, (xs.Pairwise fun a b => leS a b = true) → sortS xs = xs
  | [], _ => rfl
  | [a], _ => rfl
  | a :: b :: xs, h => by
    have h2 := sort_id (List.pairwise_cons.mp h).2
    show insS a (sortS (b :: xs)) = _
    rw [h2]
    show (if leS a b then _ else _) = _
    rw [if_pos ((List.pairwise_cons.mp h).1 b (by simp))]
theorem gSorted_id {xs : List Str} (h : xs.Pairwise fun a b => leS a b = true) (hl : xs.length ≤ 32) : gSorted [.lst (xs.map D.str)] = some (.newL (xs.map D.str)) := by
  show (if (xs.map D.str).length < 64 then _ else none) = _
  rw [if_pos (by rw [List.length_map]; omega), strsOf_map]
  show some (Pr.newL ((sortS xs).map D.str)) = _
  rw [sort_id h]
theorem strs_of {P : Str → Prop} : ∀ {ys : List D}, (∀ y ∈ ys, ∃ s, P s ∧ y = .str s) → ∃ ss : List Str, ys = ss.map D.str ∧ ∀ s ∈ ss, P s
  | [], _ => ⟨[], rfl, fun _ h => by cases h⟩
  | y :: ys, h => by
    obtain ⟨s, hs, rfl⟩ := h y (by simp)
    obtain ⟨ss, rfl, hss⟩ := strs_of (ys := ys) fun z hz => h z (List.mem_cons_of_mem _ hz)
    exact ⟨s :: ss, rfl, fun z hz => by
      rcases List.mem_cons.mp hz with rfl | hz
      · exact hs
      · exact hss z hz⟩
theorem elen (hm : m ∈ marks9) : 1 ≤ (every m).length ∧ (every m).length ≤ 32 := ⟨(kinds_ok (n := 0) hm).2.2, (kinds_ok (n := 0) hm).2.1⟩
/-- every[pick(len(every))] -/
theorem draw_ok (n : Nat) (hm : m ∈ marks9) {t : Cell} (T : TapeOk t) : ∃ s t', s ∈ every m ∧ TapeOk t' ∧ ∃ r : Int, run (n + 1) 17 [.io t, .d (.int (((every m).map D.str).length : Int))] = .ret (.d (.int r)) [some t', none] ∧ gIx (.lst ((every m).map D.str)) (.int r) = some (.d (.str s)) := by
  have h := elen hm
  obtain ⟨r, t', h1, h2, h3, h4⟩ := pick_ok n T (m := (((every m).map D.str).length : Int)) (by rw [List.length_map]; omega) (by rw [List.length_map]; omega)
  rw [List.length_map] at h2
  have hl : r.toNat < (every m).length := by omega
  exact ⟨(every m)[r.toNat], t', List.getElem_mem hl, h3, r, h4, gIx_l h1 (by rw [List.getElem?_map, List.getElem?_eq_getElem hl]; rfl)⟩
theorem gTuple_l (ds : List D) : gTuple [.lst ds] = some (.newT ds) := rfl
/-- the second way: each kind is kept or not -/
theorem lotB (hm : m ∈ marks9) {t : Cell} (T : TapeOk t) : ∃ l t' x, Good m l ∧ TapeOk t' ∧
    (fSeq (fAsg 2 (fComp (fSeqI (fVar 1)) (gfName 4) (fT (f2 gEq (fCall [true, false] (run (n + 1) 17) (fCons (fVar 0) (fCons (fC (.int (2))) fNil))) (fC (.int (0))))) (fVar 4) [4]))
  (fSeq (fIfS (fT (f2 gEq (fBlt gLen (fCons (fVar 2) fNil)) (fC (.int (0)))))
  (fAsg 2 (fLst (fCons (f2 gIx (fVar 1) (fCall [true, false] (run (n + 1) 17) (fCons (fVar 0) (fCons (fBlt gLen (fCons (fVar 1) fNil)) fNil)))) fNil)))
  fSkip)
  (fRet (fBlt gTuple (fCons (fVar 2) fNil))))) [.io t, .rd (EV m), .no, .no, .no, .no] = .ok (.ret (.d (lotD l))) [.io t', .rd (EV m), x, .no, .no, .no] := by
  obtain ⟨t1, zs, ys, T1, hz, ha, hc⟩ := compL_io (i := 4) (F := D.str) (T := TapeOk) (R := fun t => [.io t, .rd (EV m), .no, .no, .no, .no]) (P := fun a y => y = D.str a) (c := fT (f2 gEq (fCall [true, false] (run (n + 1) 17) (fCons (fVar 0) (fCons (fC (.int (2))) fNil))) (fC (.int (0))))) (e := fVar 4) (fun _ => rfl) (every m) [] t T (by have := (elen hm).2; simp; omega) (by
    intro a ha k hk
    obtain ⟨r, k', h1, h2, h3, h4⟩ := pick_ok n hk (m := 2) (by decide) (by decide)
    obtain ⟨ds, hds⟩ : ∃ ds, k = .lst ds := by obtain ⟨_, _, _, _, _, rfl, _⟩ := hk; exact ⟨_, rfl⟩
    refine ⟨k', r == 0, h3, ?_, fun _ => ⟨k', .str a, h3, rfl, by simp⟩⟩
    simp [h4, gEq_i])
  obtain rfl := ha.map
  have hI := compI_of (i := 4) (ρ := [.io t, .rd (EV m), .no, .no, .no, .no]) (ρ1 := [.io t1, .rd (EV m), .no, .no, .no, .no]) rfl rfl hc
  cases zs with
  | cons z zs =>
    refine ⟨z :: zs, t1, .own (.lst ((z :: zs).map D.str)), ⟨hz, by simp⟩, T1, ?_⟩
    have hG : gLen [.lst ((z :: zs).map D.str)] = some (.d (.int ((((z :: zs).map D.str).length : Int)))) := rfl
    have e1 : ((((z :: zs).map D.str).length : Int) == 0) = false := by
      rw [beq_eq_false_iff_ne, List.length_map, List.length_cons]; omega
    rw [List.nil_append] at hI
    unfold EV at hI ⊢
    simp only [fSeq_ap, fAsg_ap, fComp_ap, fSeqI_ap, opd_ap, fVar_ap, List.getElem?_cons_zero, List.getElem?_cons_succ, vr_rd, Out.bind_ok, asD_slot, seqSrc_slot, slotSrc_rd, compK_items, hI, kAsg_ap, store_new, noIo_ap, nio_no, gd_t, kAsg2_ap, List.set_cons_succ, List.set_cons_zero, seqK_next, fIfS_ap, fT_ap, f2_ap, fBlt_ap, fCons_ap, vr_own, kCons_ap, fNil_ap, kCons2_ap, kBlt_ap, ress_cons, ress_nil, res_slot, resS_own, Option.bind_some, Option.map_some, hG, ofP_d, asD_d, k2a_ap, fC_ap, k2b_ap, res_d, o2_ap, gEq_i, e1, kT_ap, isB_b, kIfS_f, fSkip_ap, fRet_ap, gTuple_l, ofP_t, retK_d]
    rfl
  | nil =>
    obtain ⟨s, t2, hs, T2, r, h4, hx⟩ := draw_ok n hm T1
    refine ⟨[s], t2, .own (.lst [.str s]), ⟨List.singleton_sublist.mpr hs, by simp⟩, T2, ?_⟩
    have hG : gLen [.lst []] = some (.d (.int 0)) := rfl
    have hE : gLen [.lst ((every m).map D.str)] = some (.d (.int (((every m).map D.str).length : Int))) := rfl
    have e1 : ((0 : Int) == 0) = true := rfl
    have lm : ∀ o : Out Rv, lim (0 + 1) o = o := fun o => lim_pos (by decide)
    rw [List.nil_append, List.map_nil] at hI
    unfold EV at hI ⊢
    simp only [fSeq_ap, fAsg_ap, fComp_ap, fSeqI_ap, opd_ap, fVar_ap, List.getElem?_cons_zero, List.getElem?_cons_succ, vr_rd, vr_io, Out.bind_ok, asD_slot, seqSrc_slot, slotSrc_rd, compK_items, hI, kAsg_ap, store_new, noIo_ap, nio_no, nio_own, gd_t, kAsg2_ap, List.set_cons_succ, List.set_cons_zero, seqK_next, fIfS_ap, fT_ap, f2_ap, fBlt_ap, fCons_ap, vr_own, kCons_ap, fNil_ap, kCons2_ap, kBlt_ap, ress_cons, ress_nil, res_slot, resS_own, resS_rd, Option.bind_some, Option.map_some, hG, hE, ofP_d, asD_d, k2a_ap, fC_ap, k2b_ap, res_d, o2_ap, gEq_i, e1, kT_ap, isB_b, kIfS_t, fLst_ap, fCall_ap, kCall_ap, mkArgs_cons, mkArgs_nil, mkArg_slot, ag_iot, mkArgE_d, kCall2_ap, once_dd, kCall3_ap, h4, callK_d, upds_io, upds_no, upds_nil, putC_ap, pc_io, hx, kLst_ap, frzs_cons, frzs_nil, frz_d, kz_ap, kz2_ap, kLst2_ap, List.length_cons, List.length_nil, lm, fRet_ap, gTuple_l, ofP_t, retK_d]
    rfl
theorem lot_run (hm : m ∈ marks9) {t : Cell} (T : TapeOk t) : ∃ l t', Good m l ∧ TapeOk t' ∧ run (n + 2) 20 [.io t, .rd (EV m)] = .ret (.d (lotD l)) [some t', none] := by
  have B : ∀ t1, TapeOk t1 → (∀ s u v : SF, True) → ∀ body : SF, (body [.io t, .rd (EV m), .no, .no, .no, .no] = (fSeq (fAsg 2 (fComp (fSeqI (fVar 1)) (gfName 4) (fT (f2 gEq (fCall [true, false] (run (n + 1) 17) (fCons (fVar 0) (fCons (fC (.int (2))) fNil))) (fC (.int (0))))) (fVar 4) [4]))
  (fSeq (fIfS (fT (f2 gEq (fBlt gLen (fCons (fVar 2) fNil)) (fC (.int (0)))))
  (fAsg 2 (fLst (fCons (f2 gIx (fVar 1) (fCall [true, false] (run (n + 1) 17) (fCons (fVar 0) (fCons (fBlt gLen (fCons (fVar 1) fNil)) fNil)))) fNil)))
  fSkip)
  (fRet (fBlt gTuple (fCons (fVar 2) fNil))))) [.io t1, .rd (EV m), .no, .no, .no, .no]) → ∃ l t', Good m l ∧ TapeOk t' ∧ finF [.io t, .rd (EV m)] (body [.io t, .rd (EV m), .no, .no, .no, .no]) = .ret (.d (lotD l)) [some t', none] := by
    intro t1 T1 _ body e
    obtain ⟨l, t', x, h1, h2, h3⟩ := lotB (n := n) hm T1
    refine ⟨l, t', h1, h2, ?_⟩
    rw [e, h3]
    rfl
  show ∃ l t', Good m l ∧ TapeOk t' ∧ finF _ (b20 (run (n + 1)) [.io t, .rd (EV m), .no, .no, .no, .no]) = _
  have hE : gLen [.lst ((every m).map D.str)] = some (.d (.int (((every m).map D.str).length : Int))) := rfl
  cases q : decide ((8 : Int) < (((every m).map D.str).length : Int)) with
  | false =>
    refine B t T (fun _ _ _ => trivial) (b20 (run (n + 1))) ?_
    conv => lhs; unfold b20
    unfold EV
    rw [fSeq_ap]
    simp only [fIfS_ap, gAnd_ap, fT_ap, f2_ap, opd_ap, fBlt_ap, fCons_ap, fVar_ap, List.getElem?_cons_zero, List.getElem?_cons_succ, vr_rd, Out.bind_ok, asD_slot, kCons_ap, fNil_ap, kCons2_ap, kBlt_ap, ress_cons, ress_nil, res_slot, resS_rd, Option.bind_some, Option.map_some, hE, ofP_d, asD_d, k2a_ap, fC_ap, k2b_ap, res_d, o2_ap, gGt_i, q, kT_ap, isB_b, kAnd_f, kIfS_f, fSkip_ap, seqK_next]
  | true =>
    obtain ⟨r, t1, h1, h2, T1, h4⟩ := pick_ok n T (m := 2) (by decide) (by decide)
    cases q2 : (r == 0) with
    | false =>
      refine B t1 T1 (fun _ _ _ => trivial) (b20 (run (n + 1))) ?_
      conv => lhs; unfold b20
      unfold EV
      rw [fSeq_ap]
      simp only [fIfS_ap, gAnd_ap, fT_ap, f2_ap, opd_ap, fBlt_ap, fCons_ap, fVar_ap, List.getElem?_cons_zero, List.getElem?_cons_succ, vr_rd, vr_io, Out.bind_ok, asD_slot, kCons_ap, fNil_ap, kCons2_ap, kBlt_ap, ress_cons, ress_nil, res_slot, resS_rd, Option.bind_some, Option.map_some, hE, ofP_d, asD_d, k2a_ap, fC_ap, k2b_ap, res_d, o2_ap, gGt_i, q, kT_ap, isB_b, kAnd_t, fCall_ap, kCall_ap, mkArgs_cons, mkArgs_nil, mkArg_slot, ag_iot, mkArgE_d, kCall2_ap, once_dd, kCall3_ap, h4, callK_d, upds_io, upds_no, upds_nil, putC_ap, pc_io, List.set_cons_zero, gEq_i, q2, kIfS_f, fSkip_ap, seqK_next]
    | true =>
      obtain ⟨r2, t2, g1, g2, T2, g4⟩ := pick_ok n T1 (m := 4) (by decide) (by decide)
      obtain ⟨t3, ys, T3, ha, hc⟩ := compL_ioM (i := 5) (F := fun i : Nat => D.int (0 + (i : Nat))) (T := TapeOk) (R := fun t => [.io t, .rd (EV m), .no, .no, .no, .no]) (P := fun (_ : Nat) y => ∃ s, s ∈ every m ∧ y = D.str s) (e := f2 gIx (fVar 1) (fCall [true, false] (run (n + 1) 17) (fCons (fVar 0) (fCons (fBlt gLen (fCons (fVar 1) fNil)) fNil)))) (fun _ => rfl) (List.range (1 + r2).toNat) [] t2 T2 (by simp; omega) (by
        intro a ha k hk
        obtain ⟨s, k', hs, T', r, e1, e2⟩ := draw_ok n hm hk
        refine ⟨k', .str s, T', ⟨s, hs, rfl⟩, ?_⟩
        unfold EV
        simp only [List.set_cons_succ, List.set_cons_zero, opd_ap, f2_ap, fVar_ap, List.getElem?_cons_zero, List.getElem?_cons_succ, vr_rd, vr_io, Out.bind_ok, asD_slot, k2a_ap, fCall_ap, fCons_ap, fBlt_ap, kCons_ap, fNil_ap, kCons2_ap, kBlt_ap, ress_cons, ress_nil, res_slot, resS_rd, Option.bind_some, Option.map_some, hE, ofP_d, asD_d, kCall_ap, mkArgs_cons, mkArgs_nil, mkArg_slot, ag_iot, mkArgE_d, kCall2_ap, once_dd, kCall3_ap, e1, callK_d, upds_io, upds_no, upds_nil, putC_ap, pc_io, k2b_ap, res_d, o2_ap, e2])
      obtain ⟨ss, rfl, hss⟩ := strs_of (P := fun s => s ∈ every m) (ys := ys) (All2.all (Q := fun y => ∃ s, s ∈ every m ∧ y = D.str s) (fun _ _ h => h) ha)
      have hlen : ss ≠ [] := by
        have := ha.length
        rw [List.length_map, List.length_range] at this
        intro z
        rw [z] at this
        simp only [List.length_nil] at this
        omega
      have hI := compI_of (i := 5) (ρ := [.io t2, .rd (EV m), .no, .no, .no, .no]) (ρ1 := [.io t3, .rd (EV m), .no, .no, .no, .no]) rfl rfl hc
      rw [List.nil_append] at hI
      have hc2 := compI_pure (i := 4) (c := fT (f2 gIn (fVar 4) (fVar 3))) (e := fVar 4) (ρ := [.io t3, .rd (EV m), .no, .own (.lst (ss.map D.str)), .no, .no]) (F := D.str) (keep := fun k => ss.contains k) (val := D.str) (xs := every m) rfl (by have := (elen hm).2; omega) (by
        intro k hk
        constructor
        · simp only [List.set_cons_succ, List.set_cons_zero, fT_ap, f2_ap, opd_ap, fVar_ap, List.getElem?_cons_zero, List.getElem?_cons_succ, vr_d, vr_own, Out.bind_ok, asD_d, asD_slot, k2a_ap, k2b_ap, res_d, res_slot, resS_own, o2_ap, gIn_l, ofP_d, kT_ap, isB_b]
        · intro _
          simp)
      have hg : Good m ((every m).filter fun k => ss.contains k) := by
        refine ⟨List.filter_sublist, fun z => ?_⟩
        obtain ⟨s, hs⟩ := List.exists_mem_of_ne_nil ss hlen
        have : s ∈ (every m).filter fun k => ss.contains k := List.mem_filter.mpr ⟨hss s hs, List.contains_iff_mem.mpr hs⟩
        rw [z] at this
        cases this
      have hS := gSorted_id (xs := (every m).filter fun k => ss.contains k) ((every_le hm).sublist List.filter_sublist) (Nat.le_trans (List.length_filter_le _ _) (elen hm).2)
      refine ⟨(every m).filter fun k => ss.contains k, t3, hg, T3, ?_⟩
      have hR : ∀ ρ, rngSrc1 (some [.int (1 + r2)]) ρ = .ok (.items ((List.range (1 + r2).toNat).map fun i : Nat => D.int (0 + (i : Nat)))) ρ := by
        intro ρ
        have s : small (1 + r2) = true := by unfold small; rw [decide_eq_true_eq]; omega
        show (if small (1 + r2) = true then Out.ok (Src.items (upto 0 (1 + r2).toNat)) ρ else .stuck) = _
        rw [if_pos s]
        rfl
      unfold b20
      unfold EV at hI hc2 ⊢
      rw [fSeq_ap]
      simp only [fIfS_ap, gAnd_ap, fT_ap, f2_ap, opd_ap, fBlt_ap, fCons_ap, fVar_ap, List.getElem?_cons_zero, List.getElem?_cons_succ, vr_rd, vr_io, vr_own, Out.bind_ok, asD_slot, kCons_ap, fNil_ap, kCons2_ap, kBlt_ap, ress_cons, ress_nil, res_slot, resS_rd, Option.bind_some, Option.map_some, hE, ofP_d, asD_d, k2a_ap, fC_ap, k2b_ap, res_d, o2_ap, gGt_i, q, kT_ap, isB_b, kAnd_t, fCall_ap, kCall_ap, mkArgs_cons, mkArgs_nil, mkArg_slot, ag_iot, mkArgE_d, kCall2_ap, once_dd, kCall3_ap, h4, callK_d, upds_io, upds_no, upds_nil, putC_ap, pc_io, List.set_cons_zero, List.set_cons_succ, gEq_i, q2, kIfS_t, fSeq_ap, fAsg_ap, fComp_ap, fRng1_ap, g4, gAdd_i, kRng1_ap, hR, compK_items, hI, kAsg_ap, store_new, noIo_ap, nio_no, gd_t, kAsg2_ap, seqK_next, fRet_ap, fSeqI_ap, seqSrc_slot, slotSrc_rd, hc2, asD_new, hS, ofP_l, gTuple_l, ofP_t, retK_d, seqK_ret]
      rfl
end KK

set_option Elab.async false
set_option linter.all false
set_option maxRecDepth 100000
set_option maxHeartbeats 4000000
namespace KK
open PySem L2 Nz
open Nz (D Arg)
variable {m : Str} {n : Nat}
theorem once_d3 {a b c : Nz.Arg} {x y z : D} : lentOnce [.d x, .d y, .d z] [a, b, c] = true := by
  cases a <;> cases b <;> cases c <;> simp [lentOnce, clash, List.range_succ]
theorem once_dsd {j : Nat} {a b c : Nz.Arg} {x z : D} : lentOnce [.d x, .slot j, .d z] [a, b, c] = true := by
  cases a <;> cases b <;> cases c <;> simp [lentOnce, clash, List.range_succ]
theorem once_ss {a b : Nz.Arg} {i j : Nat} (h : (i == j) = false) : lentOnce [.slot i, .slot j] [a, b] = true := once_s2 h
def Gls (m : Str) (ls : List (List Str)) : Prop := ∀ l ∈ ls, Good m l
theorem Gls.snoc {ls : List (List Str)} {l : List Str} (h : Gls m ls) (hl : Good m l) : Gls m (ls ++ [l]) := fun x hx => by
  rcases List.mem_append.mp hx with hx | hx
  · exact h x hx
  · rw [List.mem_singleton.mp hx]; exact hl
theorem append_ok {ds : List D} {x : D} (h : ds.length < 100000) : mAppend ds [x] = some (ds ++ [x], .non) := by unfold mAppend; exact if_pos h
theorem pys_str : ∀ ss : List Str, D.pys (ss.map D.str) = some (ss.map PyData.str)
  | [] => rfl
  | s :: ss => by show (D.py (.str s)).bind (fun p => (D.pys (ss.map D.str)).map (p :: ·)) = _; rw [pys_str ss]; rfl
theorem py_lot (l : List Str) : D.py (lotD l) = some (.tuple (l.map PyData.str)) := by
  show (D.pys (l.map D.str)).map PyData.tuple = _; rw [pys_str]; rfl
theorem pys_lots : ∀ ls : List (List Str), D.pys (ls.map lotD) = some (ls.map fun l => PyData.tuple (l.map PyData.str))
  | [] => rfl
  | l :: ls => by show (D.py (lotD l)).bind (fun p => (D.pys (ls.map lotD)).map (p :: ·)) = _; rw [pys_lots ls, py_lot]; rfl
theorem eqv_strs : ∀ l : List Str, PyData.eqvAll (l.map PyData.str) (l.map PyData.str) = true
  | [] => rfl
  | s :: l => by
    rw [List.map_cons, PyData.eqvAll, eqv_strs l, PyData.eqv]
    simp
theorem eqv_lots : ∀ ls : List (List Str), PyData.eqvAll (ls.map fun l => PyData.tuple (l.map PyData.str)) (ls.map fun l => PyData.tuple (l.map PyData.str)) = true
  | [] => rfl
  | l :: ls => by
    rw [List.map_cons, PyData.eqvAll, eqv_lots ls, PyData.eqv, eqv_strs]
    rfl
theorem lay_strs : ∀ l : List Str, (∀ x ∈ l, PyData.strOk x = true) → PyData.canLayAll0 (l.map PyData.str) = true
  | [], _ => rfl
  | s :: l, h => by
    rw [List.map_cons, PyData.canLayAll0, lay_strs l (fun x hx => h x (by simp [hx])), PyData.canLay0, h s (by simp)]
    rfl
theorem lay_lots : ∀ ls : List (List Str), (∀ l ∈ ls, ∀ x ∈ l, PyData.strOk x = true) → PyData.canLayAll0 (ls.map fun l => PyData.tuple (l.map PyData.str)) = true
  | [], _ => rfl
  | l :: ls, h => by
    rw [List.map_cons, PyData.canLayAll0, lay_lots ls (fun x hx => h x (by simp [hx])), PyData.canLay0, lay_strs l (h l (by simp))]
    rfl
theorem dep_strs : ∀ l : List Str, PyData.depthAll (l.map PyData.str) = 0
  | [] => rfl
  | s :: l => by
    rw [List.map_cons, PyData.depthAll, dep_strs l, PyData.depth]
    rfl
theorem dep_lots : ∀ ls : List (List Str), PyData.depthAll (ls.map fun l => PyData.tuple (l.map PyData.str)) ≤ 1
  | [] => by show 0 ≤ 1; omega
  | l :: ls => by
    have := dep_lots ls
    rw [List.map_cons, PyData.depthAll, PyData.depth, dep_strs]
    omega
theorem cut_lo (l : List Str) (k : Nat) (hk : k < l.length) : cutD (l.map D.str) none (some (k : Int)) = (l.take k).map D.str := by
  unfold cutD
  rw [HT.sIx_none, HT.sIx_nat, List.drop_zero, List.length_map, Nat.min_eq_left (by omega), Nat.sub_zero, List.map_take]
theorem cut_hi (l : List Str) (k : Nat) (hk : k < l.length) : cutD (l.map D.str) (some ((k : Int) + 1)) none = (l.drop (k + 1)).map D.str := by
  unfold cutD
  have e : ((k : Int) + 1) = ((k + 1 : Nat) : Int) := by omega
  rw [e, HT.sIx_none, HT.sIx_nat, List.length_map, Nat.min_eq_left (by omega), List.map_drop, List.take_of_length_le (by simp)]
theorem gSl_lo (l : List Str) (k : Nat) (hk : k < l.length) : gSl (lotD l) none (some (k : Int)) = some (.newT ((l.take k).map D.str)) := by
  show some (Pr.newT (cutD (l.map D.str) none (some (k : Int)))) = _; rw [cut_lo l k hk]
theorem gSl_hi (l : List Str) (k : Nat) (hk : k < l.length) : gSl (lotD l) (some ((k : Int) + 1)) none = some (.newT ((l.drop (k + 1)).map D.str)) := by
  show some (Pr.newT (cutD (l.map D.str) (some ((k : Int) + 1)) none)) = _; rw [cut_hi l k hk]
theorem gAdd_tt {a b : List D} (h : a.length + b.length ≤ 100000) : gAdd (.tup a) (.tup b) = some (.newT (a ++ b)) := by show (if _ then _ else _) = _; rw [if_pos h]
theorem set_at {d : D} {ds as : List D} {k : Int} (h1 : 0 ≤ k) (h2 : k.toNat < ds.length) : setM d (some (.int k)) ds as = some (ds.set k.toNat d, .non) := by
  show (ixN ds.length k).map _ = _
  unfold ixN
  rw [if_pos h1, if_pos (by omega)]
  rfl
theorem Good.out {l : List Str} (h : Good m l) {k : Nat} (hk : k < l.length) (h1 : 1 < l.length) : Good m (l.take k ++ l.drop (k + 1)) := by
  refine ⟨List.Sublist.trans ?_ h.1, fun z => ?_⟩
  · rw [← List.eraseIdx_eq_take_drop_succ]
    exact List.eraseIdx_sublist l k
  · have := congrArg List.length z
    rw [List.length_append, List.length_take, List.length_drop, List.length_nil] at this
    omega

end KK

set_option Elab.async false
set_option linter.all false
set_option maxRecDepth 100000
set_option maxHeartbeats 4000000
namespace KK
open PySem L2 Nz
open Nz (D Arg)
variable {m : Str} {n : Nat}
theorem compI_d {t : GF} {c : TF} {e : EF} {i : Nat} {ρ : Nz.Env} {x : D} {ds r : List D} (h : ρ[i]? = some (.d x)) (h0 : compI t c e [i] ds (ρ.set i .no) = .ok (.new (.lst r)) (ρ.set i .no)) : compI t c e [i] ds ρ = .ok (.new (.lst r)) ρ := by
  have hl := lt_of_get h
  have p1 : [i].all (plainAt ρ) = true := by simp [plainAt, h]
  have p2 : [i].all (plainAt (ρ.set i .no)) = true := by simp [plainAt, List.getElem?_set_self hl]
  unfold compI at h0 ⊢
  rw [if_pos p2] at h0
  rw [if_pos p1]
  have w2 : wipeE (ρ.set i .no) [i] = ρ.set i .no := by show (ρ.set i .no).set i .no = _; rw [List.set_set]
  have w1 : wipeE ρ [i] = ρ.set i .no := rfl
  rw [w2] at h0
  rw [w1]
  generalize noX (compL t c e [i] ds [] (ρ.set i .no)) = o at *
  cases o with
  | ok acc ρ2 =>
    have h1 : Out.ok (Rv.new (.lst acc)) (restoreE (ρ.set i .no) ρ2 [i]) = .ok (.new (.lst r)) (ρ.set i .no) := h0
    have h2 : restoreE (ρ.set i .no) ρ2 [i] = ρ2.set i .no := by
      show ρ2.set i (((ρ.set i .no)[i]?).getD .no) = _
      rw [List.getElem?_set_self hl]
      rfl
    have h3 : restoreE ρ ρ2 [i] = ρ2.set i (.d x) := by
      show ρ2.set i ((ρ[i]?).getD .no) = _
      rw [h]
      rfl
    rw [h2] at h1
    show Out.ok (Rv.new (.lst acc)) (restoreE ρ ρ2 [i]) = _
    rw [h3]
    injection h1 with a1 a2
    have e1 : ρ2.set i (.d x) = (ρ2.set i .no).set i (.d x) := by rw [List.set_set]
    rw [a1, e1, a2, List.set_set]
    congr 1
    obtain ⟨hl', he⟩ := List.getElem?_eq_some_iff.mp h
    rw [← he, List.set_getElem_self]
  | exc y ρ2 => cases h0
  | stuck => cases h0
end KK

set_option Elab.async false
set_option linter.all false
set_option maxRecDepth 100000
set_option maxHeartbeats 4000000
namespace KK
open PySem L2 Nz
open Nz (D Arg)
variable {m : Str} {n : Nat}
/-! ### comprehensions with any target; slices; likeness of seats -/
theorem compL_gen {α : Type} {t : GF} {c : TF} {e : EF} {vs : List Nat} {ρ : Nz.Env} {F : α → D} {keep : α → Bool} {val : α → D} : ∀ (xs : List α) (acc : List D), acc.length + xs.length ≤ 100000 →
    (∀ a ∈ xs, ∃ ρ1, t (F a) ρ = some ρ1 ∧ c ρ1 = .ok (keep a) ρ1 ∧ (keep a = true → opd e ρ1 = .ok (.d (val a)) ρ1) ∧ vs.all (noIo ρ1) = true ∧ wipeE ρ1 vs = ρ) →
    compL t c e vs (xs.map F) acc ρ = .ok (acc ++ (xs.filter keep).map val) ρ
  | [], acc, _, _ => by simp [compL]
  | a :: xs, acc, hl, hs => by
    obtain ⟨ρ1, h1, h2, h3, h4, h5⟩ := hs a (by simp)
    simp only [List.length_cons] at hl
    rw [List.map_cons]
    cases q : keep a with
    | true =>
      rw [q] at h2
      rw [compL_t h1 h2 (h3 q) h4 (by omega), h5, compL_gen xs _ (by simp; omega) fun b hb => hs b (by simp [hb])]
      simp [q]
    | false =>
      rw [q] at h2
      rw [compL_f h1 h2 h4, h5, compL_gen xs _ (by omega) fun b hb => hs b (by simp [hb])]
      simp [q]
theorem compI_gen {α : Type} {t : GF} {c : TF} {e : EF} {vs : List Nat} {ρ : Nz.Env} {F : α → D} {keep : α → Bool} {val : α → D} {xs : List α} (hl : xs.length ≤ 100000) (g1 : vs.all (plainAt ρ) = true) (g2 : wipeE ρ vs = ρ) (g3 : restoreE ρ ρ vs = ρ)
    (hs : ∀ a ∈ xs, ∃ ρ1, t (F a) ρ = some ρ1 ∧ c ρ1 = .ok (keep a) ρ1 ∧ (keep a = true → opd e ρ1 = .ok (.d (val a)) ρ1) ∧ vs.all (noIo ρ1) = true ∧ wipeE ρ1 vs = ρ) :
    compI t c e vs (xs.map F) ρ = .ok (.new (.lst ((xs.filter keep).map val))) ρ := by
  unfold compI
  rw [if_pos g1, g2, compL_gen xs [] (by simpa using hl) hs]
  show Out.ok _ (restoreE ρ ρ vs) = _
  rw [g3, List.nil_append]
theorem enumD_map {α : Type} (F : α → D) : ∀ (xs : List α) (k : Nat), enumD k (xs.map F) = (xs.zipIdx k).map fun p => .tup [.int (p.2 : Int), F p.1]
  | [], _ => rfl
  | a :: xs, k => by
    rw [List.map_cons, List.zipIdx_cons, List.map_cons, ← enumD_map F xs (k + 1)]
    rfl
theorem cut_to (ds : List D) (k : Nat) : cutD ds none (some (k : Int)) = ds.take k := by
  unfold cutD
  rw [HT.sIx_none, HT.sIx_nat, List.drop_zero, Nat.sub_zero, ← List.take_eq_take_min]
theorem cut_from (ds : List D) (k : Nat) : cutD ds (some (k : Int)) none = ds.drop k := by
  unfold cutD
  rw [HT.sIx_none, HT.sIx_nat]
  by_cases h : k ≤ ds.length
  · rw [Nat.min_eq_left h, List.take_of_length_le (by simp)]
  · rw [Nat.min_eq_right (by omega), List.drop_length, List.drop_eq_nil_of_le (by omega)]
    simp
theorem slt_to (ds : List D) (k : Nat) : gSl (.tup ds) none (some (k : Int)) = some (.newT (ds.take k)) := by show some (Pr.newT _) = _; rw [cut_to]
theorem slt_from (ds : List D) (k : Nat) : gSl (.tup ds) (some (k : Int)) none = some (.newT (ds.drop k)) := by show some (Pr.newT _) = _; rw [cut_from]
theorem sll_to (ds : List D) (k : Nat) : gSl (.lst ds) none (some (k : Int)) = some (.newL (ds.take k)) := by show some (Pr.newL _) = _; rw [cut_to]
theorem sll_from (ds : List D) (k : Nat) : gSl (.lst ds) (some (k : Int)) none = some (.newL (ds.drop k)) := by show some (Pr.newL _) = _; rw [cut_from]
theorem nat1 (k : Nat) : ((k : Int) + 1) = ((k + 1 : Nat) : Int) := by omega
theorem gAdd_ll {a b : List D} (h : a.length + b.length ≤ 100000) : gAdd (.lst a) (.lst b) = some (.newL (a ++ b)) := by show (if _ then _ else _) = _; rw [if_pos h]
theorem lst_at (ds : List D) {k : Nat} {d : D} (h : ds[k]? = some d) : gIx (.lst ds) (.int (k : Int)) = some (.d d) := gIx_l (by omega) (by rw [Int.toNat_natCast]; exact h)
theorem tup_at (ds : List D) {k : Nat} {d : D} (h : ds[k]? = some d) : gIx (.tup ds) (.int (k : Int)) = some (.d d) := gIx_t (by omega) (by rw [Int.toNat_natCast]; exact h)
theorem s_at (u : List Str) {k : Nat} (h : k < u.length) : gIx (lotD u) (.int (k : Int)) = some (.d (.str (u.getD k ""))) := tup_at _ (by rw [List.getElem?_map, List.getD_eq_getElem?_getD, List.getElem?_eq_getElem h]; rfl)
end KK

set_option Elab.async false
set_option linter.all false
set_option maxRecDepth 100000
set_option maxHeartbeats 4000000
namespace KK
open PySem L2 Nz
open Nz (D Arg)
variable {m : Str} {n : Nat}
/-! ### conditions: what they are -/
def wd4 : List Str := ["has", "not", "all", "any"]
theorem f_wd : wd4.all (fun a => wd4.all fun b => eqD (.str a) (.str b) == some (a == b)) = true := by decide +kernel
theorem gEq_w {a b : Str} (ha : a ∈ wd4) (hb : b ∈ wd4) {r : Bool} (h : (a == b) = r) : gEq (.str a) (.str b) = some (.d (.bl r)) := by
  have h1 : eqD (.str a) (.str b) = some (a == b) := eq_of_beq (List.all_eq_true.mp (List.all_eq_true.mp f_wd a ha) b hb)
  unfold gEq
  rw [h1, h]
  rfl
theorem w_hh : gEq (.str "has") (.str "has") = some (.d (.bl true)) := gEq_w (by decide) (by decide) (by decide)
theorem w_nh : gEq (.str "not") (.str "has") = some (.d (.bl false)) := gEq_w (by decide) (by decide) (by decide)
theorem w_nn : gEq (.str "not") (.str "not") = some (.d (.bl true)) := gEq_w (by decide) (by decide) (by decide)
def wdA (b : Bool) : Str := if b then "all" else "any"
theorem w_ah (b : Bool) : gEq (.str (wdA b)) (.str "has") = some (.d (.bl false)) := by cases b <;> exact gEq_w (by decide) (by decide) (by decide)
theorem w_an (b : Bool) : gEq (.str (wdA b)) (.str "not") = some (.d (.bl false)) := by cases b <;> exact gEq_w (by decide) (by decide) (by decide)
theorem w_aa (b : Bool) : gEq (.str (wdA b)) (.str "all") = some (.d (.bl b)) := by cases b <;> exact gEq_w (by decide) (by decide) (by decide)
theorem w_in (b : Bool) : gNin (.str (wdA b)) (.tup [.str "all", .str "any"]) = some (.d (.bl false)) := by
  have h := gNin_t (wdA b) ["all", "any"]
  have e : (["all", "any"] : List Str).contains (wdA b) = true := by cases b <;> decide
  rw [e] at h
  exact h
def sgs (m : Str) : List Str := m.cps.toList.map fun c => ⟨#[c]⟩
def sgIn (x s : Str) : Bool := match sign1 x with
  | some c => decide (c ∈ s.cps.toList)
  | none => false
theorem gIn_s {x : Str} (hx : x ∈ sgs m) (s : Str) : gIn (.str x) (.str s) = some (.d (.bl (sgIn x s))) := by
  obtain ⟨c, hc, rfl⟩ := List.mem_map.mp hx
  rfl
theorem sgIn_m {x : Str} (hx : x ∈ sgs m) : sgIn x m = true := by
  obtain ⟨c, hc, rfl⟩ := List.mem_map.mp hx
  exact decide_eq_true hc
theorem gLen_s {x : Str} (hx : x ∈ sgs m) : gLen [.str x] = some (.d (.int 1)) := by
  obtain ⟨c, hc, rfl⟩ := List.mem_map.mp hx
  rfl
def leafD (x : Str) : D := .tup [.str "has", .str x]
def notD (c : D) : D := .tup [.str "not", c]
def manyD (b : Bool) (cs : List D) : D := .tup [.str (wdA b), .tup cs]
def manyV (b : Bool) (fs : List (Str → Bool)) (s : Str) : Bool := if b then (fs.map fun f => f s).all id else (fs.map fun f => f s).any id
inductive Cv (m : Str) : Nat → D → (Str → Bool) → Prop
  | leaf {k : Nat} {x : Str} : x ∈ sgs m → Cv m (k + 1) (leafD x) (sgIn x)
  | neg {k : Nat} {c : D} {f : Str → Bool} : Cv m k c f → Cv m (k + 1) (notD c) (fun s => !f s)
  | many {k : Nat} (b : Bool) (cs : List (D × (Str → Bool))) : cs.length ≤ 3 → (∀ p ∈ cs, Cv m k p.1 p.2) → Cv m (k + 1) (manyD b (cs.map (·.1))) (manyV b (cs.map (·.2)))
def szB : Nat → Nat
  | 0 => 0
  | k + 1 => 1 + 3 * szB k
theorem ix_0 {a b : D} : gIx (.tup [a, b]) (.int 0) = some (.d a) := rfl
theorem ix_1 {a b : D} : gIx (.tup [a, b]) (.int 1) = some (.d b) := rfl
theorem isi_tb {a b : D} : gIsi isiT [.tup [a, b], .ty "tuple"] = some (.d (.bl true)) := rfl
theorem isi_s {x : Str} : gIsi isiT [.str x, .ty "str"] = some (.d (.bl true)) := rfl
theorem gLen_2 {a b : D} : gLen [.tup [a, b]] = some (.d (.int 2)) := rfl
theorem gList_t (ds : List D) : gList [.tup ds] = some (.newL ds) := rfl
theorem gListS_t (ds : List D) : gListS [.tup ds] = some (.newL ds) := rfl
theorem pair_ok (n : Nat) (a b : D) : run (n + 1) 0 [.d (.tup [a, b])] = .ret (.d (.bl true)) [none] := by
  have go : run (n + 1) 0 [.d (.tup [a, b])] = finF [.d (.tup [a, b])] (b0 (run n) [.d (.tup [a, b])]) := rfl
  rw [go]
  unfold b0
  have e2 : ((2 : Int) == 2) = true := rfl
  simp only [fC_ap, opd_ap, asD_d, asD_slot, asD_new, f1_ap, f2_ap, res_d, res_slot, resS_d, resS_own, resS_io, resS_rd, ress_nil, ress_cons, ofP_d, ofP_l, ofP_t, isB_b, fT_ap, gAnd_ap, gOr_ap, gNot_ap, fAnd_ap, fOr_ap, fNot_ap, fIf_ap, fNil_ap, fCons_ap, frz_d, frzs_nil, frzs_cons, fTup_ap, fLst_ap, isI_i, fPart_ap, fNo_ap, fSl_ap, fBlt_ap, fSeq_ap, seqK_next, seqK_brk, seqK_cont, seqK_ret, fSkip_ap, fIfS_ap, fDrop_ap, fAsg_ap, retK_d, retK_new, fRet_ap, fRetN_ap, turnK_next, turnK_cont, turnK_brk, turnK_ret, ofO_some, fFor_ap, forK_items, fSeqI_ap, seqSrc_l, seqSrc_t, seqSrc_s, fRng1_ap, fRng2_ap, fComp_ap, compK_items, gTrue_ap, k1_ap, o2_ap, k2b_ap, k2a_ap, kT_ap, kAnd_t, kAnd_f, kOr_t, kOr_f, kNot_ap, kAndE_t, kAndE_f, kOrE_t, kOrE_f, kNotE_ap, kIfE_t, kIfE_f, kIfS_t, kIfS_f, kCons2_ap, kCons_ap, kz2_ap, kz_ap, kTup2_ap, kTup_ap, kLst2_ap, kLst_ap, kPart_ap, kSl3_ap, kSl2_ap, kSl1_ap, kBlt_ap, kDrop_ap, kAsg2_ap, kAsg_ap, kRng1_ap, kRng2_ap, fCall_ap, kCall_ap, kCall2_ap, kCall3_ap, callK_d, callK_n, upds_io, upds_nil, upds_no, mkArgs_nil, mkArgs_cons, mkArgE_d, once1, once_dd, once_d2, once_s2, once_s3, once_s3d, kMut_ap, kLoop_ap, kLoop2_ap, fVar_ap, vr_d, vr_own, vr_io, vr_rd, noIo_ap, nio_no, nio_d, nio_own, nio_rd, frz_slot, fz_d, fz_own, gd_t, gs_t, store_d, store_new, retK_slot, rk_own, rk_d, lstAt_ap, la_own, la_io, mutAt_ap, ma_own, ma_io, mo_some, mi_some, mkArg_slot, ag_d, ag_own, ag_rd, ag_ownt, ag_iot, putC_ap, pc_own, pc_io, gfName_ap, gfNil_ap, gfCons_ap, gfTup_ap, seqSrc_slot, slotSrc_own, slotSrc_rd, fMut_ap, kMut2_ap, kSet3_ap, kSet2_ap, kSet_ap, fSetI_ap, fSetA_ap, kAtt_ap, kAtt2_ap, sa_ap, back_ap, bk_rd, mapEnv_ok, compK_lend, forK_lend, fEnum_ap, enumSrc_t, once_d3, once_dsd, lim_pos, Nat.reduceBEq, Nat.reduceAdd, Nat.reduceLeDiff, List.getElem?_cons_zero, List.getElem?_cons_succ, List.set_cons_zero, List.set_cons_succ, Out.bind_ok, Option.bind_some, Option.map_some, Bool.not_true, Bool.not_false, List.length_cons, List.length_nil, isi_tb, gLen_2, gEq_i, e2]
  rfl
theorem aug_ok {i : Nat} {f : EF} {ρ : Nz.Env} {a b : Int} (h1 : ρ[i]? = some (.d (.int a))) (h2 : opd f ρ = .ok (.d (.int b)) ρ) : fAug i f ρ = .ok .next (ρ.set i (.d (.int (a + b)))) := by
  unfold fAug
  rw [h1]
  show (opd f ρ).bind _ = _
  rw [h2]
  show (if noIo ρ i then _ else _) = _
  have : noIo ρ i = true := by unfold noIo; rw [h1]
  rw [if_pos this]
theorem asgG_ok {f : EF} {t : GF} {ρ ρ1 ρ2 : Nz.Env} {d : D} (h1 : opd f ρ = .ok (.d d) ρ1) (h2 : t d ρ1 = some ρ2) : fAsgG f t ρ = .ok .next ρ2 := by
  unfold fAsgG
  rw [h1]
  simp only [Out.bind_ok, frz_d, h2, ofO_some]
def jLoop (n : Nat) : SF := (fSeq (fAsgG (fCall [false] (run n 8) (fCons (fVar 3) fNil)) (gfTup 2 (gfCons (gfName 4) (gfCons (gfName 5) gfNil))))
  (fSeq (fIfS (gOr (fT (f2 gEq (fVar 4) (fC (.int (0))))) (gOr (fT (f2 gGt (f2 gAdd (fVar 1) (fVar 4)) (fC (.int 1000)))) (fT (f2 gGe (fVar 5) (fC (.int 20))))))
  (fRet (fTup (fCons (fC (.int (0))) (fCons (fC (.int (0))) fNil))))
  fSkip)
  (fSeq (fAug 1 (fVar 4))
  (fAsg 2 (fBlt gMax2 (fCons (fVar 2) (fCons (f2 gAdd (fVar 5) (fC (.int (1)))) fNil)))))))
theorem j_turn (n : Nat) (L c : D) (a b s t : Nat) (x y : Sl) (hx : Pl x) (hy : Pl y) (h1 : 1 ≤ s) (h2 : a + s ≤ 1000) (h3 : t < 20) (h : run n 8 [.d c] = .ret (.d (.tup [.int (s : Int), .int (t : Int)])) [none]) :
    jLoop n [.d L, .d (.int (a : Int)), .d (.int (b : Int)), .d c, x, y] = .ok .next [.d L, .d (.int ((a + s : Nat) : Int)), .d (.int ((max b (t + 1) : Nat) : Int)), .d c, .d (.int (s : Int)), .d (.int (t : Int))] := by
  have st0 : (fAsgG (fCall [false] (run n 8) (fCons (fVar 3) fNil)) (gfTup 2 (gfCons (gfName 4) (gfCons (gfName 5) gfNil)))) [.d L, .d (.int (a : Int)), .d (.int (b : Int)), .d c, x, y] = .ok .next [.d L, .d (.int (a : Int)), .d (.int (b : Int)), .d c, .d (.int (s : Int)), .d (.int (t : Int))] := by
    refine asgG_ok (d := .tup [.int (s : Int), .int (t : Int)]) (ρ1 := [.d L, .d (.int (a : Int)), .d (.int (b : Int)), .d c, x, y]) (by simp only [fC_ap, opd_ap, asD_d, asD_slot, asD_new, f1_ap, f2_ap, res_d, res_slot, resS_d, resS_own, resS_io, resS_rd, ress_nil, ress_cons, ofP_d, ofP_l, ofP_t, isB_b, fT_ap, gAnd_ap, gOr_ap, gNot_ap, fAnd_ap, fOr_ap, fNot_ap, fIf_ap, fNil_ap, fCons_ap, frz_d, frzs_nil, frzs_cons, fTup_ap, fLst_ap, isI_i, fPart_ap, fNo_ap, fSl_ap, fBlt_ap, fSeq_ap, seqK_next, seqK_brk, seqK_cont, seqK_ret, fSkip_ap, fIfS_ap, fDrop_ap, fAsg_ap, retK_d, retK_new, fRet_ap, fRetN_ap, turnK_next, turnK_cont, turnK_brk, turnK_ret, ofO_some, fFor_ap, forK_items, fSeqI_ap, seqSrc_l, seqSrc_t, seqSrc_s, fRng1_ap, fRng2_ap, fComp_ap, compK_items, gTrue_ap, k1_ap, o2_ap, k2b_ap, k2a_ap, kT_ap, kAnd_t, kAnd_f, kOr_t, kOr_f, kNot_ap, kAndE_t, kAndE_f, kOrE_t, kOrE_f, kNotE_ap, kIfE_t, kIfE_f, kIfS_t, kIfS_f, kCons2_ap, kCons_ap, kz2_ap, kz_ap, kTup2_ap, kTup_ap, kLst2_ap, kLst_ap, kPart_ap, kSl3_ap, kSl2_ap, kSl1_ap, kBlt_ap, kDrop_ap, kAsg2_ap, kAsg_ap, kRng1_ap, kRng2_ap, fCall_ap, kCall_ap, kCall2_ap, kCall3_ap, callK_d, callK_n, upds_io, upds_nil, upds_no, mkArgs_nil, mkArgs_cons, mkArgE_d, once1, once_dd, once_d2, once_s2, once_s3, once_s3d, kMut_ap, kLoop_ap, kLoop2_ap, fVar_ap, vr_d, vr_own, vr_io, vr_rd, noIo_ap, nio_no, nio_d, nio_own, nio_rd, frz_slot, fz_d, fz_own, gd_t, gs_t, store_d, store_new, retK_slot, rk_own, rk_d, lstAt_ap, la_own, la_io, mutAt_ap, ma_own, ma_io, mo_some, mi_some, mkArg_slot, ag_d, ag_own, ag_rd, ag_ownt, ag_iot, putC_ap, pc_own, pc_io, gfName_ap, gfNil_ap, gfCons_ap, gfTup_ap, seqSrc_slot, slotSrc_own, slotSrc_rd, fMut_ap, kMut2_ap, kSet3_ap, kSet2_ap, kSet_ap, fSetI_ap, fSetA_ap, kAtt_ap, kAtt2_ap, sa_ap, back_ap, bk_rd, mapEnv_ok, compK_lend, forK_lend, fEnum_ap, enumSrc_t, once_d3, once_dsd, lim_pos, Nat.reduceBEq, Nat.reduceAdd, Nat.reduceLeDiff, List.getElem?_cons_zero, List.getElem?_cons_succ, List.set_cons_zero, List.set_cons_succ, Out.bind_ok, Option.bind_some, Option.map_some, Bool.not_true, Bool.not_false, List.length_cons, List.length_nil, h]) ?_
    refine (gfTup_ap (n := 2) rfl).trans ?_
    simp only [fC_ap, opd_ap, asD_d, asD_slot, asD_new, f1_ap, f2_ap, res_d, res_slot, resS_d, resS_own, resS_io, resS_rd, ress_nil, ress_cons, ofP_d, ofP_l, ofP_t, isB_b, fT_ap, gAnd_ap, gOr_ap, gNot_ap, fAnd_ap, fOr_ap, fNot_ap, fIf_ap, fNil_ap, fCons_ap, frz_d, frzs_nil, frzs_cons, fTup_ap, fLst_ap, isI_i, fPart_ap, fNo_ap, fSl_ap, fBlt_ap, fSeq_ap, seqK_next, seqK_brk, seqK_cont, seqK_ret, fSkip_ap, fIfS_ap, fDrop_ap, fAsg_ap, retK_d, retK_new, fRet_ap, fRetN_ap, turnK_next, turnK_cont, turnK_brk, turnK_ret, ofO_some, fFor_ap, forK_items, fSeqI_ap, seqSrc_l, seqSrc_t, seqSrc_s, fRng1_ap, fRng2_ap, fComp_ap, compK_items, gTrue_ap, k1_ap, o2_ap, k2b_ap, k2a_ap, kT_ap, kAnd_t, kAnd_f, kOr_t, kOr_f, kNot_ap, kAndE_t, kAndE_f, kOrE_t, kOrE_f, kNotE_ap, kIfE_t, kIfE_f, kIfS_t, kIfS_f, kCons2_ap, kCons_ap, kz2_ap, kz_ap, kTup2_ap, kTup_ap, kLst2_ap, kLst_ap, kPart_ap, kSl3_ap, kSl2_ap, kSl1_ap, kBlt_ap, kDrop_ap, kAsg2_ap, kAsg_ap, kRng1_ap, kRng2_ap, fCall_ap, kCall_ap, kCall2_ap, kCall3_ap, callK_d, callK_n, upds_io, upds_nil, upds_no, mkArgs_nil, mkArgs_cons, mkArgE_d, once1, once_dd, once_d2, once_s2, once_s3, once_s3d, kMut_ap, kLoop_ap, kLoop2_ap, fVar_ap, vr_d, vr_own, vr_io, vr_rd, noIo_ap, nio_no, nio_d, nio_own, nio_rd, frz_slot, fz_d, fz_own, gd_t, gs_t, store_d, store_new, retK_slot, rk_own, rk_d, lstAt_ap, la_own, la_io, mutAt_ap, ma_own, ma_io, mo_some, mi_some, mkArg_slot, ag_d, ag_own, ag_rd, ag_ownt, ag_iot, putC_ap, pc_own, pc_io, gfName_ap, gfNil_ap, gfCons_ap, gfTup_ap, seqSrc_slot, slotSrc_own, slotSrc_rd, fMut_ap, kMut2_ap, kSet3_ap, kSet2_ap, kSet_ap, fSetI_ap, fSetA_ap, kAtt_ap, kAtt2_ap, sa_ap, back_ap, bk_rd, mapEnv_ok, compK_lend, forK_lend, fEnum_ap, enumSrc_t, once_d3, once_dsd, lim_pos, Nat.reduceBEq, Nat.reduceAdd, Nat.reduceLeDiff, List.getElem?_cons_zero, List.getElem?_cons_succ, List.set_cons_zero, List.set_cons_succ, Out.bind_ok, Option.bind_some, Option.map_some, Bool.not_true, Bool.not_false, List.length_cons, List.length_nil, hx.nio, hy.nio]
  have st1 : (fIfS (gOr (fT (f2 gEq (fVar 4) (fC (.int (0))))) (gOr (fT (f2 gGt (f2 gAdd (fVar 1) (fVar 4)) (fC (.int 1000)))) (fT (f2 gGe (fVar 5) (fC (.int 20)))))) (fRet (fTup (fCons (fC (.int (0))) (fCons (fC (.int (0))) fNil)))) fSkip) [.d L, .d (.int (a : Int)), .d (.int (b : Int)), .d c, .d (.int (s : Int)), .d (.int (t : Int))] = .ok .next [.d L, .d (.int (a : Int)), .d (.int (b : Int)), .d c, .d (.int (s : Int)), .d (.int (t : Int))] := by
    have e1 : ((s : Int) == 0) = false := by rw [beq_eq_false_iff_ne]; omega
    have e2 : decide ((1000 : Int) < (a : Int) + (s : Int)) = false := decide_eq_false (by omega)
    have e3 : decide ((20 : Int) ≤ (t : Int)) = false := decide_eq_false (by omega)
    simp only [fC_ap, opd_ap, asD_d, asD_slot, asD_new, f1_ap, f2_ap, res_d, res_slot, resS_d, resS_own, resS_io, resS_rd, ress_nil, ress_cons, ofP_d, ofP_l, ofP_t, isB_b, fT_ap, gAnd_ap, gOr_ap, gNot_ap, fAnd_ap, fOr_ap, fNot_ap, fIf_ap, fNil_ap, fCons_ap, frz_d, frzs_nil, frzs_cons, fTup_ap, fLst_ap, isI_i, fPart_ap, fNo_ap, fSl_ap, fBlt_ap, fSeq_ap, seqK_next, seqK_brk, seqK_cont, seqK_ret, fSkip_ap, fIfS_ap, fDrop_ap, fAsg_ap, retK_d, retK_new, fRet_ap, fRetN_ap, turnK_next, turnK_cont, turnK_brk, turnK_ret, ofO_some, fFor_ap, forK_items, fSeqI_ap, seqSrc_l, seqSrc_t, seqSrc_s, fRng1_ap, fRng2_ap, fComp_ap, compK_items, gTrue_ap, k1_ap, o2_ap, k2b_ap, k2a_ap, kT_ap, kAnd_t, kAnd_f, kOr_t, kOr_f, kNot_ap, kAndE_t, kAndE_f, kOrE_t, kOrE_f, kNotE_ap, kIfE_t, kIfE_f, kIfS_t, kIfS_f, kCons2_ap, kCons_ap, kz2_ap, kz_ap, kTup2_ap, kTup_ap, kLst2_ap, kLst_ap, kPart_ap, kSl3_ap, kSl2_ap, kSl1_ap, kBlt_ap, kDrop_ap, kAsg2_ap, kAsg_ap, kRng1_ap, kRng2_ap, fCall_ap, kCall_ap, kCall2_ap, kCall3_ap, callK_d, callK_n, upds_io, upds_nil, upds_no, mkArgs_nil, mkArgs_cons, mkArgE_d, once1, once_dd, once_d2, once_s2, once_s3, once_s3d, kMut_ap, kLoop_ap, kLoop2_ap, fVar_ap, vr_d, vr_own, vr_io, vr_rd, noIo_ap, nio_no, nio_d, nio_own, nio_rd, frz_slot, fz_d, fz_own, gd_t, gs_t, store_d, store_new, retK_slot, rk_own, rk_d, lstAt_ap, la_own, la_io, mutAt_ap, ma_own, ma_io, mo_some, mi_some, mkArg_slot, ag_d, ag_own, ag_rd, ag_ownt, ag_iot, putC_ap, pc_own, pc_io, gfName_ap, gfNil_ap, gfCons_ap, gfTup_ap, seqSrc_slot, slotSrc_own, slotSrc_rd, fMut_ap, kMut2_ap, kSet3_ap, kSet2_ap, kSet_ap, fSetI_ap, fSetA_ap, kAtt_ap, kAtt2_ap, sa_ap, back_ap, bk_rd, mapEnv_ok, compK_lend, forK_lend, fEnum_ap, enumSrc_t, once_d3, once_dsd, lim_pos, Nat.reduceBEq, Nat.reduceAdd, Nat.reduceLeDiff, List.getElem?_cons_zero, List.getElem?_cons_succ, List.set_cons_zero, List.set_cons_succ, Out.bind_ok, Option.bind_some, Option.map_some, Bool.not_true, Bool.not_false, List.length_cons, List.length_nil, gEq_i, gAdd_i, gGt_i, gGe_i, e1, e2, e3]
  have st2 : (fAug 1 (fVar 4)) [.d L, .d (.int (a : Int)), .d (.int (b : Int)), .d c, .d (.int (s : Int)), .d (.int (t : Int))] = .ok .next [.d L, .d (.int ((a + s : Nat) : Int)), .d (.int (b : Int)), .d c, .d (.int (s : Int)), .d (.int (t : Int))] := by
    refine (aug_ok (a := (a : Int)) (b := (s : Int)) rfl (by simp only [fC_ap, opd_ap, asD_d, asD_slot, asD_new, f1_ap, f2_ap, res_d, res_slot, resS_d, resS_own, resS_io, resS_rd, ress_nil, ress_cons, ofP_d, ofP_l, ofP_t, isB_b, fT_ap, gAnd_ap, gOr_ap, gNot_ap, fAnd_ap, fOr_ap, fNot_ap, fIf_ap, fNil_ap, fCons_ap, frz_d, frzs_nil, frzs_cons, fTup_ap, fLst_ap, isI_i, fPart_ap, fNo_ap, fSl_ap, fBlt_ap, fSeq_ap, seqK_next, seqK_brk, seqK_cont, seqK_ret, fSkip_ap, fIfS_ap, fDrop_ap, fAsg_ap, retK_d, retK_new, fRet_ap, fRetN_ap, turnK_next, turnK_cont, turnK_brk, turnK_ret, ofO_some, fFor_ap, forK_items, fSeqI_ap, seqSrc_l, seqSrc_t, seqSrc_s, fRng1_ap, fRng2_ap, fComp_ap, compK_items, gTrue_ap, k1_ap, o2_ap, k2b_ap, k2a_ap, kT_ap, kAnd_t, kAnd_f, kOr_t, kOr_f, kNot_ap, kAndE_t, kAndE_f, kOrE_t, kOrE_f, kNotE_ap, kIfE_t, kIfE_f, kIfS_t, kIfS_f, kCons2_ap, kCons_ap, kz2_ap, kz_ap, kTup2_ap, kTup_ap, kLst2_ap, kLst_ap, kPart_ap, kSl3_ap, kSl2_ap, kSl1_ap, kBlt_ap, kDrop_ap, kAsg2_ap, kAsg_ap, kRng1_ap, kRng2_ap, fCall_ap, kCall_ap, kCall2_ap, kCall3_ap, callK_d, callK_n, upds_io, upds_nil, upds_no, mkArgs_nil, mkArgs_cons, mkArgE_d, once1, once_dd, once_d2, once_s2, once_s3, once_s3d, kMut_ap, kLoop_ap, kLoop2_ap, fVar_ap, vr_d, vr_own, vr_io, vr_rd, noIo_ap, nio_no, nio_d, nio_own, nio_rd, frz_slot, fz_d, fz_own, gd_t, gs_t, store_d, store_new, retK_slot, rk_own, rk_d, lstAt_ap, la_own, la_io, mutAt_ap, ma_own, ma_io, mo_some, mi_some, mkArg_slot, ag_d, ag_own, ag_rd, ag_ownt, ag_iot, putC_ap, pc_own, pc_io, gfName_ap, gfNil_ap, gfCons_ap, gfTup_ap, seqSrc_slot, slotSrc_own, slotSrc_rd, fMut_ap, kMut2_ap, kSet3_ap, kSet2_ap, kSet_ap, fSetI_ap, fSetA_ap, kAtt_ap, kAtt2_ap, sa_ap, back_ap, bk_rd, mapEnv_ok, compK_lend, forK_lend, fEnum_ap, enumSrc_t, once_d3, once_dsd, lim_pos, Nat.reduceBEq, Nat.reduceAdd, Nat.reduceLeDiff, List.getElem?_cons_zero, List.getElem?_cons_succ, List.set_cons_zero, List.set_cons_succ, Out.bind_ok, Option.bind_some, Option.map_some, Bool.not_true, Bool.not_false, List.length_cons, List.length_nil])).trans ?_
    have e : (a : Int) + (s : Int) = ((a + s : Nat) : Int) := by omega
    rw [e]
    rfl
  have st3 : (fAsg 2 (fBlt gMax2 (fCons (fVar 2) (fCons (f2 gAdd (fVar 5) (fC (.int (1)))) fNil)))) [.d L, .d (.int ((a + s : Nat) : Int)), .d (.int (b : Int)), .d c, .d (.int (s : Int)), .d (.int (t : Int))] = .ok .next [.d L, .d (.int ((a + s : Nat) : Int)), .d (.int ((max b (t + 1) : Nat) : Int)), .d c, .d (.int (s : Int)), .d (.int (t : Int))] := by
    have e : gMax2 [.int (b : Int), .int ((t : Int) + 1)] = some (.d (.int ((max b (t + 1) : Nat) : Int))) := by (show some (Pr.d (.int (if (t : Int) + 1 > (b : Int) then _ else _))) = _; congr 3; omega)
    simp only [fC_ap, opd_ap, asD_d, asD_slot, asD_new, f1_ap, f2_ap, res_d, res_slot, resS_d, resS_own, resS_io, resS_rd, ress_nil, ress_cons, ofP_d, ofP_l, ofP_t, isB_b, fT_ap, gAnd_ap, gOr_ap, gNot_ap, fAnd_ap, fOr_ap, fNot_ap, fIf_ap, fNil_ap, fCons_ap, frz_d, frzs_nil, frzs_cons, fTup_ap, fLst_ap, isI_i, fPart_ap, fNo_ap, fSl_ap, fBlt_ap, fSeq_ap, seqK_next, seqK_brk, seqK_cont, seqK_ret, fSkip_ap, fIfS_ap, fDrop_ap, fAsg_ap, retK_d, retK_new, fRet_ap, fRetN_ap, turnK_next, turnK_cont, turnK_brk, turnK_ret, ofO_some, fFor_ap, forK_items, fSeqI_ap, seqSrc_l, seqSrc_t, seqSrc_s, fRng1_ap, fRng2_ap, fComp_ap, compK_items, gTrue_ap, k1_ap, o2_ap, k2b_ap, k2a_ap, kT_ap, kAnd_t, kAnd_f, kOr_t, kOr_f, kNot_ap, kAndE_t, kAndE_f, kOrE_t, kOrE_f, kNotE_ap, kIfE_t, kIfE_f, kIfS_t, kIfS_f, kCons2_ap, kCons_ap, kz2_ap, kz_ap, kTup2_ap, kTup_ap, kLst2_ap, kLst_ap, kPart_ap, kSl3_ap, kSl2_ap, kSl1_ap, kBlt_ap, kDrop_ap, kAsg2_ap, kAsg_ap, kRng1_ap, kRng2_ap, fCall_ap, kCall_ap, kCall2_ap, kCall3_ap, callK_d, callK_n, upds_io, upds_nil, upds_no, mkArgs_nil, mkArgs_cons, mkArgE_d, once1, once_dd, once_d2, once_s2, once_s3, once_s3d, kMut_ap, kLoop_ap, kLoop2_ap, fVar_ap, vr_d, vr_own, vr_io, vr_rd, noIo_ap, nio_no, nio_d, nio_own, nio_rd, frz_slot, fz_d, fz_own, gd_t, gs_t, store_d, store_new, retK_slot, rk_own, rk_d, lstAt_ap, la_own, la_io, mutAt_ap, ma_own, ma_io, mo_some, mi_some, mkArg_slot, ag_d, ag_own, ag_rd, ag_ownt, ag_iot, putC_ap, pc_own, pc_io, gfName_ap, gfNil_ap, gfCons_ap, gfTup_ap, seqSrc_slot, slotSrc_own, slotSrc_rd, fMut_ap, kMut2_ap, kSet3_ap, kSet2_ap, kSet_ap, fSetI_ap, fSetA_ap, kAtt_ap, kAtt2_ap, sa_ap, back_ap, bk_rd, mapEnv_ok, compK_lend, forK_lend, fEnum_ap, enumSrc_t, once_d3, once_dsd, lim_pos, Nat.reduceBEq, Nat.reduceAdd, Nat.reduceLeDiff, List.getElem?_cons_zero, List.getElem?_cons_succ, List.set_cons_zero, List.set_cons_succ, Out.bind_ok, Option.bind_some, Option.map_some, Bool.not_true, Bool.not_false, List.length_cons, List.length_nil, gAdd_i, e]
  unfold jLoop
  rw [fSeq_ap, st0, Out.bind_ok, seqK_next, fSeq_ap, st1, Out.bind_ok, seqK_next, fSeq_ap, st2, Out.bind_ok, seqK_next, st3]
theorem j_loop (n : Nat) (L : D) (S T : Nat) (hT : T < 20) : ∀ (cs : List D) (a b : Nat) (p x y : Sl), Pl p → Pl x → Pl y → a + cs.length * S ≤ 1000 →
    (∀ c ∈ cs, ∃ s t : Nat, 1 ≤ s ∧ s ≤ S ∧ t ≤ T ∧ run n 8 [.d c] = .ret (.d (.tup [.int (s : Int), .int (t : Int)])) [none]) →
    ∃ (a' b' : Nat) (p' x' y' : Sl), a ≤ a' ∧ a' ≤ a + cs.length * S ∧ (1 ≤ b → 1 ≤ b') ∧ (b ≤ T + 1 → b' ≤ T + 1) ∧ loopL (gfName 3) (jLoop n) cs [.d L, .d (.int (a : Int)), .d (.int (b : Int)), p, x, y] = .ok .next [.d L, .d (.int (a' : Int)), .d (.int (b' : Int)), p', x', y']
  | [], a, b, p, x, y, _, _, _, _, _ => ⟨a, b, p, x, y, Nat.le_refl _, by simp, id, id, rfl⟩
  | c :: cs, a, b, p, x, y, hp, hx, hy, hl, h => by
    obtain ⟨s, t, h1, h2, h3, h4⟩ := h c (by simp)
    have hm : (c :: cs).length * S = cs.length * S + S := by rw [List.length_cons, Nat.succ_mul]
    rw [hm] at hl
    have e := j_turn n L c a b s t x y hx hy h1 (by omega) (by omega) h4
    obtain ⟨a', b', p', x', y', g1, g2, g3, g4, g5⟩ := j_loop n L S T hT cs (a + s) (max b (t + 1)) (.d c) (.d (.int (s : Int))) (.d (.int (t : Int))) (.d _) (.d _) (.d _) (by omega) (fun z hz => h z (by simp [hz]))
    refine ⟨a', b', p', x', y', by omega, by rw [hm]; omega, fun _ => g3 (by omega), fun hb => g4 (by omega), ?_⟩
    rw [← g5]
    simp only [loopL_cons, gfName_ap, noIo_ap, List.getElem?_cons_zero, List.getElem?_cons_succ, hp.nio, gs_t, List.set_cons_succ, List.set_cons_zero, ofO_some, Out.bind_ok, kLoop_ap, e, kLoop2_ap, turnK_next]
theorem joined_ok (n : Nat) (S T : Nat) (hT : T < 20) (cs : List D) (hl : 1 + cs.length * S ≤ 1000) (h : ∀ c ∈ cs, ∃ s t : Nat, 1 ≤ s ∧ s ≤ S ∧ t ≤ T ∧ run n 8 [.d c] = .ret (.d (.tup [.int (s : Int), .int (t : Int)])) [none]) :
    ∃ s t : Nat, 1 ≤ s ∧ s ≤ 1 + cs.length * S ∧ 1 ≤ t ∧ t ≤ T + 1 ∧ run (n + 1) 9 [.d (.lst cs)] = .ret (.d (.tup [.int (s : Int), .int (t : Int)])) [none] := by
  obtain ⟨a', b', p', x', y', g1, g2, g3, g4, g5⟩ := j_loop n (.lst cs) S T hT cs 1 1 .no .no .no .no .no .no hl h
  refine ⟨a', b', g1, g2, g3 (by omega), g4 (by omega), ?_⟩
  show finF _ (b9 (run n) [.d (.lst cs), .no, .no, .no, .no, .no]) = _
  have g6 : loopL (gfName 3) (jLoop n) cs [.d (.lst cs), .d (.int 1), .d (.int 1), .no, .no, .no] = .ok .next [.d (.lst cs), .d (.int (a' : Int)), .d (.int (b' : Int)), p', x', y'] := g5
  unfold jLoop at g6
  unfold b9
  simp only [fC_ap, opd_ap, asD_d, asD_slot, asD_new, f1_ap, f2_ap, res_d, res_slot, resS_d, resS_own, resS_io, resS_rd, ress_nil, ress_cons, ofP_d, ofP_l, ofP_t, isB_b, fT_ap, gAnd_ap, gOr_ap, gNot_ap, fAnd_ap, fOr_ap, fNot_ap, fIf_ap, fNil_ap, fCons_ap, frz_d, frzs_nil, frzs_cons, fTup_ap, fLst_ap, isI_i, fPart_ap, fNo_ap, fSl_ap, fBlt_ap, fSeq_ap, seqK_next, seqK_brk, seqK_cont, seqK_ret, fSkip_ap, fIfS_ap, fDrop_ap, fAsg_ap, retK_d, retK_new, fRet_ap, fRetN_ap, turnK_next, turnK_cont, turnK_brk, turnK_ret, ofO_some, fFor_ap, forK_items, fSeqI_ap, seqSrc_l, seqSrc_t, seqSrc_s, fRng1_ap, fRng2_ap, fComp_ap, compK_items, gTrue_ap, k1_ap, o2_ap, k2b_ap, k2a_ap, kT_ap, kAnd_t, kAnd_f, kOr_t, kOr_f, kNot_ap, kAndE_t, kAndE_f, kOrE_t, kOrE_f, kNotE_ap, kIfE_t, kIfE_f, kIfS_t, kIfS_f, kCons2_ap, kCons_ap, kz2_ap, kz_ap, kTup2_ap, kTup_ap, kLst2_ap, kLst_ap, kPart_ap, kSl3_ap, kSl2_ap, kSl1_ap, kBlt_ap, kDrop_ap, kAsg2_ap, kAsg_ap, kRng1_ap, kRng2_ap, fCall_ap, kCall_ap, kCall2_ap, kCall3_ap, callK_d, callK_n, upds_io, upds_nil, upds_no, mkArgs_nil, mkArgs_cons, mkArgE_d, once1, once_dd, once_d2, once_s2, once_s3, once_s3d, kMut_ap, kLoop_ap, kLoop2_ap, fVar_ap, vr_d, vr_own, vr_io, vr_rd, noIo_ap, nio_no, nio_d, nio_own, nio_rd, frz_slot, fz_d, fz_own, gd_t, gs_t, store_d, store_new, retK_slot, rk_own, rk_d, lstAt_ap, la_own, la_io, mutAt_ap, ma_own, ma_io, mo_some, mi_some, mkArg_slot, ag_d, ag_own, ag_rd, ag_ownt, ag_iot, putC_ap, pc_own, pc_io, gfName_ap, gfNil_ap, gfCons_ap, gfTup_ap, seqSrc_slot, slotSrc_own, slotSrc_rd, fMut_ap, kMut2_ap, kSet3_ap, kSet2_ap, kSet_ap, fSetI_ap, fSetA_ap, kAtt_ap, kAtt2_ap, sa_ap, back_ap, bk_rd, mapEnv_ok, compK_lend, forK_lend, fEnum_ap, enumSrc_t, once_d3, once_dsd, lim_pos, Nat.reduceBEq, Nat.reduceAdd, Nat.reduceLeDiff, List.getElem?_cons_zero, List.getElem?_cons_succ, List.set_cons_zero, List.set_cons_succ, Out.bind_ok, Option.bind_some, Option.map_some, Bool.not_true, Bool.not_false, List.length_cons, List.length_nil, g6]
  rfl
theorem size_ok : ∀ (k : Nat), k ≤ 5 → ∀ (n : Nat) (d : D) (f : Str → Bool), Cv m k d f → ∃ s t : Nat, 1 ≤ s ∧ s ≤ szB k ∧ 1 ≤ t ∧ t ≤ k ∧ run (n + 2 * k) 8 [.d d] = .ret (.d (.tup [.int (s : Int), .int (t : Int)])) [none]
  | 0, _, _, _, _, h => by cases h
  | k + 1, hk, n, d, f, h => by
    have hS : szB k ≤ 40 := by
      have : k = 0 ∨ k = 1 ∨ k = 2 ∨ k = 3 ∨ k = 4 := by omega
      rcases this with rfl | rfl | rfl | rfl | rfl <;> decide
    have en : n + 2 * (k + 1) = (n + 2 * k + 1) + 1 := by omega
    rw [en]
    have z1 : ((1 : Int) == 1) = true := rfl
    cases h with
    | leaf hx =>
      rename_i x
      refine ⟨1, 1, by omega, by show 1 ≤ 1 + 3 * szB k; omega, by omega, by omega, ?_⟩
      show finF _ (b8 (run (n + 2 * k + 1)) [.d (leafD x)]) = _
      unfold b8 leafD
      simp only [fC_ap, opd_ap, asD_d, asD_slot, asD_new, f1_ap, f2_ap, res_d, res_slot, resS_d, resS_own, resS_io, resS_rd, ress_nil, ress_cons, ofP_d, ofP_l, ofP_t, isB_b, fT_ap, gAnd_ap, gOr_ap, gNot_ap, fAnd_ap, fOr_ap, fNot_ap, fIf_ap, fNil_ap, fCons_ap, frz_d, frzs_nil, frzs_cons, fTup_ap, fLst_ap, isI_i, fPart_ap, fNo_ap, fSl_ap, fBlt_ap, fSeq_ap, seqK_next, seqK_brk, seqK_cont, seqK_ret, fSkip_ap, fIfS_ap, fDrop_ap, fAsg_ap, retK_d, retK_new, fRet_ap, fRetN_ap, turnK_next, turnK_cont, turnK_brk, turnK_ret, ofO_some, fFor_ap, forK_items, fSeqI_ap, seqSrc_l, seqSrc_t, seqSrc_s, fRng1_ap, fRng2_ap, fComp_ap, compK_items, gTrue_ap, k1_ap, o2_ap, k2b_ap, k2a_ap, kT_ap, kAnd_t, kAnd_f, kOr_t, kOr_f, kNot_ap, kAndE_t, kAndE_f, kOrE_t, kOrE_f, kNotE_ap, kIfE_t, kIfE_f, kIfS_t, kIfS_f, kCons2_ap, kCons_ap, kz2_ap, kz_ap, kTup2_ap, kTup_ap, kLst2_ap, kLst_ap, kPart_ap, kSl3_ap, kSl2_ap, kSl1_ap, kBlt_ap, kDrop_ap, kAsg2_ap, kAsg_ap, kRng1_ap, kRng2_ap, fCall_ap, kCall_ap, kCall2_ap, kCall3_ap, callK_d, callK_n, upds_io, upds_nil, upds_no, mkArgs_nil, mkArgs_cons, mkArgE_d, once1, once_dd, once_d2, once_s2, once_s3, once_s3d, kMut_ap, kLoop_ap, kLoop2_ap, fVar_ap, vr_d, vr_own, vr_io, vr_rd, noIo_ap, nio_no, nio_d, nio_own, nio_rd, frz_slot, fz_d, fz_own, gd_t, gs_t, store_d, store_new, retK_slot, rk_own, rk_d, lstAt_ap, la_own, la_io, mutAt_ap, ma_own, ma_io, mo_some, mi_some, mkArg_slot, ag_d, ag_own, ag_rd, ag_ownt, ag_iot, putC_ap, pc_own, pc_io, gfName_ap, gfNil_ap, gfCons_ap, gfTup_ap, seqSrc_slot, slotSrc_own, slotSrc_rd, fMut_ap, kMut2_ap, kSet3_ap, kSet2_ap, kSet_ap, fSetI_ap, fSetA_ap, kAtt_ap, kAtt2_ap, sa_ap, back_ap, bk_rd, mapEnv_ok, compK_lend, forK_lend, fEnum_ap, enumSrc_t, once_d3, once_dsd, lim_pos, Nat.reduceBEq, Nat.reduceAdd, Nat.reduceLeDiff, List.getElem?_cons_zero, List.getElem?_cons_succ, List.set_cons_zero, List.set_cons_succ, Out.bind_ok, Option.bind_some, Option.map_some, Bool.not_true, Bool.not_false, List.length_cons, List.length_nil, pair_ok (n + 2 * k), ix_0, ix_1, w_hh, isi_s, gLen_s hx, gEq_i, z1]
      rfl
    | neg hc =>
      rename_i c f
      obtain ⟨s, t, h1, h2, h3, h4, h5⟩ := size_ok k (by omega) n c f hc
      obtain ⟨a, b, g1, g2, g3, g4, g5⟩ := joined_ok (n + 2 * k) (szB k) k (by omega) [c] (by simp; omega) (fun z hz => by
        rw [List.mem_singleton.mp hz]
        exact ⟨s, t, h1, h2, h4, h5⟩)
      refine ⟨a, b, g1, by show a ≤ 1 + 3 * szB k; simp at g2; omega, g3, g4, ?_⟩
      show finF _ (b8 (run (n + 2 * k + 1)) [.d (notD c)]) = _
      have l1 : ∀ o : Out Rv, lim 1 o = o := fun o => lim_pos (by decide)
      unfold b8 notD
      simp only [fC_ap, opd_ap, asD_d, asD_slot, asD_new, f1_ap, f2_ap, res_d, res_slot, resS_d, resS_own, resS_io, resS_rd, ress_nil, ress_cons, ofP_d, ofP_l, ofP_t, isB_b, fT_ap, gAnd_ap, gOr_ap, gNot_ap, fAnd_ap, fOr_ap, fNot_ap, fIf_ap, fNil_ap, fCons_ap, frz_d, frzs_nil, frzs_cons, fTup_ap, fLst_ap, isI_i, fPart_ap, fNo_ap, fSl_ap, fBlt_ap, fSeq_ap, seqK_next, seqK_brk, seqK_cont, seqK_ret, fSkip_ap, fIfS_ap, fDrop_ap, fAsg_ap, retK_d, retK_new, fRet_ap, fRetN_ap, turnK_next, turnK_cont, turnK_brk, turnK_ret, ofO_some, fFor_ap, forK_items, fSeqI_ap, seqSrc_l, seqSrc_t, seqSrc_s, fRng1_ap, fRng2_ap, fComp_ap, compK_items, gTrue_ap, k1_ap, o2_ap, k2b_ap, k2a_ap, kT_ap, kAnd_t, kAnd_f, kOr_t, kOr_f, kNot_ap, kAndE_t, kAndE_f, kOrE_t, kOrE_f, kNotE_ap, kIfE_t, kIfE_f, kIfS_t, kIfS_f, kCons2_ap, kCons_ap, kz2_ap, kz_ap, kTup2_ap, kTup_ap, kLst2_ap, kLst_ap, kPart_ap, kSl3_ap, kSl2_ap, kSl1_ap, kBlt_ap, kDrop_ap, kAsg2_ap, kAsg_ap, kRng1_ap, kRng2_ap, fCall_ap, kCall_ap, kCall2_ap, kCall3_ap, callK_d, callK_n, upds_io, upds_nil, upds_no, mkArgs_nil, mkArgs_cons, mkArgE_d, once1, once_dd, once_d2, once_s2, once_s3, once_s3d, kMut_ap, kLoop_ap, kLoop2_ap, fVar_ap, vr_d, vr_own, vr_io, vr_rd, noIo_ap, nio_no, nio_d, nio_own, nio_rd, frz_slot, fz_d, fz_own, gd_t, gs_t, store_d, store_new, retK_slot, rk_own, rk_d, lstAt_ap, la_own, la_io, mutAt_ap, ma_own, ma_io, mo_some, mi_some, mkArg_slot, ag_d, ag_own, ag_rd, ag_ownt, ag_iot, putC_ap, pc_own, pc_io, gfName_ap, gfNil_ap, gfCons_ap, gfTup_ap, seqSrc_slot, slotSrc_own, slotSrc_rd, fMut_ap, kMut2_ap, kSet3_ap, kSet2_ap, kSet_ap, fSetI_ap, fSetA_ap, kAtt_ap, kAtt2_ap, sa_ap, back_ap, bk_rd, mapEnv_ok, compK_lend, forK_lend, fEnum_ap, enumSrc_t, once_d3, once_dsd, lim_pos, Nat.reduceBEq, Nat.reduceAdd, Nat.reduceLeDiff, List.getElem?_cons_zero, List.getElem?_cons_succ, List.set_cons_zero, List.set_cons_succ, Out.bind_ok, Option.bind_some, Option.map_some, Bool.not_true, Bool.not_false, List.length_cons, List.length_nil, pair_ok (n + 2 * k), ix_0, ix_1, w_nh, w_nn, l1, g5]
      rfl
    | many b cs hl hc =>
      obtain ⟨s, t, g1, g2, g3, g4, g5⟩ := joined_ok (n + 2 * k) (szB k) k (by omega) (cs.map (·.1)) (by rw [List.length_map]; have := Nat.mul_le_mul hl hS; omega) (fun z hz => by
        obtain ⟨p, hp, rfl⟩ := List.mem_map.mp hz
        obtain ⟨s, t, h1, h2, h3, h4, h5⟩ := size_ok k (by omega) n p.1 p.2 (hc p hp)
        exact ⟨s, t, h1, h2, h4, h5⟩)
      rw [List.length_map] at g2
      refine ⟨s, t, g1, by show s ≤ 1 + 3 * szB k; have := Nat.mul_le_mul_right (szB k) hl; omega, g3, g4, ?_⟩
      show finF _ (b8 (run (n + 2 * k + 1)) [.d (manyD b (cs.map (·.1)))]) = _
      have e10 : decide ((10 : Int) < ((cs.map (·.1)).length : Int)) = false := decide_eq_false (by rw [List.length_map]; omega)
      have e2 : gLen [.tup (cs.map (·.1))] = some (.d (.int ((cs.map (·.1)).length : Int))) := rfl
      unfold b8 manyD
      simp only [fC_ap, opd_ap, asD_d, asD_slot, asD_new, f1_ap, f2_ap, res_d, res_slot, resS_d, resS_own, resS_io, resS_rd, ress_nil, ress_cons, ofP_d, ofP_l, ofP_t, isB_b, fT_ap, gAnd_ap, gOr_ap, gNot_ap, fAnd_ap, fOr_ap, fNot_ap, fIf_ap, fNil_ap, fCons_ap, frz_d, frzs_nil, frzs_cons, fTup_ap, fLst_ap, isI_i, fPart_ap, fNo_ap, fSl_ap, fBlt_ap, fSeq_ap, seqK_next, seqK_brk, seqK_cont, seqK_ret, fSkip_ap, fIfS_ap, fDrop_ap, fAsg_ap, retK_d, retK_new, fRet_ap, fRetN_ap, turnK_next, turnK_cont, turnK_brk, turnK_ret, ofO_some, fFor_ap, forK_items, fSeqI_ap, seqSrc_l, seqSrc_t, seqSrc_s, fRng1_ap, fRng2_ap, fComp_ap, compK_items, gTrue_ap, k1_ap, o2_ap, k2b_ap, k2a_ap, kT_ap, kAnd_t, kAnd_f, kOr_t, kOr_f, kNot_ap, kAndE_t, kAndE_f, kOrE_t, kOrE_f, kNotE_ap, kIfE_t, kIfE_f, kIfS_t, kIfS_f, kCons2_ap, kCons_ap, kz2_ap, kz_ap, kTup2_ap, kTup_ap, kLst2_ap, kLst_ap, kPart_ap, kSl3_ap, kSl2_ap, kSl1_ap, kBlt_ap, kDrop_ap, kAsg2_ap, kAsg_ap, kRng1_ap, kRng2_ap, fCall_ap, kCall_ap, kCall2_ap, kCall3_ap, callK_d, callK_n, upds_io, upds_nil, upds_no, mkArgs_nil, mkArgs_cons, mkArgE_d, once1, once_dd, once_d2, once_s2, once_s3, once_s3d, kMut_ap, kLoop_ap, kLoop2_ap, fVar_ap, vr_d, vr_own, vr_io, vr_rd, noIo_ap, nio_no, nio_d, nio_own, nio_rd, frz_slot, fz_d, fz_own, gd_t, gs_t, store_d, store_new, retK_slot, rk_own, rk_d, lstAt_ap, la_own, la_io, mutAt_ap, ma_own, ma_io, mo_some, mi_some, mkArg_slot, ag_d, ag_own, ag_rd, ag_ownt, ag_iot, putC_ap, pc_own, pc_io, gfName_ap, gfNil_ap, gfCons_ap, gfTup_ap, seqSrc_slot, slotSrc_own, slotSrc_rd, fMut_ap, kMut2_ap, kSet3_ap, kSet2_ap, kSet_ap, fSetI_ap, fSetA_ap, kAtt_ap, kAtt2_ap, sa_ap, back_ap, bk_rd, mapEnv_ok, compK_lend, forK_lend, fEnum_ap, enumSrc_t, once_d3, once_dsd, lim_pos, Nat.reduceBEq, Nat.reduceAdd, Nat.reduceLeDiff, List.getElem?_cons_zero, List.getElem?_cons_succ, List.set_cons_zero, List.set_cons_succ, Out.bind_ok, Option.bind_some, Option.map_some, Bool.not_true, Bool.not_false, List.length_cons, List.length_nil, pair_ok (n + 2 * k), ix_0, ix_1, w_ah, w_an, w_in, isi_t, e2, gGt_i, e10, gList_t, gListS_t, g5]
      rfl
end KK

set_option Elab.async false
set_option linter.all false
set_option maxRecDepth 100000
set_option maxHeartbeats 4000000
namespace KK
open PySem L2 Nz
open Nz (D Arg)
variable {m : Str} {n : Nat}
/-! ### conditions: what is told of them -/
theorem gAny_map (bs : List Bool) : gAny [.lst (bs.map D.bl)] = some (.d (.bl (bs.any id))) := by show (blsOf _).map _ = _; rw [blsOf_map]; rfl
theorem flats_bl : ∀ bs : List Bool, flats (bs.map D.bl) = some (bs.map V.bl)
  | [] => rfl
  | b :: bs => by show (D.flat (.bl b)).bind (fun v => (flats (bs.map D.bl)).map (v :: ·)) = _; rw [flats_bl bs]; rfl
theorem inV_bl (b : Bool) : ∀ bs : List Bool, inV (.bl b) (bs.map V.bl) = bs.any (fun x => x == b)
  | [] => rfl
  | x :: bs => by
    have h := inV_bl b bs
    unfold inV at h ⊢
    rw [List.map_cons, List.any_cons, List.any_cons, h]
    rfl
theorem inD_bl (b : Bool) (bs : List Bool) : inD (.bl b) (.lst (bs.map D.bl)) = some (bs.any fun x => x == b) := by
  show (Option.bind (some (bs.map D.bl)) fun ds => (D.flat (.bl b)).bind fun v => (flats ds).map fun vs => inV v vs) = _
  rw [Option.bind_some, flats_bl]
  show some (inV (.bl b) (bs.map V.bl)) = _
  rw [inV_bl]
theorem gIn_true (bs : List Bool) : gIn (.bl true) (.lst (bs.map D.bl)) = some (.d (.bl (bs.any id))) := by
  have e : (fun x : Bool => x == true) = id := by funext x; cases x <;> rfl
  show (inD _ _).map _ = _
  rw [inD_bl, e]
  rfl
theorem gNin_false (bs : List Bool) : gNin (.bl false) (.lst (bs.map D.bl)) = some (.d (.bl (bs.all id))) := by
  have e : (!bs.any fun x => x == false) = bs.all id := by
    induction bs with
    | nil => rfl
    | cons b bs ih => rw [List.any_cons, List.all_cons, Bool.not_or, ih]; cases b <;> rfl
  show (inD _ _).map _ = _
  rw [inD_bl]
  show some (Pr.d (.bl (!bs.any fun x => x == false))) = _
  rw [e]
theorem known_ok : ∀ (k n : Nat) (d : D) (f : Str → Bool), Cv m k d f → run (n + k) 10 [.d (.str m), .d d] = .ret (.d (.bl true)) [none, none]
  | 0, _, _, _, h => by cases h
  | k + 1, n, d, f, h => by
    show finF _ (b10 (run (n + k)) [.d (.str m), .d d, .no]) = _
    unfold b10
    cases h with
    | leaf hx =>
      unfold leafD
      simp only [fC_ap, opd_ap, asD_d, asD_slot, asD_new, f1_ap, f2_ap, res_d, res_slot, resS_d, resS_own, resS_io, resS_rd, ress_nil, ress_cons, ofP_d, ofP_l, ofP_t, isB_b, fT_ap, gAnd_ap, gOr_ap, gNot_ap, fAnd_ap, fOr_ap, fNot_ap, fIf_ap, fNil_ap, fCons_ap, frz_d, frzs_nil, frzs_cons, fTup_ap, fLst_ap, isI_i, fPart_ap, fNo_ap, fSl_ap, fBlt_ap, fSeq_ap, seqK_next, seqK_brk, seqK_cont, seqK_ret, fSkip_ap, fIfS_ap, fDrop_ap, fAsg_ap, retK_d, retK_new, fRet_ap, fRetN_ap, turnK_next, turnK_cont, turnK_brk, turnK_ret, ofO_some, fFor_ap, forK_items, fSeqI_ap, seqSrc_l, seqSrc_t, seqSrc_s, fRng1_ap, fRng2_ap, fComp_ap, compK_items, gTrue_ap, k1_ap, o2_ap, k2b_ap, k2a_ap, kT_ap, kAnd_t, kAnd_f, kOr_t, kOr_f, kNot_ap, kAndE_t, kAndE_f, kOrE_t, kOrE_f, kNotE_ap, kIfE_t, kIfE_f, kIfS_t, kIfS_f, kCons2_ap, kCons_ap, kz2_ap, kz_ap, kTup2_ap, kTup_ap, kLst2_ap, kLst_ap, kPart_ap, kSl3_ap, kSl2_ap, kSl1_ap, kBlt_ap, kDrop_ap, kAsg2_ap, kAsg_ap, kRng1_ap, kRng2_ap, fCall_ap, kCall_ap, kCall2_ap, kCall3_ap, callK_d, callK_n, upds_io, upds_nil, upds_no, mkArgs_nil, mkArgs_cons, mkArgE_d, once1, once_dd, once_d2, once_s2, once_s3, once_s3d, kMut_ap, kLoop_ap, kLoop2_ap, fVar_ap, vr_d, vr_own, vr_io, vr_rd, noIo_ap, nio_no, nio_d, nio_own, nio_rd, frz_slot, fz_d, fz_own, gd_t, gs_t, store_d, store_new, retK_slot, rk_own, rk_d, lstAt_ap, la_own, la_io, mutAt_ap, ma_own, ma_io, mo_some, mi_some, mkArg_slot, ag_d, ag_own, ag_rd, ag_ownt, ag_iot, putC_ap, pc_own, pc_io, gfName_ap, gfNil_ap, gfCons_ap, gfTup_ap, seqSrc_slot, slotSrc_own, slotSrc_rd, fMut_ap, kMut2_ap, kSet3_ap, kSet2_ap, kSet_ap, fSetI_ap, fSetA_ap, kAtt_ap, kAtt2_ap, sa_ap, back_ap, bk_rd, mapEnv_ok, compK_lend, forK_lend, fEnum_ap, enumSrc_t, once_d3, once_dsd, lim_pos, Nat.reduceBEq, Nat.reduceAdd, Nat.reduceLeDiff, List.getElem?_cons_zero, List.getElem?_cons_succ, List.set_cons_zero, List.set_cons_succ, Out.bind_ok, Option.bind_some, Option.map_some, Bool.not_true, Bool.not_false, List.length_cons, List.length_nil, ix_0, ix_1, w_hh, gIn_s hx, sgIn_m hx]
      rfl
    | neg hc =>
      unfold notD
      simp only [fC_ap, opd_ap, asD_d, asD_slot, asD_new, f1_ap, f2_ap, res_d, res_slot, resS_d, resS_own, resS_io, resS_rd, ress_nil, ress_cons, ofP_d, ofP_l, ofP_t, isB_b, fT_ap, gAnd_ap, gOr_ap, gNot_ap, fAnd_ap, fOr_ap, fNot_ap, fIf_ap, fNil_ap, fCons_ap, frz_d, frzs_nil, frzs_cons, fTup_ap, fLst_ap, isI_i, fPart_ap, fNo_ap, fSl_ap, fBlt_ap, fSeq_ap, seqK_next, seqK_brk, seqK_cont, seqK_ret, fSkip_ap, fIfS_ap, fDrop_ap, fAsg_ap, retK_d, retK_new, fRet_ap, fRetN_ap, turnK_next, turnK_cont, turnK_brk, turnK_ret, ofO_some, fFor_ap, forK_items, fSeqI_ap, seqSrc_l, seqSrc_t, seqSrc_s, fRng1_ap, fRng2_ap, fComp_ap, compK_items, gTrue_ap, k1_ap, o2_ap, k2b_ap, k2a_ap, kT_ap, kAnd_t, kAnd_f, kOr_t, kOr_f, kNot_ap, kAndE_t, kAndE_f, kOrE_t, kOrE_f, kNotE_ap, kIfE_t, kIfE_f, kIfS_t, kIfS_f, kCons2_ap, kCons_ap, kz2_ap, kz_ap, kTup2_ap, kTup_ap, kLst2_ap, kLst_ap, kPart_ap, kSl3_ap, kSl2_ap, kSl1_ap, kBlt_ap, kDrop_ap, kAsg2_ap, kAsg_ap, kRng1_ap, kRng2_ap, fCall_ap, kCall_ap, kCall2_ap, kCall3_ap, callK_d, callK_n, upds_io, upds_nil, upds_no, mkArgs_nil, mkArgs_cons, mkArgE_d, once1, once_dd, once_d2, once_s2, once_s3, once_s3d, kMut_ap, kLoop_ap, kLoop2_ap, fVar_ap, vr_d, vr_own, vr_io, vr_rd, noIo_ap, nio_no, nio_d, nio_own, nio_rd, frz_slot, fz_d, fz_own, gd_t, gs_t, store_d, store_new, retK_slot, rk_own, rk_d, lstAt_ap, la_own, la_io, mutAt_ap, ma_own, ma_io, mo_some, mi_some, mkArg_slot, ag_d, ag_own, ag_rd, ag_ownt, ag_iot, putC_ap, pc_own, pc_io, gfName_ap, gfNil_ap, gfCons_ap, gfTup_ap, seqSrc_slot, slotSrc_own, slotSrc_rd, fMut_ap, kMut2_ap, kSet3_ap, kSet2_ap, kSet_ap, fSetI_ap, fSetA_ap, kAtt_ap, kAtt2_ap, sa_ap, back_ap, bk_rd, mapEnv_ok, compK_lend, forK_lend, fEnum_ap, enumSrc_t, once_d3, once_dsd, lim_pos, Nat.reduceBEq, Nat.reduceAdd, Nat.reduceLeDiff, List.getElem?_cons_zero, List.getElem?_cons_succ, List.set_cons_zero, List.set_cons_succ, Out.bind_ok, Option.bind_some, Option.map_some, Bool.not_true, Bool.not_false, List.length_cons, List.length_nil, ix_0, ix_1, w_nh, w_nn, known_ok k n _ _ hc]
      rfl
    | many b cs hl hc =>
      have h1 := compI_map (i := 2) (e := fCall [false, false] (run (n + k) 10) (fCons (fVar 0) (fCons (fVar 2) fNil))) (ρ := [.d (.str m), .d (manyD b (cs.map (·.1))), .no]) (F := fun p : D × (Str → Bool) => p.1) (val := fun _ => D.bl true) (xs := cs) rfl (by omega) (by
        intro p hp
        simp only [fC_ap, opd_ap, asD_d, asD_slot, asD_new, f1_ap, f2_ap, res_d, res_slot, resS_d, resS_own, resS_io, resS_rd, ress_nil, ress_cons, ofP_d, ofP_l, ofP_t, isB_b, fT_ap, gAnd_ap, gOr_ap, gNot_ap, fAnd_ap, fOr_ap, fNot_ap, fIf_ap, fNil_ap, fCons_ap, frz_d, frzs_nil, frzs_cons, fTup_ap, fLst_ap, isI_i, fPart_ap, fNo_ap, fSl_ap, fBlt_ap, fSeq_ap, seqK_next, seqK_brk, seqK_cont, seqK_ret, fSkip_ap, fIfS_ap, fDrop_ap, fAsg_ap, retK_d, retK_new, fRet_ap, fRetN_ap, turnK_next, turnK_cont, turnK_brk, turnK_ret, ofO_some, fFor_ap, forK_items, fSeqI_ap, seqSrc_l, seqSrc_t, seqSrc_s, fRng1_ap, fRng2_ap, fComp_ap, compK_items, gTrue_ap, k1_ap, o2_ap, k2b_ap, k2a_ap, kT_ap, kAnd_t, kAnd_f, kOr_t, kOr_f, kNot_ap, kAndE_t, kAndE_f, kOrE_t, kOrE_f, kNotE_ap, kIfE_t, kIfE_f, kIfS_t, kIfS_f, kCons2_ap, kCons_ap, kz2_ap, kz_ap, kTup2_ap, kTup_ap, kLst2_ap, kLst_ap, kPart_ap, kSl3_ap, kSl2_ap, kSl1_ap, kBlt_ap, kDrop_ap, kAsg2_ap, kAsg_ap, kRng1_ap, kRng2_ap, fCall_ap, kCall_ap, kCall2_ap, kCall3_ap, callK_d, callK_n, upds_io, upds_nil, upds_no, mkArgs_nil, mkArgs_cons, mkArgE_d, once1, once_dd, once_d2, once_s2, once_s3, once_s3d, kMut_ap, kLoop_ap, kLoop2_ap, fVar_ap, vr_d, vr_own, vr_io, vr_rd, noIo_ap, nio_no, nio_d, nio_own, nio_rd, frz_slot, fz_d, fz_own, gd_t, gs_t, store_d, store_new, retK_slot, rk_own, rk_d, lstAt_ap, la_own, la_io, mutAt_ap, ma_own, ma_io, mo_some, mi_some, mkArg_slot, ag_d, ag_own, ag_rd, ag_ownt, ag_iot, putC_ap, pc_own, pc_io, gfName_ap, gfNil_ap, gfCons_ap, gfTup_ap, seqSrc_slot, slotSrc_own, slotSrc_rd, fMut_ap, kMut2_ap, kSet3_ap, kSet2_ap, kSet_ap, fSetI_ap, fSetA_ap, kAtt_ap, kAtt2_ap, sa_ap, back_ap, bk_rd, mapEnv_ok, compK_lend, forK_lend, fEnum_ap, enumSrc_t, once_d3, once_dsd, lim_pos, Nat.reduceBEq, Nat.reduceAdd, Nat.reduceLeDiff, List.getElem?_cons_zero, List.getElem?_cons_succ, List.set_cons_zero, List.set_cons_succ, Out.bind_ok, Option.bind_some, Option.map_some, Bool.not_true, Bool.not_false, List.length_cons, List.length_nil, known_ok k n _ _ (hc p hp)])
      unfold manyD at h1 ⊢
      simp only [fC_ap, opd_ap, asD_d, asD_slot, asD_new, f1_ap, f2_ap, res_d, res_slot, resS_d, resS_own, resS_io, resS_rd, ress_nil, ress_cons, ofP_d, ofP_l, ofP_t, isB_b, fT_ap, gAnd_ap, gOr_ap, gNot_ap, fAnd_ap, fOr_ap, fNot_ap, fIf_ap, fNil_ap, fCons_ap, frz_d, frzs_nil, frzs_cons, fTup_ap, fLst_ap, isI_i, fPart_ap, fNo_ap, fSl_ap, fBlt_ap, fSeq_ap, seqK_next, seqK_brk, seqK_cont, seqK_ret, fSkip_ap, fIfS_ap, fDrop_ap, fAsg_ap, retK_d, retK_new, fRet_ap, fRetN_ap, turnK_next, turnK_cont, turnK_brk, turnK_ret, ofO_some, fFor_ap, forK_items, fSeqI_ap, seqSrc_l, seqSrc_t, seqSrc_s, fRng1_ap, fRng2_ap, fComp_ap, compK_items, gTrue_ap, k1_ap, o2_ap, k2b_ap, k2a_ap, kT_ap, kAnd_t, kAnd_f, kOr_t, kOr_f, kNot_ap, kAndE_t, kAndE_f, kOrE_t, kOrE_f, kNotE_ap, kIfE_t, kIfE_f, kIfS_t, kIfS_f, kCons2_ap, kCons_ap, kz2_ap, kz_ap, kTup2_ap, kTup_ap, kLst2_ap, kLst_ap, kPart_ap, kSl3_ap, kSl2_ap, kSl1_ap, kBlt_ap, kDrop_ap, kAsg2_ap, kAsg_ap, kRng1_ap, kRng2_ap, fCall_ap, kCall_ap, kCall2_ap, kCall3_ap, callK_d, callK_n, upds_io, upds_nil, upds_no, mkArgs_nil, mkArgs_cons, mkArgE_d, once1, once_dd, once_d2, once_s2, once_s3, once_s3d, kMut_ap, kLoop_ap, kLoop2_ap, fVar_ap, vr_d, vr_own, vr_io, vr_rd, noIo_ap, nio_no, nio_d, nio_own, nio_rd, frz_slot, fz_d, fz_own, gd_t, gs_t, store_d, store_new, retK_slot, rk_own, rk_d, lstAt_ap, la_own, la_io, mutAt_ap, ma_own, ma_io, mo_some, mi_some, mkArg_slot, ag_d, ag_own, ag_rd, ag_ownt, ag_iot, putC_ap, pc_own, pc_io, gfName_ap, gfNil_ap, gfCons_ap, gfTup_ap, seqSrc_slot, slotSrc_own, slotSrc_rd, fMut_ap, kMut2_ap, kSet3_ap, kSet2_ap, kSet_ap, fSetI_ap, fSetA_ap, kAtt_ap, kAtt2_ap, sa_ap, back_ap, bk_rd, mapEnv_ok, compK_lend, forK_lend, fEnum_ap, enumSrc_t, once_d3, once_dsd, lim_pos, Nat.reduceBEq, Nat.reduceAdd, Nat.reduceLeDiff, List.getElem?_cons_zero, List.getElem?_cons_succ, List.set_cons_zero, List.set_cons_succ, Out.bind_ok, Option.bind_some, Option.map_some, Bool.not_true, Bool.not_false, List.length_cons, List.length_nil, ix_0, ix_1, w_ah, w_an, h1, all_true]
      rfl
theorem holds_ok (s : Str) : ∀ (k n : Nat) (d : D) (f : Str → Bool), Cv m k d f → run (n + k) 12 [.d d, .d (.str s)] = .ret (.d (.bl (f s))) [none, none]
  | 0, _, _, _, h => by cases h
  | k + 1, n, d, f, h => by
    show finF _ (b12 (run (n + k)) [.d d, .d (.str s), .no, .no]) = _
    unfold b12
    cases h with
    | leaf hx =>
      unfold leafD
      simp only [fC_ap, opd_ap, asD_d, asD_slot, asD_new, f1_ap, f2_ap, res_d, res_slot, resS_d, resS_own, resS_io, resS_rd, ress_nil, ress_cons, ofP_d, ofP_l, ofP_t, isB_b, fT_ap, gAnd_ap, gOr_ap, gNot_ap, fAnd_ap, fOr_ap, fNot_ap, fIf_ap, fNil_ap, fCons_ap, frz_d, frzs_nil, frzs_cons, fTup_ap, fLst_ap, isI_i, fPart_ap, fNo_ap, fSl_ap, fBlt_ap, fSeq_ap, seqK_next, seqK_brk, seqK_cont, seqK_ret, fSkip_ap, fIfS_ap, fDrop_ap, fAsg_ap, retK_d, retK_new, fRet_ap, fRetN_ap, turnK_next, turnK_cont, turnK_brk, turnK_ret, ofO_some, fFor_ap, forK_items, fSeqI_ap, seqSrc_l, seqSrc_t, seqSrc_s, fRng1_ap, fRng2_ap, fComp_ap, compK_items, gTrue_ap, k1_ap, o2_ap, k2b_ap, k2a_ap, kT_ap, kAnd_t, kAnd_f, kOr_t, kOr_f, kNot_ap, kAndE_t, kAndE_f, kOrE_t, kOrE_f, kNotE_ap, kIfE_t, kIfE_f, kIfS_t, kIfS_f, kCons2_ap, kCons_ap, kz2_ap, kz_ap, kTup2_ap, kTup_ap, kLst2_ap, kLst_ap, kPart_ap, kSl3_ap, kSl2_ap, kSl1_ap, kBlt_ap, kDrop_ap, kAsg2_ap, kAsg_ap, kRng1_ap, kRng2_ap, fCall_ap, kCall_ap, kCall2_ap, kCall3_ap, callK_d, callK_n, upds_io, upds_nil, upds_no, mkArgs_nil, mkArgs_cons, mkArgE_d, once1, once_dd, once_d2, once_s2, once_s3, once_s3d, kMut_ap, kLoop_ap, kLoop2_ap, fVar_ap, vr_d, vr_own, vr_io, vr_rd, noIo_ap, nio_no, nio_d, nio_own, nio_rd, frz_slot, fz_d, fz_own, gd_t, gs_t, store_d, store_new, retK_slot, rk_own, rk_d, lstAt_ap, la_own, la_io, mutAt_ap, ma_own, ma_io, mo_some, mi_some, mkArg_slot, ag_d, ag_own, ag_rd, ag_ownt, ag_iot, putC_ap, pc_own, pc_io, gfName_ap, gfNil_ap, gfCons_ap, gfTup_ap, seqSrc_slot, slotSrc_own, slotSrc_rd, fMut_ap, kMut2_ap, kSet3_ap, kSet2_ap, kSet_ap, fSetI_ap, fSetA_ap, kAtt_ap, kAtt2_ap, sa_ap, back_ap, bk_rd, mapEnv_ok, compK_lend, forK_lend, fEnum_ap, enumSrc_t, once_d3, once_dsd, lim_pos, Nat.reduceBEq, Nat.reduceAdd, Nat.reduceLeDiff, List.getElem?_cons_zero, List.getElem?_cons_succ, List.set_cons_zero, List.set_cons_succ, Out.bind_ok, Option.bind_some, Option.map_some, Bool.not_true, Bool.not_false, List.length_cons, List.length_nil, ix_0, ix_1, w_hh, gIn_s hx]
      rfl
    | neg hc =>
      unfold notD
      simp only [fC_ap, opd_ap, asD_d, asD_slot, asD_new, f1_ap, f2_ap, res_d, res_slot, resS_d, resS_own, resS_io, resS_rd, ress_nil, ress_cons, ofP_d, ofP_l, ofP_t, isB_b, fT_ap, gAnd_ap, gOr_ap, gNot_ap, fAnd_ap, fOr_ap, fNot_ap, fIf_ap, fNil_ap, fCons_ap, frz_d, frzs_nil, frzs_cons, fTup_ap, fLst_ap, isI_i, fPart_ap, fNo_ap, fSl_ap, fBlt_ap, fSeq_ap, seqK_next, seqK_brk, seqK_cont, seqK_ret, fSkip_ap, fIfS_ap, fDrop_ap, fAsg_ap, retK_d, retK_new, fRet_ap, fRetN_ap, turnK_next, turnK_cont, turnK_brk, turnK_ret, ofO_some, fFor_ap, forK_items, fSeqI_ap, seqSrc_l, seqSrc_t, seqSrc_s, fRng1_ap, fRng2_ap, fComp_ap, compK_items, gTrue_ap, k1_ap, o2_ap, k2b_ap, k2a_ap, kT_ap, kAnd_t, kAnd_f, kOr_t, kOr_f, kNot_ap, kAndE_t, kAndE_f, kOrE_t, kOrE_f, kNotE_ap, kIfE_t, kIfE_f, kIfS_t, kIfS_f, kCons2_ap, kCons_ap, kz2_ap, kz_ap, kTup2_ap, kTup_ap, kLst2_ap, kLst_ap, kPart_ap, kSl3_ap, kSl2_ap, kSl1_ap, kBlt_ap, kDrop_ap, kAsg2_ap, kAsg_ap, kRng1_ap, kRng2_ap, fCall_ap, kCall_ap, kCall2_ap, kCall3_ap, callK_d, callK_n, upds_io, upds_nil, upds_no, mkArgs_nil, mkArgs_cons, mkArgE_d, once1, once_dd, once_d2, once_s2, once_s3, once_s3d, kMut_ap, kLoop_ap, kLoop2_ap, fVar_ap, vr_d, vr_own, vr_io, vr_rd, noIo_ap, nio_no, nio_d, nio_own, nio_rd, frz_slot, fz_d, fz_own, gd_t, gs_t, store_d, store_new, retK_slot, rk_own, rk_d, lstAt_ap, la_own, la_io, mutAt_ap, ma_own, ma_io, mo_some, mi_some, mkArg_slot, ag_d, ag_own, ag_rd, ag_ownt, ag_iot, putC_ap, pc_own, pc_io, gfName_ap, gfNil_ap, gfCons_ap, gfTup_ap, seqSrc_slot, slotSrc_own, slotSrc_rd, fMut_ap, kMut2_ap, kSet3_ap, kSet2_ap, kSet_ap, fSetI_ap, fSetA_ap, kAtt_ap, kAtt2_ap, sa_ap, back_ap, bk_rd, mapEnv_ok, compK_lend, forK_lend, fEnum_ap, enumSrc_t, once_d3, once_dsd, lim_pos, Nat.reduceBEq, Nat.reduceAdd, Nat.reduceLeDiff, List.getElem?_cons_zero, List.getElem?_cons_succ, List.set_cons_zero, List.set_cons_succ, Out.bind_ok, Option.bind_some, Option.map_some, Bool.not_true, Bool.not_false, List.length_cons, List.length_nil, ix_0, ix_1, w_nh, w_nn, holds_ok s k n _ _ hc]
      rfl
    | many b cs hl hc =>
      have h1 := compI_map (i := 3) (e := fCall [false, false] (run (n + k) 12) (fCons (fVar 3) (fCons (fVar 1) fNil))) (ρ := [.d (manyD b (cs.map (·.1))), .d (.str s), .no, .no]) (F := fun p : D × (Str → Bool) => p.1) (val := fun p => D.bl (p.2 s)) (xs := cs) rfl (by omega) (by
        intro p hp
        simp only [fC_ap, opd_ap, asD_d, asD_slot, asD_new, f1_ap, f2_ap, res_d, res_slot, resS_d, resS_own, resS_io, resS_rd, ress_nil, ress_cons, ofP_d, ofP_l, ofP_t, isB_b, fT_ap, gAnd_ap, gOr_ap, gNot_ap, fAnd_ap, fOr_ap, fNot_ap, fIf_ap, fNil_ap, fCons_ap, frz_d, frzs_nil, frzs_cons, fTup_ap, fLst_ap, isI_i, fPart_ap, fNo_ap, fSl_ap, fBlt_ap, fSeq_ap, seqK_next, seqK_brk, seqK_cont, seqK_ret, fSkip_ap, fIfS_ap, fDrop_ap, fAsg_ap, retK_d, retK_new, fRet_ap, fRetN_ap, turnK_next, turnK_cont, turnK_brk, turnK_ret, ofO_some, fFor_ap, forK_items, fSeqI_ap, seqSrc_l, seqSrc_t, seqSrc_s, fRng1_ap, fRng2_ap, fComp_ap, compK_items, gTrue_ap, k1_ap, o2_ap, k2b_ap, k2a_ap, kT_ap, kAnd_t, kAnd_f, kOr_t, kOr_f, kNot_ap, kAndE_t, kAndE_f, kOrE_t, kOrE_f, kNotE_ap, kIfE_t, kIfE_f, kIfS_t, kIfS_f, kCons2_ap, kCons_ap, kz2_ap, kz_ap, kTup2_ap, kTup_ap, kLst2_ap, kLst_ap, kPart_ap, kSl3_ap, kSl2_ap, kSl1_ap, kBlt_ap, kDrop_ap, kAsg2_ap, kAsg_ap, kRng1_ap, kRng2_ap, fCall_ap, kCall_ap, kCall2_ap, kCall3_ap, callK_d, callK_n, upds_io, upds_nil, upds_no, mkArgs_nil, mkArgs_cons, mkArgE_d, once1, once_dd, once_d2, once_s2, once_s3, once_s3d, kMut_ap, kLoop_ap, kLoop2_ap, fVar_ap, vr_d, vr_own, vr_io, vr_rd, noIo_ap, nio_no, nio_d, nio_own, nio_rd, frz_slot, fz_d, fz_own, gd_t, gs_t, store_d, store_new, retK_slot, rk_own, rk_d, lstAt_ap, la_own, la_io, mutAt_ap, ma_own, ma_io, mo_some, mi_some, mkArg_slot, ag_d, ag_own, ag_rd, ag_ownt, ag_iot, putC_ap, pc_own, pc_io, gfName_ap, gfNil_ap, gfCons_ap, gfTup_ap, seqSrc_slot, slotSrc_own, slotSrc_rd, fMut_ap, kMut2_ap, kSet3_ap, kSet2_ap, kSet_ap, fSetI_ap, fSetA_ap, kAtt_ap, kAtt2_ap, sa_ap, back_ap, bk_rd, mapEnv_ok, compK_lend, forK_lend, fEnum_ap, enumSrc_t, once_d3, once_dsd, lim_pos, Nat.reduceBEq, Nat.reduceAdd, Nat.reduceLeDiff, List.getElem?_cons_zero, List.getElem?_cons_succ, List.set_cons_zero, List.set_cons_succ, Out.bind_ok, Option.bind_some, Option.map_some, Bool.not_true, Bool.not_false, List.length_cons, List.length_nil, holds_ok s k n _ _ (hc p hp)])
      have e1 : (cs.map fun p => D.bl (p.2 s)) = ((cs.map (·.2)).map fun f => f s).map D.bl := by rw [List.map_map, List.map_map]; rfl
      rw [e1] at h1
      have g1 := gAll_map ((cs.map (·.2)).map fun f => f s)
      have g2 := gAny_map ((cs.map (·.2)).map fun f => f s)
      unfold manyD at h1 ⊢
      unfold manyV
      cases b with
      | true =>
        simp only [fC_ap, opd_ap, asD_d, asD_slot, asD_new, f1_ap, f2_ap, res_d, res_slot, resS_d, resS_own, resS_io, resS_rd, ress_nil, ress_cons, ofP_d, ofP_l, ofP_t, isB_b, fT_ap, gAnd_ap, gOr_ap, gNot_ap, fAnd_ap, fOr_ap, fNot_ap, fIf_ap, fNil_ap, fCons_ap, frz_d, frzs_nil, frzs_cons, fTup_ap, fLst_ap, isI_i, fPart_ap, fNo_ap, fSl_ap, fBlt_ap, fSeq_ap, seqK_next, seqK_brk, seqK_cont, seqK_ret, fSkip_ap, fIfS_ap, fDrop_ap, fAsg_ap, retK_d, retK_new, fRet_ap, fRetN_ap, turnK_next, turnK_cont, turnK_brk, turnK_ret, ofO_some, fFor_ap, forK_items, fSeqI_ap, seqSrc_l, seqSrc_t, seqSrc_s, fRng1_ap, fRng2_ap, fComp_ap, compK_items, gTrue_ap, k1_ap, o2_ap, k2b_ap, k2a_ap, kT_ap, kAnd_t, kAnd_f, kOr_t, kOr_f, kNot_ap, kAndE_t, kAndE_f, kOrE_t, kOrE_f, kNotE_ap, kIfE_t, kIfE_f, kIfS_t, kIfS_f, kCons2_ap, kCons_ap, kz2_ap, kz_ap, kTup2_ap, kTup_ap, kLst2_ap, kLst_ap, kPart_ap, kSl3_ap, kSl2_ap, kSl1_ap, kBlt_ap, kDrop_ap, kAsg2_ap, kAsg_ap, kRng1_ap, kRng2_ap, fCall_ap, kCall_ap, kCall2_ap, kCall3_ap, callK_d, callK_n, upds_io, upds_nil, upds_no, mkArgs_nil, mkArgs_cons, mkArgE_d, once1, once_dd, once_d2, once_s2, once_s3, once_s3d, kMut_ap, kLoop_ap, kLoop2_ap, fVar_ap, vr_d, vr_own, vr_io, vr_rd, noIo_ap, nio_no, nio_d, nio_own, nio_rd, frz_slot, fz_d, fz_own, gd_t, gs_t, store_d, store_new, retK_slot, rk_own, rk_d, lstAt_ap, la_own, la_io, mutAt_ap, ma_own, ma_io, mo_some, mi_some, mkArg_slot, ag_d, ag_own, ag_rd, ag_ownt, ag_iot, putC_ap, pc_own, pc_io, gfName_ap, gfNil_ap, gfCons_ap, gfTup_ap, seqSrc_slot, slotSrc_own, slotSrc_rd, fMut_ap, kMut2_ap, kSet3_ap, kSet2_ap, kSet_ap, fSetI_ap, fSetA_ap, kAtt_ap, kAtt2_ap, sa_ap, back_ap, bk_rd, mapEnv_ok, compK_lend, forK_lend, fEnum_ap, enumSrc_t, once_d3, once_dsd, lim_pos, Nat.reduceBEq, Nat.reduceAdd, Nat.reduceLeDiff, List.getElem?_cons_zero, List.getElem?_cons_succ, List.set_cons_zero, List.set_cons_succ, Out.bind_ok, Option.bind_some, Option.map_some, Bool.not_true, Bool.not_false, List.length_cons, List.length_nil, ix_0, ix_1, w_ah, w_an, w_aa, h1, g1]
        rfl
      | false =>
        simp only [fC_ap, opd_ap, asD_d, asD_slot, asD_new, f1_ap, f2_ap, res_d, res_slot, resS_d, resS_own, resS_io, resS_rd, ress_nil, ress_cons, ofP_d, ofP_l, ofP_t, isB_b, fT_ap, gAnd_ap, gOr_ap, gNot_ap, fAnd_ap, fOr_ap, fNot_ap, fIf_ap, fNil_ap, fCons_ap, frz_d, frzs_nil, frzs_cons, fTup_ap, fLst_ap, isI_i, fPart_ap, fNo_ap, fSl_ap, fBlt_ap, fSeq_ap, seqK_next, seqK_brk, seqK_cont, seqK_ret, fSkip_ap, fIfS_ap, fDrop_ap, fAsg_ap, retK_d, retK_new, fRet_ap, fRetN_ap, turnK_next, turnK_cont, turnK_brk, turnK_ret, ofO_some, fFor_ap, forK_items, fSeqI_ap, seqSrc_l, seqSrc_t, seqSrc_s, fRng1_ap, fRng2_ap, fComp_ap, compK_items, gTrue_ap, k1_ap, o2_ap, k2b_ap, k2a_ap, kT_ap, kAnd_t, kAnd_f, kOr_t, kOr_f, kNot_ap, kAndE_t, kAndE_f, kOrE_t, kOrE_f, kNotE_ap, kIfE_t, kIfE_f, kIfS_t, kIfS_f, kCons2_ap, kCons_ap, kz2_ap, kz_ap, kTup2_ap, kTup_ap, kLst2_ap, kLst_ap, kPart_ap, kSl3_ap, kSl2_ap, kSl1_ap, kBlt_ap, kDrop_ap, kAsg2_ap, kAsg_ap, kRng1_ap, kRng2_ap, fCall_ap, kCall_ap, kCall2_ap, kCall3_ap, callK_d, callK_n, upds_io, upds_nil, upds_no, mkArgs_nil, mkArgs_cons, mkArgE_d, once1, once_dd, once_d2, once_s2, once_s3, once_s3d, kMut_ap, kLoop_ap, kLoop2_ap, fVar_ap, vr_d, vr_own, vr_io, vr_rd, noIo_ap, nio_no, nio_d, nio_own, nio_rd, frz_slot, fz_d, fz_own, gd_t, gs_t, store_d, store_new, retK_slot, rk_own, rk_d, lstAt_ap, la_own, la_io, mutAt_ap, ma_own, ma_io, mo_some, mi_some, mkArg_slot, ag_d, ag_own, ag_rd, ag_ownt, ag_iot, putC_ap, pc_own, pc_io, gfName_ap, gfNil_ap, gfCons_ap, gfTup_ap, seqSrc_slot, slotSrc_own, slotSrc_rd, fMut_ap, kMut2_ap, kSet3_ap, kSet2_ap, kSet_ap, fSetI_ap, fSetA_ap, kAtt_ap, kAtt2_ap, sa_ap, back_ap, bk_rd, mapEnv_ok, compK_lend, forK_lend, fEnum_ap, enumSrc_t, once_d3, once_dsd, lim_pos, Nat.reduceBEq, Nat.reduceAdd, Nat.reduceLeDiff, List.getElem?_cons_zero, List.getElem?_cons_succ, List.set_cons_zero, List.set_cons_succ, Out.bind_ok, Option.bind_some, Option.map_some, Bool.not_true, Bool.not_false, List.length_cons, List.length_nil, ix_0, ix_1, w_ah, w_an, w_aa, h1, g2]
        rfl
theorem lholds_ok (s : Str) : ∀ (k n : Nat) (d : D) (f : Str → Bool), Cv m k d f → run (n + k) 27 [.d d, .d (.str s)] = .ret (.d (.bl (f s))) [none, none]
  | 0, _, _, _, h => by cases h
  | k + 1, n, d, f, h => by
    show finF _ (b27 (run (n + k)) [.d d, .d (.str s), .no, .no]) = _
    unfold b27
    cases h with
    | leaf hx =>
      unfold leafD
      simp only [fC_ap, opd_ap, asD_d, asD_slot, asD_new, f1_ap, f2_ap, res_d, res_slot, resS_d, resS_own, resS_io, resS_rd, ress_nil, ress_cons, ofP_d, ofP_l, ofP_t, isB_b, fT_ap, gAnd_ap, gOr_ap, gNot_ap, fAnd_ap, fOr_ap, fNot_ap, fIf_ap, fNil_ap, fCons_ap, frz_d, frzs_nil, frzs_cons, fTup_ap, fLst_ap, isI_i, fPart_ap, fNo_ap, fSl_ap, fBlt_ap, fSeq_ap, seqK_next, seqK_brk, seqK_cont, seqK_ret, fSkip_ap, fIfS_ap, fDrop_ap, fAsg_ap, retK_d, retK_new, fRet_ap, fRetN_ap, turnK_next, turnK_cont, turnK_brk, turnK_ret, ofO_some, fFor_ap, forK_items, fSeqI_ap, seqSrc_l, seqSrc_t, seqSrc_s, fRng1_ap, fRng2_ap, fComp_ap, compK_items, gTrue_ap, k1_ap, o2_ap, k2b_ap, k2a_ap, kT_ap, kAnd_t, kAnd_f, kOr_t, kOr_f, kNot_ap, kAndE_t, kAndE_f, kOrE_t, kOrE_f, kNotE_ap, kIfE_t, kIfE_f, kIfS_t, kIfS_f, kCons2_ap, kCons_ap, kz2_ap, kz_ap, kTup2_ap, kTup_ap, kLst2_ap, kLst_ap, kPart_ap, kSl3_ap, kSl2_ap, kSl1_ap, kBlt_ap, kDrop_ap, kAsg2_ap, kAsg_ap, kRng1_ap, kRng2_ap, fCall_ap, kCall_ap, kCall2_ap, kCall3_ap, callK_d, callK_n, upds_io, upds_nil, upds_no, mkArgs_nil, mkArgs_cons, mkArgE_d, once1, once_dd, once_d2, once_s2, once_s3, once_s3d, kMut_ap, kLoop_ap, kLoop2_ap, fVar_ap, vr_d, vr_own, vr_io, vr_rd, noIo_ap, nio_no, nio_d, nio_own, nio_rd, frz_slot, fz_d, fz_own, gd_t, gs_t, store_d, store_new, retK_slot, rk_own, rk_d, lstAt_ap, la_own, la_io, mutAt_ap, ma_own, ma_io, mo_some, mi_some, mkArg_slot, ag_d, ag_own, ag_rd, ag_ownt, ag_iot, putC_ap, pc_own, pc_io, gfName_ap, gfNil_ap, gfCons_ap, gfTup_ap, seqSrc_slot, slotSrc_own, slotSrc_rd, fMut_ap, kMut2_ap, kSet3_ap, kSet2_ap, kSet_ap, fSetI_ap, fSetA_ap, kAtt_ap, kAtt2_ap, sa_ap, back_ap, bk_rd, mapEnv_ok, compK_lend, forK_lend, fEnum_ap, enumSrc_t, once_d3, once_dsd, lim_pos, Nat.reduceBEq, Nat.reduceAdd, Nat.reduceLeDiff, List.getElem?_cons_zero, List.getElem?_cons_succ, List.set_cons_zero, List.set_cons_succ, Out.bind_ok, Option.bind_some, Option.map_some, Bool.not_true, Bool.not_false, List.length_cons, List.length_nil, ix_0, ix_1, w_hh, gIn_s hx]
      rfl
    | neg hc =>
      unfold notD
      simp only [fC_ap, opd_ap, asD_d, asD_slot, asD_new, f1_ap, f2_ap, res_d, res_slot, resS_d, resS_own, resS_io, resS_rd, ress_nil, ress_cons, ofP_d, ofP_l, ofP_t, isB_b, fT_ap, gAnd_ap, gOr_ap, gNot_ap, fAnd_ap, fOr_ap, fNot_ap, fIf_ap, fNil_ap, fCons_ap, frz_d, frzs_nil, frzs_cons, fTup_ap, fLst_ap, isI_i, fPart_ap, fNo_ap, fSl_ap, fBlt_ap, fSeq_ap, seqK_next, seqK_brk, seqK_cont, seqK_ret, fSkip_ap, fIfS_ap, fDrop_ap, fAsg_ap, retK_d, retK_new, fRet_ap, fRetN_ap, turnK_next, turnK_cont, turnK_brk, turnK_ret, ofO_some, fFor_ap, forK_items, fSeqI_ap, seqSrc_l, seqSrc_t, seqSrc_s, fRng1_ap, fRng2_ap, fComp_ap, compK_items, gTrue_ap, k1_ap, o2_ap, k2b_ap, k2a_ap, kT_ap, kAnd_t, kAnd_f, kOr_t, kOr_f, kNot_ap, kAndE_t, kAndE_f, kOrE_t, kOrE_f, kNotE_ap, kIfE_t, kIfE_f, kIfS_t, kIfS_f, kCons2_ap, kCons_ap, kz2_ap, kz_ap, kTup2_ap, kTup_ap, kLst2_ap, kLst_ap, kPart_ap, kSl3_ap, kSl2_ap, kSl1_ap, kBlt_ap, kDrop_ap, kAsg2_ap, kAsg_ap, kRng1_ap, kRng2_ap, fCall_ap, kCall_ap, kCall2_ap, kCall3_ap, callK_d, callK_n, upds_io, upds_nil, upds_no, mkArgs_nil, mkArgs_cons, mkArgE_d, once1, once_dd, once_d2, once_s2, once_s3, once_s3d, kMut_ap, kLoop_ap, kLoop2_ap, fVar_ap, vr_d, vr_own, vr_io, vr_rd, noIo_ap, nio_no, nio_d, nio_own, nio_rd, frz_slot, fz_d, fz_own, gd_t, gs_t, store_d, store_new, retK_slot, rk_own, rk_d, lstAt_ap, la_own, la_io, mutAt_ap, ma_own, ma_io, mo_some, mi_some, mkArg_slot, ag_d, ag_own, ag_rd, ag_ownt, ag_iot, putC_ap, pc_own, pc_io, gfName_ap, gfNil_ap, gfCons_ap, gfTup_ap, seqSrc_slot, slotSrc_own, slotSrc_rd, fMut_ap, kMut2_ap, kSet3_ap, kSet2_ap, kSet_ap, fSetI_ap, fSetA_ap, kAtt_ap, kAtt2_ap, sa_ap, back_ap, bk_rd, mapEnv_ok, compK_lend, forK_lend, fEnum_ap, enumSrc_t, once_d3, once_dsd, lim_pos, Nat.reduceBEq, Nat.reduceAdd, Nat.reduceLeDiff, List.getElem?_cons_zero, List.getElem?_cons_succ, List.set_cons_zero, List.set_cons_succ, Out.bind_ok, Option.bind_some, Option.map_some, Bool.not_true, Bool.not_false, List.length_cons, List.length_nil, ix_0, ix_1, w_nh, w_nn, lholds_ok s k n _ _ hc]
      rfl
    | many b cs hl hc =>
      have h1 := compI_map (i := 3) (e := fCall [false, false] (run (n + k) 27) (fCons (fVar 3) (fCons (fVar 1) fNil))) (ρ := [.d (manyD b (cs.map (·.1))), .d (.str s), .no, .no]) (F := fun p : D × (Str → Bool) => p.1) (val := fun p => D.bl (p.2 s)) (xs := cs) rfl (by omega) (by
        intro p hp
        simp only [fC_ap, opd_ap, asD_d, asD_slot, asD_new, f1_ap, f2_ap, res_d, res_slot, resS_d, resS_own, resS_io, resS_rd, ress_nil, ress_cons, ofP_d, ofP_l, ofP_t, isB_b, fT_ap, gAnd_ap, gOr_ap, gNot_ap, fAnd_ap, fOr_ap, fNot_ap, fIf_ap, fNil_ap, fCons_ap, frz_d, frzs_nil, frzs_cons, fTup_ap, fLst_ap, isI_i, fPart_ap, fNo_ap, fSl_ap, fBlt_ap, fSeq_ap, seqK_next, seqK_brk, seqK_cont, seqK_ret, fSkip_ap, fIfS_ap, fDrop_ap, fAsg_ap, retK_d, retK_new, fRet_ap, fRetN_ap, turnK_next, turnK_cont, turnK_brk, turnK_ret, ofO_some, fFor_ap, forK_items, fSeqI_ap, seqSrc_l, seqSrc_t, seqSrc_s, fRng1_ap, fRng2_ap, fComp_ap, compK_items, gTrue_ap, k1_ap, o2_ap, k2b_ap, k2a_ap, kT_ap, kAnd_t, kAnd_f, kOr_t, kOr_f, kNot_ap, kAndE_t, kAndE_f, kOrE_t, kOrE_f, kNotE_ap, kIfE_t, kIfE_f, kIfS_t, kIfS_f, kCons2_ap, kCons_ap, kz2_ap, kz_ap, kTup2_ap, kTup_ap, kLst2_ap, kLst_ap, kPart_ap, kSl3_ap, kSl2_ap, kSl1_ap, kBlt_ap, kDrop_ap, kAsg2_ap, kAsg_ap, kRng1_ap, kRng2_ap, fCall_ap, kCall_ap, kCall2_ap, kCall3_ap, callK_d, callK_n, upds_io, upds_nil, upds_no, mkArgs_nil, mkArgs_cons, mkArgE_d, once1, once_dd, once_d2, once_s2, once_s3, once_s3d, kMut_ap, kLoop_ap, kLoop2_ap, fVar_ap, vr_d, vr_own, vr_io, vr_rd, noIo_ap, nio_no, nio_d, nio_own, nio_rd, frz_slot, fz_d, fz_own, gd_t, gs_t, store_d, store_new, retK_slot, rk_own, rk_d, lstAt_ap, la_own, la_io, mutAt_ap, ma_own, ma_io, mo_some, mi_some, mkArg_slot, ag_d, ag_own, ag_rd, ag_ownt, ag_iot, putC_ap, pc_own, pc_io, gfName_ap, gfNil_ap, gfCons_ap, gfTup_ap, seqSrc_slot, slotSrc_own, slotSrc_rd, fMut_ap, kMut2_ap, kSet3_ap, kSet2_ap, kSet_ap, fSetI_ap, fSetA_ap, kAtt_ap, kAtt2_ap, sa_ap, back_ap, bk_rd, mapEnv_ok, compK_lend, forK_lend, fEnum_ap, enumSrc_t, once_d3, once_dsd, lim_pos, Nat.reduceBEq, Nat.reduceAdd, Nat.reduceLeDiff, List.getElem?_cons_zero, List.getElem?_cons_succ, List.set_cons_zero, List.set_cons_succ, Out.bind_ok, Option.bind_some, Option.map_some, Bool.not_true, Bool.not_false, List.length_cons, List.length_nil, lholds_ok s k n _ _ (hc p hp)])
      have e1 : (cs.map fun p => D.bl (p.2 s)) = ((cs.map (·.2)).map fun f => f s).map D.bl := by rw [List.map_map, List.map_map]; rfl
      rw [e1] at h1
      have g1 := gNin_false ((cs.map (·.2)).map fun f => f s)
      have g2 := gIn_true ((cs.map (·.2)).map fun f => f s)
      unfold manyD at h1 ⊢
      unfold manyV
      cases b with
      | true =>
        simp only [fC_ap, opd_ap, asD_d, asD_slot, asD_new, f1_ap, f2_ap, res_d, res_slot, resS_d, resS_own, resS_io, resS_rd, ress_nil, ress_cons, ofP_d, ofP_l, ofP_t, isB_b, fT_ap, gAnd_ap, gOr_ap, gNot_ap, fAnd_ap, fOr_ap, fNot_ap, fIf_ap, fNil_ap, fCons_ap, frz_d, frzs_nil, frzs_cons, fTup_ap, fLst_ap, isI_i, fPart_ap, fNo_ap, fSl_ap, fBlt_ap, fSeq_ap, seqK_next, seqK_brk, seqK_cont, seqK_ret, fSkip_ap, fIfS_ap, fDrop_ap, fAsg_ap, retK_d, retK_new, fRet_ap, fRetN_ap, turnK_next, turnK_cont, turnK_brk, turnK_ret, ofO_some, fFor_ap, forK_items, fSeqI_ap, seqSrc_l, seqSrc_t, seqSrc_s, fRng1_ap, fRng2_ap, fComp_ap, compK_items, gTrue_ap, k1_ap, o2_ap, k2b_ap, k2a_ap, kT_ap, kAnd_t, kAnd_f, kOr_t, kOr_f, kNot_ap, kAndE_t, kAndE_f, kOrE_t, kOrE_f, kNotE_ap, kIfE_t, kIfE_f, kIfS_t, kIfS_f, kCons2_ap, kCons_ap, kz2_ap, kz_ap, kTup2_ap, kTup_ap, kLst2_ap, kLst_ap, kPart_ap, kSl3_ap, kSl2_ap, kSl1_ap, kBlt_ap, kDrop_ap, kAsg2_ap, kAsg_ap, kRng1_ap, kRng2_ap, fCall_ap, kCall_ap, kCall2_ap, kCall3_ap, callK_d, callK_n, upds_io, upds_nil, upds_no, mkArgs_nil, mkArgs_cons, mkArgE_d, once1, once_dd, once_d2, once_s2, once_s3, once_s3d, kMut_ap, kLoop_ap, kLoop2_ap, fVar_ap, vr_d, vr_own, vr_io, vr_rd, noIo_ap, nio_no, nio_d, nio_own, nio_rd, frz_slot, fz_d, fz_own, gd_t, gs_t, store_d, store_new, retK_slot, rk_own, rk_d, lstAt_ap, la_own, la_io, mutAt_ap, ma_own, ma_io, mo_some, mi_some, mkArg_slot, ag_d, ag_own, ag_rd, ag_ownt, ag_iot, putC_ap, pc_own, pc_io, gfName_ap, gfNil_ap, gfCons_ap, gfTup_ap, seqSrc_slot, slotSrc_own, slotSrc_rd, fMut_ap, kMut2_ap, kSet3_ap, kSet2_ap, kSet_ap, fSetI_ap, fSetA_ap, kAtt_ap, kAtt2_ap, sa_ap, back_ap, bk_rd, mapEnv_ok, compK_lend, forK_lend, fEnum_ap, enumSrc_t, once_d3, once_dsd, lim_pos, Nat.reduceBEq, Nat.reduceAdd, Nat.reduceLeDiff, List.getElem?_cons_zero, List.getElem?_cons_succ, List.set_cons_zero, List.set_cons_succ, Out.bind_ok, Option.bind_some, Option.map_some, Bool.not_true, Bool.not_false, List.length_cons, List.length_nil, ix_0, ix_1, w_ah, w_an, w_aa, h1, g1]
        rfl
      | false =>
        simp only [fC_ap, opd_ap, asD_d, asD_slot, asD_new, f1_ap, f2_ap, res_d, res_slot, resS_d, resS_own, resS_io, resS_rd, ress_nil, ress_cons, ofP_d, ofP_l, ofP_t, isB_b, fT_ap, gAnd_ap, gOr_ap, gNot_ap, fAnd_ap, fOr_ap, fNot_ap, fIf_ap, fNil_ap, fCons_ap, frz_d, frzs_nil, frzs_cons, fTup_ap, fLst_ap, isI_i, fPart_ap, fNo_ap, fSl_ap, fBlt_ap, fSeq_ap, seqK_next, seqK_brk, seqK_cont, seqK_ret, fSkip_ap, fIfS_ap, fDrop_ap, fAsg_ap, retK_d, retK_new, fRet_ap, fRetN_ap, turnK_next, turnK_cont, turnK_brk, turnK_ret, ofO_some, fFor_ap, forK_items, fSeqI_ap, seqSrc_l, seqSrc_t, seqSrc_s, fRng1_ap, fRng2_ap, fComp_ap, compK_items, gTrue_ap, k1_ap, o2_ap, k2b_ap, k2a_ap, kT_ap, kAnd_t, kAnd_f, kOr_t, kOr_f, kNot_ap, kAndE_t, kAndE_f, kOrE_t, kOrE_f, kNotE_ap, kIfE_t, kIfE_f, kIfS_t, kIfS_f, kCons2_ap, kCons_ap, kz2_ap, kz_ap, kTup2_ap, kTup_ap, kLst2_ap, kLst_ap, kPart_ap, kSl3_ap, kSl2_ap, kSl1_ap, kBlt_ap, kDrop_ap, kAsg2_ap, kAsg_ap, kRng1_ap, kRng2_ap, fCall_ap, kCall_ap, kCall2_ap, kCall3_ap, callK_d, callK_n, upds_io, upds_nil, upds_no, mkArgs_nil, mkArgs_cons, mkArgE_d, once1, once_dd, once_d2, once_s2, once_s3, once_s3d, kMut_ap, kLoop_ap, kLoop2_ap, fVar_ap, vr_d, vr_own, vr_io, vr_rd, noIo_ap, nio_no, nio_d, nio_own, nio_rd, frz_slot, fz_d, fz_own, gd_t, gs_t, store_d, store_new, retK_slot, rk_own, rk_d, lstAt_ap, la_own, la_io, mutAt_ap, ma_own, ma_io, mo_some, mi_some, mkArg_slot, ag_d, ag_own, ag_rd, ag_ownt, ag_iot, putC_ap, pc_own, pc_io, gfName_ap, gfNil_ap, gfCons_ap, gfTup_ap, seqSrc_slot, slotSrc_own, slotSrc_rd, fMut_ap, kMut2_ap, kSet3_ap, kSet2_ap, kSet_ap, fSetI_ap, fSetA_ap, kAtt_ap, kAtt2_ap, sa_ap, back_ap, bk_rd, mapEnv_ok, compK_lend, forK_lend, fEnum_ap, enumSrc_t, once_d3, once_dsd, lim_pos, Nat.reduceBEq, Nat.reduceAdd, Nat.reduceLeDiff, List.getElem?_cons_zero, List.getElem?_cons_succ, List.set_cons_zero, List.set_cons_succ, Out.bind_ok, Option.bind_some, Option.map_some, Bool.not_true, Bool.not_false, List.length_cons, List.length_nil, ix_0, ix_1, w_ah, w_an, w_aa, h1, g2]
        rfl
theorem chkmarks_ok (n : Nat) (hm : m ∈ marks9) : run (n + 3) 5 [.d (.str m)] = .ret (.d .non) [none] := by
  show finF _ (b5 (run (n + 2)) [.d (.str m)]) = _
  unfold b5
  simp only [fC_ap, opd_ap, asD_d, asD_slot, asD_new, f1_ap, f2_ap, res_d, res_slot, resS_d, resS_own, resS_io, resS_rd, ress_nil, ress_cons, ofP_d, ofP_l, ofP_t, isB_b, fT_ap, gAnd_ap, gOr_ap, gNot_ap, fAnd_ap, fOr_ap, fNot_ap, fIf_ap, fNil_ap, fCons_ap, frz_d, frzs_nil, frzs_cons, fTup_ap, fLst_ap, isI_i, fPart_ap, fNo_ap, fSl_ap, fBlt_ap, fSeq_ap, seqK_next, seqK_brk, seqK_cont, seqK_ret, fSkip_ap, fIfS_ap, fDrop_ap, fAsg_ap, retK_d, retK_new, fRet_ap, fRetN_ap, turnK_next, turnK_cont, turnK_brk, turnK_ret, ofO_some, fFor_ap, forK_items, fSeqI_ap, seqSrc_l, seqSrc_t, seqSrc_s, fRng1_ap, fRng2_ap, fComp_ap, compK_items, gTrue_ap, k1_ap, o2_ap, k2b_ap, k2a_ap, kT_ap, kAnd_t, kAnd_f, kOr_t, kOr_f, kNot_ap, kAndE_t, kAndE_f, kOrE_t, kOrE_f, kNotE_ap, kIfE_t, kIfE_f, kIfS_t, kIfS_f, kCons2_ap, kCons_ap, kz2_ap, kz_ap, kTup2_ap, kTup_ap, kLst2_ap, kLst_ap, kPart_ap, kSl3_ap, kSl2_ap, kSl1_ap, kBlt_ap, kDrop_ap, kAsg2_ap, kAsg_ap, kRng1_ap, kRng2_ap, fCall_ap, kCall_ap, kCall2_ap, kCall3_ap, callK_d, callK_n, upds_io, upds_nil, upds_no, mkArgs_nil, mkArgs_cons, mkArgE_d, once1, once_dd, once_d2, once_s2, once_s3, once_s3d, kMut_ap, kLoop_ap, kLoop2_ap, fVar_ap, vr_d, vr_own, vr_io, vr_rd, noIo_ap, nio_no, nio_d, nio_own, nio_rd, frz_slot, fz_d, fz_own, gd_t, gs_t, store_d, store_new, retK_slot, rk_own, rk_d, lstAt_ap, la_own, la_io, mutAt_ap, ma_own, ma_io, mo_some, mi_some, mkArg_slot, ag_d, ag_own, ag_rd, ag_ownt, ag_iot, putC_ap, pc_own, pc_io, gfName_ap, gfNil_ap, gfCons_ap, gfTup_ap, seqSrc_slot, slotSrc_own, slotSrc_rd, fMut_ap, kMut2_ap, kSet3_ap, kSet2_ap, kSet_ap, fSetI_ap, fSetA_ap, kAtt_ap, kAtt2_ap, sa_ap, back_ap, bk_rd, mapEnv_ok, compK_lend, forK_lend, fEnum_ap, enumSrc_t, once_d3, once_dsd, lim_pos, Nat.reduceBEq, Nat.reduceAdd, Nat.reduceLeDiff, List.getElem?_cons_zero, List.getElem?_cons_succ, List.set_cons_zero, List.set_cons_succ, Out.bind_ok, Option.bind_some, Option.map_some, Bool.not_true, Bool.not_false, List.length_cons, List.length_nil, ismarks_ok (n := n) hm]
  rfl
theorem chkcond_ok (k n : Nat) (hk : k ≤ 5) (d : D) (f : Str → Bool) (h : Cv m k d f) : run (n + 2 * k + 1) 11 [.d (.str m), .d d] = .ret (.d .non) [none, none] := by
  obtain ⟨s, t, h1, _, _, _, h5⟩ := size_ok k hk n d f h
  have h6 := known_ok k (n + k) d f h
  have e : n + k + k = n + 2 * k := by omega
  rw [e] at h6
  have e0 : ((s : Int) == 0) = false := by rw [beq_eq_false_iff_ne]; omega
  show finF _ (b11 (run (n + 2 * k)) [.d (.str m), .d d]) = _
  unfold b11
  simp only [fC_ap, opd_ap, asD_d, asD_slot, asD_new, f1_ap, f2_ap, res_d, res_slot, resS_d, resS_own, resS_io, resS_rd, ress_nil, ress_cons, ofP_d, ofP_l, ofP_t, isB_b, fT_ap, gAnd_ap, gOr_ap, gNot_ap, fAnd_ap, fOr_ap, fNot_ap, fIf_ap, fNil_ap, fCons_ap, frz_d, frzs_nil, frzs_cons, fTup_ap, fLst_ap, isI_i, fPart_ap, fNo_ap, fSl_ap, fBlt_ap, fSeq_ap, seqK_next, seqK_brk, seqK_cont, seqK_ret, fSkip_ap, fIfS_ap, fDrop_ap, fAsg_ap, retK_d, retK_new, fRet_ap, fRetN_ap, turnK_next, turnK_cont, turnK_brk, turnK_ret, ofO_some, fFor_ap, forK_items, fSeqI_ap, seqSrc_l, seqSrc_t, seqSrc_s, fRng1_ap, fRng2_ap, fComp_ap, compK_items, gTrue_ap, k1_ap, o2_ap, k2b_ap, k2a_ap, kT_ap, kAnd_t, kAnd_f, kOr_t, kOr_f, kNot_ap, kAndE_t, kAndE_f, kOrE_t, kOrE_f, kNotE_ap, kIfE_t, kIfE_f, kIfS_t, kIfS_f, kCons2_ap, kCons_ap, kz2_ap, kz_ap, kTup2_ap, kTup_ap, kLst2_ap, kLst_ap, kPart_ap, kSl3_ap, kSl2_ap, kSl1_ap, kBlt_ap, kDrop_ap, kAsg2_ap, kAsg_ap, kRng1_ap, kRng2_ap, fCall_ap, kCall_ap, kCall2_ap, kCall3_ap, callK_d, callK_n, upds_io, upds_nil, upds_no, mkArgs_nil, mkArgs_cons, mkArgE_d, once1, once_dd, once_d2, once_s2, once_s3, once_s3d, kMut_ap, kLoop_ap, kLoop2_ap, fVar_ap, vr_d, vr_own, vr_io, vr_rd, noIo_ap, nio_no, nio_d, nio_own, nio_rd, frz_slot, fz_d, fz_own, gd_t, gs_t, store_d, store_new, retK_slot, rk_own, rk_d, lstAt_ap, la_own, la_io, mutAt_ap, ma_own, ma_io, mo_some, mi_some, mkArg_slot, ag_d, ag_own, ag_rd, ag_ownt, ag_iot, putC_ap, pc_own, pc_io, gfName_ap, gfNil_ap, gfCons_ap, gfTup_ap, seqSrc_slot, slotSrc_own, slotSrc_rd, fMut_ap, kMut2_ap, kSet3_ap, kSet2_ap, kSet_ap, fSetI_ap, fSetA_ap, kAtt_ap, kAtt2_ap, sa_ap, back_ap, bk_rd, mapEnv_ok, compK_lend, forK_lend, fEnum_ap, enumSrc_t, once_d3, once_dsd, lim_pos, Nat.reduceBEq, Nat.reduceAdd, Nat.reduceLeDiff, List.getElem?_cons_zero, List.getElem?_cons_succ, List.set_cons_zero, List.set_cons_succ, Out.bind_ok, Option.bind_some, Option.map_some, Bool.not_true, Bool.not_false, List.length_cons, List.length_nil, h5, ix_0, gEq_i, e0, h6]
  rfl
theorem f_kinds2 : marks9.all (fun m => resStrs (run 1 7 [.d (.str m)]) == some (every m)) = true := by decide +kernel
theorem run_allk : run (n + 1) 7 = run 1 7 := by
  show defF 1 4 (b7 (run n)) = defF 1 4 (b7 (run 0))
  unfold b7
  rfl
theorem allk_ok (n : Nat) (hm : m ∈ marks9) : run (n + 1) 7 [.d (.str m)] = .ret (.new (.lst ((every m).map D.str))) [none] := by
  have h : (resStrs (run 1 7 [.d (.str m)]) == some (every m)) = true := List.all_eq_true.mp f_kinds2 m hm
  rw [run_allk]
  exact resStrs_inv (eq_of_beq h)
/-- the lot of a condition -/
def lotV (m : Str) (f : Str → Bool) : List Str := (every m).filter f
theorem lotof_ok (n : Nat) (hm : m ∈ marks9) (d : D) (f : Str → Bool) (h : Cv m 5 d f) : run (n + 12) 13 [.d (.str m), .d d] = .ret (.d (lotD (lotV m f))) [none, none] := by
  have h1 := compI_pure (i := 2) (c := fT (fCall [false, false] (run (n + 11) 12) (fCons (fVar 1) (fCons (fVar 2) fNil)))) (e := fVar 2) (ρ := [.d (.str m), .d d, .no]) (F := D.str) (keep := f) (val := D.str) (xs := every m) rfl (by have := (elen hm).2; omega) (by
    intro s hs
    have e := holds_ok s 5 (n + 6) d f h
    constructor
    · simp only [fC_ap, opd_ap, asD_d, asD_slot, asD_new, f1_ap, f2_ap, res_d, res_slot, resS_d, resS_own, resS_io, resS_rd, ress_nil, ress_cons, ofP_d, ofP_l, ofP_t, isB_b, fT_ap, gAnd_ap, gOr_ap, gNot_ap, fAnd_ap, fOr_ap, fNot_ap, fIf_ap, fNil_ap, fCons_ap, frz_d, frzs_nil, frzs_cons, fTup_ap, fLst_ap, isI_i, fPart_ap, fNo_ap, fSl_ap, fBlt_ap, fSeq_ap, seqK_next, seqK_brk, seqK_cont, seqK_ret, fSkip_ap, fIfS_ap, fDrop_ap, fAsg_ap, retK_d, retK_new, fRet_ap, fRetN_ap, turnK_next, turnK_cont, turnK_brk, turnK_ret, ofO_some, fFor_ap, forK_items, fSeqI_ap, seqSrc_l, seqSrc_t, seqSrc_s, fRng1_ap, fRng2_ap, fComp_ap, compK_items, gTrue_ap, k1_ap, o2_ap, k2b_ap, k2a_ap, kT_ap, kAnd_t, kAnd_f, kOr_t, kOr_f, kNot_ap, kAndE_t, kAndE_f, kOrE_t, kOrE_f, kNotE_ap, kIfE_t, kIfE_f, kIfS_t, kIfS_f, kCons2_ap, kCons_ap, kz2_ap, kz_ap, kTup2_ap, kTup_ap, kLst2_ap, kLst_ap, kPart_ap, kSl3_ap, kSl2_ap, kSl1_ap, kBlt_ap, kDrop_ap, kAsg2_ap, kAsg_ap, kRng1_ap, kRng2_ap, fCall_ap, kCall_ap, kCall2_ap, kCall3_ap, callK_d, callK_n, upds_io, upds_nil, upds_no, mkArgs_nil, mkArgs_cons, mkArgE_d, once1, once_dd, once_d2, once_s2, once_s3, once_s3d, kMut_ap, kLoop_ap, kLoop2_ap, fVar_ap, vr_d, vr_own, vr_io, vr_rd, noIo_ap, nio_no, nio_d, nio_own, nio_rd, frz_slot, fz_d, fz_own, gd_t, gs_t, store_d, store_new, retK_slot, rk_own, rk_d, lstAt_ap, la_own, la_io, mutAt_ap, ma_own, ma_io, mo_some, mi_some, mkArg_slot, ag_d, ag_own, ag_rd, ag_ownt, ag_iot, putC_ap, pc_own, pc_io, gfName_ap, gfNil_ap, gfCons_ap, gfTup_ap, seqSrc_slot, slotSrc_own, slotSrc_rd, fMut_ap, kMut2_ap, kSet3_ap, kSet2_ap, kSet_ap, fSetI_ap, fSetA_ap, kAtt_ap, kAtt2_ap, sa_ap, back_ap, bk_rd, mapEnv_ok, compK_lend, forK_lend, fEnum_ap, enumSrc_t, once_d3, once_dsd, lim_pos, Nat.reduceBEq, Nat.reduceAdd, Nat.reduceLeDiff, List.getElem?_cons_zero, List.getElem?_cons_succ, List.set_cons_zero, List.set_cons_succ, Out.bind_ok, Option.bind_some, Option.map_some, Bool.not_true, Bool.not_false, List.length_cons, List.length_nil, e]
    · intro _
      simp only [fC_ap, opd_ap, asD_d, asD_slot, asD_new, f1_ap, f2_ap, res_d, res_slot, resS_d, resS_own, resS_io, resS_rd, ress_nil, ress_cons, ofP_d, ofP_l, ofP_t, isB_b, fT_ap, gAnd_ap, gOr_ap, gNot_ap, fAnd_ap, fOr_ap, fNot_ap, fIf_ap, fNil_ap, fCons_ap, frz_d, frzs_nil, frzs_cons, fTup_ap, fLst_ap, isI_i, fPart_ap, fNo_ap, fSl_ap, fBlt_ap, fSeq_ap, seqK_next, seqK_brk, seqK_cont, seqK_ret, fSkip_ap, fIfS_ap, fDrop_ap, fAsg_ap, retK_d, retK_new, fRet_ap, fRetN_ap, turnK_next, turnK_cont, turnK_brk, turnK_ret, ofO_some, fFor_ap, forK_items, fSeqI_ap, seqSrc_l, seqSrc_t, seqSrc_s, fRng1_ap, fRng2_ap, fComp_ap, compK_items, gTrue_ap, k1_ap, o2_ap, k2b_ap, k2a_ap, kT_ap, kAnd_t, kAnd_f, kOr_t, kOr_f, kNot_ap, kAndE_t, kAndE_f, kOrE_t, kOrE_f, kNotE_ap, kIfE_t, kIfE_f, kIfS_t, kIfS_f, kCons2_ap, kCons_ap, kz2_ap, kz_ap, kTup2_ap, kTup_ap, kLst2_ap, kLst_ap, kPart_ap, kSl3_ap, kSl2_ap, kSl1_ap, kBlt_ap, kDrop_ap, kAsg2_ap, kAsg_ap, kRng1_ap, kRng2_ap, fCall_ap, kCall_ap, kCall2_ap, kCall3_ap, callK_d, callK_n, upds_io, upds_nil, upds_no, mkArgs_nil, mkArgs_cons, mkArgE_d, once1, once_dd, once_d2, once_s2, once_s3, once_s3d, kMut_ap, kLoop_ap, kLoop2_ap, fVar_ap, vr_d, vr_own, vr_io, vr_rd, noIo_ap, nio_no, nio_d, nio_own, nio_rd, frz_slot, fz_d, fz_own, gd_t, gs_t, store_d, store_new, retK_slot, rk_own, rk_d, lstAt_ap, la_own, la_io, mutAt_ap, ma_own, ma_io, mo_some, mi_some, mkArg_slot, ag_d, ag_own, ag_rd, ag_ownt, ag_iot, putC_ap, pc_own, pc_io, gfName_ap, gfNil_ap, gfCons_ap, gfTup_ap, seqSrc_slot, slotSrc_own, slotSrc_rd, fMut_ap, kMut2_ap, kSet3_ap, kSet2_ap, kSet_ap, fSetI_ap, fSetA_ap, kAtt_ap, kAtt2_ap, sa_ap, back_ap, bk_rd, mapEnv_ok, compK_lend, forK_lend, fEnum_ap, enumSrc_t, once_d3, once_dsd, lim_pos, Nat.reduceBEq, Nat.reduceAdd, Nat.reduceLeDiff, List.getElem?_cons_zero, List.getElem?_cons_succ, List.set_cons_zero, List.set_cons_succ, Out.bind_ok, Option.bind_some, Option.map_some, Bool.not_true, Bool.not_false, List.length_cons, List.length_nil])
  have h2 := chkcond_ok 5 n (by decide) d f h
  show finF _ (b13 (run (n + 11)) [.d (.str m), .d d, .no]) = _
  unfold b13 lotV lotD
  simp only [fC_ap, opd_ap, asD_d, asD_slot, asD_new, f1_ap, f2_ap, res_d, res_slot, resS_d, resS_own, resS_io, resS_rd, ress_nil, ress_cons, ofP_d, ofP_l, ofP_t, isB_b, fT_ap, gAnd_ap, gOr_ap, gNot_ap, fAnd_ap, fOr_ap, fNot_ap, fIf_ap, fNil_ap, fCons_ap, frz_d, frzs_nil, frzs_cons, fTup_ap, fLst_ap, isI_i, fPart_ap, fNo_ap, fSl_ap, fBlt_ap, fSeq_ap, seqK_next, seqK_brk, seqK_cont, seqK_ret, fSkip_ap, fIfS_ap, fDrop_ap, fAsg_ap, retK_d, retK_new, fRet_ap, fRetN_ap, turnK_next, turnK_cont, turnK_brk, turnK_ret, ofO_some, fFor_ap, forK_items, fSeqI_ap, seqSrc_l, seqSrc_t, seqSrc_s, fRng1_ap, fRng2_ap, fComp_ap, compK_items, gTrue_ap, k1_ap, o2_ap, k2b_ap, k2a_ap, kT_ap, kAnd_t, kAnd_f, kOr_t, kOr_f, kNot_ap, kAndE_t, kAndE_f, kOrE_t, kOrE_f, kNotE_ap, kIfE_t, kIfE_f, kIfS_t, kIfS_f, kCons2_ap, kCons_ap, kz2_ap, kz_ap, kTup2_ap, kTup_ap, kLst2_ap, kLst_ap, kPart_ap, kSl3_ap, kSl2_ap, kSl1_ap, kBlt_ap, kDrop_ap, kAsg2_ap, kAsg_ap, kRng1_ap, kRng2_ap, fCall_ap, kCall_ap, kCall2_ap, kCall3_ap, callK_d, callK_n, upds_io, upds_nil, upds_no, mkArgs_nil, mkArgs_cons, mkArgE_d, once1, once_dd, once_d2, once_s2, once_s3, once_s3d, kMut_ap, kLoop_ap, kLoop2_ap, fVar_ap, vr_d, vr_own, vr_io, vr_rd, noIo_ap, nio_no, nio_d, nio_own, nio_rd, frz_slot, fz_d, fz_own, gd_t, gs_t, store_d, store_new, retK_slot, rk_own, rk_d, lstAt_ap, la_own, la_io, mutAt_ap, ma_own, ma_io, mo_some, mi_some, mkArg_slot, ag_d, ag_own, ag_rd, ag_ownt, ag_iot, putC_ap, pc_own, pc_io, gfName_ap, gfNil_ap, gfCons_ap, gfTup_ap, seqSrc_slot, slotSrc_own, slotSrc_rd, fMut_ap, kMut2_ap, kSet3_ap, kSet2_ap, kSet_ap, fSetI_ap, fSetA_ap, kAtt_ap, kAtt2_ap, sa_ap, back_ap, bk_rd, mapEnv_ok, compK_lend, forK_lend, fEnum_ap, enumSrc_t, once_d3, once_dsd, lim_pos, Nat.reduceBEq, Nat.reduceAdd, Nat.reduceLeDiff, List.getElem?_cons_zero, List.getElem?_cons_succ, List.set_cons_zero, List.set_cons_succ, Out.bind_ok, Option.bind_some, Option.map_some, Bool.not_true, Bool.not_false, List.length_cons, List.length_nil, chkmarks_ok (n + 8) hm, h2, allk_ok (n + 10) hm, h1, gTuple_l]
  rfl
end KK

set_option Elab.async false
set_option linter.all false
set_option maxRecDepth 100000
set_option maxHeartbeats 4000000
namespace KK
open PySem L2 Nz
open Nz (D Arg)
variable {m : Str} {n : Nat}
/-! ### texts as lists of code points -/
def T (cs : List Nat) : Str := ⟨cs.toArray⟩
def TD (l : List Nat) : D := .str (T l)
def Sm (cs : List Nat) : Prop := ∀ c ∈ cs, 97 ≤ c ∧ c ≤ 122
theorem T_of (s : Str) : T s.cps.toList = s := by
  show (⟨s.cps.toList.toArray⟩ : Str) = s
  rfl
theorem T_len (cs : List Nat) : (T cs).length = cs.length := rfl
theorem T_inj {a b : List Nat} (h : T a = T b) : a = b := congrArg (fun s : Str => s.cps.toList) h
theorem T_take {k : List Nat} (h : k.length ≤ 1000) : gSl (.str (T k)) none (some 1) = some (.d (.str (T (k.take 1)))) := by
  show (if (T k).length ≤ 100000 then some (Pr.d (.str (cutS (T k) none (some ((1 : Nat) : Int))))) else none) = _
  rw [if_pos (by rw [T_len]; omega)]
  have e : cutS (T k) none (some ((1 : Nat) : Int)) = T (k.take 1) := by
    show (⟨((k.drop (HT.sIx k.length 0 none)).take (HT.sIx k.length k.length (some ((1 : Nat) : Int)) - HT.sIx k.length 0 none)).toArray⟩ : Str) = _
    rw [HT.sIx_none, HT.sIx_nat, List.drop_zero, Nat.sub_zero, ← List.take_eq_take_min]
    rfl
  rw [e]
theorem T_drop {k : List Nat} (h : k.length ≤ 1000) : gSl (.str (T k)) (some 1) none = some (.d (.str (T (k.drop 1)))) := by
  show (if (T k).length ≤ 100000 then some (Pr.d (.str (cutS (T k) (some ((1 : Nat) : Int)) none))) else none) = _
  rw [if_pos (by rw [T_len]; omega)]
  have e : cutS (T k) (some ((1 : Nat) : Int)) none = T (k.drop 1) := by
    show (⟨((k.drop (HT.sIx k.length 0 (some ((1 : Nat) : Int)))).take (HT.sIx k.length k.length none - HT.sIx k.length 0 (some ((1 : Nat) : Int)))).toArray⟩ : Str) = _
    rw [HT.sIx_none, HT.sIx_nat]
    have e2 : (k.drop (min 1 k.length)).take (k.length - min 1 k.length) = k.drop 1 := by
      cases k with
      | nil => rfl
      | cons a k =>
        have : min 1 (a :: k).length = 1 := by rw [List.length_cons]; omega
        rw [this]
        exact List.take_of_length_le (by simp)
    rw [e2]
    rfl
  rw [e]
theorem T_ok {l : List Nat} (h : Sm l) : PyData.strOk (T l) = true := by
  show (l.toArray.all (· < 0x110000)) = true
  rw [← Array.all_toList, List.all_eq_true]
  intro c hc
  have := (h c hc).2
  exact decide_eq_true (by omega)
theorem eqD_T {a b : List Nat} (ha : Sm a) (hb : Sm b) : eqD (.str (T a)) (.str (T b)) = some (a == b) := by
  have s : ∀ l, Sm l → SeqAt.shaped (.str (T l)) = true := fun l hl => by
    unfold SeqAt.shaped
    rw [PyData.canLay0, T_ok hl, PyData.depth]
    rfl
  show ((some (PyData.str (T a))).bind fun p => (some (PyData.str (T b))).bind fun q => if SeqAt.shaped p && SeqAt.shaped q then some (PyData.eqv p q) else none) = _
  simp only [Option.bind_some, s a ha, s b hb, Bool.and_self, if_true]
  rw [PyData.eqv]
  congr 1
  rw [Bool.eq_iff_iff, beq_iff_eq, beq_iff_eq]
  exact ⟨T_inj, fun h => by rw [h]⟩
theorem gEq_T {a b : List Nat} (ha : Sm a) (hb : Sm b) : gEq (.str (T a)) (.str (T b)) = some (.d (.bl (a == b))) := by unfold gEq; rw [eqD_T ha hb]; rfl
theorem gNe_T {a b : List Nat} (ha : Sm a) (hb : Sm b) : gNe (.str (T a)) (.str (T b)) = some (.d (.bl !(a == b))) := by unfold gNe; rw [eqD_T ha hb]; rfl
/-! ### the ends of the marks -/
def sfx : List (List Nat) := marks9.flatMap fun m => (List.range (m.cps.toList.length + 1)).map fun i => m.cps.toList.drop i
def lenIs (o : FOut) (k : Nat) : Bool := match o with
  | .ret (.new (.lst ds)) [none] => ds.length == k
  | _ => false
theorem f_sfx : sfx.all (fun cs => lenIs (run 1 7 [.d (.str (T cs))]) (2 ^ cs.length) && decide (cs.length ≤ 5) && cs.all (fun c => decide (97 ≤ c) && decide (c ≤ 122)) && sfx.contains (cs.drop 1) && decide (cs.Pairwise (· < ·))) = true := by decide +kernel
theorem sfx_of {cs : List Nat} (h : cs ∈ sfx) : (∃ ds, ds.length = 2 ^ cs.length ∧ run 1 7 [.d (.str (T cs))] = .ret (.new (.lst ds)) [none]) ∧ cs.length ≤ 5 ∧ Sm cs ∧ cs.drop 1 ∈ sfx ∧ cs.Pairwise (· < ·) := by
  have h := List.all_eq_true.mp f_sfx cs h
  rw [Bool.and_eq_true, Bool.and_eq_true, Bool.and_eq_true, Bool.and_eq_true] at h
  obtain ⟨⟨⟨⟨h1, h2⟩, h3⟩, h4⟩, h5⟩ := h
  refine ⟨?_, of_decide_eq_true h2, fun c hc => ?_, List.contains_iff_mem.mp h4, of_decide_eq_true h5⟩
  · unfold lenIs at h1
    split at h1
    · rename_i ds e
      exact ⟨ds, eq_of_beq h1, e⟩
    · cases h1
  · have := List.all_eq_true.mp h3 c hc
    rw [Bool.and_eq_true] at this
    exact ⟨of_decide_eq_true this.1, of_decide_eq_true this.2⟩
theorem f_msfx : marks9.all (fun m => sfx.contains m.cps.toList) = true := by decide +kernel
theorem m_sfx (hm : m ∈ marks9) : m.cps.toList ∈ sfx := List.contains_iff_mem.mp (List.all_eq_true.mp f_msfx m hm)
theorem run_allk0 : run (n + 1) 7 = run 1 7 := by
  show defF 1 4 (b7 (run n)) = defF 1 4 (b7 (run 0))
  unfold b7
  rfl
/-! ### split_of: what it computes -/
def own (c : Nat) (lot : List (List Nat)) : List (List Nat) := (lot.filter fun k => k.take 1 == [c]).map (·.drop 1)
def rst (c : Nat) (lot : List (List Nat)) : List (List Nat) := lot.filter fun k => !(k.take 1 == [c])
def spl : List Nat → List (List Nat) → D
  | [], lot => if lot.length = 0 then manyD false [] else manyD true []
  | c :: cs, lot => if lot.length = 0 then manyD false [] else if lot.length = 2 ^ (c :: cs).length then manyD true [] else
    manyD false [manyD true [leafD (T [c]), spl cs (own c lot)], manyD true [notD (leafD (T [c])), spl cs (rst c lot)]]
structure Kd (cs : List Nat) (lot : List (List Nat)) : Prop where
  nd : lot.Nodup
  sb : ∀ k ∈ lot, k.Sublist cs
theorem take_one {c : Nat} {k : List Nat} (h : (k.take 1 == [c]) = true) : k = c :: k.drop 1 := by
  cases k with
  | nil => cases h
  | cons a k =>
    have : [a] = [c] := eq_of_beq h
    injection this with h1
    subst h1
    rfl
theorem Kd.own {c : Nat} {cs : List Nat} {lot : List (List Nat)} (h : Kd (c :: cs) lot) : Kd cs (own c lot) := by
  refine ⟨?_, fun k hk => ?_⟩
  · unfold KK.own
    rw [List.Nodup, List.pairwise_map]
    refine (List.Pairwise.filter _ h.nd).imp_of_mem fun {a b} ha hb hab e => hab ?_
    rw [take_one (List.mem_filter.mp ha).2, take_one (List.mem_filter.mp hb).2, e]
  · obtain ⟨k0, h0, rfl⟩ := List.mem_map.mp hk
    obtain ⟨h1, h2⟩ := List.mem_filter.mp h0
    have := h.sb k0 h1
    rw [take_one h2] at this
    exact List.cons_sublist_cons.mp this
theorem Kd.rst {c : Nat} {cs : List Nat} {lot : List (List Nat)} (h : Kd (c :: cs) lot) : Kd cs (rst c lot) := by
  refine ⟨List.Pairwise.filter _ h.nd, fun k hk => ?_⟩
  obtain ⟨h1, h2⟩ := List.mem_filter.mp hk
  have hs := h.sb k h1
  cases k with
  | nil => exact List.nil_sublist _
  | cons a k =>
    cases hs with
    | cons _ h3 => exact h3
    | cons_cons _ h3 =>
      have : ((c :: k).take 1 == [c]) = true := by simp
      rw [this] at h2
      cases h2
theorem len_parts {c : Nat} (lot : List (List Nat)) : (own c lot).length + (rst c lot).length = lot.length := by
  unfold own rst
  rw [List.length_map]
  induction lot with
  | nil => rfl
  | cons k lot ih =>
    rw [List.filter_cons, List.filter_cons]
    cases q : (k.take 1 == [c]) with
    | true => simp only [if_true, Bool.not_true, Bool.false_eq_true, if_false, List.length_cons]; omega
    | false => simp only [Bool.false_eq_true, if_false, Bool.not_false, if_true, List.length_cons]; omega
theorem Kd.len : ∀ {cs : List Nat} {lot : List (List Nat)}, Kd cs lot → lot.length ≤ 2 ^ cs.length
  | [], lot, h => by
    match lot, h with
    | [], _ => exact Nat.zero_le _
    | [k], _ => exact Nat.le_refl _
    | k :: k2 :: lot, h =>
      have h1 := List.sublist_nil.mp (h.sb k (by simp))
      have h2 := List.sublist_nil.mp (h.sb k2 (by simp))
      have := (List.pairwise_cons.mp h.nd).1 k2 (by simp)
      exact absurd (h1.trans h2.symm) this
  | c :: cs, lot, h => by
    have h1 := (Kd.own h).len
    have h2 := (Kd.rst h).len
    have h3 := len_parts (c := c) lot
    rw [List.length_cons, Nat.pow_succ]
    omega
theorem Kd.full : ∀ {cs : List Nat} {lot : List (List Nat)}, Kd cs lot → lot.length = 2 ^ cs.length → ∀ y, y.Sublist cs → y ∈ lot
  | [], lot, h, hl, y, hy => by
    have hy := List.sublist_nil.mp hy
    subst hy
    match lot, h, hl with
    | [], _, hl => cases hl
    | k :: lot, h, _ =>
      have h1 := List.sublist_nil.mp (h.sb k (by simp))
      rw [h1]
      simp
  | c :: cs, lot, h, hl, y, hy => by
    have h1 := (Kd.own h).len
    have h2 := (Kd.rst h).len
    have h3 := len_parts (c := c) lot
    rw [List.length_cons, Nat.pow_succ] at hl
    cases hy with
    | cons _ h4 => exact (List.mem_filter.mp ((Kd.rst h).full (by omega) y h4)).1
    | cons_cons _ h4 =>
      rename_i y'
      obtain ⟨k, hk, e⟩ := List.mem_map.mp ((Kd.own h).full (by omega) y' h4)
      obtain ⟨k1, k2⟩ := List.mem_filter.mp hk
      rw [take_one k2, e] at k1
      exact k1
theorem Kd.sm {cs : List Nat} {lot : List (List Nat)} (h : Kd cs lot) (hs : Sm cs) : ∀ k ∈ lot, Sm k := fun k hk c hc => hs c ((h.sb k hk).subset hc)
theorem Kd.kl {cs : List Nat} {lot : List (List Nat)} (h : Kd cs lot) (hl : cs.length ≤ 5) : ∀ k ∈ lot, k.length ≤ 1000 := fun k hk => by have := (h.sb k hk).length_le; omega
end KK

set_option Elab.async false
set_option linter.all false
set_option maxRecDepth 100000
set_option maxHeartbeats 4000000
namespace KK
open PySem L2 Nz
open Nz (D Arg)
variable {m : Str} {n : Nat}
theorem gIx_T {cs : List Nat} (h : cs.length ≤ 1000) {k : Nat} (hk : k < cs.length) : gIx (.str (T cs)) (.int (k : Int)) = some (.d (.str (T [cs.getD k 0]))) := by
  show (if (T cs).length ≤ 100000 then (atI (T cs).cps.toList (k : Int)).map fun c => Pr.d (.str ⟨#[c]⟩) else none) = _
  rw [if_pos (by rw [T_len]; omega)]
  show ((ixN cs.length (k : Int)).bind fun j => cs[j]?).map _ = _
  unfold ixN
  rw [if_pos (by omega), if_pos (by omega)]
  rw [Option.bind_some, Int.toNat_natCast, List.getElem?_eq_getElem hk, List.getD_eq_getElem?_getD, List.getElem?_eq_getElem hk]
  rfl
theorem p32 {k : Nat} (h : k ≤ 5) : 2 ^ k ≤ 32 := by
  have : k = 0 ∨ k = 1 ∨ k = 2 ∨ k = 3 ∨ k = 4 ∨ k = 5 := by omega
  rcases this with rfl | rfl | rfl | rfl | rfl | rfl <;> decide
theorem bq0 (k : Nat) : ((k : Int) == 0) = decide (k = 0) := by
  rw [Bool.eq_iff_iff, beq_iff_eq, decide_eq_true_eq]; omega
theorem bqn (a b : Nat) : ((a : Int) == (b : Int)) = decide (a = b) := by
  rw [Bool.eq_iff_iff, beq_iff_eq, decide_eq_true_eq]; omega
theorem split_ok : ∀ (cs : List Nat) (lot : List (List Nat)) (n : Nat), cs ∈ sfx → Kd cs lot → run (n + cs.length + 2) 14 [.d (.str (T cs)), .d (.lst (lot.map TD))] = .ret (.d (spl cs lot)) [none, none] := by
  intro cs
  induction cs with
  | nil =>
    intro lot n hs h
    obtain ⟨⟨ds, hd, ha⟩, h5, hsm, hdr, hpw⟩ := sfx_of hs
    have ha' : run (n + 1) 7 [.d (.str (T []))] = .ret (.new (.lst ds)) [none] := by rw [run_allk0]; exact ha
    have hl := h.len
    have hl2 : lot.length = 0 ∨ lot.length = 1 := by
      have : lot.length ≤ 1 := hl
      omega
    have gl : gLen [.lst (lot.map TD)] = some (.d (.int (lot.length : Int))) := by rw [← List.length_map TD]; rfl
    have gd' : gLen [.lst ds] = some (.d (.int ((1 : Nat) : Int))) := by have : ds.length = 1 := hd; rw [← this]; rfl
    show finF _ (b14 (run (n + 1)) [.d (.str (T [])), .d (.lst (lot.map TD)), .no, .no, .no, .no]) = _
    unfold b14 spl
    rcases hl2 with q | q
    · have e0 : ((lot.length : Int) == 0) = true := by rw [bq0]; exact decide_eq_true q
      rw [if_pos q]
      simp only [fC_ap, opd_ap, asD_d, asD_slot, asD_new, f1_ap, f2_ap, res_d, res_slot, resS_d, resS_own, resS_io, resS_rd, ress_nil, ress_cons, ofP_d, ofP_l, ofP_t, isB_b, fT_ap, gAnd_ap, gOr_ap, gNot_ap, fAnd_ap, fOr_ap, fNot_ap, fIf_ap, fNil_ap, fCons_ap, frz_d, frzs_nil, frzs_cons, fTup_ap, fLst_ap, isI_i, fPart_ap, fNo_ap, fSl_ap, fBlt_ap, fSeq_ap, seqK_next, seqK_brk, seqK_cont, seqK_ret, fSkip_ap, fIfS_ap, fDrop_ap, fAsg_ap, retK_d, retK_new, fRet_ap, fRetN_ap, turnK_next, turnK_cont, turnK_brk, turnK_ret, ofO_some, fFor_ap, forK_items, fSeqI_ap, seqSrc_l, seqSrc_t, seqSrc_s, fRng1_ap, fRng2_ap, fComp_ap, compK_items, gTrue_ap, k1_ap, o2_ap, k2b_ap, k2a_ap, kT_ap, kAnd_t, kAnd_f, kOr_t, kOr_f, kNot_ap, kAndE_t, kAndE_f, kOrE_t, kOrE_f, kNotE_ap, kIfE_t, kIfE_f, kIfS_t, kIfS_f, kCons2_ap, kCons_ap, kz2_ap, kz_ap, kTup2_ap, kTup_ap, kLst2_ap, kLst_ap, kPart_ap, kSl3_ap, kSl2_ap, kSl1_ap, kBlt_ap, kDrop_ap, kAsg2_ap, kAsg_ap, kRng1_ap, kRng2_ap, fCall_ap, kCall_ap, kCall2_ap, kCall3_ap, callK_d, callK_n, upds_io, upds_nil, upds_no, mkArgs_nil, mkArgs_cons, mkArgE_d, once1, once_dd, once_d2, once_s2, once_s3, once_s3d, kMut_ap, kLoop_ap, kLoop2_ap, fVar_ap, vr_d, vr_own, vr_io, vr_rd, noIo_ap, nio_no, nio_d, nio_own, nio_rd, frz_slot, fz_d, fz_own, gd_t, gs_t, store_d, store_new, retK_slot, rk_own, rk_d, lstAt_ap, la_own, la_io, mutAt_ap, ma_own, ma_io, mo_some, mi_some, mkArg_slot, ag_d, ag_own, ag_rd, ag_ownt, ag_iot, putC_ap, pc_own, pc_io, gfName_ap, gfNil_ap, gfCons_ap, gfTup_ap, seqSrc_slot, slotSrc_own, slotSrc_rd, fMut_ap, kMut2_ap, kSet3_ap, kSet2_ap, kSet_ap, fSetI_ap, fSetA_ap, kAtt_ap, kAtt2_ap, sa_ap, back_ap, bk_rd, mapEnv_ok, compK_lend, forK_lend, fEnum_ap, enumSrc_t, once_d3, once_dsd, lim_pos, Nat.reduceBEq, Nat.reduceAdd, Nat.reduceLeDiff, List.getElem?_cons_zero, List.getElem?_cons_succ, List.set_cons_zero, List.set_cons_succ, Out.bind_ok, Option.bind_some, Option.map_some, Bool.not_true, Bool.not_false, List.length_cons, List.length_nil, gl, gEq_i, e0]
      rfl
    · have e0 : ((lot.length : Int) == 0) = false := by rw [bq0]; exact decide_eq_false (by omega)
      have e1 : ((lot.length : Int) == ((1 : Nat) : Int)) = true := by rw [bqn]; exact decide_eq_true q
      rw [if_neg (by omega)]
      simp only [fC_ap, opd_ap, asD_d, asD_slot, asD_new, f1_ap, f2_ap, res_d, res_slot, resS_d, resS_own, resS_io, resS_rd, ress_nil, ress_cons, ofP_d, ofP_l, ofP_t, isB_b, fT_ap, gAnd_ap, gOr_ap, gNot_ap, fAnd_ap, fOr_ap, fNot_ap, fIf_ap, fNil_ap, fCons_ap, frz_d, frzs_nil, frzs_cons, fTup_ap, fLst_ap, isI_i, fPart_ap, fNo_ap, fSl_ap, fBlt_ap, fSeq_ap, seqK_next, seqK_brk, seqK_cont, seqK_ret, fSkip_ap, fIfS_ap, fDrop_ap, fAsg_ap, retK_d, retK_new, fRet_ap, fRetN_ap, turnK_next, turnK_cont, turnK_brk, turnK_ret, ofO_some, fFor_ap, forK_items, fSeqI_ap, seqSrc_l, seqSrc_t, seqSrc_s, fRng1_ap, fRng2_ap, fComp_ap, compK_items, gTrue_ap, k1_ap, o2_ap, k2b_ap, k2a_ap, kT_ap, kAnd_t, kAnd_f, kOr_t, kOr_f, kNot_ap, kAndE_t, kAndE_f, kOrE_t, kOrE_f, kNotE_ap, kIfE_t, kIfE_f, kIfS_t, kIfS_f, kCons2_ap, kCons_ap, kz2_ap, kz_ap, kTup2_ap, kTup_ap, kLst2_ap, kLst_ap, kPart_ap, kSl3_ap, kSl2_ap, kSl1_ap, kBlt_ap, kDrop_ap, kAsg2_ap, kAsg_ap, kRng1_ap, kRng2_ap, fCall_ap, kCall_ap, kCall2_ap, kCall3_ap, callK_d, callK_n, upds_io, upds_nil, upds_no, mkArgs_nil, mkArgs_cons, mkArgE_d, once1, once_dd, once_d2, once_s2, once_s3, once_s3d, kMut_ap, kLoop_ap, kLoop2_ap, fVar_ap, vr_d, vr_own, vr_io, vr_rd, noIo_ap, nio_no, nio_d, nio_own, nio_rd, frz_slot, fz_d, fz_own, gd_t, gs_t, store_d, store_new, retK_slot, rk_own, rk_d, lstAt_ap, la_own, la_io, mutAt_ap, ma_own, ma_io, mo_some, mi_some, mkArg_slot, ag_d, ag_own, ag_rd, ag_ownt, ag_iot, putC_ap, pc_own, pc_io, gfName_ap, gfNil_ap, gfCons_ap, gfTup_ap, seqSrc_slot, slotSrc_own, slotSrc_rd, fMut_ap, kMut2_ap, kSet3_ap, kSet2_ap, kSet_ap, fSetI_ap, fSetA_ap, kAtt_ap, kAtt2_ap, sa_ap, back_ap, bk_rd, mapEnv_ok, compK_lend, forK_lend, fEnum_ap, enumSrc_t, once_d3, once_dsd, lim_pos, Nat.reduceBEq, Nat.reduceAdd, Nat.reduceLeDiff, List.getElem?_cons_zero, List.getElem?_cons_succ, List.set_cons_zero, List.set_cons_succ, Out.bind_ok, Option.bind_some, Option.map_some, Bool.not_true, Bool.not_false, List.length_cons, List.length_nil, gl, gEq_i, e0, ha', gd', e1]
      rfl
  | cons c cs ih =>
    intro lot n hs h
    obtain ⟨⟨ds, hd, ha⟩, h5, hsm, hdr, hpw⟩ := sfx_of hs
    have hdr : cs ∈ sfx := hdr
    have ha' : run (n + cs.length + 2) 7 [.d (.str (T (c :: cs)))] = .ret (.new (.lst ds)) [none] := by
      have := run_allk0 (n := n + cs.length + 1)
      rw [this]; exact ha
    have hl := h.len
    have h32 := p32 h5
    have hlen : lot.length ≤ 100000 := by omega
    have gl : gLen [.lst (lot.map TD)] = some (.d (.int (lot.length : Int))) := by rw [← List.length_map TD]; rfl
    have gd' : gLen [.lst ds] = some (.d (.int (ds.length : Int))) := rfl
    have en : n + (c :: cs).length + 2 = (n + cs.length + 2) + 1 := by rw [List.length_cons]; omega
    rw [en]
    show finF _ (b14 (run (n + cs.length + 2)) [.d (.str (T (c :: cs))), .d (.lst (lot.map TD)), .no, .no, .no, .no]) = _
    have i1 := ih (own c lot) n hdr h.own
    have i2 := ih (rst c lot) n hdr h.rst
    have hk := h.kl h5
    have hks := h.sm hsm
    have hc1 : Sm [c] := fun x hx => by
      rw [List.mem_singleton.mp hx]
      exact hsm c (by simp)
    have ht : ∀ k ∈ lot, Sm (k.take 1) := fun k hk x hx => hks k hk x (List.mem_of_mem_take hx)
    have ix : gIx (.str (T (c :: cs))) (.int 0) = some (.d (.str (T [c]))) := gIx_T (k := 0) (by have := h5; omega) (by simp)
    have dr : gSl (.str (T (c :: cs))) (some 1) none = some (.d (.str (T cs))) := T_drop (by have := h5; omega)
    have c1 := compI_pure (i := 5) (c := fT (f2 gEq (fSl gSl (fVar 5) fNo (fPart (fC (.int (1))))) (fVar 2))) (e := fSl gSl (fVar 5) (fPart (fC (.int (1)))) fNo) (ρ := [.d (.str (T (c :: cs))), .d (.lst (lot.map TD)), .d (.str (T [c])), .no, .no, .no]) (F := TD) (keep := fun k => k.take 1 == [c]) (val := fun k => TD (k.drop 1)) (xs := lot) rfl hlen (by
      intro k hkk
      have a1 := T_take (hk k hkk)
      have a2 := T_drop (hk k hkk)
      have a3 := gEq_T (ht k hkk) hc1
      unfold TD
      constructor
      · simp only [fC_ap, opd_ap, asD_d, asD_slot, asD_new, f1_ap, f2_ap, res_d, res_slot, resS_d, resS_own, resS_io, resS_rd, ress_nil, ress_cons, ofP_d, ofP_l, ofP_t, isB_b, fT_ap, gAnd_ap, gOr_ap, gNot_ap, fAnd_ap, fOr_ap, fNot_ap, fIf_ap, fNil_ap, fCons_ap, frz_d, frzs_nil, frzs_cons, fTup_ap, fLst_ap, isI_i, fPart_ap, fNo_ap, fSl_ap, fBlt_ap, fSeq_ap, seqK_next, seqK_brk, seqK_cont, seqK_ret, fSkip_ap, fIfS_ap, fDrop_ap, fAsg_ap, retK_d, retK_new, fRet_ap, fRetN_ap, turnK_next, turnK_cont, turnK_brk, turnK_ret, ofO_some, fFor_ap, forK_items, fSeqI_ap, seqSrc_l, seqSrc_t, seqSrc_s, fRng1_ap, fRng2_ap, fComp_ap, compK_items, gTrue_ap, k1_ap, o2_ap, k2b_ap, k2a_ap, kT_ap, kAnd_t, kAnd_f, kOr_t, kOr_f, kNot_ap, kAndE_t, kAndE_f, kOrE_t, kOrE_f, kNotE_ap, kIfE_t, kIfE_f, kIfS_t, kIfS_f, kCons2_ap, kCons_ap, kz2_ap, kz_ap, kTup2_ap, kTup_ap, kLst2_ap, kLst_ap, kPart_ap, kSl3_ap, kSl2_ap, kSl1_ap, kBlt_ap, kDrop_ap, kAsg2_ap, kAsg_ap, kRng1_ap, kRng2_ap, fCall_ap, kCall_ap, kCall2_ap, kCall3_ap, callK_d, callK_n, upds_io, upds_nil, upds_no, mkArgs_nil, mkArgs_cons, mkArgE_d, once1, once_dd, once_d2, once_s2, once_s3, once_s3d, kMut_ap, kLoop_ap, kLoop2_ap, fVar_ap, vr_d, vr_own, vr_io, vr_rd, noIo_ap, nio_no, nio_d, nio_own, nio_rd, frz_slot, fz_d, fz_own, gd_t, gs_t, store_d, store_new, retK_slot, rk_own, rk_d, lstAt_ap, la_own, la_io, mutAt_ap, ma_own, ma_io, mo_some, mi_some, mkArg_slot, ag_d, ag_own, ag_rd, ag_ownt, ag_iot, putC_ap, pc_own, pc_io, gfName_ap, gfNil_ap, gfCons_ap, gfTup_ap, seqSrc_slot, slotSrc_own, slotSrc_rd, fMut_ap, kMut2_ap, kSet3_ap, kSet2_ap, kSet_ap, fSetI_ap, fSetA_ap, kAtt_ap, kAtt2_ap, sa_ap, back_ap, bk_rd, mapEnv_ok, compK_lend, forK_lend, fEnum_ap, enumSrc_t, once_d3, once_dsd, lim_pos, Nat.reduceBEq, Nat.reduceAdd, Nat.reduceLeDiff, List.getElem?_cons_zero, List.getElem?_cons_succ, List.set_cons_zero, List.set_cons_succ, Out.bind_ok, Option.bind_some, Option.map_some, Bool.not_true, Bool.not_false, List.length_cons, List.length_nil, a1, a3]
      · intro _
        simp only [fC_ap, opd_ap, asD_d, asD_slot, asD_new, f1_ap, f2_ap, res_d, res_slot, resS_d, resS_own, resS_io, resS_rd, ress_nil, ress_cons, ofP_d, ofP_l, ofP_t, isB_b, fT_ap, gAnd_ap, gOr_ap, gNot_ap, fAnd_ap, fOr_ap, fNot_ap, fIf_ap, fNil_ap, fCons_ap, frz_d, frzs_nil, frzs_cons, fTup_ap, fLst_ap, isI_i, fPart_ap, fNo_ap, fSl_ap, fBlt_ap, fSeq_ap, seqK_next, seqK_brk, seqK_cont, seqK_ret, fSkip_ap, fIfS_ap, fDrop_ap, fAsg_ap, retK_d, retK_new, fRet_ap, fRetN_ap, turnK_next, turnK_cont, turnK_brk, turnK_ret, ofO_some, fFor_ap, forK_items, fSeqI_ap, seqSrc_l, seqSrc_t, seqSrc_s, fRng1_ap, fRng2_ap, fComp_ap, compK_items, gTrue_ap, k1_ap, o2_ap, k2b_ap, k2a_ap, kT_ap, kAnd_t, kAnd_f, kOr_t, kOr_f, kNot_ap, kAndE_t, kAndE_f, kOrE_t, kOrE_f, kNotE_ap, kIfE_t, kIfE_f, kIfS_t, kIfS_f, kCons2_ap, kCons_ap, kz2_ap, kz_ap, kTup2_ap, kTup_ap, kLst2_ap, kLst_ap, kPart_ap, kSl3_ap, kSl2_ap, kSl1_ap, kBlt_ap, kDrop_ap, kAsg2_ap, kAsg_ap, kRng1_ap, kRng2_ap, fCall_ap, kCall_ap, kCall2_ap, kCall3_ap, callK_d, callK_n, upds_io, upds_nil, upds_no, mkArgs_nil, mkArgs_cons, mkArgE_d, once1, once_dd, once_d2, once_s2, once_s3, once_s3d, kMut_ap, kLoop_ap, kLoop2_ap, fVar_ap, vr_d, vr_own, vr_io, vr_rd, noIo_ap, nio_no, nio_d, nio_own, nio_rd, frz_slot, fz_d, fz_own, gd_t, gs_t, store_d, store_new, retK_slot, rk_own, rk_d, lstAt_ap, la_own, la_io, mutAt_ap, ma_own, ma_io, mo_some, mi_some, mkArg_slot, ag_d, ag_own, ag_rd, ag_ownt, ag_iot, putC_ap, pc_own, pc_io, gfName_ap, gfNil_ap, gfCons_ap, gfTup_ap, seqSrc_slot, slotSrc_own, slotSrc_rd, fMut_ap, kMut2_ap, kSet3_ap, kSet2_ap, kSet_ap, fSetI_ap, fSetA_ap, kAtt_ap, kAtt2_ap, sa_ap, back_ap, bk_rd, mapEnv_ok, compK_lend, forK_lend, fEnum_ap, enumSrc_t, once_d3, once_dsd, lim_pos, Nat.reduceBEq, Nat.reduceAdd, Nat.reduceLeDiff, List.getElem?_cons_zero, List.getElem?_cons_succ, List.set_cons_zero, List.set_cons_succ, Out.bind_ok, Option.bind_some, Option.map_some, Bool.not_true, Bool.not_false, List.length_cons, List.length_nil, a2])
    have c2 := compI_pure (i := 5) (c := fT (f2 gNe (fSl gSl (fVar 5) fNo (fPart (fC (.int (1))))) (fVar 2))) (e := fVar 5) (ρ := [.d (.str (T (c :: cs))), .d (.lst (lot.map TD)), .d (.str (T [c])), .d (spl cs (own c lot)), .no, .no]) (F := TD) (keep := fun k => !(k.take 1 == [c])) (val := TD) (xs := lot) rfl hlen (by
      intro k hkk
      have a1 := T_take (hk k hkk)
      have a3 := gNe_T (ht k hkk) hc1
      unfold TD
      constructor
      · simp only [fC_ap, opd_ap, asD_d, asD_slot, asD_new, f1_ap, f2_ap, res_d, res_slot, resS_d, resS_own, resS_io, resS_rd, ress_nil, ress_cons, ofP_d, ofP_l, ofP_t, isB_b, fT_ap, gAnd_ap, gOr_ap, gNot_ap, fAnd_ap, fOr_ap, fNot_ap, fIf_ap, fNil_ap, fCons_ap, frz_d, frzs_nil, frzs_cons, fTup_ap, fLst_ap, isI_i, fPart_ap, fNo_ap, fSl_ap, fBlt_ap, fSeq_ap, seqK_next, seqK_brk, seqK_cont, seqK_ret, fSkip_ap, fIfS_ap, fDrop_ap, fAsg_ap, retK_d, retK_new, fRet_ap, fRetN_ap, turnK_next, turnK_cont, turnK_brk, turnK_ret, ofO_some, fFor_ap, forK_items, fSeqI_ap, seqSrc_l, seqSrc_t, seqSrc_s, fRng1_ap, fRng2_ap, fComp_ap, compK_items, gTrue_ap, k1_ap, o2_ap, k2b_ap, k2a_ap, kT_ap, kAnd_t, kAnd_f, kOr_t, kOr_f, kNot_ap, kAndE_t, kAndE_f, kOrE_t, kOrE_f, kNotE_ap, kIfE_t, kIfE_f, kIfS_t, kIfS_f, kCons2_ap, kCons_ap, kz2_ap, kz_ap, kTup2_ap, kTup_ap, kLst2_ap, kLst_ap, kPart_ap, kSl3_ap, kSl2_ap, kSl1_ap, kBlt_ap, kDrop_ap, kAsg2_ap, kAsg_ap, kRng1_ap, kRng2_ap, fCall_ap, kCall_ap, kCall2_ap, kCall3_ap, callK_d, callK_n, upds_io, upds_nil, upds_no, mkArgs_nil, mkArgs_cons, mkArgE_d, once1, once_dd, once_d2, once_s2, once_s3, once_s3d, kMut_ap, kLoop_ap, kLoop2_ap, fVar_ap, vr_d, vr_own, vr_io, vr_rd, noIo_ap, nio_no, nio_d, nio_own, nio_rd, frz_slot, fz_d, fz_own, gd_t, gs_t, store_d, store_new, retK_slot, rk_own, rk_d, lstAt_ap, la_own, la_io, mutAt_ap, ma_own, ma_io, mo_some, mi_some, mkArg_slot, ag_d, ag_own, ag_rd, ag_ownt, ag_iot, putC_ap, pc_own, pc_io, gfName_ap, gfNil_ap, gfCons_ap, gfTup_ap, seqSrc_slot, slotSrc_own, slotSrc_rd, fMut_ap, kMut2_ap, kSet3_ap, kSet2_ap, kSet_ap, fSetI_ap, fSetA_ap, kAtt_ap, kAtt2_ap, sa_ap, back_ap, bk_rd, mapEnv_ok, compK_lend, forK_lend, fEnum_ap, enumSrc_t, once_d3, once_dsd, lim_pos, Nat.reduceBEq, Nat.reduceAdd, Nat.reduceLeDiff, List.getElem?_cons_zero, List.getElem?_cons_succ, List.set_cons_zero, List.set_cons_succ, Out.bind_ok, Option.bind_some, Option.map_some, Bool.not_true, Bool.not_false, List.length_cons, List.length_nil, a1, a3]
      · intro _
        simp only [fC_ap, opd_ap, asD_d, asD_slot, asD_new, f1_ap, f2_ap, res_d, res_slot, resS_d, resS_own, resS_io, resS_rd, ress_nil, ress_cons, ofP_d, ofP_l, ofP_t, isB_b, fT_ap, gAnd_ap, gOr_ap, gNot_ap, fAnd_ap, fOr_ap, fNot_ap, fIf_ap, fNil_ap, fCons_ap, frz_d, frzs_nil, frzs_cons, fTup_ap, fLst_ap, isI_i, fPart_ap, fNo_ap, fSl_ap, fBlt_ap, fSeq_ap, seqK_next, seqK_brk, seqK_cont, seqK_ret, fSkip_ap, fIfS_ap, fDrop_ap, fAsg_ap, retK_d, retK_new, fRet_ap, fRetN_ap, turnK_next, turnK_cont, turnK_brk, turnK_ret, ofO_some, fFor_ap, forK_items, fSeqI_ap, seqSrc_l, seqSrc_t, seqSrc_s, fRng1_ap, fRng2_ap, fComp_ap, compK_items, gTrue_ap, k1_ap, o2_ap, k2b_ap, k2a_ap, kT_ap, kAnd_t, kAnd_f, kOr_t, kOr_f, kNot_ap, kAndE_t, kAndE_f, kOrE_t, kOrE_f, kNotE_ap, kIfE_t, kIfE_f, kIfS_t, kIfS_f, kCons2_ap, kCons_ap, kz2_ap, kz_ap, kTup2_ap, kTup_ap, kLst2_ap, kLst_ap, kPart_ap, kSl3_ap, kSl2_ap, kSl1_ap, kBlt_ap, kDrop_ap, kAsg2_ap, kAsg_ap, kRng1_ap, kRng2_ap, fCall_ap, kCall_ap, kCall2_ap, kCall3_ap, callK_d, callK_n, upds_io, upds_nil, upds_no, mkArgs_nil, mkArgs_cons, mkArgE_d, once1, once_dd, once_d2, once_s2, once_s3, once_s3d, kMut_ap, kLoop_ap, kLoop2_ap, fVar_ap, vr_d, vr_own, vr_io, vr_rd, noIo_ap, nio_no, nio_d, nio_own, nio_rd, frz_slot, fz_d, fz_own, gd_t, gs_t, store_d, store_new, retK_slot, rk_own, rk_d, lstAt_ap, la_own, la_io, mutAt_ap, ma_own, ma_io, mo_some, mi_some, mkArg_slot, ag_d, ag_own, ag_rd, ag_ownt, ag_iot, putC_ap, pc_own, pc_io, gfName_ap, gfNil_ap, gfCons_ap, gfTup_ap, seqSrc_slot, slotSrc_own, slotSrc_rd, fMut_ap, kMut2_ap, kSet3_ap, kSet2_ap, kSet_ap, fSetI_ap, fSetA_ap, kAtt_ap, kAtt2_ap, sa_ap, back_ap, bk_rd, mapEnv_ok, compK_lend, forK_lend, fEnum_ap, enumSrc_t, once_d3, once_dsd, lim_pos, Nat.reduceBEq, Nat.reduceAdd, Nat.reduceLeDiff, List.getElem?_cons_zero, List.getElem?_cons_succ, List.set_cons_zero, List.set_cons_succ, Out.bind_ok, Option.bind_some, Option.map_some, Bool.not_true, Bool.not_false, List.length_cons, List.length_nil])
    have e1 : (lot.filter fun k => k.take 1 == [c]).map (fun k => TD (k.drop 1)) = (own c lot).map TD := by
      unfold own
      rw [List.map_map]
      rfl
    rw [e1] at c1
    have e2 : (lot.filter fun k => !(k.take 1 == [c])) = rst c lot := rfl
    rw [e2] at c2
    unfold b14 spl
    by_cases q0 : lot.length = 0
    · have e0 : ((lot.length : Int) == 0) = true := by rw [bq0]; exact decide_eq_true q0
      rw [if_pos q0]
      simp only [fC_ap, opd_ap, asD_d, asD_slot, asD_new, f1_ap, f2_ap, res_d, res_slot, resS_d, resS_own, resS_io, resS_rd, ress_nil, ress_cons, ofP_d, ofP_l, ofP_t, isB_b, fT_ap, gAnd_ap, gOr_ap, gNot_ap, fAnd_ap, fOr_ap, fNot_ap, fIf_ap, fNil_ap, fCons_ap, frz_d, frzs_nil, frzs_cons, fTup_ap, fLst_ap, isI_i, fPart_ap, fNo_ap, fSl_ap, fBlt_ap, fSeq_ap, seqK_next, seqK_brk, seqK_cont, seqK_ret, fSkip_ap, fIfS_ap, fDrop_ap, fAsg_ap, retK_d, retK_new, fRet_ap, fRetN_ap, turnK_next, turnK_cont, turnK_brk, turnK_ret, ofO_some, fFor_ap, forK_items, fSeqI_ap, seqSrc_l, seqSrc_t, seqSrc_s, fRng1_ap, fRng2_ap, fComp_ap, compK_items, gTrue_ap, k1_ap, o2_ap, k2b_ap, k2a_ap, kT_ap, kAnd_t, kAnd_f, kOr_t, kOr_f, kNot_ap, kAndE_t, kAndE_f, kOrE_t, kOrE_f, kNotE_ap, kIfE_t, kIfE_f, kIfS_t, kIfS_f, kCons2_ap, kCons_ap, kz2_ap, kz_ap, kTup2_ap, kTup_ap, kLst2_ap, kLst_ap, kPart_ap, kSl3_ap, kSl2_ap, kSl1_ap, kBlt_ap, kDrop_ap, kAsg2_ap, kAsg_ap, kRng1_ap, kRng2_ap, fCall_ap, kCall_ap, kCall2_ap, kCall3_ap, callK_d, callK_n, upds_io, upds_nil, upds_no, mkArgs_nil, mkArgs_cons, mkArgE_d, once1, once_dd, once_d2, once_s2, once_s3, once_s3d, kMut_ap, kLoop_ap, kLoop2_ap, fVar_ap, vr_d, vr_own, vr_io, vr_rd, noIo_ap, nio_no, nio_d, nio_own, nio_rd, frz_slot, fz_d, fz_own, gd_t, gs_t, store_d, store_new, retK_slot, rk_own, rk_d, lstAt_ap, la_own, la_io, mutAt_ap, ma_own, ma_io, mo_some, mi_some, mkArg_slot, ag_d, ag_own, ag_rd, ag_ownt, ag_iot, putC_ap, pc_own, pc_io, gfName_ap, gfNil_ap, gfCons_ap, gfTup_ap, seqSrc_slot, slotSrc_own, slotSrc_rd, fMut_ap, kMut2_ap, kSet3_ap, kSet2_ap, kSet_ap, fSetI_ap, fSetA_ap, kAtt_ap, kAtt2_ap, sa_ap, back_ap, bk_rd, mapEnv_ok, compK_lend, forK_lend, fEnum_ap, enumSrc_t, once_d3, once_dsd, lim_pos, Nat.reduceBEq, Nat.reduceAdd, Nat.reduceLeDiff, List.getElem?_cons_zero, List.getElem?_cons_succ, List.set_cons_zero, List.set_cons_succ, Out.bind_ok, Option.bind_some, Option.map_some, Bool.not_true, Bool.not_false, List.length_cons, List.length_nil, gl, gEq_i, e0]
      rfl
    · have e0 : ((lot.length : Int) == 0) = false := by rw [bq0]; exact decide_eq_false q0
      rw [if_neg q0]
      by_cases q1 : lot.length = 2 ^ (c :: cs).length
      · have e1 : ((lot.length : Int) == (ds.length : Int)) = true := by rw [bqn]; exact decide_eq_true (q1.trans hd.symm)
        rw [if_pos q1]
        simp only [fC_ap, opd_ap, asD_d, asD_slot, asD_new, f1_ap, f2_ap, res_d, res_slot, resS_d, resS_own, resS_io, resS_rd, ress_nil, ress_cons, ofP_d, ofP_l, ofP_t, isB_b, fT_ap, gAnd_ap, gOr_ap, gNot_ap, fAnd_ap, fOr_ap, fNot_ap, fIf_ap, fNil_ap, fCons_ap, frz_d, frzs_nil, frzs_cons, fTup_ap, fLst_ap, isI_i, fPart_ap, fNo_ap, fSl_ap, fBlt_ap, fSeq_ap, seqK_next, seqK_brk, seqK_cont, seqK_ret, fSkip_ap, fIfS_ap, fDrop_ap, fAsg_ap, retK_d, retK_new, fRet_ap, fRetN_ap, turnK_next, turnK_cont, turnK_brk, turnK_ret, ofO_some, fFor_ap, forK_items, fSeqI_ap, seqSrc_l, seqSrc_t, seqSrc_s, fRng1_ap, fRng2_ap, fComp_ap, compK_items, gTrue_ap, k1_ap, o2_ap, k2b_ap, k2a_ap, kT_ap, kAnd_t, kAnd_f, kOr_t, kOr_f, kNot_ap, kAndE_t, kAndE_f, kOrE_t, kOrE_f, kNotE_ap, kIfE_t, kIfE_f, kIfS_t, kIfS_f, kCons2_ap, kCons_ap, kz2_ap, kz_ap, kTup2_ap, kTup_ap, kLst2_ap, kLst_ap, kPart_ap, kSl3_ap, kSl2_ap, kSl1_ap, kBlt_ap, kDrop_ap, kAsg2_ap, kAsg_ap, kRng1_ap, kRng2_ap, fCall_ap, kCall_ap, kCall2_ap, kCall3_ap, callK_d, callK_n, upds_io, upds_nil, upds_no, mkArgs_nil, mkArgs_cons, mkArgE_d, once1, once_dd, once_d2, once_s2, once_s3, once_s3d, kMut_ap, kLoop_ap, kLoop2_ap, fVar_ap, vr_d, vr_own, vr_io, vr_rd, noIo_ap, nio_no, nio_d, nio_own, nio_rd, frz_slot, fz_d, fz_own, gd_t, gs_t, store_d, store_new, retK_slot, rk_own, rk_d, lstAt_ap, la_own, la_io, mutAt_ap, ma_own, ma_io, mo_some, mi_some, mkArg_slot, ag_d, ag_own, ag_rd, ag_ownt, ag_iot, putC_ap, pc_own, pc_io, gfName_ap, gfNil_ap, gfCons_ap, gfTup_ap, seqSrc_slot, slotSrc_own, slotSrc_rd, fMut_ap, kMut2_ap, kSet3_ap, kSet2_ap, kSet_ap, fSetI_ap, fSetA_ap, kAtt_ap, kAtt2_ap, sa_ap, back_ap, bk_rd, mapEnv_ok, compK_lend, forK_lend, fEnum_ap, enumSrc_t, once_d3, once_dsd, lim_pos, Nat.reduceBEq, Nat.reduceAdd, Nat.reduceLeDiff, List.getElem?_cons_zero, List.getElem?_cons_succ, List.set_cons_zero, List.set_cons_succ, Out.bind_ok, Option.bind_some, Option.map_some, Bool.not_true, Bool.not_false, List.length_cons, List.length_nil, gl, gEq_i, e0, ha', gd', e1]
        rfl
      · have e1 : ((lot.length : Int) == (ds.length : Int)) = false := by rw [bqn]; exact decide_eq_false (fun z => q1 (z.trans hd))
        rw [if_neg q1]
        simp only [fC_ap, opd_ap, asD_d, asD_slot, asD_new, f1_ap, f2_ap, res_d, res_slot, resS_d, resS_own, resS_io, resS_rd, ress_nil, ress_cons, ofP_d, ofP_l, ofP_t, isB_b, fT_ap, gAnd_ap, gOr_ap, gNot_ap, fAnd_ap, fOr_ap, fNot_ap, fIf_ap, fNil_ap, fCons_ap, frz_d, frzs_nil, frzs_cons, fTup_ap, fLst_ap, isI_i, fPart_ap, fNo_ap, fSl_ap, fBlt_ap, fSeq_ap, seqK_next, seqK_brk, seqK_cont, seqK_ret, fSkip_ap, fIfS_ap, fDrop_ap, fAsg_ap, retK_d, retK_new, fRet_ap, fRetN_ap, turnK_next, turnK_cont, turnK_brk, turnK_ret, ofO_some, fFor_ap, forK_items, fSeqI_ap, seqSrc_l, seqSrc_t, seqSrc_s, fRng1_ap, fRng2_ap, fComp_ap, compK_items, gTrue_ap, k1_ap, o2_ap, k2b_ap, k2a_ap, kT_ap, kAnd_t, kAnd_f, kOr_t, kOr_f, kNot_ap, kAndE_t, kAndE_f, kOrE_t, kOrE_f, kNotE_ap, kIfE_t, kIfE_f, kIfS_t, kIfS_f, kCons2_ap, kCons_ap, kz2_ap, kz_ap, kTup2_ap, kTup_ap, kLst2_ap, kLst_ap, kPart_ap, kSl3_ap, kSl2_ap, kSl1_ap, kBlt_ap, kDrop_ap, kAsg2_ap, kAsg_ap, kRng1_ap, kRng2_ap, fCall_ap, kCall_ap, kCall2_ap, kCall3_ap, callK_d, callK_n, upds_io, upds_nil, upds_no, mkArgs_nil, mkArgs_cons, mkArgE_d, once1, once_dd, once_d2, once_s2, once_s3, once_s3d, kMut_ap, kLoop_ap, kLoop2_ap, fVar_ap, vr_d, vr_own, vr_io, vr_rd, noIo_ap, nio_no, nio_d, nio_own, nio_rd, frz_slot, fz_d, fz_own, gd_t, gs_t, store_d, store_new, retK_slot, rk_own, rk_d, lstAt_ap, la_own, la_io, mutAt_ap, ma_own, ma_io, mo_some, mi_some, mkArg_slot, ag_d, ag_own, ag_rd, ag_ownt, ag_iot, putC_ap, pc_own, pc_io, gfName_ap, gfNil_ap, gfCons_ap, gfTup_ap, seqSrc_slot, slotSrc_own, slotSrc_rd, fMut_ap, kMut2_ap, kSet3_ap, kSet2_ap, kSet_ap, fSetI_ap, fSetA_ap, kAtt_ap, kAtt2_ap, sa_ap, back_ap, bk_rd, mapEnv_ok, compK_lend, forK_lend, fEnum_ap, enumSrc_t, once_d3, once_dsd, lim_pos, Nat.reduceBEq, Nat.reduceAdd, Nat.reduceLeDiff, List.getElem?_cons_zero, List.getElem?_cons_succ, List.set_cons_zero, List.set_cons_succ, Out.bind_ok, Option.bind_some, Option.map_some, Bool.not_true, Bool.not_false, List.length_cons, List.length_nil, gl, gEq_i, e0, ha', gd', e1, ix, dr, c1, i1, c2, i2]
        rfl
/-! ### what it says -/
def spf : List Nat → List (List Nat) → Str → Bool
  | [], lot => if lot.length = 0 then manyV false [] else manyV true []
  | c :: cs, lot => if lot.length = 0 then manyV false [] else if lot.length = 2 ^ (c :: cs).length then manyV true [] else
    manyV false [manyV true [sgIn (T [c]), spf cs (own c lot)], manyV true [fun s => !(sgIn (T [c]) s), spf cs (rst c lot)]]
theorem Cv.up {m : Str} {d : D} {f : Str → Bool} {a : Nat} (h : Cv m a d f) : ∀ {b : Nat}, a ≤ b → Cv m b d f := by
  induction h with
  | leaf hx =>
    intro b hb
    obtain ⟨b, rfl⟩ : ∃ k, b = k + 1 := ⟨b - 1, by omega⟩
    exact .leaf hx
  | neg _ ih =>
    intro b hb
    obtain ⟨b, rfl⟩ : ∃ k, b = k + 1 := ⟨b - 1, by omega⟩
    exact .neg (ih (by omega))
  | many v cs hl _ ih =>
    intro b hb
    obtain ⟨b, rfl⟩ : ∃ k, b = k + 1 := ⟨b - 1, by omega⟩
    exact .many v cs hl fun p hp => ih p hp (by omega)
theorem spl_cv {m : Str} : ∀ (cs : List Nat) (lot : List (List Nat)), (∀ c ∈ cs, T [c] ∈ sgs m) → Cv m (2 * cs.length + 2) (spl cs lot) (spf cs lot)
  | [], lot, _ => by
    unfold spl spf
    by_cases q : lot.length = 0
    · rw [if_pos q, if_pos q]
      exact .many false [] (by decide) (fun p hp => by cases hp)
    · rw [if_neg q, if_neg q]
      exact .many true [] (by decide) (fun p hp => by cases hp)
  | c :: cs, lot, h => by
    have hc : T [c] ∈ sgs m := h c (by simp)
    have en : 2 * (c :: cs).length + 2 = (2 * cs.length + 2 + 1) + 1 := by rw [List.length_cons]; omega
    rw [en]
    unfold spl spf
    by_cases q : lot.length = 0
    · rw [if_pos q, if_pos q]
      exact .many false [] (by decide) (fun p hp => by cases hp)
    · rw [if_neg q, if_neg q]
      by_cases q1 : lot.length = 2 ^ (c :: cs).length
      · rw [if_pos q1, if_pos q1]
        exact .many true [] (by decide) (fun p hp => by cases hp)
      · rw [if_neg q1, if_neg q1]
        have r1 := spl_cv cs (own c lot) (fun x hx => h x (by simp [hx]))
        have r2 := spl_cv cs (rst c lot) (fun x hx => h x (by simp [hx]))
        have lf : Cv m (2 * cs.length + 2) (leafD (T [c])) (sgIn (T [c])) := .leaf hc
        have ng : Cv m (2 * cs.length + 2) (notD (leafD (T [c]))) (fun s => !(sgIn (T [c]) s)) := .neg (.leaf hc)
        exact .many false [(manyD true [leafD (T [c]), spl cs (own c lot)], manyV true [sgIn (T [c]), spf cs (own c lot)]), (manyD true [notD (leafD (T [c])), spl cs (rst c lot)], manyV true [fun s => !(sgIn (T [c]) s), spf cs (rst c lot)])] (by simp) (fun p hp => by
          rcases List.mem_cons.mp hp with rfl | hp
          · exact .many true [(leafD (T [c]), sgIn (T [c])), (spl cs (own c lot), spf cs (own c lot))] (by simp) (fun p hp => by
              rcases List.mem_cons.mp hp with rfl | hp
              · exact lf
              · rw [List.mem_singleton.mp hp]; exact r1)
          · rw [List.mem_singleton.mp hp]
            exact .many true [(notD (leafD (T [c])), fun s => !(sgIn (T [c]) s)), (spl cs (rst c lot), spf cs (rst c lot))] (by simp) (fun p hp => by
              rcases List.mem_cons.mp hp with rfl | hp
              · exact ng
              · rw [List.mem_singleton.mp hp]; exact r2))
end KK

set_option Elab.async false
set_option linter.all false
set_option maxRecDepth 100000
set_option maxHeartbeats 4000000
namespace KK
open PySem L2 Nz
open Nz (D Arg)
variable {m : Str} {n : Nat}
/-! ### who meets the condition -/
def wd (s cs : List Nat) : List Nat := s.filter fun x => cs.contains x
theorem wd_skip {s cs : List Nat} {c : Nat} (h : c ∉ s) : wd s (c :: cs) = wd s cs := by
  refine List.filter_congr fun x hx => ?_
  have : x ≠ c := fun e => h (e ▸ hx)
  rw [List.contains_cons]
  have e : (x == c) = false := beq_eq_false_iff_ne.mpr this
  rw [e, Bool.false_or]
theorem wd_cons : ∀ {s cs : List Nat} {c : Nat}, s.Pairwise (· < ·) → (∀ x ∈ cs, c < x) → wd s (c :: cs) = if c ∈ s then c :: wd s cs else wd s cs
  | [], cs, c, _, _ => by simp [wd]
  | a :: s, cs, c, hs, hc => by
    have ih := wd_cons (List.pairwise_cons.mp hs).2 hc
    have hlt := (List.pairwise_cons.mp hs).1
    by_cases e : a = c
    · subst e
      have h1 : a ∉ s := fun h => Nat.lt_irrefl _ (hlt a h)
      have h2 : cs.contains a = false := by
        rw [Bool.eq_false_iff, Ne, List.contains_iff_mem]
        exact fun h => Nat.lt_irrefl _ (hc a h)
      rw [if_pos (by simp)]
      have e1 : wd (a :: s) (a :: cs) = a :: wd s (a :: cs) := by
        unfold wd
        rw [List.filter_cons_of_pos (by simp)]
      have e2 : wd (a :: s) cs = wd s cs := by
        unfold wd
        rw [List.filter_cons_of_neg (by rw [h2]; decide)]
      rw [e1, e2, wd_skip h1]
    · have e0 : (a == c) = false := beq_eq_false_iff_ne.mpr e
      cases q : cs.contains a with
      | true =>
        have hca := hc a (List.contains_iff_mem.mp q)
        have h1 : c ∉ a :: s := fun h => by
          rcases List.mem_cons.mp h with h | h
          · exact e h.symm
          · have := hlt c h; omega
        rw [if_neg h1, wd_skip h1]
      | false =>
        have e1 : wd (a :: s) (c :: cs) = wd s (c :: cs) := by
          unfold wd
          rw [List.filter_cons_of_neg (by rw [List.contains_cons, e0, q]; decide)]
        have e2 : wd (a :: s) cs = wd s cs := by
          unfold wd
          rw [List.filter_cons_of_neg (by rw [q]; decide)]
        rw [e1, e2, ih]
        by_cases h : c ∈ s
        · rw [if_pos h, if_pos (List.mem_cons_of_mem _ h)]
        · rw [if_neg h, if_neg (fun h2 => by
            rcases List.mem_cons.mp h2 with h2 | h2
            · exact e h2.symm
            · exact h h2)]
theorem wd_sub : ∀ {cs s : List Nat}, s.Pairwise (· < ·) → cs.Pairwise (· < ·) → (wd s cs).Sublist cs
  | [], s, _, _ => by
    have : wd s [] = [] := List.filter_eq_nil_iff.mpr fun _ _ h => by cases h
    rw [this]
    exact List.Sublist.refl _
  | c :: cs, s, hs, hc => by
    rw [wd_cons hs (List.pairwise_cons.mp hc).1]
    have ih := wd_sub hs (List.pairwise_cons.mp hc).2
    split
    · exact ih.cons_cons c
    · exact ih.cons c
theorem sgIn_T (c : Nat) (s : List Nat) : sgIn (T [c]) (T s) = decide (c ∈ s) := rfl
theorem spf_ok : ∀ (cs : List Nat) (lot : List (List Nat)) (s : List Nat), cs.Pairwise (· < ·) → s.Pairwise (· < ·) → Kd cs lot → spf cs lot (T s) = lot.contains (wd s cs)
  | [], lot, s, hc, hs, h => by
    have e : wd s [] = [] := List.filter_eq_nil_iff.mpr fun _ _ h => by cases h
    rw [e]
    unfold spf
    by_cases q : lot.length = 0
    · rw [if_pos q, List.length_eq_zero_iff.mp q]
      rfl
    · rw [if_neg q]
      have hl := h.len
      have : lot.contains [] = true := List.contains_iff_mem.mpr (h.full (by have : lot.length ≤ 1 := hl; show lot.length = 1; omega) [] (List.Sublist.refl _))
      rw [this]
      rfl
  | c :: cs, lot, s, hc, hs, h => by
    unfold spf
    by_cases q : lot.length = 0
    · rw [if_pos q, List.length_eq_zero_iff.mp q]
      rfl
    · rw [if_neg q]
      by_cases q1 : lot.length = 2 ^ (c :: cs).length
      · rw [if_pos q1]
        have : lot.contains (wd s (c :: cs)) = true := List.contains_iff_mem.mpr (h.full q1 _ (wd_sub hs hc))
        rw [this]
        rfl
      · rw [if_neg q1]
        have hc1 := (List.pairwise_cons.mp hc).1
        have hc2 := (List.pairwise_cons.mp hc).2
        have i1 := spf_ok cs (own c lot) s hc2 hs h.own
        have i2 := spf_ok cs (rst c lot) s hc2 hs h.rst
        have hw := wd_cons hs hc1
        have hws := wd_sub hs hc2
        have hn : ((wd s cs).take 1 == [c]) = false := by
          rw [beq_eq_false_iff_ne]
          intro e
          have : c ∈ wd s cs := List.mem_of_mem_take (i := 1) (by rw [e]; simp)
          exact Nat.lt_irrefl _ (hc1 c (hws.subset this))
        show ((sgIn (T [c]) (T s) && (spf cs (own c lot) (T s) && true)) || (((!sgIn (T [c]) (T s)) && (spf cs (rst c lot) (T s) && true)) || false)) = _
        rw [i1, i2, sgIn_T, Bool.and_true, Bool.and_true, Bool.or_false, hw]
        by_cases k : c ∈ s
        · rw [if_pos k, decide_eq_true k, Bool.true_and, Bool.not_true, Bool.false_and, Bool.or_false, Bool.eq_iff_iff, List.contains_iff_mem, List.contains_iff_mem]
          unfold own
          rw [List.mem_map]
          constructor
          · rintro ⟨x, hx, e⟩
            obtain ⟨h1, h2⟩ := List.mem_filter.mp hx
            rw [take_one h2, e] at h1
            exact h1
          · intro hx
            exact ⟨_, List.mem_filter.mpr ⟨hx, by simp⟩, rfl⟩
        · rw [if_neg k, decide_eq_false k, Bool.false_and, Bool.not_false, Bool.true_and, Bool.false_or, Bool.eq_iff_iff, List.contains_iff_mem, List.contains_iff_mem]
          unfold rst
          rw [List.mem_filter]
          exact ⟨fun h => h.1, fun h => ⟨h, by rw [hn]; rfl⟩⟩
/-! ### lots as lists of code points -/
def cp (s : Str) : List Nat := s.cps.toList
theorem T_cp (s : Str) : T (cp s) = s := rfl
theorem cp_inj {a b : Str} (h : cp a = cp b) : a = b := by rw [← T_cp a, ← T_cp b, h]
theorem TD_cp (l : List Str) : (l.map cp).map TD = l.map D.str := by
  rw [List.map_map]
  rfl
theorem f_every : marks9.all (fun m => (every m).all fun s => (cp s).isSublist (cp m) && decide ((cp s).Pairwise (· < ·)) && decide (wd (cp s) (cp m) = cp s)) = true := by decide +kernel
theorem every_k (hm : m ∈ marks9) {s : Str} (hs : s ∈ every m) : (cp s).Sublist (cp m) ∧ (cp s).Pairwise (· < ·) ∧ wd (cp s) (cp m) = cp s := by
  have h := List.all_eq_true.mp (List.all_eq_true.mp f_every m hm) s hs
  rw [Bool.and_eq_true, Bool.and_eq_true] at h
  exact ⟨List.isSublist_iff_sublist.mp h.1.1, of_decide_eq_true h.1.2, of_decide_eq_true h.2⟩
theorem ltS_irr (a : Str) : ltS a a = false := decide_eq_false (List.lt_irrefl _)
theorem every_nd (hm : m ∈ marks9) : (every m).Nodup := (every_up hm).imp fun {a b} h e => by
  subst e
  rw [ltS_irr] at h
  cases h
theorem kd_of (hm : m ∈ marks9) {l : List Str} (h : Good m l) : Kd (cp m) (l.map cp) := by
  refine ⟨?_, fun k hk => ?_⟩
  · rw [List.Nodup, List.pairwise_map]
    exact (h.1.nodup (every_nd hm)).imp fun {a b} hab e => hab (cp_inj e)
  · obtain ⟨s, hs, rfl⟩ := List.mem_map.mp hk
    exact (every_k hm (h.mem hs)).1
theorem filter_sub {α : Type} [BEq α] [LawfulBEq α] : ∀ {xs l : List α}, xs.Nodup → l.Sublist xs → xs.filter (fun x => l.contains x) = l
  | [], l, _, h => by rw [List.sublist_nil.mp h]; rfl
  | a :: xs, l, hn, h => by
    have hn1 := (List.pairwise_cons.mp hn).1
    have hn2 := (List.pairwise_cons.mp hn).2
    cases h with
    | cons _ h =>
      have : l.contains a = false := by
        rw [Bool.eq_false_iff, Ne, List.contains_iff_mem]
        exact fun hc => hn1 a (h.subset hc) rfl
      rw [List.filter_cons_of_neg (by rw [this]; decide)]
      exact filter_sub hn2 h
    | cons_cons _ h =>
      rename_i l
      rw [List.filter_cons_of_pos (by simp)]
      congr 1
      rw [← filter_sub hn2 h]
      refine List.filter_congr fun x hx => ?_
      have : (x == a) = false := beq_eq_false_iff_ne.mpr fun e => hn1 x hx e.symm
      rw [filter_sub hn2 h, List.contains_cons, this, Bool.false_or]
theorem m_asc (hm : m ∈ marks9) : (cp m).Pairwise (· < ·) := (sfx_of (m_sfx hm)).2.2.2.2
theorem spf_every (hm : m ∈ marks9) {l : List Str} (h : Good m l) {s : Str} (hs : s ∈ every m) : spf (cp m) (l.map cp) s = l.contains s := by
  obtain ⟨_, h2, h3⟩ := every_k hm hs
  have e := spf_ok (cp m) (l.map cp) (cp s) (m_asc hm) h2 (kd_of hm h)
  rw [T_cp, h3] at e
  rw [e, Bool.eq_iff_iff, List.contains_iff_mem, List.contains_iff_mem, List.mem_map]
  constructor
  · rintro ⟨x, hx, e⟩
    exact cp_inj e ▸ hx
  · intro hx
    exact ⟨s, hx, rfl⟩
theorem spf_lot (hm : m ∈ marks9) {l : List Str} (h : Good m l) : lotV m (spf (cp m) (l.map cp)) = l := by
  have e : lotV m (spf (cp m) (l.map cp)) = (every m).filter fun s => l.contains s := List.filter_congr fun s hs => spf_every hm h hs
  rw [e]
  exact filter_sub (every_nd hm) h.1
theorem sg_of (hm : m ∈ marks9) : ∀ c ∈ cp m, T [c] ∈ sgs m := fun c hc => List.mem_map.mpr ⟨c, hc, rfl⟩
end KK

set_option Elab.async false
set_option linter.all false
set_option maxRecDepth 100000
set_option maxHeartbeats 4000000
namespace KK
open PySem L2 Nz
open Nz (D Arg)
variable {m : Str} {n : Nat}
/-! ### sizes, by the program -/
def sz (s t : Nat) : D := .tup [.int (s : Int), .int (t : Int)]
theorem joined2 (n : Nat) (c d : D) (s t u v : Nat) (h1 : 1 ≤ s) (h2 : 1 ≤ u) (h3 : 1 + s + u ≤ 1000) (h4 : t < 20) (h5 : v < 20) (e1 : run n 8 [.d c] = .ret (.d (sz s t)) [none]) (e2 : run n 8 [.d d] = .ret (.d (sz u v)) [none]) :
    run (n + 1) 9 [.d (.lst [c, d])] = .ret (.d (sz (1 + s + u) (max (max 1 (t + 1)) (v + 1)))) [none] := by
  have g1 := j_turn n (.lst [c, d]) c 1 1 s t .no .no .no .no h1 (by omega) h4 e1
  have g2 := j_turn n (.lst [c, d]) d (1 + s) (max 1 (t + 1)) u v (.d (.int (s : Int))) (.d (.int (t : Int))) (.d _) (.d _) h2 (by omega) h5 e2
  have g6 : loopL (gfName 3) (jLoop n) [c, d] [.d (.lst [c, d]), .d (.int 1), .d (.int 1), .no, .no, .no] = .ok .next [.d (.lst [c, d]), .d (.int ((1 + s + u : Nat) : Int)), .d (.int ((max (max 1 (t + 1)) (v + 1) : Nat) : Int)), .d d, .d (.int (u : Int)), .d (.int (v : Int))] := by
    have g1' : jLoop n [.d (.lst [c, d]), .d (.int 1), .d (.int 1), .d c, .no, .no] = .ok .next [.d (.lst [c, d]), .d (.int ((1 + s : Nat) : Int)), .d (.int ((max 1 (t + 1) : Nat) : Int)), .d c, .d (.int (s : Int)), .d (.int (t : Int))] := g1
    simp only [loopL_cons, loopL_nil, gfName_ap, noIo_ap, List.getElem?_cons_zero, List.getElem?_cons_succ, nio_no, nio_d, gs_t, List.set_cons_succ, List.set_cons_zero, ofO_some, Out.bind_ok, kLoop_ap, g1', g2, kLoop2_ap, turnK_next]
  show finF _ (b9 (run n) [.d (.lst [c, d]), .no, .no, .no, .no, .no]) = _
  unfold jLoop at g6
  unfold b9 sz
  simp only [fC_ap, opd_ap, asD_d, asD_slot, asD_new, f1_ap, f2_ap, res_d, res_slot, resS_d, resS_own, resS_io, resS_rd, ress_nil, ress_cons, ofP_d, ofP_l, ofP_t, isB_b, fT_ap, gAnd_ap, gOr_ap, gNot_ap, fAnd_ap, fOr_ap, fNot_ap, fIf_ap, fNil_ap, fCons_ap, frz_d, frzs_nil, frzs_cons, fTup_ap, fLst_ap, isI_i, fPart_ap, fNo_ap, fSl_ap, fBlt_ap, fSeq_ap, seqK_next, seqK_brk, seqK_cont, seqK_ret, fSkip_ap, fIfS_ap, fDrop_ap, fAsg_ap, retK_d, retK_new, fRet_ap, fRetN_ap, turnK_next, turnK_cont, turnK_brk, turnK_ret, ofO_some, fFor_ap, forK_items, fSeqI_ap, seqSrc_l, seqSrc_t, seqSrc_s, fRng1_ap, fRng2_ap, fComp_ap, compK_items, gTrue_ap, k1_ap, o2_ap, k2b_ap, k2a_ap, kT_ap, kAnd_t, kAnd_f, kOr_t, kOr_f, kNot_ap, kAndE_t, kAndE_f, kOrE_t, kOrE_f, kNotE_ap, kIfE_t, kIfE_f, kIfS_t, kIfS_f, kCons2_ap, kCons_ap, kz2_ap, kz_ap, kTup2_ap, kTup_ap, kLst2_ap, kLst_ap, kPart_ap, kSl3_ap, kSl2_ap, kSl1_ap, kBlt_ap, kDrop_ap, kAsg2_ap, kAsg_ap, kRng1_ap, kRng2_ap, fCall_ap, kCall_ap, kCall2_ap, kCall3_ap, callK_d, callK_n, upds_io, upds_nil, upds_no, mkArgs_nil, mkArgs_cons, mkArgE_d, once1, once_dd, once_d2, once_s2, once_s3, once_s3d, kMut_ap, kLoop_ap, kLoop2_ap, fVar_ap, vr_d, vr_own, vr_io, vr_rd, noIo_ap, nio_no, nio_d, nio_own, nio_rd, frz_slot, fz_d, fz_own, gd_t, gs_t, store_d, store_new, retK_slot, rk_own, rk_d, lstAt_ap, la_own, la_io, mutAt_ap, ma_own, ma_io, mo_some, mi_some, mkArg_slot, ag_d, ag_own, ag_rd, ag_ownt, ag_iot, putC_ap, pc_own, pc_io, gfName_ap, gfNil_ap, gfCons_ap, gfTup_ap, seqSrc_slot, slotSrc_own, slotSrc_rd, fMut_ap, kMut2_ap, kSet3_ap, kSet2_ap, kSet_ap, fSetI_ap, fSetA_ap, kAtt_ap, kAtt2_ap, sa_ap, back_ap, bk_rd, mapEnv_ok, compK_lend, forK_lend, fEnum_ap, enumSrc_t, once_d3, once_dsd, lim_pos, Nat.reduceBEq, Nat.reduceAdd, Nat.reduceLeDiff, List.getElem?_cons_zero, List.getElem?_cons_succ, List.set_cons_zero, List.set_cons_succ, Out.bind_ok, Option.bind_some, Option.map_some, Bool.not_true, Bool.not_false, List.length_cons, List.length_nil, g6]
  rfl
theorem joined1 (n : Nat) (c : D) (s t : Nat) (h1 : 1 ≤ s) (h3 : 1 + s ≤ 1000) (h4 : t < 20) (e1 : run n 8 [.d c] = .ret (.d (sz s t)) [none]) :
    run (n + 1) 9 [.d (.lst [c])] = .ret (.d (sz (1 + s) (max 1 (t + 1)))) [none] := by
  have g1 := j_turn n (.lst [c]) c 1 1 s t .no .no .no .no h1 (by omega) h4 e1
  have g6 : loopL (gfName 3) (jLoop n) [c] [.d (.lst [c]), .d (.int 1), .d (.int 1), .no, .no, .no] = .ok .next [.d (.lst [c]), .d (.int ((1 + s : Nat) : Int)), .d (.int ((max 1 (t + 1) : Nat) : Int)), .d c, .d (.int (s : Int)), .d (.int (t : Int))] := by
    have g1' : jLoop n [.d (.lst [c]), .d (.int 1), .d (.int 1), .d c, .no, .no] = .ok .next [.d (.lst [c]), .d (.int ((1 + s : Nat) : Int)), .d (.int ((max 1 (t + 1) : Nat) : Int)), .d c, .d (.int (s : Int)), .d (.int (t : Int))] := g1
    simp only [loopL_cons, loopL_nil, gfName_ap, noIo_ap, List.getElem?_cons_zero, List.getElem?_cons_succ, nio_no, nio_d, gs_t, List.set_cons_succ, List.set_cons_zero, ofO_some, Out.bind_ok, kLoop_ap, g1', kLoop2_ap, turnK_next]
  show finF _ (b9 (run n) [.d (.lst [c]), .no, .no, .no, .no, .no]) = _
  unfold jLoop at g6
  unfold b9 sz
  simp only [fC_ap, opd_ap, asD_d, asD_slot, asD_new, f1_ap, f2_ap, res_d, res_slot, resS_d, resS_own, resS_io, resS_rd, ress_nil, ress_cons, ofP_d, ofP_l, ofP_t, isB_b, fT_ap, gAnd_ap, gOr_ap, gNot_ap, fAnd_ap, fOr_ap, fNot_ap, fIf_ap, fNil_ap, fCons_ap, frz_d, frzs_nil, frzs_cons, fTup_ap, fLst_ap, isI_i, fPart_ap, fNo_ap, fSl_ap, fBlt_ap, fSeq_ap, seqK_next, seqK_brk, seqK_cont, seqK_ret, fSkip_ap, fIfS_ap, fDrop_ap, fAsg_ap, retK_d, retK_new, fRet_ap, fRetN_ap, turnK_next, turnK_cont, turnK_brk, turnK_ret, ofO_some, fFor_ap, forK_items, fSeqI_ap, seqSrc_l, seqSrc_t, seqSrc_s, fRng1_ap, fRng2_ap, fComp_ap, compK_items, gTrue_ap, k1_ap, o2_ap, k2b_ap, k2a_ap, kT_ap, kAnd_t, kAnd_f, kOr_t, kOr_f, kNot_ap, kAndE_t, kAndE_f, kOrE_t, kOrE_f, kNotE_ap, kIfE_t, kIfE_f, kIfS_t, kIfS_f, kCons2_ap, kCons_ap, kz2_ap, kz_ap, kTup2_ap, kTup_ap, kLst2_ap, kLst_ap, kPart_ap, kSl3_ap, kSl2_ap, kSl1_ap, kBlt_ap, kDrop_ap, kAsg2_ap, kAsg_ap, kRng1_ap, kRng2_ap, fCall_ap, kCall_ap, kCall2_ap, kCall3_ap, callK_d, callK_n, upds_io, upds_nil, upds_no, mkArgs_nil, mkArgs_cons, mkArgE_d, once1, once_dd, once_d2, once_s2, once_s3, once_s3d, kMut_ap, kLoop_ap, kLoop2_ap, fVar_ap, vr_d, vr_own, vr_io, vr_rd, noIo_ap, nio_no, nio_d, nio_own, nio_rd, frz_slot, fz_d, fz_own, gd_t, gs_t, store_d, store_new, retK_slot, rk_own, rk_d, lstAt_ap, la_own, la_io, mutAt_ap, ma_own, ma_io, mo_some, mi_some, mkArg_slot, ag_d, ag_own, ag_rd, ag_ownt, ag_iot, putC_ap, pc_own, pc_io, gfName_ap, gfNil_ap, gfCons_ap, gfTup_ap, seqSrc_slot, slotSrc_own, slotSrc_rd, fMut_ap, kMut2_ap, kSet3_ap, kSet2_ap, kSet_ap, fSetI_ap, fSetA_ap, kAtt_ap, kAtt2_ap, sa_ap, back_ap, bk_rd, mapEnv_ok, compK_lend, forK_lend, fEnum_ap, enumSrc_t, once_d3, once_dsd, lim_pos, Nat.reduceBEq, Nat.reduceAdd, Nat.reduceLeDiff, List.getElem?_cons_zero, List.getElem?_cons_succ, List.set_cons_zero, List.set_cons_succ, Out.bind_ok, Option.bind_some, Option.map_some, Bool.not_true, Bool.not_false, List.length_cons, List.length_nil, g6]
  rfl
theorem joined0 (n : Nat) : run (n + 1) 9 [.d (.lst [])] = .ret (.d (sz 1 1)) [none] := by
  obtain ⟨s, t, h1, h2, h3, h4, h5⟩ := joined_ok n 1 0 (by decide) [] (by decide) (fun c hc => by cases hc)
  have e1 : s = 1 := by simp at h2; omega
  have e2 : t = 1 := by omega
  subst e1; subst e2
  exact h5
theorem size_leaf (n : Nat) (c : Nat) : run (n + 2) 8 [.d (leafD (T [c]))] = .ret (.d (sz 1 1)) [none] := by
  show finF _ (b8 (run (n + 1)) [.d (leafD (T [c]))]) = _
  have z1 : ((1 : Int) == 1) = true := rfl
  have gl : gLen [.str (T [c])] = some (.d (.int 1)) := rfl
  unfold b8 leafD
  simp only [fC_ap, opd_ap, asD_d, asD_slot, asD_new, f1_ap, f2_ap, res_d, res_slot, resS_d, resS_own, resS_io, resS_rd, ress_nil, ress_cons, ofP_d, ofP_l, ofP_t, isB_b, fT_ap, gAnd_ap, gOr_ap, gNot_ap, fAnd_ap, fOr_ap, fNot_ap, fIf_ap, fNil_ap, fCons_ap, frz_d, frzs_nil, frzs_cons, fTup_ap, fLst_ap, isI_i, fPart_ap, fNo_ap, fSl_ap, fBlt_ap, fSeq_ap, seqK_next, seqK_brk, seqK_cont, seqK_ret, fSkip_ap, fIfS_ap, fDrop_ap, fAsg_ap, retK_d, retK_new, fRet_ap, fRetN_ap, turnK_next, turnK_cont, turnK_brk, turnK_ret, ofO_some, fFor_ap, forK_items, fSeqI_ap, seqSrc_l, seqSrc_t, seqSrc_s, fRng1_ap, fRng2_ap, fComp_ap, compK_items, gTrue_ap, k1_ap, o2_ap, k2b_ap, k2a_ap, kT_ap, kAnd_t, kAnd_f, kOr_t, kOr_f, kNot_ap, kAndE_t, kAndE_f, kOrE_t, kOrE_f, kNotE_ap, kIfE_t, kIfE_f, kIfS_t, kIfS_f, kCons2_ap, kCons_ap, kz2_ap, kz_ap, kTup2_ap, kTup_ap, kLst2_ap, kLst_ap, kPart_ap, kSl3_ap, kSl2_ap, kSl1_ap, kBlt_ap, kDrop_ap, kAsg2_ap, kAsg_ap, kRng1_ap, kRng2_ap, fCall_ap, kCall_ap, kCall2_ap, kCall3_ap, callK_d, callK_n, upds_io, upds_nil, upds_no, mkArgs_nil, mkArgs_cons, mkArgE_d, once1, once_dd, once_d2, once_s2, once_s3, once_s3d, kMut_ap, kLoop_ap, kLoop2_ap, fVar_ap, vr_d, vr_own, vr_io, vr_rd, noIo_ap, nio_no, nio_d, nio_own, nio_rd, frz_slot, fz_d, fz_own, gd_t, gs_t, store_d, store_new, retK_slot, rk_own, rk_d, lstAt_ap, la_own, la_io, mutAt_ap, ma_own, ma_io, mo_some, mi_some, mkArg_slot, ag_d, ag_own, ag_rd, ag_ownt, ag_iot, putC_ap, pc_own, pc_io, gfName_ap, gfNil_ap, gfCons_ap, gfTup_ap, seqSrc_slot, slotSrc_own, slotSrc_rd, fMut_ap, kMut2_ap, kSet3_ap, kSet2_ap, kSet_ap, fSetI_ap, fSetA_ap, kAtt_ap, kAtt2_ap, sa_ap, back_ap, bk_rd, mapEnv_ok, compK_lend, forK_lend, fEnum_ap, enumSrc_t, once_d3, once_dsd, lim_pos, Nat.reduceBEq, Nat.reduceAdd, Nat.reduceLeDiff, List.getElem?_cons_zero, List.getElem?_cons_succ, List.set_cons_zero, List.set_cons_succ, Out.bind_ok, Option.bind_some, Option.map_some, Bool.not_true, Bool.not_false, List.length_cons, List.length_nil, pair_ok n, ix_0, ix_1, w_hh, isi_s, gl, gEq_i, z1]
  rfl
theorem size_not (n : Nat) (c : D) (s t : Nat) (h1 : 1 ≤ s) (h3 : 1 + s ≤ 1000) (h4 : t < 20) (e1 : run n 8 [.d c] = .ret (.d (sz s t)) [none]) :
    run (n + 2) 8 [.d (notD c)] = .ret (.d (sz (1 + s) (max 1 (t + 1)))) [none] := by
  have g := joined1 n c s t h1 h3 h4 e1
  show finF _ (b8 (run (n + 1)) [.d (notD c)]) = _
  have l1 : ∀ o : Out Rv, lim 1 o = o := fun o => lim_pos (by decide)
  unfold b8 notD
  simp only [fC_ap, opd_ap, asD_d, asD_slot, asD_new, f1_ap, f2_ap, res_d, res_slot, resS_d, resS_own, resS_io, resS_rd, ress_nil, ress_cons, ofP_d, ofP_l, ofP_t, isB_b, fT_ap, gAnd_ap, gOr_ap, gNot_ap, fAnd_ap, fOr_ap, fNot_ap, fIf_ap, fNil_ap, fCons_ap, frz_d, frzs_nil, frzs_cons, fTup_ap, fLst_ap, isI_i, fPart_ap, fNo_ap, fSl_ap, fBlt_ap, fSeq_ap, seqK_next, seqK_brk, seqK_cont, seqK_ret, fSkip_ap, fIfS_ap, fDrop_ap, fAsg_ap, retK_d, retK_new, fRet_ap, fRetN_ap, turnK_next, turnK_cont, turnK_brk, turnK_ret, ofO_some, fFor_ap, forK_items, fSeqI_ap, seqSrc_l, seqSrc_t, seqSrc_s, fRng1_ap, fRng2_ap, fComp_ap, compK_items, gTrue_ap, k1_ap, o2_ap, k2b_ap, k2a_ap, kT_ap, kAnd_t, kAnd_f, kOr_t, kOr_f, kNot_ap, kAndE_t, kAndE_f, kOrE_t, kOrE_f, kNotE_ap, kIfE_t, kIfE_f, kIfS_t, kIfS_f, kCons2_ap, kCons_ap, kz2_ap, kz_ap, kTup2_ap, kTup_ap, kLst2_ap, kLst_ap, kPart_ap, kSl3_ap, kSl2_ap, kSl1_ap, kBlt_ap, kDrop_ap, kAsg2_ap, kAsg_ap, kRng1_ap, kRng2_ap, fCall_ap, kCall_ap, kCall2_ap, kCall3_ap, callK_d, callK_n, upds_io, upds_nil, upds_no, mkArgs_nil, mkArgs_cons, mkArgE_d, once1, once_dd, once_d2, once_s2, once_s3, once_s3d, kMut_ap, kLoop_ap, kLoop2_ap, fVar_ap, vr_d, vr_own, vr_io, vr_rd, noIo_ap, nio_no, nio_d, nio_own, nio_rd, frz_slot, fz_d, fz_own, gd_t, gs_t, store_d, store_new, retK_slot, rk_own, rk_d, lstAt_ap, la_own, la_io, mutAt_ap, ma_own, ma_io, mo_some, mi_some, mkArg_slot, ag_d, ag_own, ag_rd, ag_ownt, ag_iot, putC_ap, pc_own, pc_io, gfName_ap, gfNil_ap, gfCons_ap, gfTup_ap, seqSrc_slot, slotSrc_own, slotSrc_rd, fMut_ap, kMut2_ap, kSet3_ap, kSet2_ap, kSet_ap, fSetI_ap, fSetA_ap, kAtt_ap, kAtt2_ap, sa_ap, back_ap, bk_rd, mapEnv_ok, compK_lend, forK_lend, fEnum_ap, enumSrc_t, once_d3, once_dsd, lim_pos, Nat.reduceBEq, Nat.reduceAdd, Nat.reduceLeDiff, List.getElem?_cons_zero, List.getElem?_cons_succ, List.set_cons_zero, List.set_cons_succ, Out.bind_ok, Option.bind_some, Option.map_some, Bool.not_true, Bool.not_false, List.length_cons, List.length_nil, pair_ok n, ix_0, ix_1, w_nh, w_nn, l1, g]
  rfl
theorem size_two (n : Nat) (b : Bool) (c d : D) (s t u v : Nat) (h1 : 1 ≤ s) (h2 : 1 ≤ u) (h3 : 1 + s + u ≤ 1000) (h4 : t < 20) (h5 : v < 20) (e1 : run n 8 [.d c] = .ret (.d (sz s t)) [none]) (e2 : run n 8 [.d d] = .ret (.d (sz u v)) [none]) :
    run (n + 2) 8 [.d (manyD b [c, d])] = .ret (.d (sz (1 + s + u) (max (max 1 (t + 1)) (v + 1)))) [none] := by
  have g := joined2 n c d s t u v h1 h2 h3 h4 h5 e1 e2
  have e10 : decide ((10 : Int) < (([c, d] : List D).length : Int)) = false := decide_eq_false (by simp)
  have e2 : gLen [.tup [c, d]] = some (.d (.int (([c, d] : List D).length : Int))) := rfl
  show finF _ (b8 (run (n + 1)) [.d (manyD b [c, d])]) = _
  generalize ([c, d] : List D).length = K at e10 e2
  unfold b8 manyD
  simp only [fC_ap, opd_ap, asD_d, asD_slot, asD_new, f1_ap, f2_ap, res_d, res_slot, resS_d, resS_own, resS_io, resS_rd, ress_nil, ress_cons, ofP_d, ofP_l, ofP_t, isB_b, fT_ap, gAnd_ap, gOr_ap, gNot_ap, fAnd_ap, fOr_ap, fNot_ap, fIf_ap, fNil_ap, fCons_ap, frz_d, frzs_nil, frzs_cons, fTup_ap, fLst_ap, isI_i, fPart_ap, fNo_ap, fSl_ap, fBlt_ap, fSeq_ap, seqK_next, seqK_brk, seqK_cont, seqK_ret, fSkip_ap, fIfS_ap, fDrop_ap, fAsg_ap, retK_d, retK_new, fRet_ap, fRetN_ap, turnK_next, turnK_cont, turnK_brk, turnK_ret, ofO_some, fFor_ap, forK_items, fSeqI_ap, seqSrc_l, seqSrc_t, seqSrc_s, fRng1_ap, fRng2_ap, fComp_ap, compK_items, gTrue_ap, k1_ap, o2_ap, k2b_ap, k2a_ap, kT_ap, kAnd_t, kAnd_f, kOr_t, kOr_f, kNot_ap, kAndE_t, kAndE_f, kOrE_t, kOrE_f, kNotE_ap, kIfE_t, kIfE_f, kIfS_t, kIfS_f, kCons2_ap, kCons_ap, kz2_ap, kz_ap, kTup2_ap, kTup_ap, kLst2_ap, kLst_ap, kPart_ap, kSl3_ap, kSl2_ap, kSl1_ap, kBlt_ap, kDrop_ap, kAsg2_ap, kAsg_ap, kRng1_ap, kRng2_ap, fCall_ap, kCall_ap, kCall2_ap, kCall3_ap, callK_d, callK_n, upds_io, upds_nil, upds_no, mkArgs_nil, mkArgs_cons, mkArgE_d, once1, once_dd, once_d2, once_s2, once_s3, once_s3d, kMut_ap, kLoop_ap, kLoop2_ap, fVar_ap, vr_d, vr_own, vr_io, vr_rd, noIo_ap, nio_no, nio_d, nio_own, nio_rd, frz_slot, fz_d, fz_own, gd_t, gs_t, store_d, store_new, retK_slot, rk_own, rk_d, lstAt_ap, la_own, la_io, mutAt_ap, ma_own, ma_io, mo_some, mi_some, mkArg_slot, ag_d, ag_own, ag_rd, ag_ownt, ag_iot, putC_ap, pc_own, pc_io, gfName_ap, gfNil_ap, gfCons_ap, gfTup_ap, seqSrc_slot, slotSrc_own, slotSrc_rd, fMut_ap, kMut2_ap, kSet3_ap, kSet2_ap, kSet_ap, fSetI_ap, fSetA_ap, kAtt_ap, kAtt2_ap, sa_ap, back_ap, bk_rd, mapEnv_ok, compK_lend, forK_lend, fEnum_ap, enumSrc_t, once_d3, once_dsd, lim_pos, Nat.reduceBEq, Nat.reduceAdd, Nat.reduceLeDiff, List.getElem?_cons_zero, List.getElem?_cons_succ, List.set_cons_zero, List.set_cons_succ, Out.bind_ok, Option.bind_some, Option.map_some, Bool.not_true, Bool.not_false, List.length_cons, List.length_nil, pair_ok n, ix_0, ix_1, w_ah, w_an, w_in, isi_t, e2, gGt_i, e10, gList_t, gListS_t, g]
  rfl
theorem size_none (n : Nat) (b : Bool) : run (n + 2) 8 [.d (manyD b [])] = .ret (.d (sz 1 1)) [none] := by
  have g := joined0 n
  have e10 : decide ((10 : Int) < (([] : List D).length : Int)) = false := decide_eq_false (by simp)
  have e2 : gLen [.tup []] = some (.d (.int (([] : List D).length : Int))) := rfl
  show finF _ (b8 (run (n + 1)) [.d (manyD b [])]) = _
  generalize ([] : List D).length = K at e10 e2
  unfold b8 manyD
  simp only [fC_ap, opd_ap, asD_d, asD_slot, asD_new, f1_ap, f2_ap, res_d, res_slot, resS_d, resS_own, resS_io, resS_rd, ress_nil, ress_cons, ofP_d, ofP_l, ofP_t, isB_b, fT_ap, gAnd_ap, gOr_ap, gNot_ap, fAnd_ap, fOr_ap, fNot_ap, fIf_ap, fNil_ap, fCons_ap, frz_d, frzs_nil, frzs_cons, fTup_ap, fLst_ap, isI_i, fPart_ap, fNo_ap, fSl_ap, fBlt_ap, fSeq_ap, seqK_next, seqK_brk, seqK_cont, seqK_ret, fSkip_ap, fIfS_ap, fDrop_ap, fAsg_ap, retK_d, retK_new, fRet_ap, fRetN_ap, turnK_next, turnK_cont, turnK_brk, turnK_ret, ofO_some, fFor_ap, forK_items, fSeqI_ap, seqSrc_l, seqSrc_t, seqSrc_s, fRng1_ap, fRng2_ap, fComp_ap, compK_items, gTrue_ap, k1_ap, o2_ap, k2b_ap, k2a_ap, kT_ap, kAnd_t, kAnd_f, kOr_t, kOr_f, kNot_ap, kAndE_t, kAndE_f, kOrE_t, kOrE_f, kNotE_ap, kIfE_t, kIfE_f, kIfS_t, kIfS_f, kCons2_ap, kCons_ap, kz2_ap, kz_ap, kTup2_ap, kTup_ap, kLst2_ap, kLst_ap, kPart_ap, kSl3_ap, kSl2_ap, kSl1_ap, kBlt_ap, kDrop_ap, kAsg2_ap, kAsg_ap, kRng1_ap, kRng2_ap, fCall_ap, kCall_ap, kCall2_ap, kCall3_ap, callK_d, callK_n, upds_io, upds_nil, upds_no, mkArgs_nil, mkArgs_cons, mkArgE_d, once1, once_dd, once_d2, once_s2, once_s3, once_s3d, kMut_ap, kLoop_ap, kLoop2_ap, fVar_ap, vr_d, vr_own, vr_io, vr_rd, noIo_ap, nio_no, nio_d, nio_own, nio_rd, frz_slot, fz_d, fz_own, gd_t, gs_t, store_d, store_new, retK_slot, rk_own, rk_d, lstAt_ap, la_own, la_io, mutAt_ap, ma_own, ma_io, mo_some, mi_some, mkArg_slot, ag_d, ag_own, ag_rd, ag_ownt, ag_iot, putC_ap, pc_own, pc_io, gfName_ap, gfNil_ap, gfCons_ap, gfTup_ap, seqSrc_slot, slotSrc_own, slotSrc_rd, fMut_ap, kMut2_ap, kSet3_ap, kSet2_ap, kSet_ap, fSetI_ap, fSetA_ap, kAtt_ap, kAtt2_ap, sa_ap, back_ap, bk_rd, mapEnv_ok, compK_lend, forK_lend, fEnum_ap, enumSrc_t, once_d3, once_dsd, lim_pos, Nat.reduceBEq, Nat.reduceAdd, Nat.reduceLeDiff, List.getElem?_cons_zero, List.getElem?_cons_succ, List.set_cons_zero, List.set_cons_succ, Out.bind_ok, Option.bind_some, Option.map_some, Bool.not_true, Bool.not_false, List.length_cons, List.length_nil, pair_ok n, ix_0, ix_1, w_ah, w_an, w_in, isi_t, e2, gGt_i, e10, gList_t, gListS_t, g]
  rfl
/-- how great it can get -/
def Bn : Nat → Nat
  | 0 => 1
  | k + 1 => 6 + 2 * Bn k
theorem Bn_le {k : Nat} (h : k ≤ 5) : Bn k ≤ 218 := by
  have : k = 0 ∨ k = 1 ∨ k = 2 ∨ k = 3 ∨ k = 4 ∨ k = 5 := by omega
  rcases this with rfl | rfl | rfl | rfl | rfl | rfl <;> decide
theorem Bn_pos : ∀ k, 1 ≤ Bn k
  | 0 => Nat.le_refl _
  | k + 1 => by show 1 ≤ 6 + 2 * Bn k; omega
theorem spl_size (n : Nat) : ∀ (cs : List Nat) (lot : List (List Nat)), cs.length ≤ 5 → ∃ s t : Nat, 1 ≤ s ∧ s ≤ Bn cs.length ∧ 1 ≤ t ∧ t ≤ 2 * cs.length + 2 ∧ run (n + 4 + 4 * cs.length) 8 [.d (spl cs lot)] = .ret (.d (sz s t)) [none]
  | [], lot, _ => by
    refine ⟨1, 1, Nat.le_refl _, Nat.le_refl _, Nat.le_refl _, by decide, ?_⟩
    unfold spl
    split
    · exact size_none (n + 2) _
    · exact size_none (n + 2) _
  | c :: cs, lot, h => by
    have en : n + 4 + 4 * (c :: cs).length = n + 4 + 4 * cs.length + 2 + 2 := by rw [List.length_cons]; omega
    rw [en]
    have hl : cs.length ≤ 4 := by rw [List.length_cons] at h; omega
    have hB := Bn_le (k := (c :: cs).length) h
    have eB : Bn (c :: cs).length = 6 + 2 * Bn cs.length := rfl
    have hp := Bn_pos (c :: cs).length
    rw [eB] at hB ⊢
    unfold spl
    split
    · exact ⟨1, 1, Nat.le_refl _, by omega, Nat.le_refl _, by omega, size_none (n + 4 + 4 * cs.length + 2) _⟩
    · split
      · exact ⟨1, 1, Nat.le_refl _, by omega, Nat.le_refl _, by omega, size_none (n + 4 + 4 * cs.length + 2) _⟩
      · obtain ⟨s, t, a1, a2, a3, a4, a5⟩ := spl_size n cs (own c lot) (by omega)
        obtain ⟨u, v, b1, b2, b3, b4, b5⟩ := spl_size n cs (rst c lot) (by omega)
        have f4 : n + 4 + 4 * cs.length = (n + 2 + 4 * cs.length) + 2 := by omega
        have f5 : n + 2 + 4 * cs.length = (n + 4 * cs.length) + 2 := by omega
        have l1 := size_leaf (n + 2 + 4 * cs.length) c
        rw [← f4] at l1
        have l0 := size_leaf (n + 4 * cs.length) c
        rw [← f5] at l0
        have l2 := size_not (n + 2 + 4 * cs.length) _ 1 1 (Nat.le_refl _) (by decide) (by decide) l0
        rw [← f4] at l2
        have q1 := size_two (n + 4 + 4 * cs.length) true _ _ 1 1 s t (Nat.le_refl _) a1 (by omega) (by decide) (by omega) l1 a5
        have q2 := size_two (n + 4 + 4 * cs.length) true _ _ (1 + 1) (max 1 (1 + 1)) u v (by decide) b1 (by omega) (by decide) (by omega) l2 b5
        have q3 := size_two (n + 4 + 4 * cs.length + 2) false _ _ _ _ _ _ (by omega) (by omega) (by omega) (by omega) (by omega) q1 q2
        exact ⟨_, _, by omega, by omega, by omega, by rw [List.length_cons]; omega, q3⟩
end KK

set_option Elab.async false
set_option linter.all false
set_option maxRecDepth 100000
set_option maxHeartbeats 4000000
namespace KK
open PySem L2 Nz
open Nz (D Arg)
variable {m : Str} {n : Nat}
/-! ### the condition is one -/
theorem spl_chk (n : Nat) (hm : m ∈ marks9) (lot : List (List Nat)) : run (n + 4 + 4 * (cp m).length + 1) 11 [.d (.str m), .d (spl (cp m) lot)] = .ret (.d .non) [none, none] := by
  obtain ⟨s, t, h1, _, _, _, h5⟩ := spl_size n (cp m) lot (sfx_of (m_sfx hm)).2.1
  have h6 := known_ok (2 * (cp m).length + 2) (n + 2 + 2 * (cp m).length) _ _ (spl_cv (cp m) lot (sg_of hm))
  have e : n + 2 + 2 * (cp m).length + (2 * (cp m).length + 2) = n + 4 + 4 * (cp m).length := by omega
  rw [e] at h6
  have e0 : ((s : Int) == 0) = false := by rw [beq_eq_false_iff_ne]; omega
  show finF _ (b11 (run (n + 4 + 4 * (cp m).length)) [.d (.str m), .d (spl (cp m) lot)]) = _
  unfold sz at h5
  unfold b11
  simp only [fC_ap, opd_ap, asD_d, asD_slot, asD_new, f1_ap, f2_ap, res_d, res_slot, resS_d, resS_own, resS_io, resS_rd, ress_nil, ress_cons, ofP_d, ofP_l, ofP_t, isB_b, fT_ap, gAnd_ap, gOr_ap, gNot_ap, fAnd_ap, fOr_ap, fNot_ap, fIf_ap, fNil_ap, fCons_ap, frz_d, frzs_nil, frzs_cons, fTup_ap, fLst_ap, isI_i, fPart_ap, fNo_ap, fSl_ap, fBlt_ap, fSeq_ap, seqK_next, seqK_brk, seqK_cont, seqK_ret, fSkip_ap, fIfS_ap, fDrop_ap, fAsg_ap, retK_d, retK_new, fRet_ap, fRetN_ap, turnK_next, turnK_cont, turnK_brk, turnK_ret, ofO_some, fFor_ap, forK_items, fSeqI_ap, seqSrc_l, seqSrc_t, seqSrc_s, fRng1_ap, fRng2_ap, fComp_ap, compK_items, gTrue_ap, k1_ap, o2_ap, k2b_ap, k2a_ap, kT_ap, kAnd_t, kAnd_f, kOr_t, kOr_f, kNot_ap, kAndE_t, kAndE_f, kOrE_t, kOrE_f, kNotE_ap, kIfE_t, kIfE_f, kIfS_t, kIfS_f, kCons2_ap, kCons_ap, kz2_ap, kz_ap, kTup2_ap, kTup_ap, kLst2_ap, kLst_ap, kPart_ap, kSl3_ap, kSl2_ap, kSl1_ap, kBlt_ap, kDrop_ap, kAsg2_ap, kAsg_ap, kRng1_ap, kRng2_ap, fCall_ap, kCall_ap, kCall2_ap, kCall3_ap, callK_d, callK_n, upds_io, upds_nil, upds_no, mkArgs_nil, mkArgs_cons, mkArgE_d, once1, once_dd, once_d2, once_s2, once_s3, once_s3d, kMut_ap, kLoop_ap, kLoop2_ap, fVar_ap, vr_d, vr_own, vr_io, vr_rd, noIo_ap, nio_no, nio_d, nio_own, nio_rd, frz_slot, fz_d, fz_own, gd_t, gs_t, store_d, store_new, retK_slot, rk_own, rk_d, lstAt_ap, la_own, la_io, mutAt_ap, ma_own, ma_io, mo_some, mi_some, mkArg_slot, ag_d, ag_own, ag_rd, ag_ownt, ag_iot, putC_ap, pc_own, pc_io, gfName_ap, gfNil_ap, gfCons_ap, gfTup_ap, seqSrc_slot, slotSrc_own, slotSrc_rd, fMut_ap, kMut2_ap, kSet3_ap, kSet2_ap, kSet_ap, fSetI_ap, fSetA_ap, kAtt_ap, kAtt2_ap, sa_ap, back_ap, bk_rd, mapEnv_ok, compK_lend, forK_lend, fEnum_ap, enumSrc_t, once_d3, once_dsd, lim_pos, Nat.reduceBEq, Nat.reduceAdd, Nat.reduceLeDiff, List.getElem?_cons_zero, List.getElem?_cons_succ, List.set_cons_zero, List.set_cons_succ, Out.bind_ok, Option.bind_some, Option.map_some, Bool.not_true, Bool.not_false, List.length_cons, List.length_nil, h5, ix_0, gEq_i, e0, h6]
  rfl
theorem spl_lotof (n : Nat) (hm : m ∈ marks9) (lot : List (List Nat)) : run (n + 4 + 4 * (cp m).length + 2) 13 [.d (.str m), .d (spl (cp m) lot)] = .ret (.d (lotD (lotV m (spf (cp m) lot)))) [none, none] := by
  have h1 := compI_pure (i := 2) (c := fT (fCall [false, false] (run (n + 4 + 4 * (cp m).length + 1) 12) (fCons (fVar 1) (fCons (fVar 2) fNil)))) (e := fVar 2) (ρ := [.d (.str m), .d (spl (cp m) lot), .no]) (F := D.str) (keep := spf (cp m) lot) (val := D.str) (xs := every m) rfl (by have := (elen hm).2; omega) (by
    intro s hs
    have e := holds_ok s (2 * (cp m).length + 2) (n + 3 + 2 * (cp m).length) _ _ (spl_cv (cp m) lot (sg_of hm))
    have e1 : n + 3 + 2 * (cp m).length + (2 * (cp m).length + 2) = n + 4 + 4 * (cp m).length + 1 := by omega
    rw [e1] at e
    constructor
    · simp only [fC_ap, opd_ap, asD_d, asD_slot, asD_new, f1_ap, f2_ap, res_d, res_slot, resS_d, resS_own, resS_io, resS_rd, ress_nil, ress_cons, ofP_d, ofP_l, ofP_t, isB_b, fT_ap, gAnd_ap, gOr_ap, gNot_ap, fAnd_ap, fOr_ap, fNot_ap, fIf_ap, fNil_ap, fCons_ap, frz_d, frzs_nil, frzs_cons, fTup_ap, fLst_ap, isI_i, fPart_ap, fNo_ap, fSl_ap, fBlt_ap, fSeq_ap, seqK_next, seqK_brk, seqK_cont, seqK_ret, fSkip_ap, fIfS_ap, fDrop_ap, fAsg_ap, retK_d, retK_new, fRet_ap, fRetN_ap, turnK_next, turnK_cont, turnK_brk, turnK_ret, ofO_some, fFor_ap, forK_items, fSeqI_ap, seqSrc_l, seqSrc_t, seqSrc_s, fRng1_ap, fRng2_ap, fComp_ap, compK_items, gTrue_ap, k1_ap, o2_ap, k2b_ap, k2a_ap, kT_ap, kAnd_t, kAnd_f, kOr_t, kOr_f, kNot_ap, kAndE_t, kAndE_f, kOrE_t, kOrE_f, kNotE_ap, kIfE_t, kIfE_f, kIfS_t, kIfS_f, kCons2_ap, kCons_ap, kz2_ap, kz_ap, kTup2_ap, kTup_ap, kLst2_ap, kLst_ap, kPart_ap, kSl3_ap, kSl2_ap, kSl1_ap, kBlt_ap, kDrop_ap, kAsg2_ap, kAsg_ap, kRng1_ap, kRng2_ap, fCall_ap, kCall_ap, kCall2_ap, kCall3_ap, callK_d, callK_n, upds_io, upds_nil, upds_no, mkArgs_nil, mkArgs_cons, mkArgE_d, once1, once_dd, once_d2, once_s2, once_s3, once_s3d, kMut_ap, kLoop_ap, kLoop2_ap, fVar_ap, vr_d, vr_own, vr_io, vr_rd, noIo_ap, nio_no, nio_d, nio_own, nio_rd, frz_slot, fz_d, fz_own, gd_t, gs_t, store_d, store_new, retK_slot, rk_own, rk_d, lstAt_ap, la_own, la_io, mutAt_ap, ma_own, ma_io, mo_some, mi_some, mkArg_slot, ag_d, ag_own, ag_rd, ag_ownt, ag_iot, putC_ap, pc_own, pc_io, gfName_ap, gfNil_ap, gfCons_ap, gfTup_ap, seqSrc_slot, slotSrc_own, slotSrc_rd, fMut_ap, kMut2_ap, kSet3_ap, kSet2_ap, kSet_ap, fSetI_ap, fSetA_ap, kAtt_ap, kAtt2_ap, sa_ap, back_ap, bk_rd, mapEnv_ok, compK_lend, forK_lend, fEnum_ap, enumSrc_t, once_d3, once_dsd, lim_pos, Nat.reduceBEq, Nat.reduceAdd, Nat.reduceLeDiff, List.getElem?_cons_zero, List.getElem?_cons_succ, List.set_cons_zero, List.set_cons_succ, Out.bind_ok, Option.bind_some, Option.map_some, Bool.not_true, Bool.not_false, List.length_cons, List.length_nil, e]
    · intro _
      simp only [fC_ap, opd_ap, asD_d, asD_slot, asD_new, f1_ap, f2_ap, res_d, res_slot, resS_d, resS_own, resS_io, resS_rd, ress_nil, ress_cons, ofP_d, ofP_l, ofP_t, isB_b, fT_ap, gAnd_ap, gOr_ap, gNot_ap, fAnd_ap, fOr_ap, fNot_ap, fIf_ap, fNil_ap, fCons_ap, frz_d, frzs_nil, frzs_cons, fTup_ap, fLst_ap, isI_i, fPart_ap, fNo_ap, fSl_ap, fBlt_ap, fSeq_ap, seqK_next, seqK_brk, seqK_cont, seqK_ret, fSkip_ap, fIfS_ap, fDrop_ap, fAsg_ap, retK_d, retK_new, fRet_ap, fRetN_ap, turnK_next, turnK_cont, turnK_brk, turnK_ret, ofO_some, fFor_ap, forK_items, fSeqI_ap, seqSrc_l, seqSrc_t, seqSrc_s, fRng1_ap, fRng2_ap, fComp_ap, compK_items, gTrue_ap, k1_ap, o2_ap, k2b_ap, k2a_ap, kT_ap, kAnd_t, kAnd_f, kOr_t, kOr_f, kNot_ap, kAndE_t, kAndE_f, kOrE_t, kOrE_f, kNotE_ap, kIfE_t, kIfE_f, kIfS_t, kIfS_f, kCons2_ap, kCons_ap, kz2_ap, kz_ap, kTup2_ap, kTup_ap, kLst2_ap, kLst_ap, kPart_ap, kSl3_ap, kSl2_ap, kSl1_ap, kBlt_ap, kDrop_ap, kAsg2_ap, kAsg_ap, kRng1_ap, kRng2_ap, fCall_ap, kCall_ap, kCall2_ap, kCall3_ap, callK_d, callK_n, upds_io, upds_nil, upds_no, mkArgs_nil, mkArgs_cons, mkArgE_d, once1, once_dd, once_d2, once_s2, once_s3, once_s3d, kMut_ap, kLoop_ap, kLoop2_ap, fVar_ap, vr_d, vr_own, vr_io, vr_rd, noIo_ap, nio_no, nio_d, nio_own, nio_rd, frz_slot, fz_d, fz_own, gd_t, gs_t, store_d, store_new, retK_slot, rk_own, rk_d, lstAt_ap, la_own, la_io, mutAt_ap, ma_own, ma_io, mo_some, mi_some, mkArg_slot, ag_d, ag_own, ag_rd, ag_ownt, ag_iot, putC_ap, pc_own, pc_io, gfName_ap, gfNil_ap, gfCons_ap, gfTup_ap, seqSrc_slot, slotSrc_own, slotSrc_rd, fMut_ap, kMut2_ap, kSet3_ap, kSet2_ap, kSet_ap, fSetI_ap, fSetA_ap, kAtt_ap, kAtt2_ap, sa_ap, back_ap, bk_rd, mapEnv_ok, compK_lend, forK_lend, fEnum_ap, enumSrc_t, once_d3, once_dsd, lim_pos, Nat.reduceBEq, Nat.reduceAdd, Nat.reduceLeDiff, List.getElem?_cons_zero, List.getElem?_cons_succ, List.set_cons_zero, List.set_cons_succ, Out.bind_ok, Option.bind_some, Option.map_some, Bool.not_true, Bool.not_false, List.length_cons, List.length_nil])
  have h2 := spl_chk n hm lot
  have h3 := chkmarks_ok (n + 2 + 4 * (cp m).length) hm
  have e3 : n + 2 + 4 * (cp m).length + 3 = n + 4 + 4 * (cp m).length + 1 := by omega
  rw [e3] at h3
  show finF _ (b13 (run (n + 4 + 4 * (cp m).length + 1)) [.d (.str m), .d (spl (cp m) lot), .no]) = _
  unfold b13 lotV lotD
  simp only [fC_ap, opd_ap, asD_d, asD_slot, asD_new, f1_ap, f2_ap, res_d, res_slot, resS_d, resS_own, resS_io, resS_rd, ress_nil, ress_cons, ofP_d, ofP_l, ofP_t, isB_b, fT_ap, gAnd_ap, gOr_ap, gNot_ap, fAnd_ap, fOr_ap, fNot_ap, fIf_ap, fNil_ap, fCons_ap, frz_d, frzs_nil, frzs_cons, fTup_ap, fLst_ap, isI_i, fPart_ap, fNo_ap, fSl_ap, fBlt_ap, fSeq_ap, seqK_next, seqK_brk, seqK_cont, seqK_ret, fSkip_ap, fIfS_ap, fDrop_ap, fAsg_ap, retK_d, retK_new, fRet_ap, fRetN_ap, turnK_next, turnK_cont, turnK_brk, turnK_ret, ofO_some, fFor_ap, forK_items, fSeqI_ap, seqSrc_l, seqSrc_t, seqSrc_s, fRng1_ap, fRng2_ap, fComp_ap, compK_items, gTrue_ap, k1_ap, o2_ap, k2b_ap, k2a_ap, kT_ap, kAnd_t, kAnd_f, kOr_t, kOr_f, kNot_ap, kAndE_t, kAndE_f, kOrE_t, kOrE_f, kNotE_ap, kIfE_t, kIfE_f, kIfS_t, kIfS_f, kCons2_ap, kCons_ap, kz2_ap, kz_ap, kTup2_ap, kTup_ap, kLst2_ap, kLst_ap, kPart_ap, kSl3_ap, kSl2_ap, kSl1_ap, kBlt_ap, kDrop_ap, kAsg2_ap, kAsg_ap, kRng1_ap, kRng2_ap, fCall_ap, kCall_ap, kCall2_ap, kCall3_ap, callK_d, callK_n, upds_io, upds_nil, upds_no, mkArgs_nil, mkArgs_cons, mkArgE_d, once1, once_dd, once_d2, once_s2, once_s3, once_s3d, kMut_ap, kLoop_ap, kLoop2_ap, fVar_ap, vr_d, vr_own, vr_io, vr_rd, noIo_ap, nio_no, nio_d, nio_own, nio_rd, frz_slot, fz_d, fz_own, gd_t, gs_t, store_d, store_new, retK_slot, rk_own, rk_d, lstAt_ap, la_own, la_io, mutAt_ap, ma_own, ma_io, mo_some, mi_some, mkArg_slot, ag_d, ag_own, ag_rd, ag_ownt, ag_iot, putC_ap, pc_own, pc_io, gfName_ap, gfNil_ap, gfCons_ap, gfTup_ap, seqSrc_slot, slotSrc_own, slotSrc_rd, fMut_ap, kMut2_ap, kSet3_ap, kSet2_ap, kSet_ap, fSetI_ap, fSetA_ap, kAtt_ap, kAtt2_ap, sa_ap, back_ap, bk_rd, mapEnv_ok, compK_lend, forK_lend, fEnum_ap, enumSrc_t, once_d3, once_dsd, lim_pos, Nat.reduceBEq, Nat.reduceAdd, Nat.reduceLeDiff, List.getElem?_cons_zero, List.getElem?_cons_succ, List.set_cons_zero, List.set_cons_succ, Out.bind_ok, Option.bind_some, Option.map_some, Bool.not_true, Bool.not_false, List.length_cons, List.length_nil, h3, h2, allk_ok (n + 4 + 4 * (cp m).length) hm, h1, gTuple_l]
  rfl
/-! ### its size, by the law -/
def lsT (n : Nat) : SF := (fSeq (fAsg 3 (fComp (fSeqI (fVar 2)) (gfName 4) gTrue (fCall [false, false] (run n 26) (fCons (fVar 0) (fCons (fVar 4) fNil))) [4]))
  (fSeq (fIfS (fT (f2 gGt (fBlt gLen (fCons (fComp (fSeqI (fVar 3)) (gfTup 2 (gfCons (gfName 5) (gfCons (gfName 6) gfNil))) (fT (f2 gEq (fVar 5) (fC (.int (0))))) (fVar 5) [5, 6]) fNil)) (fC (.int (0)))))
  (fRet (fTup (fCons (fC (.int (0))) (fCons (fC (.int (0))) fNil))))
  fSkip)
  (fRet (fTup (fCons (f2 gAdd (fC (.int (1))) (fBlt gSum (fCons (fComp (fSeqI (fVar 3)) (gfTup 2 (gfCons (gfName 5) (gfCons (gfName 6) gfNil))) gTrue (fVar 5) [5, 6]) fNil))) (fCons (f2 gAdd (fC (.int (1))) (fBlt gMaxL (fCons (f2 gAdd (fLst (fCons (fC (.int (0))) fNil)) (fComp (fSeqI (fVar 3)) (gfTup 2 (gfCons (gfName 5) (gfCons (gfName 6) gfNil))) gTrue (fVar 6) [5, 6])) fNil))) fNil))))))
theorem intsOf_map : ∀ ns : List Int, intsOf (ns.map D.int) = some ns
  | [] => rfl
  | a :: r => by show (intsOf (r.map D.int)).map (a :: ·) = _; rw [intsOf_map r]; rfl
theorem gSum_map (ns : List Int) : gSum [.lst (ns.map D.int)] = some (.d (.int ns.sum)) := by
  show (intsOf _).map _ = _
  rw [intsOf_map]
  rfl
theorem gMaxL_map (a : Int) (ns : List Int) : gMaxL [.lst (.int a :: ns.map D.int)] = some (.d (.int (maxL a ns))) := by
  show (intsOf ((a :: ns).map D.int)).bind _ = _
  rw [intsOf_map]
  rfl
abbrev P3 := D × Nat × Nat
def ssum (xs : List P3) : Int := (xs.map fun p => (p.2.1 : Int)).sum
def tmax (xs : List P3) : Int := maxL 0 (xs.map fun p => (p.2.2 : Int))
theorem lsT_ok (n : Nat) (X : D) (xs : List P3) (hl : xs.length ≤ 10) (h : ∀ p ∈ xs, run n 26 [.d (.str m), .d p.1] = .ret (.d (sz p.2.1 p.2.2)) [none, none]) (h1 : ∀ p ∈ xs, 1 ≤ p.2.1) :
    lsT n [.d (.str m), .d X, .own (.lst (xs.map (·.1))), .no, .no, .no, .no] = .ok (.ret (.d (.tup [.int (1 + ssum xs), .int (1 + tmax xs)]))) [.d (.str m), .d X, .own (.lst (xs.map (·.1))), .own (.lst (xs.map fun p => sz p.2.1 p.2.2)), .no, .no, .no] := by
  have hl' : xs.length ≤ 100000 := by omega
  have c1 := compI_map (i := 4) (e := fCall [false, false] (run n 26) (fCons (fVar 0) (fCons (fVar 4) fNil))) (ρ := [.d (.str m), .d X, .rd (.lst (xs.map (·.1))), .no, .no, .no, .no]) (F := fun p : P3 => p.1) (val := fun p => sz p.2.1 p.2.2) (xs := xs) rfl hl' (by
    intro p hp
    simp only [fC_ap, opd_ap, asD_d, asD_slot, asD_new, f1_ap, f2_ap, res_d, res_slot, resS_d, resS_own, resS_io, resS_rd, ress_nil, ress_cons, ofP_d, ofP_l, ofP_t, isB_b, fT_ap, gAnd_ap, gOr_ap, gNot_ap, fAnd_ap, fOr_ap, fNot_ap, fIf_ap, fNil_ap, fCons_ap, frz_d, frzs_nil, frzs_cons, fTup_ap, fLst_ap, isI_i, fPart_ap, fNo_ap, fSl_ap, fBlt_ap, fSeq_ap, seqK_next, seqK_brk, seqK_cont, seqK_ret, fSkip_ap, fIfS_ap, fDrop_ap, fAsg_ap, retK_d, retK_new, fRet_ap, fRetN_ap, turnK_next, turnK_cont, turnK_brk, turnK_ret, ofO_some, fFor_ap, forK_items, fSeqI_ap, seqSrc_l, seqSrc_t, seqSrc_s, fRng1_ap, fRng2_ap, fComp_ap, compK_items, gTrue_ap, k1_ap, o2_ap, k2b_ap, k2a_ap, kT_ap, kAnd_t, kAnd_f, kOr_t, kOr_f, kNot_ap, kAndE_t, kAndE_f, kOrE_t, kOrE_f, kNotE_ap, kIfE_t, kIfE_f, kIfS_t, kIfS_f, kCons2_ap, kCons_ap, kz2_ap, kz_ap, kTup2_ap, kTup_ap, kLst2_ap, kLst_ap, kPart_ap, kSl3_ap, kSl2_ap, kSl1_ap, kBlt_ap, kDrop_ap, kAsg2_ap, kAsg_ap, kRng1_ap, kRng2_ap, fCall_ap, kCall_ap, kCall2_ap, kCall3_ap, callK_d, callK_n, upds_io, upds_nil, upds_no, mkArgs_nil, mkArgs_cons, mkArgE_d, once1, once_dd, once_d2, once_s2, once_s3, once_s3d, kMut_ap, kLoop_ap, kLoop2_ap, fVar_ap, vr_d, vr_own, vr_io, vr_rd, noIo_ap, nio_no, nio_d, nio_own, nio_rd, frz_slot, fz_d, fz_own, gd_t, gs_t, store_d, store_new, retK_slot, rk_own, rk_d, lstAt_ap, la_own, la_io, mutAt_ap, ma_own, ma_io, mo_some, mi_some, mkArg_slot, ag_d, ag_own, ag_rd, ag_ownt, ag_iot, putC_ap, pc_own, pc_io, gfName_ap, gfNil_ap, gfCons_ap, gfTup_ap, seqSrc_slot, slotSrc_own, slotSrc_rd, fMut_ap, kMut2_ap, kSet3_ap, kSet2_ap, kSet_ap, fSetI_ap, fSetA_ap, kAtt_ap, kAtt2_ap, sa_ap, back_ap, bk_rd, mapEnv_ok, compK_lend, forK_lend, fEnum_ap, enumSrc_t, once_d3, once_dsd, lim_pos, Nat.reduceBEq, Nat.reduceAdd, Nat.reduceLeDiff, List.getElem?_cons_zero, List.getElem?_cons_succ, List.set_cons_zero, List.set_cons_succ, Out.bind_ok, Option.bind_some, Option.map_some, Bool.not_true, Bool.not_false, List.length_cons, List.length_nil, h p hp])
  have c2 := compI_gen (t := gfTup 2 (gfCons (gfName 5) (gfCons (gfName 6) gfNil))) (c := fT (f2 gEq (fVar 5) (fC (.int (0))))) (e := fVar 5) (vs := [5, 6]) (ρ := [.d (.str m), .d X, .own (.lst (xs.map (·.1))), .rd (.lst (xs.map fun p => sz p.2.1 p.2.2)), .no, .no, .no]) (F := fun p : P3 => sz p.2.1 p.2.2) (keep := fun _ => false) (val := fun p => D.int (p.2.1 : Int)) (xs := xs) hl' rfl rfl rfl (by
    intro p hp
    have e0 : ((p.2.1 : Int) == 0) = false := by rw [beq_eq_false_iff_ne]; have := h1 p hp; omega
    refine ⟨[.d (.str m), .d X, .own (.lst (xs.map (·.1))), .rd (.lst (xs.map fun p => sz p.2.1 p.2.2)), .no, .d (.int (p.2.1 : Int)), .d (.int (p.2.2 : Int))], ?_, ?_, (fun z => by cases z), rfl, rfl⟩
    · exact (gfTup_ap (n := 2) rfl).trans rfl
    · simp only [fC_ap, opd_ap, asD_d, asD_slot, asD_new, f1_ap, f2_ap, res_d, res_slot, resS_d, resS_own, resS_io, resS_rd, ress_nil, ress_cons, ofP_d, ofP_l, ofP_t, isB_b, fT_ap, gAnd_ap, gOr_ap, gNot_ap, fAnd_ap, fOr_ap, fNot_ap, fIf_ap, fNil_ap, fCons_ap, frz_d, frzs_nil, frzs_cons, fTup_ap, fLst_ap, isI_i, fPart_ap, fNo_ap, fSl_ap, fBlt_ap, fSeq_ap, seqK_next, seqK_brk, seqK_cont, seqK_ret, fSkip_ap, fIfS_ap, fDrop_ap, fAsg_ap, retK_d, retK_new, fRet_ap, fRetN_ap, turnK_next, turnK_cont, turnK_brk, turnK_ret, ofO_some, fFor_ap, forK_items, fSeqI_ap, seqSrc_l, seqSrc_t, seqSrc_s, fRng1_ap, fRng2_ap, fComp_ap, compK_items, gTrue_ap, k1_ap, o2_ap, k2b_ap, k2a_ap, kT_ap, kAnd_t, kAnd_f, kOr_t, kOr_f, kNot_ap, kAndE_t, kAndE_f, kOrE_t, kOrE_f, kNotE_ap, kIfE_t, kIfE_f, kIfS_t, kIfS_f, kCons2_ap, kCons_ap, kz2_ap, kz_ap, kTup2_ap, kTup_ap, kLst2_ap, kLst_ap, kPart_ap, kSl3_ap, kSl2_ap, kSl1_ap, kBlt_ap, kDrop_ap, kAsg2_ap, kAsg_ap, kRng1_ap, kRng2_ap, fCall_ap, kCall_ap, kCall2_ap, kCall3_ap, callK_d, callK_n, upds_io, upds_nil, upds_no, mkArgs_nil, mkArgs_cons, mkArgE_d, once1, once_dd, once_d2, once_s2, once_s3, once_s3d, kMut_ap, kLoop_ap, kLoop2_ap, fVar_ap, vr_d, vr_own, vr_io, vr_rd, noIo_ap, nio_no, nio_d, nio_own, nio_rd, frz_slot, fz_d, fz_own, gd_t, gs_t, store_d, store_new, retK_slot, rk_own, rk_d, lstAt_ap, la_own, la_io, mutAt_ap, ma_own, ma_io, mo_some, mi_some, mkArg_slot, ag_d, ag_own, ag_rd, ag_ownt, ag_iot, putC_ap, pc_own, pc_io, gfName_ap, gfNil_ap, gfCons_ap, gfTup_ap, seqSrc_slot, slotSrc_own, slotSrc_rd, fMut_ap, kMut2_ap, kSet3_ap, kSet2_ap, kSet_ap, fSetI_ap, fSetA_ap, kAtt_ap, kAtt2_ap, sa_ap, back_ap, bk_rd, mapEnv_ok, compK_lend, forK_lend, fEnum_ap, enumSrc_t, once_d3, once_dsd, lim_pos, Nat.reduceBEq, Nat.reduceAdd, Nat.reduceLeDiff, List.getElem?_cons_zero, List.getElem?_cons_succ, List.set_cons_zero, List.set_cons_succ, Out.bind_ok, Option.bind_some, Option.map_some, Bool.not_true, Bool.not_false, List.length_cons, List.length_nil, gEq_i, e0])
  have c3 := compI_gen (t := gfTup 2 (gfCons (gfName 5) (gfCons (gfName 6) gfNil))) (c := gTrue) (e := fVar 5) (vs := [5, 6]) (ρ := [.d (.str m), .d X, .own (.lst (xs.map (·.1))), .rd (.lst (xs.map fun p => sz p.2.1 p.2.2)), .no, .no, .no]) (F := fun p : P3 => sz p.2.1 p.2.2) (keep := fun _ => true) (val := fun p => D.int (p.2.1 : Int)) (xs := xs) hl' rfl rfl rfl (by
    intro p hp
    refine ⟨[.d (.str m), .d X, .own (.lst (xs.map (·.1))), .rd (.lst (xs.map fun p => sz p.2.1 p.2.2)), .no, .d (.int (p.2.1 : Int)), .d (.int (p.2.2 : Int))], ?_, rfl, (fun _ => rfl), rfl, rfl⟩
    exact (gfTup_ap (n := 2) rfl).trans rfl)
  have c4 := compI_gen (t := gfTup 2 (gfCons (gfName 5) (gfCons (gfName 6) gfNil))) (c := gTrue) (e := fVar 6) (vs := [5, 6]) (ρ := [.d (.str m), .d X, .own (.lst (xs.map (·.1))), .rd (.lst (xs.map fun p => sz p.2.1 p.2.2)), .no, .no, .no]) (F := fun p : P3 => sz p.2.1 p.2.2) (keep := fun _ => true) (val := fun p => D.int (p.2.2 : Int)) (xs := xs) hl' rfl rfl rfl (by
    intro p hp
    refine ⟨[.d (.str m), .d X, .own (.lst (xs.map (·.1))), .rd (.lst (xs.map fun p => sz p.2.1 p.2.2)), .no, .d (.int (p.2.1 : Int)), .d (.int (p.2.2 : Int))], ?_, rfl, (fun _ => rfl), rfl, rfl⟩
    exact (gfTup_ap (n := 2) rfl).trans rfl)
  have f0 : xs.filter (fun _ => false) = [] := List.filter_eq_nil_iff.mpr fun _ _ h => by cases h
  have f1 : xs.filter (fun _ => true) = xs := List.filter_eq_self.mpr fun _ _ => rfl
  rw [f0, List.map_nil] at c2
  rw [f1] at c3 c4
  have m3 : (xs.map fun p => D.int (p.2.1 : Int)) = (xs.map fun p => (p.2.1 : Int)).map D.int := by rw [List.map_map]; rfl
  have m4 : (xs.map fun p => D.int (p.2.2 : Int)) = (xs.map fun p => (p.2.2 : Int)).map D.int := by rw [List.map_map]; rfl
  rw [m3] at c3
  rw [m4] at c4
  have g3 := gSum_map (xs.map fun p => (p.2.1 : Int))
  have g4 := gMaxL_map 0 (xs.map fun p => (p.2.2 : Int))
  have g5 : gAdd (.lst [.int 0]) (.lst ((xs.map fun p => (p.2.2 : Int)).map D.int)) = some (.newL (.int 0 :: (xs.map fun p => (p.2.2 : Int)).map D.int)) := gAdd_ll (by rw [List.length_map, List.length_map]; show 1 + _ ≤ _; omega)
  have gl0 : gLen [.lst []] = some (.d (.int 0)) := rfl
  have e0 : decide ((0 : Int) < 0) = false := by decide
  unfold lsT ssum tmax
  simp only [fC_ap, opd_ap, asD_d, asD_slot, asD_new, f1_ap, f2_ap, res_d, res_slot, resS_d, resS_own, resS_io, resS_rd, ress_nil, ress_cons, ofP_d, ofP_l, ofP_t, isB_b, fT_ap, gAnd_ap, gOr_ap, gNot_ap, fAnd_ap, fOr_ap, fNot_ap, fIf_ap, fNil_ap, fCons_ap, frz_d, frzs_nil, frzs_cons, fTup_ap, fLst_ap, isI_i, fPart_ap, fNo_ap, fSl_ap, fBlt_ap, fSeq_ap, seqK_next, seqK_brk, seqK_cont, seqK_ret, fSkip_ap, fIfS_ap, fDrop_ap, fAsg_ap, retK_d, retK_new, fRet_ap, fRetN_ap, turnK_next, turnK_cont, turnK_brk, turnK_ret, ofO_some, fFor_ap, forK_items, fSeqI_ap, seqSrc_l, seqSrc_t, seqSrc_s, fRng1_ap, fRng2_ap, fComp_ap, compK_items, gTrue_ap, k1_ap, o2_ap, k2b_ap, k2a_ap, kT_ap, kAnd_t, kAnd_f, kOr_t, kOr_f, kNot_ap, kAndE_t, kAndE_f, kOrE_t, kOrE_f, kNotE_ap, kIfE_t, kIfE_f, kIfS_t, kIfS_f, kCons2_ap, kCons_ap, kz2_ap, kz_ap, kTup2_ap, kTup_ap, kLst2_ap, kLst_ap, kPart_ap, kSl3_ap, kSl2_ap, kSl1_ap, kBlt_ap, kDrop_ap, kAsg2_ap, kAsg_ap, kRng1_ap, kRng2_ap, fCall_ap, kCall_ap, kCall2_ap, kCall3_ap, callK_d, callK_n, upds_io, upds_nil, upds_no, mkArgs_nil, mkArgs_cons, mkArgE_d, once1, once_dd, once_d2, once_s2, once_s3, once_s3d, kMut_ap, kLoop_ap, kLoop2_ap, fVar_ap, vr_d, vr_own, vr_io, vr_rd, noIo_ap, nio_no, nio_d, nio_own, nio_rd, frz_slot, fz_d, fz_own, gd_t, gs_t, store_d, store_new, retK_slot, rk_own, rk_d, lstAt_ap, la_own, la_io, mutAt_ap, ma_own, ma_io, mo_some, mi_some, mkArg_slot, ag_d, ag_own, ag_rd, ag_ownt, ag_iot, putC_ap, pc_own, pc_io, gfName_ap, gfNil_ap, gfCons_ap, gfTup_ap, seqSrc_slot, slotSrc_own, slotSrc_rd, fMut_ap, kMut2_ap, kSet3_ap, kSet2_ap, kSet_ap, fSetI_ap, fSetA_ap, kAtt_ap, kAtt2_ap, sa_ap, back_ap, bk_rd, mapEnv_ok, compK_lend, forK_lend, fEnum_ap, enumSrc_t, once_d3, once_dsd, lim_pos, Nat.reduceBEq, Nat.reduceAdd, Nat.reduceLeDiff, List.getElem?_cons_zero, List.getElem?_cons_succ, List.set_cons_zero, List.set_cons_succ, Out.bind_ok, Option.bind_some, Option.map_some, Bool.not_true, Bool.not_false, List.length_cons, List.length_nil, c1, c2, c3, c4, g3, g4, g5, gl0, gGt_i, e0, gAdd_i]
theorem lsz_leaf (n : Nat) (hm : m ∈ marks9) {c : Nat} (hc : c ∈ cp m) : run (n + 1) 26 [.d (.str m), .d (leafD (T [c]))] = .ret (.d (sz 1 1)) [none, none] := by
  show finF _ (b26 (run n) [.d (.str m), .d (leafD (T [c])), .no, .no, .no, .no, .no]) = _
  have z1 : ((1 : Int) == 1) = true := rfl
  have gl : gLen [.str (T [c])] = some (.d (.int 1)) := rfl
  have gi : gIn (.str (T [c])) (.str m) = some (.d (.bl true)) := by
    have := gIn_s (m := m) (sg_of hm c hc) m
    rw [this, sgIn_m (sg_of hm c hc)]
  have gn : gNe (.int 2) (.int 2) = some (.d (.bl false)) := rfl
  have gt : gInt [.bl true] = some (.d (.int 1)) := rfl
  unfold b26 leafD
  simp only [fC_ap, opd_ap, asD_d, asD_slot, asD_new, f1_ap, f2_ap, res_d, res_slot, resS_d, resS_own, resS_io, resS_rd, ress_nil, ress_cons, ofP_d, ofP_l, ofP_t, isB_b, fT_ap, gAnd_ap, gOr_ap, gNot_ap, fAnd_ap, fOr_ap, fNot_ap, fIf_ap, fNil_ap, fCons_ap, frz_d, frzs_nil, frzs_cons, fTup_ap, fLst_ap, isI_i, fPart_ap, fNo_ap, fSl_ap, fBlt_ap, fSeq_ap, seqK_next, seqK_brk, seqK_cont, seqK_ret, fSkip_ap, fIfS_ap, fDrop_ap, fAsg_ap, retK_d, retK_new, fRet_ap, fRetN_ap, turnK_next, turnK_cont, turnK_brk, turnK_ret, ofO_some, fFor_ap, forK_items, fSeqI_ap, seqSrc_l, seqSrc_t, seqSrc_s, fRng1_ap, fRng2_ap, fComp_ap, compK_items, gTrue_ap, k1_ap, o2_ap, k2b_ap, k2a_ap, kT_ap, kAnd_t, kAnd_f, kOr_t, kOr_f, kNot_ap, kAndE_t, kAndE_f, kOrE_t, kOrE_f, kNotE_ap, kIfE_t, kIfE_f, kIfS_t, kIfS_f, kCons2_ap, kCons_ap, kz2_ap, kz_ap, kTup2_ap, kTup_ap, kLst2_ap, kLst_ap, kPart_ap, kSl3_ap, kSl2_ap, kSl1_ap, kBlt_ap, kDrop_ap, kAsg2_ap, kAsg_ap, kRng1_ap, kRng2_ap, fCall_ap, kCall_ap, kCall2_ap, kCall3_ap, callK_d, callK_n, upds_io, upds_nil, upds_no, mkArgs_nil, mkArgs_cons, mkArgE_d, once1, once_dd, once_d2, once_s2, once_s3, once_s3d, kMut_ap, kLoop_ap, kLoop2_ap, fVar_ap, vr_d, vr_own, vr_io, vr_rd, noIo_ap, nio_no, nio_d, nio_own, nio_rd, frz_slot, fz_d, fz_own, gd_t, gs_t, store_d, store_new, retK_slot, rk_own, rk_d, lstAt_ap, la_own, la_io, mutAt_ap, ma_own, ma_io, mo_some, mi_some, mkArg_slot, ag_d, ag_own, ag_rd, ag_ownt, ag_iot, putC_ap, pc_own, pc_io, gfName_ap, gfNil_ap, gfCons_ap, gfTup_ap, seqSrc_slot, slotSrc_own, slotSrc_rd, fMut_ap, kMut2_ap, kSet3_ap, kSet2_ap, kSet_ap, fSetI_ap, fSetA_ap, kAtt_ap, kAtt2_ap, sa_ap, back_ap, bk_rd, mapEnv_ok, compK_lend, forK_lend, fEnum_ap, enumSrc_t, once_d3, once_dsd, lim_pos, Nat.reduceBEq, Nat.reduceAdd, Nat.reduceLeDiff, List.getElem?_cons_zero, List.getElem?_cons_succ, List.set_cons_zero, List.set_cons_succ, Out.bind_ok, Option.bind_some, Option.map_some, Bool.not_true, Bool.not_false, List.length_cons, List.length_nil, isi_t, isi_tb, gLen_2, gn, ix_0, ix_1, w_hh, isi_s, gl, gEq_i, z1, gi, gt]
  rfl
theorem w_inl (b : Bool) : gIn (.str (wdA b)) (.lst [.str "all", .str "any"]) = some (.d (.bl true)) := by
  have h := gIn_l (wdA b) ["all", "any"]
  have e : (["all", "any"] : List Str).contains (wdA b) = true := by cases b <;> decide
  rw [e] at h
  exact h
theorem w_nol : gIn (.str "not") (.lst [.str "all", .str "any"]) = some (.d (.bl false)) := by
  have h := gIn_l "not" ["all", "any"]
  have e : (["all", "any"] : List Str).contains "not" = false := by decide
  rw [e] at h
  exact h
theorem gNe_w {a b : Str} (ha : a ∈ wd4) (hb : b ∈ wd4) {r : Bool} (h : (a == b) = r) : gNe (.str a) (.str b) = some (.d (.bl !r)) := by
  have h1 : eqD (.str a) (.str b) = some (a == b) := eq_of_beq (List.all_eq_true.mp (List.all_eq_true.mp f_wd a ha) b hb)
  unfold gNe
  rw [h1, h]
  rfl
theorem lsz_not (n : Nat) (d : D) (s t : Nat) (h1 : 1 ≤ s) (h : run n 26 [.d (.str m), .d d] = .ret (.d (sz s t)) [none, none]) : run (n + 1) 26 [.d (.str m), .d (notD d)] = .ret (.d (sz (1 + s) (1 + t))) [none, none] := by
  show finF _ (b26 (run n) [.d (.str m), .d (notD d), .no, .no, .no, .no, .no]) = _
  have hT := lsT_ok (m := m) n (notD d) [((d, s, t) : P3)] (Nat.le_of_ble_eq_true rfl) (fun p hp => by rw [List.mem_singleton.mp hp]; exact h) (fun p hp => by rw [List.mem_singleton.mp hp]; exact h1)
  have e1 : (1 : Int) + ssum [((d, s, t) : P3)] = ((1 + s : Nat) : Int) := by
    show (1 : Int) + ((s : Int) + 0) = _
    omega
  have e2 : (1 : Int) + tmax [((d, s, t) : P3)] = ((1 + t : Nat) : Int) := by
    show (1 : Int) + (if (t : Int) > 0 then (t : Int) else 0) = _
    split <;> omega
  rw [e1, e2] at hT
  have gn : gNe (.int 2) (.int 2) = some (.d (.bl false)) := rfl
  have gw : gNe (.str "not") (.str "not") = some (.d (.bl false)) := gNe_w (r := true) (by decide) (by decide) (by decide)
  have hT' : lsT n [.d (.str m), .d (.tup [.str "not", d]), .own (.lst [d]), .no, .no, .no, .no] = .ok (.ret (.d (.tup [.int ((1 + s : Nat) : Int), .int ((1 + t : Nat) : Int)]))) [.d (.str m), .d (.tup [.str "not", d]), .own (.lst [d]), .own (.lst [sz s t]), .no, .no, .no] := hT
  have l1 : ∀ o : Out Rv, lim 1 o = o := fun o => lim_pos (by decide)
  have st0 : (fIfS (gOr (gNot (fT (fBlt (gIsi isiT) (fCons (fVar 1) (fCons (fC (.ty "tuple")) fNil))))) (fT (f2 gNe (fBlt gLen (fCons (fVar 1) fNil)) (fC (.int (2)))))) (fRet (fTup (fCons (fC (.int (0))) (fCons (fC (.int (0))) fNil)))) fSkip) [.d (.str m), .d (.tup [.str "not", d]), .no, .no, .no, .no, .no] = .ok .next [.d (.str m), .d (.tup [.str "not", d]), .no, .no, .no, .no, .no] := by
    simp only [fC_ap, opd_ap, asD_d, asD_slot, asD_new, f1_ap, f2_ap, res_d, res_slot, resS_d, resS_own, resS_io, resS_rd, ress_nil, ress_cons, ofP_d, ofP_l, ofP_t, isB_b, fT_ap, gAnd_ap, gOr_ap, gNot_ap, fAnd_ap, fOr_ap, fNot_ap, fIf_ap, fNil_ap, fCons_ap, frz_d, frzs_nil, frzs_cons, fTup_ap, fLst_ap, isI_i, fPart_ap, fNo_ap, fSl_ap, fBlt_ap, fSeq_ap, seqK_next, seqK_brk, seqK_cont, seqK_ret, fSkip_ap, fIfS_ap, fDrop_ap, fAsg_ap, retK_d, retK_new, fRet_ap, fRetN_ap, turnK_next, turnK_cont, turnK_brk, turnK_ret, ofO_some, fFor_ap, forK_items, fSeqI_ap, seqSrc_l, seqSrc_t, seqSrc_s, fRng1_ap, fRng2_ap, fComp_ap, compK_items, gTrue_ap, k1_ap, o2_ap, k2b_ap, k2a_ap, kT_ap, kAnd_t, kAnd_f, kOr_t, kOr_f, kNot_ap, kAndE_t, kAndE_f, kOrE_t, kOrE_f, kNotE_ap, kIfE_t, kIfE_f, kIfS_t, kIfS_f, kCons2_ap, kCons_ap, kz2_ap, kz_ap, kTup2_ap, kTup_ap, kLst2_ap, kLst_ap, kPart_ap, kSl3_ap, kSl2_ap, kSl1_ap, kBlt_ap, kDrop_ap, kAsg2_ap, kAsg_ap, kRng1_ap, kRng2_ap, fCall_ap, kCall_ap, kCall2_ap, kCall3_ap, callK_d, callK_n, upds_io, upds_nil, upds_no, mkArgs_nil, mkArgs_cons, mkArgE_d, once1, once_dd, once_d2, once_s2, once_s3, once_s3d, kMut_ap, kLoop_ap, kLoop2_ap, fVar_ap, vr_d, vr_own, vr_io, vr_rd, noIo_ap, nio_no, nio_d, nio_own, nio_rd, frz_slot, fz_d, fz_own, gd_t, gs_t, store_d, store_new, retK_slot, rk_own, rk_d, lstAt_ap, la_own, la_io, mutAt_ap, ma_own, ma_io, mo_some, mi_some, mkArg_slot, ag_d, ag_own, ag_rd, ag_ownt, ag_iot, putC_ap, pc_own, pc_io, gfName_ap, gfNil_ap, gfCons_ap, gfTup_ap, seqSrc_slot, slotSrc_own, slotSrc_rd, fMut_ap, kMut2_ap, kSet3_ap, kSet2_ap, kSet_ap, fSetI_ap, fSetA_ap, kAtt_ap, kAtt2_ap, sa_ap, back_ap, bk_rd, mapEnv_ok, compK_lend, forK_lend, fEnum_ap, enumSrc_t, once_d3, once_dsd, lim_pos, Nat.reduceBEq, Nat.reduceAdd, Nat.reduceLeDiff, List.getElem?_cons_zero, List.getElem?_cons_succ, List.set_cons_zero, List.set_cons_succ, Out.bind_ok, Option.bind_some, Option.map_some, Bool.not_true, Bool.not_false, List.length_cons, List.length_nil, isi_t, isi_tb, gLen_2, gn]
  have st1 : (fIfS (fT (f2 gEq (f2 gIx (fVar 1) (fC (.int (0)))) (fC (.str "has")))) (fRet (fTup (fCons (fBlt gInt (fCons (fAnd (fBlt (gIsi isiT) (fCons (f2 gIx (fVar 1) (fC (.int (1)))) (fCons (fC (.ty "str")) fNil))) (fAnd (f2 gEq (fBlt gLen (fCons (f2 gIx (fVar 1) (fC (.int (1)))) fNil)) (fC (.int (1)))) (f2 gIn (f2 gIx (fVar 1) (fC (.int (1)))) (fVar 0)))) fNil)) (fCons (fC (.int (1))) fNil)))) fSkip) [.d (.str m), .d (.tup [.str "not", d]), .no, .no, .no, .no, .no] = .ok .next [.d (.str m), .d (.tup [.str "not", d]), .no, .no, .no, .no, .no] := by
    simp only [fC_ap, opd_ap, asD_d, asD_slot, asD_new, f1_ap, f2_ap, res_d, res_slot, resS_d, resS_own, resS_io, resS_rd, ress_nil, ress_cons, ofP_d, ofP_l, ofP_t, isB_b, fT_ap, gAnd_ap, gOr_ap, gNot_ap, fAnd_ap, fOr_ap, fNot_ap, fIf_ap, fNil_ap, fCons_ap, frz_d, frzs_nil, frzs_cons, fTup_ap, fLst_ap, isI_i, fPart_ap, fNo_ap, fSl_ap, fBlt_ap, fSeq_ap, seqK_next, seqK_brk, seqK_cont, seqK_ret, fSkip_ap, fIfS_ap, fDrop_ap, fAsg_ap, retK_d, retK_new, fRet_ap, fRetN_ap, turnK_next, turnK_cont, turnK_brk, turnK_ret, ofO_some, fFor_ap, forK_items, fSeqI_ap, seqSrc_l, seqSrc_t, seqSrc_s, fRng1_ap, fRng2_ap, fComp_ap, compK_items, gTrue_ap, k1_ap, o2_ap, k2b_ap, k2a_ap, kT_ap, kAnd_t, kAnd_f, kOr_t, kOr_f, kNot_ap, kAndE_t, kAndE_f, kOrE_t, kOrE_f, kNotE_ap, kIfE_t, kIfE_f, kIfS_t, kIfS_f, kCons2_ap, kCons_ap, kz2_ap, kz_ap, kTup2_ap, kTup_ap, kLst2_ap, kLst_ap, kPart_ap, kSl3_ap, kSl2_ap, kSl1_ap, kBlt_ap, kDrop_ap, kAsg2_ap, kAsg_ap, kRng1_ap, kRng2_ap, fCall_ap, kCall_ap, kCall2_ap, kCall3_ap, callK_d, callK_n, upds_io, upds_nil, upds_no, mkArgs_nil, mkArgs_cons, mkArgE_d, once1, once_dd, once_d2, once_s2, once_s3, once_s3d, kMut_ap, kLoop_ap, kLoop2_ap, fVar_ap, vr_d, vr_own, vr_io, vr_rd, noIo_ap, nio_no, nio_d, nio_own, nio_rd, frz_slot, fz_d, fz_own, gd_t, gs_t, store_d, store_new, retK_slot, rk_own, rk_d, lstAt_ap, la_own, la_io, mutAt_ap, ma_own, ma_io, mo_some, mi_some, mkArg_slot, ag_d, ag_own, ag_rd, ag_ownt, ag_iot, putC_ap, pc_own, pc_io, gfName_ap, gfNil_ap, gfCons_ap, gfTup_ap, seqSrc_slot, slotSrc_own, slotSrc_rd, fMut_ap, kMut2_ap, kSet3_ap, kSet2_ap, kSet_ap, fSetI_ap, fSetA_ap, kAtt_ap, kAtt2_ap, sa_ap, back_ap, bk_rd, mapEnv_ok, compK_lend, forK_lend, fEnum_ap, enumSrc_t, once_d3, once_dsd, lim_pos, Nat.reduceBEq, Nat.reduceAdd, Nat.reduceLeDiff, List.getElem?_cons_zero, List.getElem?_cons_succ, List.set_cons_zero, List.set_cons_succ, Out.bind_ok, Option.bind_some, Option.map_some, Bool.not_true, Bool.not_false, List.length_cons, List.length_nil, ix_0, w_nh]
  have st2 : (fAsg 2 (fLst (fCons (f2 gIx (fVar 1) (fC (.int (1)))) fNil))) [.d (.str m), .d (.tup [.str "not", d]), .no, .no, .no, .no, .no] = .ok .next [.d (.str m), .d (.tup [.str "not", d]), .own (.lst [d]), .no, .no, .no, .no] := by
    simp only [fC_ap, opd_ap, asD_d, asD_slot, asD_new, f1_ap, f2_ap, res_d, res_slot, resS_d, resS_own, resS_io, resS_rd, ress_nil, ress_cons, ofP_d, ofP_l, ofP_t, isB_b, fT_ap, gAnd_ap, gOr_ap, gNot_ap, fAnd_ap, fOr_ap, fNot_ap, fIf_ap, fNil_ap, fCons_ap, frz_d, frzs_nil, frzs_cons, fTup_ap, fLst_ap, isI_i, fPart_ap, fNo_ap, fSl_ap, fBlt_ap, fSeq_ap, seqK_next, seqK_brk, seqK_cont, seqK_ret, fSkip_ap, fIfS_ap, fDrop_ap, fAsg_ap, retK_d, retK_new, fRet_ap, fRetN_ap, turnK_next, turnK_cont, turnK_brk, turnK_ret, ofO_some, fFor_ap, forK_items, fSeqI_ap, seqSrc_l, seqSrc_t, seqSrc_s, fRng1_ap, fRng2_ap, fComp_ap, compK_items, gTrue_ap, k1_ap, o2_ap, k2b_ap, k2a_ap, kT_ap, kAnd_t, kAnd_f, kOr_t, kOr_f, kNot_ap, kAndE_t, kAndE_f, kOrE_t, kOrE_f, kNotE_ap, kIfE_t, kIfE_f, kIfS_t, kIfS_f, kCons2_ap, kCons_ap, kz2_ap, kz_ap, kTup2_ap, kTup_ap, kLst2_ap, kLst_ap, kPart_ap, kSl3_ap, kSl2_ap, kSl1_ap, kBlt_ap, kDrop_ap, kAsg2_ap, kAsg_ap, kRng1_ap, kRng2_ap, fCall_ap, kCall_ap, kCall2_ap, kCall3_ap, callK_d, callK_n, upds_io, upds_nil, upds_no, mkArgs_nil, mkArgs_cons, mkArgE_d, once1, once_dd, once_d2, once_s2, once_s3, once_s3d, kMut_ap, kLoop_ap, kLoop2_ap, fVar_ap, vr_d, vr_own, vr_io, vr_rd, noIo_ap, nio_no, nio_d, nio_own, nio_rd, frz_slot, fz_d, fz_own, gd_t, gs_t, store_d, store_new, retK_slot, rk_own, rk_d, lstAt_ap, la_own, la_io, mutAt_ap, ma_own, ma_io, mo_some, mi_some, mkArg_slot, ag_d, ag_own, ag_rd, ag_ownt, ag_iot, putC_ap, pc_own, pc_io, gfName_ap, gfNil_ap, gfCons_ap, gfTup_ap, seqSrc_slot, slotSrc_own, slotSrc_rd, fMut_ap, kMut2_ap, kSet3_ap, kSet2_ap, kSet_ap, fSetI_ap, fSetA_ap, kAtt_ap, kAtt2_ap, sa_ap, back_ap, bk_rd, mapEnv_ok, compK_lend, forK_lend, fEnum_ap, enumSrc_t, once_d3, once_dsd, lim_pos, Nat.reduceBEq, Nat.reduceAdd, Nat.reduceLeDiff, List.getElem?_cons_zero, List.getElem?_cons_succ, List.set_cons_zero, List.set_cons_succ, Out.bind_ok, Option.bind_some, Option.map_some, Bool.not_true, Bool.not_false, List.length_cons, List.length_nil, ix_1, l1]
  have st3 : (fIfS (fT (f2 gIn (f2 gIx (fVar 1) (fC (.int (0)))) (fLst (fCons (fC (.str "all")) (fCons (fC (.str "any")) fNil))))) (fSeq (fIfS (gOr (gNot (fT (fBlt (gIsi isiT) (fCons (f2 gIx (fVar 1) (fC (.int (1)))) (fCons (fC (.ty "tuple")) fNil))))) (fT (f2 gGt (fBlt gLen (fCons (f2 gIx (fVar 1) (fC (.int (1)))) fNil)) (fC (.int (10)))))) (fRet (fTup (fCons (fC (.int (0))) (fCons (fC (.int (0))) fNil)))) fSkip) (fAsg 2 (fBlt gListS (fCons (f2 gIx (fVar 1) (fC (.int (1)))) fNil)))) (fIfS (fT (f2 gNe (f2 gIx (fVar 1) (fC (.int (0)))) (fC (.str "not")))) (fRet (fTup (fCons (fC (.int (0))) (fCons (fC (.int (0))) fNil)))) fSkip)) [.d (.str m), .d (.tup [.str "not", d]), .own (.lst [d]), .no, .no, .no, .no] = .ok .next [.d (.str m), .d (.tup [.str "not", d]), .own (.lst [d]), .no, .no, .no, .no] := by
    simp only [fC_ap, opd_ap, asD_d, asD_slot, asD_new, f1_ap, f2_ap, res_d, res_slot, resS_d, resS_own, resS_io, resS_rd, ress_nil, ress_cons, ofP_d, ofP_l, ofP_t, isB_b, fT_ap, gAnd_ap, gOr_ap, gNot_ap, fAnd_ap, fOr_ap, fNot_ap, fIf_ap, fNil_ap, fCons_ap, frz_d, frzs_nil, frzs_cons, fTup_ap, fLst_ap, isI_i, fPart_ap, fNo_ap, fSl_ap, fBlt_ap, fSeq_ap, seqK_next, seqK_brk, seqK_cont, seqK_ret, fSkip_ap, fIfS_ap, fDrop_ap, fAsg_ap, retK_d, retK_new, fRet_ap, fRetN_ap, turnK_next, turnK_cont, turnK_brk, turnK_ret, ofO_some, fFor_ap, forK_items, fSeqI_ap, seqSrc_l, seqSrc_t, seqSrc_s, fRng1_ap, fRng2_ap, fComp_ap, compK_items, gTrue_ap, k1_ap, o2_ap, k2b_ap, k2a_ap, kT_ap, kAnd_t, kAnd_f, kOr_t, kOr_f, kNot_ap, kAndE_t, kAndE_f, kOrE_t, kOrE_f, kNotE_ap, kIfE_t, kIfE_f, kIfS_t, kIfS_f, kCons2_ap, kCons_ap, kz2_ap, kz_ap, kTup2_ap, kTup_ap, kLst2_ap, kLst_ap, kPart_ap, kSl3_ap, kSl2_ap, kSl1_ap, kBlt_ap, kDrop_ap, kAsg2_ap, kAsg_ap, kRng1_ap, kRng2_ap, fCall_ap, kCall_ap, kCall2_ap, kCall3_ap, callK_d, callK_n, upds_io, upds_nil, upds_no, mkArgs_nil, mkArgs_cons, mkArgE_d, once1, once_dd, once_d2, once_s2, once_s3, once_s3d, kMut_ap, kLoop_ap, kLoop2_ap, fVar_ap, vr_d, vr_own, vr_io, vr_rd, noIo_ap, nio_no, nio_d, nio_own, nio_rd, frz_slot, fz_d, fz_own, gd_t, gs_t, store_d, store_new, retK_slot, rk_own, rk_d, lstAt_ap, la_own, la_io, mutAt_ap, ma_own, ma_io, mo_some, mi_some, mkArg_slot, ag_d, ag_own, ag_rd, ag_ownt, ag_iot, putC_ap, pc_own, pc_io, gfName_ap, gfNil_ap, gfCons_ap, gfTup_ap, seqSrc_slot, slotSrc_own, slotSrc_rd, fMut_ap, kMut2_ap, kSet3_ap, kSet2_ap, kSet_ap, fSetI_ap, fSetA_ap, kAtt_ap, kAtt2_ap, sa_ap, back_ap, bk_rd, mapEnv_ok, compK_lend, forK_lend, fEnum_ap, enumSrc_t, once_d3, once_dsd, lim_pos, Nat.reduceBEq, Nat.reduceAdd, Nat.reduceLeDiff, List.getElem?_cons_zero, List.getElem?_cons_succ, List.set_cons_zero, List.set_cons_succ, Out.bind_ok, Option.bind_some, Option.map_some, Bool.not_true, Bool.not_false, List.length_cons, List.length_nil, ix_0, w_nol, gw]
  unfold b26 notD
  unfold lsT at hT'
  rw [fSeq_ap, st0, Out.bind_ok, seqK_next, fSeq_ap, st1, Out.bind_ok, seqK_next, fSeq_ap, st2, Out.bind_ok, seqK_next, fSeq_ap, st3, Out.bind_ok, seqK_next, hT']
  rfl
theorem lsz_many (n : Nat) (b : Bool) (xs : List P3) (hl : xs.length ≤ 10) (h : ∀ p ∈ xs, run n 26 [.d (.str m), .d p.1] = .ret (.d (sz p.2.1 p.2.2)) [none, none]) (h1 : ∀ p ∈ xs, 1 ≤ p.2.1) :
    run (n + 1) 26 [.d (.str m), .d (manyD b (xs.map (·.1)))] = .ret (.d (.tup [.int (1 + ssum xs), .int (1 + tmax xs)])) [none, none] := by
  show finF _ (b26 (run n) [.d (.str m), .d (manyD b (xs.map (·.1))), .no, .no, .no, .no, .no]) = _
  have hT := lsT_ok (m := m) n (manyD b (xs.map (·.1))) xs hl h h1
  have gn : gNe (.int 2) (.int 2) = some (.d (.bl false)) := rfl
  have e10 : decide ((10 : Int) < ((xs.map (·.1)).length : Int)) = false := decide_eq_false (by rw [List.length_map]; omega)
  have e2 : gLen [.tup (xs.map (·.1))] = some (.d (.int ((xs.map (·.1)).length : Int))) := rfl
  have l1 : ∀ o : Out Rv, lim 1 o = o := fun o => lim_pos (by decide)
  unfold manyD at hT ⊢
  have st0 : (fIfS (gOr (gNot (fT (fBlt (gIsi isiT) (fCons (fVar 1) (fCons (fC (.ty "tuple")) fNil))))) (fT (f2 gNe (fBlt gLen (fCons (fVar 1) fNil)) (fC (.int (2)))))) (fRet (fTup (fCons (fC (.int (0))) (fCons (fC (.int (0))) fNil)))) fSkip) [.d (.str m), .d (.tup [.str (wdA b), .tup (xs.map (·.1))]), .no, .no, .no, .no, .no] = .ok .next [.d (.str m), .d (.tup [.str (wdA b), .tup (xs.map (·.1))]), .no, .no, .no, .no, .no] := by
    simp only [fC_ap, opd_ap, asD_d, asD_slot, asD_new, f1_ap, f2_ap, res_d, res_slot, resS_d, resS_own, resS_io, resS_rd, ress_nil, ress_cons, ofP_d, ofP_l, ofP_t, isB_b, fT_ap, gAnd_ap, gOr_ap, gNot_ap, fAnd_ap, fOr_ap, fNot_ap, fIf_ap, fNil_ap, fCons_ap, frz_d, frzs_nil, frzs_cons, fTup_ap, fLst_ap, isI_i, fPart_ap, fNo_ap, fSl_ap, fBlt_ap, fSeq_ap, seqK_next, seqK_brk, seqK_cont, seqK_ret, fSkip_ap, fIfS_ap, fDrop_ap, fAsg_ap, retK_d, retK_new, fRet_ap, fRetN_ap, turnK_next, turnK_cont, turnK_brk, turnK_ret, ofO_some, fFor_ap, forK_items, fSeqI_ap, seqSrc_l, seqSrc_t, seqSrc_s, fRng1_ap, fRng2_ap, fComp_ap, compK_items, gTrue_ap, k1_ap, o2_ap, k2b_ap, k2a_ap, kT_ap, kAnd_t, kAnd_f, kOr_t, kOr_f, kNot_ap, kAndE_t, kAndE_f, kOrE_t, kOrE_f, kNotE_ap, kIfE_t, kIfE_f, kIfS_t, kIfS_f, kCons2_ap, kCons_ap, kz2_ap, kz_ap, kTup2_ap, kTup_ap, kLst2_ap, kLst_ap, kPart_ap, kSl3_ap, kSl2_ap, kSl1_ap, kBlt_ap, kDrop_ap, kAsg2_ap, kAsg_ap, kRng1_ap, kRng2_ap, fCall_ap, kCall_ap, kCall2_ap, kCall3_ap, callK_d, callK_n, upds_io, upds_nil, upds_no, mkArgs_nil, mkArgs_cons, mkArgE_d, once1, once_dd, once_d2, once_s2, once_s3, once_s3d, kMut_ap, kLoop_ap, kLoop2_ap, fVar_ap, vr_d, vr_own, vr_io, vr_rd, noIo_ap, nio_no, nio_d, nio_own, nio_rd, frz_slot, fz_d, fz_own, gd_t, gs_t, store_d, store_new, retK_slot, rk_own, rk_d, lstAt_ap, la_own, la_io, mutAt_ap, ma_own, ma_io, mo_some, mi_some, mkArg_slot, ag_d, ag_own, ag_rd, ag_ownt, ag_iot, putC_ap, pc_own, pc_io, gfName_ap, gfNil_ap, gfCons_ap, gfTup_ap, seqSrc_slot, slotSrc_own, slotSrc_rd, fMut_ap, kMut2_ap, kSet3_ap, kSet2_ap, kSet_ap, fSetI_ap, fSetA_ap, kAtt_ap, kAtt2_ap, sa_ap, back_ap, bk_rd, mapEnv_ok, compK_lend, forK_lend, fEnum_ap, enumSrc_t, once_d3, once_dsd, lim_pos, Nat.reduceBEq, Nat.reduceAdd, Nat.reduceLeDiff, List.getElem?_cons_zero, List.getElem?_cons_succ, List.set_cons_zero, List.set_cons_succ, Out.bind_ok, Option.bind_some, Option.map_some, Bool.not_true, Bool.not_false, List.length_cons, List.length_nil, isi_t, isi_tb, gLen_2, gn]
  have st1 : (fIfS (fT (f2 gEq (f2 gIx (fVar 1) (fC (.int (0)))) (fC (.str "has")))) (fRet (fTup (fCons (fBlt gInt (fCons (fAnd (fBlt (gIsi isiT) (fCons (f2 gIx (fVar 1) (fC (.int (1)))) (fCons (fC (.ty "str")) fNil))) (fAnd (f2 gEq (fBlt gLen (fCons (f2 gIx (fVar 1) (fC (.int (1)))) fNil)) (fC (.int (1)))) (f2 gIn (f2 gIx (fVar 1) (fC (.int (1)))) (fVar 0)))) fNil)) (fCons (fC (.int (1))) fNil)))) fSkip) [.d (.str m), .d (.tup [.str (wdA b), .tup (xs.map (·.1))]), .no, .no, .no, .no, .no] = .ok .next [.d (.str m), .d (.tup [.str (wdA b), .tup (xs.map (·.1))]), .no, .no, .no, .no, .no] := by
    simp only [fC_ap, opd_ap, asD_d, asD_slot, asD_new, f1_ap, f2_ap, res_d, res_slot, resS_d, resS_own, resS_io, resS_rd, ress_nil, ress_cons, ofP_d, ofP_l, ofP_t, isB_b, fT_ap, gAnd_ap, gOr_ap, gNot_ap, fAnd_ap, fOr_ap, fNot_ap, fIf_ap, fNil_ap, fCons_ap, frz_d, frzs_nil, frzs_cons, fTup_ap, fLst_ap, isI_i, fPart_ap, fNo_ap, fSl_ap, fBlt_ap, fSeq_ap, seqK_next, seqK_brk, seqK_cont, seqK_ret, fSkip_ap, fIfS_ap, fDrop_ap, fAsg_ap, retK_d, retK_new, fRet_ap, fRetN_ap, turnK_next, turnK_cont, turnK_brk, turnK_ret, ofO_some, fFor_ap, forK_items, fSeqI_ap, seqSrc_l, seqSrc_t, seqSrc_s, fRng1_ap, fRng2_ap, fComp_ap, compK_items, gTrue_ap, k1_ap, o2_ap, k2b_ap, k2a_ap, kT_ap, kAnd_t, kAnd_f, kOr_t, kOr_f, kNot_ap, kAndE_t, kAndE_f, kOrE_t, kOrE_f, kNotE_ap, kIfE_t, kIfE_f, kIfS_t, kIfS_f, kCons2_ap, kCons_ap, kz2_ap, kz_ap, kTup2_ap, kTup_ap, kLst2_ap, kLst_ap, kPart_ap, kSl3_ap, kSl2_ap, kSl1_ap, kBlt_ap, kDrop_ap, kAsg2_ap, kAsg_ap, kRng1_ap, kRng2_ap, fCall_ap, kCall_ap, kCall2_ap, kCall3_ap, callK_d, callK_n, upds_io, upds_nil, upds_no, mkArgs_nil, mkArgs_cons, mkArgE_d, once1, once_dd, once_d2, once_s2, once_s3, once_s3d, kMut_ap, kLoop_ap, kLoop2_ap, fVar_ap, vr_d, vr_own, vr_io, vr_rd, noIo_ap, nio_no, nio_d, nio_own, nio_rd, frz_slot, fz_d, fz_own, gd_t, gs_t, store_d, store_new, retK_slot, rk_own, rk_d, lstAt_ap, la_own, la_io, mutAt_ap, ma_own, ma_io, mo_some, mi_some, mkArg_slot, ag_d, ag_own, ag_rd, ag_ownt, ag_iot, putC_ap, pc_own, pc_io, gfName_ap, gfNil_ap, gfCons_ap, gfTup_ap, seqSrc_slot, slotSrc_own, slotSrc_rd, fMut_ap, kMut2_ap, kSet3_ap, kSet2_ap, kSet_ap, fSetI_ap, fSetA_ap, kAtt_ap, kAtt2_ap, sa_ap, back_ap, bk_rd, mapEnv_ok, compK_lend, forK_lend, fEnum_ap, enumSrc_t, once_d3, once_dsd, lim_pos, Nat.reduceBEq, Nat.reduceAdd, Nat.reduceLeDiff, List.getElem?_cons_zero, List.getElem?_cons_succ, List.set_cons_zero, List.set_cons_succ, Out.bind_ok, Option.bind_some, Option.map_some, Bool.not_true, Bool.not_false, List.length_cons, List.length_nil, ix_0, w_ah]
  have st2 : (fAsg 2 (fLst (fCons (f2 gIx (fVar 1) (fC (.int (1)))) fNil))) [.d (.str m), .d (.tup [.str (wdA b), .tup (xs.map (·.1))]), .no, .no, .no, .no, .no] = .ok .next [.d (.str m), .d (.tup [.str (wdA b), .tup (xs.map (·.1))]), .own (.lst [.tup (xs.map (·.1))]), .no, .no, .no, .no] := by
    simp only [fC_ap, opd_ap, asD_d, asD_slot, asD_new, f1_ap, f2_ap, res_d, res_slot, resS_d, resS_own, resS_io, resS_rd, ress_nil, ress_cons, ofP_d, ofP_l, ofP_t, isB_b, fT_ap, gAnd_ap, gOr_ap, gNot_ap, fAnd_ap, fOr_ap, fNot_ap, fIf_ap, fNil_ap, fCons_ap, frz_d, frzs_nil, frzs_cons, fTup_ap, fLst_ap, isI_i, fPart_ap, fNo_ap, fSl_ap, fBlt_ap, fSeq_ap, seqK_next, seqK_brk, seqK_cont, seqK_ret, fSkip_ap, fIfS_ap, fDrop_ap, fAsg_ap, retK_d, retK_new, fRet_ap, fRetN_ap, turnK_next, turnK_cont, turnK_brk, turnK_ret, ofO_some, fFor_ap, forK_items, fSeqI_ap, seqSrc_l, seqSrc_t, seqSrc_s, fRng1_ap, fRng2_ap, fComp_ap, compK_items, gTrue_ap, k1_ap, o2_ap, k2b_ap, k2a_ap, kT_ap, kAnd_t, kAnd_f, kOr_t, kOr_f, kNot_ap, kAndE_t, kAndE_f, kOrE_t, kOrE_f, kNotE_ap, kIfE_t, kIfE_f, kIfS_t, kIfS_f, kCons2_ap, kCons_ap, kz2_ap, kz_ap, kTup2_ap, kTup_ap, kLst2_ap, kLst_ap, kPart_ap, kSl3_ap, kSl2_ap, kSl1_ap, kBlt_ap, kDrop_ap, kAsg2_ap, kAsg_ap, kRng1_ap, kRng2_ap, fCall_ap, kCall_ap, kCall2_ap, kCall3_ap, callK_d, callK_n, upds_io, upds_nil, upds_no, mkArgs_nil, mkArgs_cons, mkArgE_d, once1, once_dd, once_d2, once_s2, once_s3, once_s3d, kMut_ap, kLoop_ap, kLoop2_ap, fVar_ap, vr_d, vr_own, vr_io, vr_rd, noIo_ap, nio_no, nio_d, nio_own, nio_rd, frz_slot, fz_d, fz_own, gd_t, gs_t, store_d, store_new, retK_slot, rk_own, rk_d, lstAt_ap, la_own, la_io, mutAt_ap, ma_own, ma_io, mo_some, mi_some, mkArg_slot, ag_d, ag_own, ag_rd, ag_ownt, ag_iot, putC_ap, pc_own, pc_io, gfName_ap, gfNil_ap, gfCons_ap, gfTup_ap, seqSrc_slot, slotSrc_own, slotSrc_rd, fMut_ap, kMut2_ap, kSet3_ap, kSet2_ap, kSet_ap, fSetI_ap, fSetA_ap, kAtt_ap, kAtt2_ap, sa_ap, back_ap, bk_rd, mapEnv_ok, compK_lend, forK_lend, fEnum_ap, enumSrc_t, once_d3, once_dsd, lim_pos, Nat.reduceBEq, Nat.reduceAdd, Nat.reduceLeDiff, List.getElem?_cons_zero, List.getElem?_cons_succ, List.set_cons_zero, List.set_cons_succ, Out.bind_ok, Option.bind_some, Option.map_some, Bool.not_true, Bool.not_false, List.length_cons, List.length_nil, ix_1, l1]
  have st3 : (fIfS (fT (f2 gIn (f2 gIx (fVar 1) (fC (.int (0)))) (fLst (fCons (fC (.str "all")) (fCons (fC (.str "any")) fNil))))) (fSeq (fIfS (gOr (gNot (fT (fBlt (gIsi isiT) (fCons (f2 gIx (fVar 1) (fC (.int (1)))) (fCons (fC (.ty "tuple")) fNil))))) (fT (f2 gGt (fBlt gLen (fCons (f2 gIx (fVar 1) (fC (.int (1)))) fNil)) (fC (.int (10)))))) (fRet (fTup (fCons (fC (.int (0))) (fCons (fC (.int (0))) fNil)))) fSkip) (fAsg 2 (fBlt gListS (fCons (f2 gIx (fVar 1) (fC (.int (1)))) fNil)))) (fIfS (fT (f2 gNe (f2 gIx (fVar 1) (fC (.int (0)))) (fC (.str "not")))) (fRet (fTup (fCons (fC (.int (0))) (fCons (fC (.int (0))) fNil)))) fSkip)) [.d (.str m), .d (.tup [.str (wdA b), .tup (xs.map (·.1))]), .own (.lst [.tup (xs.map (·.1))]), .no, .no, .no, .no] = .ok .next [.d (.str m), .d (.tup [.str (wdA b), .tup (xs.map (·.1))]), .own (.lst (xs.map (·.1))), .no, .no, .no, .no] := by
    simp only [fC_ap, opd_ap, asD_d, asD_slot, asD_new, f1_ap, f2_ap, res_d, res_slot, resS_d, resS_own, resS_io, resS_rd, ress_nil, ress_cons, ofP_d, ofP_l, ofP_t, isB_b, fT_ap, gAnd_ap, gOr_ap, gNot_ap, fAnd_ap, fOr_ap, fNot_ap, fIf_ap, fNil_ap, fCons_ap, frz_d, frzs_nil, frzs_cons, fTup_ap, fLst_ap, isI_i, fPart_ap, fNo_ap, fSl_ap, fBlt_ap, fSeq_ap, seqK_next, seqK_brk, seqK_cont, seqK_ret, fSkip_ap, fIfS_ap, fDrop_ap, fAsg_ap, retK_d, retK_new, fRet_ap, fRetN_ap, turnK_next, turnK_cont, turnK_brk, turnK_ret, ofO_some, fFor_ap, forK_items, fSeqI_ap, seqSrc_l, seqSrc_t, seqSrc_s, fRng1_ap, fRng2_ap, fComp_ap, compK_items, gTrue_ap, k1_ap, o2_ap, k2b_ap, k2a_ap, kT_ap, kAnd_t, kAnd_f, kOr_t, kOr_f, kNot_ap, kAndE_t, kAndE_f, kOrE_t, kOrE_f, kNotE_ap, kIfE_t, kIfE_f, kIfS_t, kIfS_f, kCons2_ap, kCons_ap, kz2_ap, kz_ap, kTup2_ap, kTup_ap, kLst2_ap, kLst_ap, kPart_ap, kSl3_ap, kSl2_ap, kSl1_ap, kBlt_ap, kDrop_ap, kAsg2_ap, kAsg_ap, kRng1_ap, kRng2_ap, fCall_ap, kCall_ap, kCall2_ap, kCall3_ap, callK_d, callK_n, upds_io, upds_nil, upds_no, mkArgs_nil, mkArgs_cons, mkArgE_d, once1, once_dd, once_d2, once_s2, once_s3, once_s3d, kMut_ap, kLoop_ap, kLoop2_ap, fVar_ap, vr_d, vr_own, vr_io, vr_rd, noIo_ap, nio_no, nio_d, nio_own, nio_rd, frz_slot, fz_d, fz_own, gd_t, gs_t, store_d, store_new, retK_slot, rk_own, rk_d, lstAt_ap, la_own, la_io, mutAt_ap, ma_own, ma_io, mo_some, mi_some, mkArg_slot, ag_d, ag_own, ag_rd, ag_ownt, ag_iot, putC_ap, pc_own, pc_io, gfName_ap, gfNil_ap, gfCons_ap, gfTup_ap, seqSrc_slot, slotSrc_own, slotSrc_rd, fMut_ap, kMut2_ap, kSet3_ap, kSet2_ap, kSet_ap, fSetI_ap, fSetA_ap, kAtt_ap, kAtt2_ap, sa_ap, back_ap, bk_rd, mapEnv_ok, compK_lend, forK_lend, fEnum_ap, enumSrc_t, once_d3, once_dsd, lim_pos, Nat.reduceBEq, Nat.reduceAdd, Nat.reduceLeDiff, List.getElem?_cons_zero, List.getElem?_cons_succ, List.set_cons_zero, List.set_cons_succ, Out.bind_ok, Option.bind_some, Option.map_some, Bool.not_true, Bool.not_false, List.length_cons, List.length_nil, ix_0, ix_1, w_inl, isi_t, e2, gGt_i, e10, gList_t, gListS_t]
  unfold b26
  unfold lsT at hT
  rw [fSeq_ap, st0, Out.bind_ok, seqK_next, fSeq_ap, st1, Out.bind_ok, seqK_next, fSeq_ap, st2, Out.bind_ok, seqK_next, fSeq_ap, st3, Out.bind_ok, seqK_next, hT]
  rfl
theorem lsz_none (n : Nat) (b : Bool) : run (n + 1) 26 [.d (.str m), .d (manyD b [])] = .ret (.d (sz 1 1)) [none, none] := lsz_many n b [] (by decide) (fun p hp => by cases hp) (fun p hp => by cases hp)
theorem lsz_two (n : Nat) (b : Bool) (c d : D) (s t u v : Nat) (h1 : 1 ≤ s) (h2 : 1 ≤ u) (e1 : run n 26 [.d (.str m), .d c] = .ret (.d (sz s t)) [none, none]) (e2 : run n 26 [.d (.str m), .d d] = .ret (.d (sz u v)) [none, none]) :
    run (n + 1) 26 [.d (.str m), .d (manyD b [c, d])] = .ret (.d (sz (1 + s + u) (1 + max t v))) [none, none] := by
  have h := lsz_many (m := m) n b [((c, s, t) : P3), ((d, u, v) : P3)] (Nat.le_of_ble_eq_true rfl) (fun p hp => by
    rcases List.mem_cons.mp hp with rfl | hp
    · exact e1
    · rw [List.mem_singleton.mp hp]; exact e2) (fun p hp => by
    rcases List.mem_cons.mp hp with rfl | hp
    · exact h1
    · rw [List.mem_singleton.mp hp]; exact h2)
  have e1 : (1 : Int) + ssum [((c, s, t) : P3), ((d, u, v) : P3)] = ((1 + s + u : Nat) : Int) := by
    show (1 : Int) + ((s : Int) + ((u : Int) + 0)) = _
    omega
  have e2 : (1 : Int) + tmax [((c, s, t) : P3), ((d, u, v) : P3)] = ((1 + max t v : Nat) : Int) := by
    show (1 : Int) + (if (v : Int) > (if (t : Int) > 0 then (t : Int) else 0) then (v : Int) else (if (t : Int) > 0 then (t : Int) else 0)) = _
    split <;> split <;> omega
  rw [e1, e2] at h
  exact h
theorem spl_lsz (hm : m ∈ marks9) (n : Nat) : ∀ (cs : List Nat) (lot : List (List Nat)), cs.length ≤ 5 → (∀ c ∈ cs, c ∈ cp m) → ∃ s t : Nat, 1 ≤ s ∧ s ≤ Bn cs.length ∧ 1 ≤ t ∧ t ≤ 2 * cs.length + 2 ∧ run (n + 2 + 2 * cs.length) 26 [.d (.str m), .d (spl cs lot)] = .ret (.d (sz s t)) [none, none]
  | [], lot, _, _ => by
    refine ⟨1, 1, Nat.le_refl _, Nat.le_refl _, Nat.le_refl _, by decide, ?_⟩
    unfold spl
    split
    · exact lsz_none (n + 1) _
    · exact lsz_none (n + 1) _
  | c :: cs, lot, h, hc => by
    have en : n + 2 + 2 * (c :: cs).length = n + 2 + 2 * cs.length + 1 + 1 := by rw [List.length_cons]; omega
    rw [en]
    have hp := Bn_pos (c :: cs).length
    have eB : Bn (c :: cs).length = 6 + 2 * Bn cs.length := rfl
    rw [eB] at hp ⊢
    have hl : cs.length ≤ 5 := by rw [List.length_cons] at h; omega
    have hcc := hc c (by simp)
    unfold spl
    split
    · exact ⟨1, 1, Nat.le_refl _, by omega, Nat.le_refl _, by omega, lsz_none (n + 2 + 2 * cs.length + 1) _⟩
    · split
      · exact ⟨1, 1, Nat.le_refl _, by omega, Nat.le_refl _, by omega, lsz_none (n + 2 + 2 * cs.length + 1) _⟩
      · obtain ⟨s, t, a1, a2, a3, a4, a5⟩ := spl_lsz hm n cs (own c lot) hl (fun x hx => hc x (by simp [hx]))
        obtain ⟨u, v, b1, b2, b3, b4, b5⟩ := spl_lsz hm n cs (rst c lot) hl (fun x hx => hc x (by simp [hx]))
        have f4 : n + 2 + 2 * cs.length = (n + 1 + 2 * cs.length) + 1 := by omega
        have f5 : n + 1 + 2 * cs.length = (n + 2 * cs.length) + 1 := by omega
        have l1 := lsz_leaf (n + 1 + 2 * cs.length) hm hcc
        rw [← f4] at l1
        have l0 := lsz_leaf (n + 2 * cs.length) hm hcc
        rw [← f5] at l0
        have l2 := lsz_not (n + 1 + 2 * cs.length) _ 1 1 (Nat.le_refl _) l0
        rw [← f4] at l2
        have q1 := lsz_two (n + 2 + 2 * cs.length) true _ _ 1 1 s t (Nat.le_refl _) a1 l1 a5
        have q2 := lsz_two (n + 2 + 2 * cs.length) true _ _ (1 + 1) (1 + 1) u v (by decide) b1 l2 b5
        have q3 := lsz_two (n + 2 + 2 * cs.length + 1) false _ _ _ _ _ _ (by omega) (by omega) q1 q2
        exact ⟨_, _, by omega, by omega, by omega, by rw [List.length_cons]; omega, q3⟩
end KK

set_option Elab.async false
set_option linter.all false
set_option maxRecDepth 100000
set_option maxHeartbeats 4000000
namespace KK
open PySem L2 Nz
open Nz (D Arg)
variable {m : Str} {n : Nat}
/-! ### conditions compared with themselves -/
def Qd (k : Nat) (d : D) : Prop := ∃ p : PyData, D.py d = some p ∧ p.canLay0 = true ∧ p.depth ≤ k ∧ PyData.eqv p p = true
theorem Qd.str {s : Str} (h : PyData.strOk s = true) (k : Nat) : Qd k (.str s) := ⟨.str s, rfl, by rw [PyData.canLay0, h], by rw [PyData.depth]; exact Nat.zero_le _, by rw [PyData.eqv]; simp⟩
theorem Qd.pys {k : Nat} : ∀ {ds : List D}, (∀ d ∈ ds, Qd k d) → ∃ ps : List PyData, D.pys ds = some ps ∧ PyData.canLayAll0 ps = true ∧ PyData.depthAll ps ≤ k ∧ PyData.eqvAll ps ps = true
  | [], _ => ⟨[], rfl, rfl, Nat.zero_le _, rfl⟩
  | d :: ds, h => by
    obtain ⟨p, h1, h2, h3, h4⟩ := h d (by simp)
    obtain ⟨ps, g1, g2, g3, g4⟩ := Qd.pys (ds := ds) fun x hx => h x (by simp [hx])
    refine ⟨p :: ps, ?_, ?_, ?_, ?_⟩
    · show (D.py d).bind (fun p => (D.pys ds).map (p :: ·)) = _
      rw [h1, g1]
      rfl
    · rw [PyData.canLayAll0, h2, g2]
      rfl
    · rw [PyData.depthAll]
      omega
    · rw [PyData.eqvAll, h4, g4]
      rfl
theorem Qd.tup {k : Nat} {ds : List D} (h : ∀ d ∈ ds, Qd k d) : Qd (k + 1) (.tup ds) := by
  obtain ⟨ps, g1, g2, g3, g4⟩ := Qd.pys h
  refine ⟨.tuple ps, ?_, ?_, ?_, ?_⟩
  · show (D.pys ds).map PyData.tuple = _
    rw [g1]
    rfl
  · rw [PyData.canLay0, g2]
  · rw [PyData.depth]
    omega
  · rw [PyData.eqv, g4]
theorem Qd.up {k l : Nat} {d : D} (h : Qd k d) (hl : k ≤ l) : Qd l d := by
  obtain ⟨p, h1, h2, h3, h4⟩ := h
  exact ⟨p, h1, h2, by omega, h4⟩
theorem Qd.two {k : Nat} {a b : D} (ha : Qd k a) (hb : Qd k b) : Qd (k + 1) (.tup [a, b]) := Qd.tup fun d hd => by
  rcases List.mem_cons.mp hd with rfl | hd
  · exact ha
  · rw [List.mem_singleton.mp hd]; exact hb
theorem wd_q (k : Nat) (b : Bool) : Qd k (.str (wdA b)) := Qd.str (by cases b <;> decide +kernel) k
theorem Qd.manyC {k : Nat} (b : Bool) {cs : List D} (h : ∀ d ∈ cs, Qd k d) : Qd (k + 2) (manyD b cs) := Qd.two (wd_q _ b) (Qd.tup h)
theorem has_q (k : Nat) : Qd k (.str "has") := Qd.str (by decide +kernel) k
theorem not_q (k : Nat) : Qd k (.str "not") := Qd.str (by decide +kernel) k
theorem leaf_q {c : Nat} (h : Sm [c]) (k : Nat) : Qd (k + 1) (leafD (T [c])) := Qd.two (has_q k) (Qd.str (T_ok h) k)
theorem spl_q : ∀ (cs : List Nat) (lot : List (List Nat)), Sm cs → Qd (4 * cs.length + 2) (spl cs lot)
  | [], lot, _ => by
    unfold spl
    split
    · exact Qd.manyC (k := 0) false fun d hd => by cases hd
    · exact Qd.manyC (k := 0) true fun d hd => by cases hd
  | c :: cs, lot, h => by
    have hc : Sm [c] := fun x hx => by rw [List.mem_singleton.mp hx]; exact h c (by simp)
    unfold spl
    split
    · exact (Qd.manyC (k := 0) false fun d hd => by cases hd).up (by omega)
    · split
      · exact (Qd.manyC (k := 0) true fun d hd => by cases hd).up (by omega)
      · have q1 := spl_q cs (own c lot) fun x hx => h x (by simp [hx])
        have q2 := spl_q cs (rst c lot) fun x hx => h x (by simp [hx])
        have en : 4 * (c :: cs).length + 2 = (4 * cs.length + 2 + 2) + 2 := by rw [List.length_cons]; omega
        rw [en]
        refine Qd.manyC false fun d hd => ?_
        rcases List.mem_cons.mp hd with rfl | hd
        · refine Qd.manyC true fun d hd => ?_
          rcases List.mem_cons.mp hd with rfl | hd
          · exact leaf_q hc _
          · rw [List.mem_singleton.mp hd]; exact q1
        · rw [List.mem_singleton.mp hd]
          refine Qd.manyC true fun d hd => ?_
          rcases List.mem_cons.mp hd with rfl | hd
          · exact Qd.two (not_q _) (leaf_q hc _)
          · rw [List.mem_singleton.mp hd]; exact q2
theorem eqD_self {k : Nat} {d : D} (h : Qd k d) (hk : k ≤ 64) : eqD d d = some true := by
  obtain ⟨p, h1, h2, h3, h4⟩ := h
  have hs : SeqAt.shaped p = true := by
    unfold SeqAt.shaped
    rw [h2, Bool.true_and]
    exact decide_eq_true (by omega)
  unfold eqD
  rw [h1]
  simp only [Option.bind_some, hs, Bool.and_self, if_true, h4]
theorem gNe_self {k : Nat} {d : D} (h : Qd k d) (hk : k ≤ 64) : gNe d d = some (.d (.bl false)) := by unfold gNe; rw [eqD_self h hk]; rfl
theorem spl_ne (hm : m ∈ marks9) (lot : List (List Nat)) : gNe (spl (cp m) lot) (spl (cp m) lot) = some (.d (.bl false)) := by
  obtain ⟨_, h5, hs, _⟩ := sfx_of (m_sfx hm)
  have h5 : (cp m).length ≤ 5 := h5
  exact gNe_self (spl_q (cp m) lot hs) (by omega)
theorem f_strok : marks9.all (fun m => (every m).all (fun k => PyData.strOk k)) = true := by decide +kernel
theorem lot_ne (hm : m ∈ marks9) {l : List Str} (h : Good m l) : gNe (lotD l) (lotD l) = some (.d (.bl false)) := gNe_self (k := 1) (Qd.tup fun d hd => by
  obtain ⟨s, hs, rfl⟩ := List.mem_map.mp hd
  exact Qd.str (List.all_eq_true.mp (List.all_eq_true.mp f_strok m hm) s (h.mem hs)) 0) (by decide)
/-! ### the condition that is told -/
theorem cond_ok (n : Nat) (hm : m ∈ marks9) {l : List Str} (h : Good m l) : run (n + 8) 15 [.d (.str m), .d (lotD l)] = .ret (.d (spl (cp m) (l.map cp))) [none, none] := by
  obtain ⟨_, h5, _⟩ := sfx_of (m_sfx hm)
  have h5 : (cp m).length ≤ 5 := h5
  have e1 := chkmarks_ok (n + 4) hm
  have e2 : run (n + 7) 6 [.d (.str m), .d (lotD l)] = .ret (.d .non) [none, none] := by
    have e := lot_ok (n := n + 3) hm h
    show finF _ (b6 (run (n + 6)) [.d (.str m), .d (lotD l)]) = _
    unfold b6
    simp only [fC_ap, opd_ap, asD_d, asD_slot, asD_new, f1_ap, f2_ap, res_d, res_slot, resS_d, resS_own, resS_io, resS_rd, ress_nil, ress_cons, ofP_d, ofP_l, ofP_t, isB_b, fT_ap, gAnd_ap, gOr_ap, gNot_ap, fAnd_ap, fOr_ap, fNot_ap, fIf_ap, fNil_ap, fCons_ap, frz_d, frzs_nil, frzs_cons, fTup_ap, fLst_ap, isI_i, fPart_ap, fNo_ap, fSl_ap, fBlt_ap, fSeq_ap, seqK_next, seqK_brk, seqK_cont, seqK_ret, fSkip_ap, fIfS_ap, fDrop_ap, fAsg_ap, retK_d, retK_new, fRet_ap, fRetN_ap, turnK_next, turnK_cont, turnK_brk, turnK_ret, ofO_some, fFor_ap, forK_items, fSeqI_ap, seqSrc_l, seqSrc_t, seqSrc_s, fRng1_ap, fRng2_ap, fComp_ap, compK_items, gTrue_ap, k1_ap, o2_ap, k2b_ap, k2a_ap, kT_ap, kAnd_t, kAnd_f, kOr_t, kOr_f, kNot_ap, kAndE_t, kAndE_f, kOrE_t, kOrE_f, kNotE_ap, kIfE_t, kIfE_f, kIfS_t, kIfS_f, kCons2_ap, kCons_ap, kz2_ap, kz_ap, kTup2_ap, kTup_ap, kLst2_ap, kLst_ap, kPart_ap, kSl3_ap, kSl2_ap, kSl1_ap, kBlt_ap, kDrop_ap, kAsg2_ap, kAsg_ap, kRng1_ap, kRng2_ap, fCall_ap, kCall_ap, kCall2_ap, kCall3_ap, callK_d, callK_n, upds_io, upds_nil, upds_no, mkArgs_nil, mkArgs_cons, mkArgE_d, once1, once_dd, once_d2, once_s2, once_s3, once_s3d, kMut_ap, kLoop_ap, kLoop2_ap, fVar_ap, vr_d, vr_own, vr_io, vr_rd, noIo_ap, nio_no, nio_d, nio_own, nio_rd, frz_slot, fz_d, fz_own, gd_t, gs_t, store_d, store_new, retK_slot, rk_own, rk_d, lstAt_ap, la_own, la_io, mutAt_ap, ma_own, ma_io, mo_some, mi_some, mkArg_slot, ag_d, ag_own, ag_rd, ag_ownt, ag_iot, putC_ap, pc_own, pc_io, gfName_ap, gfNil_ap, gfCons_ap, gfTup_ap, seqSrc_slot, slotSrc_own, slotSrc_rd, fMut_ap, kMut2_ap, kSet3_ap, kSet2_ap, kSet_ap, fSetI_ap, fSetA_ap, kAtt_ap, kAtt2_ap, sa_ap, back_ap, bk_rd, mapEnv_ok, compK_lend, forK_lend, fEnum_ap, enumSrc_t, once_d3, once_dsd, lim_pos, Nat.reduceBEq, Nat.reduceAdd, Nat.reduceLeDiff, List.getElem?_cons_zero, List.getElem?_cons_succ, List.set_cons_zero, List.set_cons_succ, Out.bind_ok, Option.bind_some, Option.map_some, Bool.not_true, Bool.not_false, List.length_cons, List.length_nil, e]
    rfl
  have e3 := split_ok (cp m) (l.map cp) (n + 5 - (cp m).length) (m_sfx hm) (kd_of hm h)
  have en : n + 5 - (cp m).length + (cp m).length + 2 = n + 7 := by omega
  rw [en, T_cp, TD_cp] at e3
  show finF _ (b15 (run (n + 7)) [.d (.str m), .d (lotD l)]) = _
  unfold lotD at e2 ⊢
  unfold b15
  simp only [fC_ap, opd_ap, asD_d, asD_slot, asD_new, f1_ap, f2_ap, res_d, res_slot, resS_d, resS_own, resS_io, resS_rd, ress_nil, ress_cons, ofP_d, ofP_l, ofP_t, isB_b, fT_ap, gAnd_ap, gOr_ap, gNot_ap, fAnd_ap, fOr_ap, fNot_ap, fIf_ap, fNil_ap, fCons_ap, frz_d, frzs_nil, frzs_cons, fTup_ap, fLst_ap, isI_i, fPart_ap, fNo_ap, fSl_ap, fBlt_ap, fSeq_ap, seqK_next, seqK_brk, seqK_cont, seqK_ret, fSkip_ap, fIfS_ap, fDrop_ap, fAsg_ap, retK_d, retK_new, fRet_ap, fRetN_ap, turnK_next, turnK_cont, turnK_brk, turnK_ret, ofO_some, fFor_ap, forK_items, fSeqI_ap, seqSrc_l, seqSrc_t, seqSrc_s, fRng1_ap, fRng2_ap, fComp_ap, compK_items, gTrue_ap, k1_ap, o2_ap, k2b_ap, k2a_ap, kT_ap, kAnd_t, kAnd_f, kOr_t, kOr_f, kNot_ap, kAndE_t, kAndE_f, kOrE_t, kOrE_f, kNotE_ap, kIfE_t, kIfE_f, kIfS_t, kIfS_f, kCons2_ap, kCons_ap, kz2_ap, kz_ap, kTup2_ap, kTup_ap, kLst2_ap, kLst_ap, kPart_ap, kSl3_ap, kSl2_ap, kSl1_ap, kBlt_ap, kDrop_ap, kAsg2_ap, kAsg_ap, kRng1_ap, kRng2_ap, fCall_ap, kCall_ap, kCall2_ap, kCall3_ap, callK_d, callK_n, upds_io, upds_nil, upds_no, mkArgs_nil, mkArgs_cons, mkArgE_d, once1, once_dd, once_d2, once_s2, once_s3, once_s3d, kMut_ap, kLoop_ap, kLoop2_ap, fVar_ap, vr_d, vr_own, vr_io, vr_rd, noIo_ap, nio_no, nio_d, nio_own, nio_rd, frz_slot, fz_d, fz_own, gd_t, gs_t, store_d, store_new, retK_slot, rk_own, rk_d, lstAt_ap, la_own, la_io, mutAt_ap, ma_own, ma_io, mo_some, mi_some, mkArg_slot, ag_d, ag_own, ag_rd, ag_ownt, ag_iot, putC_ap, pc_own, pc_io, gfName_ap, gfNil_ap, gfCons_ap, gfTup_ap, seqSrc_slot, slotSrc_own, slotSrc_rd, fMut_ap, kMut2_ap, kSet3_ap, kSet2_ap, kSet_ap, fSetI_ap, fSetA_ap, kAtt_ap, kAtt2_ap, sa_ap, back_ap, bk_rd, mapEnv_ok, compK_lend, forK_lend, fEnum_ap, enumSrc_t, once_d3, once_dsd, lim_pos, Nat.reduceBEq, Nat.reduceAdd, Nat.reduceLeDiff, List.getElem?_cons_zero, List.getElem?_cons_succ, List.set_cons_zero, List.set_cons_succ, Out.bind_ok, Option.bind_some, Option.map_some, Bool.not_true, Bool.not_false, List.length_cons, List.length_nil, e1, e2, gListS_t, e3]
  rfl
/-! ### odd things -/
def O1 : List D := [.non, .bl true, .bl false, .int 0, .int 1, .int (-1), .int (10 ^ 20), .str "", .str "a", .str "ab", .str "ba", .str "A", .str "aa", .str "abcdef", .tup [], .lst [], .edc, .tup [.str ""]]
def O2 : List D := [.tup [.str "a"], .lst [.str "a"], .tup [.str "a", .str "a"], .tup [.str "b", .str "a"], .tup [.str "ab", .str "a"], .tup [.tup [.str "a"]], .tup [.tup [.str "a"], .tup []], .tup [.int 1], .tup [.str "a", .int 1]]
def O3 : List D := [.tup [.bl true, .str "a"], .tup [.str "z"], .tup [.tup [.str "a"], .lst [.str "a"]], .str "a,b", .tup [.int 0, .int 1], .tup [.str "has", .str "a"], .tup [.str "a", .str "b", .str ""]]
def odds : List D := (O1 ++ O2) ++ O3
theorem odd_ok {t : Cell} (Tt : TapeOk t) : ∃ d t', d ∈ odds ∧ TapeOk t' ∧ run (n + 2) 21 [.io t] = .ret (.d d) [some t'] := by
  obtain ⟨r, t', h1, h2, T', h4⟩ := pick_ok n Tt (m := 34) (by decide) (by decide)
  have hr : r.toNat < odds.length := by show r.toNat < 34; omega
  have hx : gIx (.lst odds) (.int r) = some (.d odds[r.toNat]) := gIx_l h1 (List.getElem?_eq_getElem hr)
  refine ⟨odds[r.toNat], t', List.getElem_mem hr, T', ?_⟩
  generalize odds[r.toNat] = d at hx
  show finF _ (b21 (run (n + 1)) [.io t, .no]) = _
  obtain ⟨Φ, hΦ⟩ : ∃ Φ, Φ = run (n + 1) := ⟨_, rfl⟩
  rw [← hΦ] at h4 ⊢
  have hG : gLen [.lst odds] = some (.d (.int 34)) := rfl
  have st0 : (fAsg 1 (fLst (fCons (fC .non) (fCons (fC (.bl true)) (fCons (fC (.bl false)) (fCons (fC (.int (0))) (fCons (fC (.int (1))) (fCons (f1 gNeg (fC (.int (1)))) (fCons (f2 gPow (fC (.int (10))) (fC (.int (20)))) (fCons (fC (.str "")) (fCons (fC (.str "a")) (fCons (fC (.str "ab")) (fCons (fC (.str "ba")) (fCons (fC (.str "A")) (fCons (fC (.str "aa")) (fCons (fC (.str "abcdef")) (fCons (fTup fNil) (fCons (fLst fNil) (fCons fDic (fCons (fTup (fCons (fC (.str "")) fNil)) fNil)))))))))))))))))))) [.io t, .no] = .ok .next [.io t, .own (.lst O1)] := by
    rfl
  have st1 : (fAsg 1 (f2 gAdd (fVar 1) (fLst (fCons (fTup (fCons (fC (.str "a")) fNil)) (fCons (fLst (fCons (fC (.str "a")) fNil)) (fCons (fTup (fCons (fC (.str "a")) (fCons (fC (.str "a")) fNil))) (fCons (fTup (fCons (fC (.str "b")) (fCons (fC (.str "a")) fNil))) (fCons (fTup (fCons (fC (.str "ab")) (fCons (fC (.str "a")) fNil))) (fCons (fTup (fCons (fTup (fCons (fC (.str "a")) fNil)) fNil)) (fCons (fTup (fCons (fTup (fCons (fC (.str "a")) fNil)) (fCons (fTup fNil) fNil))) (fCons (fTup (fCons (fC (.int (1))) fNil)) (fCons (fTup (fCons (fC (.str "a")) (fCons (fC (.int (1))) fNil))) fNil)))))))))))) [.io t, .own (.lst O1)] = .ok .next [.io t, .own (.lst (O1 ++ O2))] := by
    rfl
  have st2 : (fAsg 1 (f2 gAdd (fVar 1) (fLst (fCons (fTup (fCons (fC (.bl true)) (fCons (fC (.str "a")) fNil))) (fCons (fTup (fCons (fC (.str "z")) fNil)) (fCons (fTup (fCons (fTup (fCons (fC (.str "a")) fNil)) (fCons (fLst (fCons (fC (.str "a")) fNil)) fNil))) (fCons (fC (.str "a,b")) (fCons (fTup (fCons (fC (.int (0))) (fCons (fC (.int (1))) fNil))) (fCons (fTup (fCons (fC (.str "has")) (fCons (fC (.str "a")) fNil))) (fCons (fTup (fCons (fC (.str "a")) (fCons (fC (.str "b")) (fCons (fC (.str "")) fNil)))) fNil)))))))))) [.io t, .own (.lst (O1 ++ O2))] = .ok .next [.io t, .own (.lst odds)] := by
    rfl
  have st3 : (fRet (f2 gIx (fVar 1) (fCall [true, false] (Φ 17) (fCons (fVar 0) (fCons (fBlt gLen (fCons (fVar 1) fNil)) fNil))))) [.io t, .own (.lst odds)] = .ok (.ret (.d d)) [.io t', .own (.lst odds)] := by
    simp only [fC_ap, opd_ap, asD_d, asD_slot, asD_new, f1_ap, f2_ap, res_d, res_slot, resS_d, resS_own, resS_io, resS_rd, ress_nil, ress_cons, ofP_d, ofP_l, ofP_t, isB_b, fT_ap, gAnd_ap, gOr_ap, gNot_ap, fAnd_ap, fOr_ap, fNot_ap, fIf_ap, fNil_ap, fCons_ap, frz_d, frzs_nil, frzs_cons, fTup_ap, fLst_ap, isI_i, fPart_ap, fNo_ap, fSl_ap, fBlt_ap, fSeq_ap, seqK_next, seqK_brk, seqK_cont, seqK_ret, fSkip_ap, fIfS_ap, fDrop_ap, fAsg_ap, retK_d, retK_new, fRet_ap, fRetN_ap, turnK_next, turnK_cont, turnK_brk, turnK_ret, ofO_some, fFor_ap, forK_items, fSeqI_ap, seqSrc_l, seqSrc_t, seqSrc_s, fRng1_ap, fRng2_ap, fComp_ap, compK_items, gTrue_ap, k1_ap, o2_ap, k2b_ap, k2a_ap, kT_ap, kAnd_t, kAnd_f, kOr_t, kOr_f, kNot_ap, kAndE_t, kAndE_f, kOrE_t, kOrE_f, kNotE_ap, kIfE_t, kIfE_f, kIfS_t, kIfS_f, kCons2_ap, kCons_ap, kz2_ap, kz_ap, kTup2_ap, kTup_ap, kLst2_ap, kLst_ap, kPart_ap, kSl3_ap, kSl2_ap, kSl1_ap, kBlt_ap, kDrop_ap, kAsg2_ap, kAsg_ap, kRng1_ap, kRng2_ap, fCall_ap, kCall_ap, kCall2_ap, kCall3_ap, callK_d, callK_n, upds_io, upds_nil, upds_no, mkArgs_nil, mkArgs_cons, mkArgE_d, once1, once_dd, once_d2, once_s2, once_s3, once_s3d, kMut_ap, kLoop_ap, kLoop2_ap, fVar_ap, vr_d, vr_own, vr_io, vr_rd, noIo_ap, nio_no, nio_d, nio_own, nio_rd, frz_slot, fz_d, fz_own, gd_t, gs_t, store_d, store_new, retK_slot, rk_own, rk_d, lstAt_ap, la_own, la_io, mutAt_ap, ma_own, ma_io, mo_some, mi_some, mkArg_slot, ag_d, ag_own, ag_rd, ag_ownt, ag_iot, putC_ap, pc_own, pc_io, gfName_ap, gfNil_ap, gfCons_ap, gfTup_ap, seqSrc_slot, slotSrc_own, slotSrc_rd, fMut_ap, kMut2_ap, kSet3_ap, kSet2_ap, kSet_ap, fSetI_ap, fSetA_ap, kAtt_ap, kAtt2_ap, sa_ap, back_ap, bk_rd, mapEnv_ok, compK_lend, forK_lend, fEnum_ap, enumSrc_t, once_d3, once_dsd, lim_pos, Nat.reduceBEq, Nat.reduceAdd, Nat.reduceLeDiff, List.getElem?_cons_zero, List.getElem?_cons_succ, List.set_cons_zero, List.set_cons_succ, Out.bind_ok, Option.bind_some, Option.map_some, Bool.not_true, Bool.not_false, List.length_cons, List.length_nil, hG, h4, hx]
  unfold b21
  rw [fSeq_ap, st0, Out.bind_ok, seqK_next, fSeq_ap, st1, Out.bind_ok, seqK_next, fSeq_ap, st2, Out.bind_ok, seqK_next, st3]
  rfl
end KK

set_option Elab.async false
set_option linter.all false
set_option maxRecDepth 100000
set_option maxHeartbeats 4000000
namespace KK
open PySem L2 Nz
open Nz (D Arg)
variable {m : Str} {n : Nat}
/-! ### what is refused -/
def dueOk (o d : D) : Bool := match run 29 23 [.d o], run 29 28 [.d o, .d d] with
  | .ret (.d (.bl b)) [none], .ret (.d (.str s)) [none, none] => if b then (match run 29 25 [.d o, .d d] with
    | .ret (.d (.bl c)) [none, none] => s == (if c then ("told" : Str) else ("lot" : Str))
    | _ => false) else s == ("marks" : Str)
  | _, _ => false
theorem due_inv {o d : D} (h : dueOk o d = true) : ∃ (b : Bool) (s : Str), run 29 23 [.d o] = .ret (.d (.bl b)) [none] ∧ run 29 28 [.d o, .d d] = .ret (.d (.str s)) [none, none] ∧ (b = false → s = "marks") ∧ (b = true → ∃ c : Bool, run 29 25 [.d o, .d d] = .ret (.d (.bl c)) [none, none] ∧ s = if c then "told" else "lot") := by
  unfold dueOk at h
  split at h
  · rename_i b s e1 e2
    refine ⟨b, s, e1, e2, fun hb => ?_, fun hb => ?_⟩
    · rw [hb] at h
      simp only [Bool.false_eq_true, if_false] at h
      exact eq_of_beq h
    · rw [hb] at h
      simp only [if_true] at h
      split at h
      · rename_i c e3
        exact ⟨c, e3, by have h2 := eq_of_beq h; rw [h2]; cases c <;> rfl⟩
      · cases h
  · cases h
def things (m : Str) : List D := [.lst ((every m).map D.str), .tup (.str "" :: (every m).map D.str), .tup (((every m).map D.str).reverse ++ [.str ""])]
theorem f_due1 : odds.all (fun o => odds.all fun d => dueOk o d) = true := by decide +kernel
theorem f_due2 : marks9.all (fun m => odds.all fun d => dueOk (.str m) d) = true := by decide +kernel
theorem f_due3 : marks9.all (fun m => (things m).all fun d => dueOk (.str m) d && odds.all fun o => dueOk o d) = true := by decide +kernel
theorem due_of (hm : m ∈ marks9) {o d : D} (ho : o = .str m ∨ o ∈ odds) (hd : d ∈ odds ∨ d ∈ things m) : dueOk o d = true := by
  rcases ho with rfl | ho
  · rcases hd with hd | hd
    · exact List.all_eq_true.mp (List.all_eq_true.mp f_due2 m hm) d hd
    · have := List.all_eq_true.mp (List.all_eq_true.mp f_due3 m hm) d hd
      exact (Bool.and_eq_true _ _ ▸ this).1
  · rcases hd with hd | hd
    · exact List.all_eq_true.mp (List.all_eq_true.mp f_due1 o ho) d hd
    · have := List.all_eq_true.mp (List.all_eq_true.mp f_due3 m hm) d hd
      exact List.all_eq_true.mp (Bool.and_eq_true _ _ ▸ this).2 o ho
def lotIs (o : FOut) : Bool := match o with
  | .ret (.d (.str s)) [none, none] => s == ("lot" : Str)
  | _ => false
theorem f_nil : marks9.all (fun m => lotIs (run 29 28 [.d (.str m), .d (.tup [])])) = true := by decide +kernel
theorem nil_ok (hm : m ∈ marks9) : run 29 28 [.d (.str m), .d (.tup [])] = .ret (.d (.str "lot")) [none, none] := by
  have h := List.all_eq_true.mp f_nil m hm
  unfold lotIs at h
  split at h
  · rename_i s e
    rw [e, eq_of_beq h]
  · cases h
theorem eq_dues : ∀ s : Str, s ∈ (["marks", "lot", "told"] : List Str) → eqD (.str s) (.str s) = some true := by decide +kernel
theorem gNe_due {s : Str} (h : s ∈ (["marks", "lot", "told"] : List Str)) : gNe (.str s) (.str s) = some (.d (.bl false)) := by
  unfold gNe; rw [eq_dues s h]; rfl
end KK

set_option Elab.async false
set_option linter.all false
set_option maxRecDepth 100000
set_option maxHeartbeats 4000000
namespace KK
open PySem L2 Nz
open Nz (D Arg)
variable {m : Str} {n : Nat}
/-! ### the law -/
structure Cn (Φ : Nat → Fn) (m : Str) : Prop where
  pk : ∀ t, TapeOk t → ∀ j : Nat, 0 < j → j < 1000 → ∃ (a : Nat) (t' : Cell), a < j ∧ TapeOk t' ∧ Φ 17 [.io t, .d (.int (j : Int))] = .ret (.d (.int (a : Int))) [some t', none]
  od : ∀ t, TapeOk t → ∃ d t', d ∈ odds ∧ TapeOk t' ∧ Φ 21 [.io t] = .ret (.d d) [some t']
  lt : ∀ t, TapeOk t → ∃ l t', Good m l ∧ TapeOk t' ∧ Φ 20 [.io t, .rd (EV m)] = .ret (.d (lotD l)) [some t', none]
  co : ∀ l, Good m l → Φ 15 [.d (.str m), .d (lotD l)] = .ret (.d (spl (cp m) (l.map cp))) [none, none]
  lo : ∀ l, Good m l → Φ 13 [.d (.str m), .d (spl (cp m) (l.map cp))] = .ret (.d (lotD l)) [none, none]
  sz : ∀ l, Good m l → ∃ s t : Nat, 1 ≤ s ∧ s ≤ 1000 ∧ t ≤ 20 ∧ Φ 26 [.d (.str m), .d (spl (cp m) (l.map cp))] = .ret (.d (sz s t)) [none, none]
  lh : ∀ l, Good m l → ∀ s ∈ every m, Φ 27 [.d (spl (cp m) (l.map cp)), .d (.str s)] = .ret (.d (.bl (l.contains s))) [none, none]
def cdB (Φ : Nat → Fn) : SF := (fSeq (fAsg 6 (fCall [false, false] (Φ 15) (fCons (fVar 2) (fCons (fVar 4) fNil))))
  (fSeq (fAsgG (fCall [false, false] (Φ 26) (fCons (fVar 2) (fCons (fVar 6) fNil))) (gfTup 2 (gfCons (gfName 10) (gfCons (gfName 11) gfNil))))
  (fSeq (fIfS (gOr (fT (f2 gLt (fVar 10) (fC (.int (1))))) (gOr (fT (f2 gGt (fVar 10) (fC (.int (1000))))) (fT (f2 gGt (fVar 11) (fC (.int (20)))))))
  (fRet (fC (.bl false)))
  fSkip)
  (fSeq (fIfS (gOr (fT (f2 gNe (fBlt gTuple (fCons (fComp (fSeqI (fVar 3)) (gfName 12) (fT (fCall [false, false] (Φ 27) (fCons (fVar 6) (fCons (fVar 12) fNil)))) (fVar 12) [12]) fNil)) (fVar 4))) (fT (f2 gNe (fCall [false, false] (Φ 13) (fCons (fVar 2) (fCons (fVar 6) fNil))) (fVar 4))))
  (fRet (fC (.bl false)))
  fSkip)
  (fIfS (fT (f2 gNe (fCall [false, false] (Φ 15) (fCons (fVar 2) (fCons (fVar 4) fNil))) (fVar 6)))
  (fRet (fC (.bl false)))
  fSkip)))))
theorem cd_turn {Φ : Nat → Fn} (hm : m ∈ marks9) (C : Cn Φ m) {l : List Str} (h : Good m l) (a b x5 x6 x7 x8 x9 x10 x11 : Sl) (h6 : nio (some x6) = true) (h10 : nio (some x10) = true) (h11 : nio (some x11) = true) :
    ∃ s t : Nat, cdB Φ [a, b, .d (.str m), .own (EV m), .d (lotD l), x5, x6, x7, x8, x9, x10, x11, .no] = .ok .next [a, b, .d (.str m), .own (EV m), .d (lotD l), x5, .d (spl (cp m) (l.map cp)), x7, x8, x9, .d (.int (s : Int)), .d (.int (t : Int)), .no] := by
  obtain ⟨s, t, q1, q2, q3, q4⟩ := C.sz l h
  refine ⟨s, t, ?_⟩
  have e1 := C.co l h
  have e2 := C.lo l h
  have c1 := compI_pure (i := 12) (c := fT (fCall [false, false] (Φ 27) (fCons (fVar 6) (fCons (fVar 12) fNil)))) (e := fVar 12) (ρ := [a, b, .d (.str m), .rd (EV m), .d (lotD l), x5, .d (spl (cp m) (l.map cp)), x7, x8, x9, .d (.int (s : Int)), .d (.int (t : Int)), .no]) (F := D.str) (keep := fun k => l.contains k) (val := D.str) (xs := every m) rfl (by have := (elen hm).2; omega) (by
    intro k hk
    have e := C.lh l h k hk
    constructor
    · simp only [fC_ap, opd_ap, asD_d, asD_slot, asD_new, f1_ap, f2_ap, res_d, res_slot, resS_d, resS_own, resS_io, resS_rd, ress_nil, ress_cons, ofP_d, ofP_l, ofP_t, isB_b, fT_ap, gAnd_ap, gOr_ap, gNot_ap, fAnd_ap, fOr_ap, fNot_ap, fIf_ap, fNil_ap, fCons_ap, frz_d, frzs_nil, frzs_cons, fTup_ap, fLst_ap, isI_i, fPart_ap, fNo_ap, fSl_ap, fBlt_ap, fSeq_ap, seqK_next, seqK_brk, seqK_cont, seqK_ret, fSkip_ap, fIfS_ap, fDrop_ap, fAsg_ap, retK_d, retK_new, fRet_ap, fRetN_ap, turnK_next, turnK_cont, turnK_brk, turnK_ret, ofO_some, fFor_ap, forK_items, fSeqI_ap, seqSrc_l, seqSrc_t, seqSrc_s, fRng1_ap, fRng2_ap, fComp_ap, compK_items, gTrue_ap, k1_ap, o2_ap, k2b_ap, k2a_ap, kT_ap, kAnd_t, kAnd_f, kOr_t, kOr_f, kNot_ap, kAndE_t, kAndE_f, kOrE_t, kOrE_f, kNotE_ap, kIfE_t, kIfE_f, kIfS_t, kIfS_f, kCons2_ap, kCons_ap, kz2_ap, kz_ap, kTup2_ap, kTup_ap, kLst2_ap, kLst_ap, kPart_ap, kSl3_ap, kSl2_ap, kSl1_ap, kBlt_ap, kDrop_ap, kAsg2_ap, kAsg_ap, kRng1_ap, kRng2_ap, fCall_ap, kCall_ap, kCall2_ap, kCall3_ap, callK_d, callK_n, upds_io, upds_nil, upds_no, mkArgs_nil, mkArgs_cons, mkArgE_d, once1, once_dd, once_d2, once_s2, once_s3, once_s3d, kMut_ap, kLoop_ap, kLoop2_ap, fVar_ap, vr_d, vr_own, vr_io, vr_rd, noIo_ap, nio_no, nio_d, nio_own, nio_rd, frz_slot, fz_d, fz_own, gd_t, gs_t, store_d, store_new, retK_slot, rk_own, rk_d, lstAt_ap, la_own, la_io, mutAt_ap, ma_own, ma_io, mo_some, mi_some, mkArg_slot, ag_d, ag_own, ag_rd, ag_ownt, ag_iot, putC_ap, pc_own, pc_io, gfName_ap, gfNil_ap, gfCons_ap, gfTup_ap, seqSrc_slot, slotSrc_own, slotSrc_rd, fMut_ap, kMut2_ap, kSet3_ap, kSet2_ap, kSet_ap, fSetI_ap, fSetA_ap, kAtt_ap, kAtt2_ap, sa_ap, back_ap, bk_rd, mapEnv_ok, compK_lend, forK_lend, fEnum_ap, enumSrc_t, once_d3, once_dsd, lim_pos, Nat.reduceBEq, Nat.reduceAdd, Nat.reduceLeDiff, List.getElem?_cons_zero, List.getElem?_cons_succ, List.set_cons_zero, List.set_cons_succ, Out.bind_ok, Option.bind_some, Option.map_some, Bool.not_true, Bool.not_false, List.length_cons, List.length_nil, e]
    · intro _
      simp only [fC_ap, opd_ap, asD_d, asD_slot, asD_new, f1_ap, f2_ap, res_d, res_slot, resS_d, resS_own, resS_io, resS_rd, ress_nil, ress_cons, ofP_d, ofP_l, ofP_t, isB_b, fT_ap, gAnd_ap, gOr_ap, gNot_ap, fAnd_ap, fOr_ap, fNot_ap, fIf_ap, fNil_ap, fCons_ap, frz_d, frzs_nil, frzs_cons, fTup_ap, fLst_ap, isI_i, fPart_ap, fNo_ap, fSl_ap, fBlt_ap, fSeq_ap, seqK_next, seqK_brk, seqK_cont, seqK_ret, fSkip_ap, fIfS_ap, fDrop_ap, fAsg_ap, retK_d, retK_new, fRet_ap, fRetN_ap, turnK_next, turnK_cont, turnK_brk, turnK_ret, ofO_some, fFor_ap, forK_items, fSeqI_ap, seqSrc_l, seqSrc_t, seqSrc_s, fRng1_ap, fRng2_ap, fComp_ap, compK_items, gTrue_ap, k1_ap, o2_ap, k2b_ap, k2a_ap, kT_ap, kAnd_t, kAnd_f, kOr_t, kOr_f, kNot_ap, kAndE_t, kAndE_f, kOrE_t, kOrE_f, kNotE_ap, kIfE_t, kIfE_f, kIfS_t, kIfS_f, kCons2_ap, kCons_ap, kz2_ap, kz_ap, kTup2_ap, kTup_ap, kLst2_ap, kLst_ap, kPart_ap, kSl3_ap, kSl2_ap, kSl1_ap, kBlt_ap, kDrop_ap, kAsg2_ap, kAsg_ap, kRng1_ap, kRng2_ap, fCall_ap, kCall_ap, kCall2_ap, kCall3_ap, callK_d, callK_n, upds_io, upds_nil, upds_no, mkArgs_nil, mkArgs_cons, mkArgE_d, once1, once_dd, once_d2, once_s2, once_s3, once_s3d, kMut_ap, kLoop_ap, kLoop2_ap, fVar_ap, vr_d, vr_own, vr_io, vr_rd, noIo_ap, nio_no, nio_d, nio_own, nio_rd, frz_slot, fz_d, fz_own, gd_t, gs_t, store_d, store_new, retK_slot, rk_own, rk_d, lstAt_ap, la_own, la_io, mutAt_ap, ma_own, ma_io, mo_some, mi_some, mkArg_slot, ag_d, ag_own, ag_rd, ag_ownt, ag_iot, putC_ap, pc_own, pc_io, gfName_ap, gfNil_ap, gfCons_ap, gfTup_ap, seqSrc_slot, slotSrc_own, slotSrc_rd, fMut_ap, kMut2_ap, kSet3_ap, kSet2_ap, kSet_ap, fSetI_ap, fSetA_ap, kAtt_ap, kAtt2_ap, sa_ap, back_ap, bk_rd, mapEnv_ok, compK_lend, forK_lend, fEnum_ap, enumSrc_t, once_d3, once_dsd, lim_pos, Nat.reduceBEq, Nat.reduceAdd, Nat.reduceLeDiff, List.getElem?_cons_zero, List.getElem?_cons_succ, List.set_cons_zero, List.set_cons_succ, Out.bind_ok, Option.bind_some, Option.map_some, Bool.not_true, Bool.not_false, List.length_cons, List.length_nil])
  have hf : (every m).filter (fun k => l.contains k) = l := filter_sub (every_nd hm) h.1
  rw [hf] at c1
  have d1 : decide ((s : Int) < 1) = false := decide_eq_false (by omega)
  have d2 : decide ((1000 : Int) < (s : Int)) = false := decide_eq_false (by omega)
  have d3 : decide ((20 : Int) < (t : Int)) = false := decide_eq_false (by omega)
  have n1 := lot_ne hm h
  have n2 := spl_ne hm (l.map cp)
  unfold sz at q4
  unfold lotD at e1 e2 n1 c1 ⊢
  unfold EV at c1 ⊢
  have st0 : (fAsg 6 (fCall [false, false] (Φ 15) (fCons (fVar 2) (fCons (fVar 4) fNil)))) [a, b, .d (.str m), .own (.lst ((every m).map D.str)), .d (.tup (l.map D.str)), x5, x6, x7, x8, x9, x10, x11, .no] = .ok .next [a, b, .d (.str m), .own (.lst ((every m).map D.str)), .d (.tup (l.map D.str)), x5, .d (spl (cp m) (l.map cp)), x7, x8, x9, x10, x11, .no] := by
    simp only [fC_ap, opd_ap, asD_d, asD_slot, asD_new, f1_ap, f2_ap, res_d, res_slot, resS_d, resS_own, resS_io, resS_rd, ress_nil, ress_cons, ofP_d, ofP_l, ofP_t, isB_b, fT_ap, gAnd_ap, gOr_ap, gNot_ap, fAnd_ap, fOr_ap, fNot_ap, fIf_ap, fNil_ap, fCons_ap, frz_d, frzs_nil, frzs_cons, fTup_ap, fLst_ap, isI_i, fPart_ap, fNo_ap, fSl_ap, fBlt_ap, fSeq_ap, seqK_next, seqK_brk, seqK_cont, seqK_ret, fSkip_ap, fIfS_ap, fDrop_ap, fAsg_ap, retK_d, retK_new, fRet_ap, fRetN_ap, turnK_next, turnK_cont, turnK_brk, turnK_ret, ofO_some, fFor_ap, forK_items, fSeqI_ap, seqSrc_l, seqSrc_t, seqSrc_s, fRng1_ap, fRng2_ap, fComp_ap, compK_items, gTrue_ap, k1_ap, o2_ap, k2b_ap, k2a_ap, kT_ap, kAnd_t, kAnd_f, kOr_t, kOr_f, kNot_ap, kAndE_t, kAndE_f, kOrE_t, kOrE_f, kNotE_ap, kIfE_t, kIfE_f, kIfS_t, kIfS_f, kCons2_ap, kCons_ap, kz2_ap, kz_ap, kTup2_ap, kTup_ap, kLst2_ap, kLst_ap, kPart_ap, kSl3_ap, kSl2_ap, kSl1_ap, kBlt_ap, kDrop_ap, kAsg2_ap, kAsg_ap, kRng1_ap, kRng2_ap, fCall_ap, kCall_ap, kCall2_ap, kCall3_ap, callK_d, callK_n, upds_io, upds_nil, upds_no, mkArgs_nil, mkArgs_cons, mkArgE_d, once1, once_dd, once_d2, once_s2, once_s3, once_s3d, kMut_ap, kLoop_ap, kLoop2_ap, fVar_ap, vr_d, vr_own, vr_io, vr_rd, noIo_ap, nio_no, nio_d, nio_own, nio_rd, frz_slot, fz_d, fz_own, gd_t, gs_t, store_d, store_new, retK_slot, rk_own, rk_d, lstAt_ap, la_own, la_io, mutAt_ap, ma_own, ma_io, mo_some, mi_some, mkArg_slot, ag_d, ag_own, ag_rd, ag_ownt, ag_iot, putC_ap, pc_own, pc_io, gfName_ap, gfNil_ap, gfCons_ap, gfTup_ap, seqSrc_slot, slotSrc_own, slotSrc_rd, fMut_ap, kMut2_ap, kSet3_ap, kSet2_ap, kSet_ap, fSetI_ap, fSetA_ap, kAtt_ap, kAtt2_ap, sa_ap, back_ap, bk_rd, mapEnv_ok, compK_lend, forK_lend, fEnum_ap, enumSrc_t, once_d3, once_dsd, lim_pos, Nat.reduceBEq, Nat.reduceAdd, Nat.reduceLeDiff, List.getElem?_cons_zero, List.getElem?_cons_succ, List.set_cons_zero, List.set_cons_succ, Out.bind_ok, Option.bind_some, Option.map_some, Bool.not_true, Bool.not_false, List.length_cons, List.length_nil, e1, h6]
  have st1 : (fAsgG (fCall [false, false] (Φ 26) (fCons (fVar 2) (fCons (fVar 6) fNil))) (gfTup 2 (gfCons (gfName 10) (gfCons (gfName 11) gfNil)))) [a, b, .d (.str m), .own (.lst ((every m).map D.str)), .d (.tup (l.map D.str)), x5, .d (spl (cp m) (l.map cp)), x7, x8, x9, x10, x11, .no] = .ok .next [a, b, .d (.str m), .own (.lst ((every m).map D.str)), .d (.tup (l.map D.str)), x5, .d (spl (cp m) (l.map cp)), x7, x8, x9, .d (.int (s : Int)), .d (.int (t : Int)), .no] := by
    refine asgG_ok (d := .tup [.int (s : Int), .int (t : Int)]) (ρ1 := [a, b, .d (.str m), .own (.lst ((every m).map D.str)), .d (.tup (l.map D.str)), x5, .d (spl (cp m) (l.map cp)), x7, x8, x9, x10, x11, .no]) ?_ ?_
    · simp only [fC_ap, opd_ap, asD_d, asD_slot, asD_new, f1_ap, f2_ap, res_d, res_slot, resS_d, resS_own, resS_io, resS_rd, ress_nil, ress_cons, ofP_d, ofP_l, ofP_t, isB_b, fT_ap, gAnd_ap, gOr_ap, gNot_ap, fAnd_ap, fOr_ap, fNot_ap, fIf_ap, fNil_ap, fCons_ap, frz_d, frzs_nil, frzs_cons, fTup_ap, fLst_ap, isI_i, fPart_ap, fNo_ap, fSl_ap, fBlt_ap, fSeq_ap, seqK_next, seqK_brk, seqK_cont, seqK_ret, fSkip_ap, fIfS_ap, fDrop_ap, fAsg_ap, retK_d, retK_new, fRet_ap, fRetN_ap, turnK_next, turnK_cont, turnK_brk, turnK_ret, ofO_some, fFor_ap, forK_items, fSeqI_ap, seqSrc_l, seqSrc_t, seqSrc_s, fRng1_ap, fRng2_ap, fComp_ap, compK_items, gTrue_ap, k1_ap, o2_ap, k2b_ap, k2a_ap, kT_ap, kAnd_t, kAnd_f, kOr_t, kOr_f, kNot_ap, kAndE_t, kAndE_f, kOrE_t, kOrE_f, kNotE_ap, kIfE_t, kIfE_f, kIfS_t, kIfS_f, kCons2_ap, kCons_ap, kz2_ap, kz_ap, kTup2_ap, kTup_ap, kLst2_ap, kLst_ap, kPart_ap, kSl3_ap, kSl2_ap, kSl1_ap, kBlt_ap, kDrop_ap, kAsg2_ap, kAsg_ap, kRng1_ap, kRng2_ap, fCall_ap, kCall_ap, kCall2_ap, kCall3_ap, callK_d, callK_n, upds_io, upds_nil, upds_no, mkArgs_nil, mkArgs_cons, mkArgE_d, once1, once_dd, once_d2, once_s2, once_s3, once_s3d, kMut_ap, kLoop_ap, kLoop2_ap, fVar_ap, vr_d, vr_own, vr_io, vr_rd, noIo_ap, nio_no, nio_d, nio_own, nio_rd, frz_slot, fz_d, fz_own, gd_t, gs_t, store_d, store_new, retK_slot, rk_own, rk_d, lstAt_ap, la_own, la_io, mutAt_ap, ma_own, ma_io, mo_some, mi_some, mkArg_slot, ag_d, ag_own, ag_rd, ag_ownt, ag_iot, putC_ap, pc_own, pc_io, gfName_ap, gfNil_ap, gfCons_ap, gfTup_ap, seqSrc_slot, slotSrc_own, slotSrc_rd, fMut_ap, kMut2_ap, kSet3_ap, kSet2_ap, kSet_ap, fSetI_ap, fSetA_ap, kAtt_ap, kAtt2_ap, sa_ap, back_ap, bk_rd, mapEnv_ok, compK_lend, forK_lend, fEnum_ap, enumSrc_t, once_d3, once_dsd, lim_pos, Nat.reduceBEq, Nat.reduceAdd, Nat.reduceLeDiff, List.getElem?_cons_zero, List.getElem?_cons_succ, List.set_cons_zero, List.set_cons_succ, Out.bind_ok, Option.bind_some, Option.map_some, Bool.not_true, Bool.not_false, List.length_cons, List.length_nil, q4]
    · exact (gfTup_ap (n := 2) rfl).trans (by simp only [fC_ap, opd_ap, asD_d, asD_slot, asD_new, f1_ap, f2_ap, res_d, res_slot, resS_d, resS_own, resS_io, resS_rd, ress_nil, ress_cons, ofP_d, ofP_l, ofP_t, isB_b, fT_ap, gAnd_ap, gOr_ap, gNot_ap, fAnd_ap, fOr_ap, fNot_ap, fIf_ap, fNil_ap, fCons_ap, frz_d, frzs_nil, frzs_cons, fTup_ap, fLst_ap, isI_i, fPart_ap, fNo_ap, fSl_ap, fBlt_ap, fSeq_ap, seqK_next, seqK_brk, seqK_cont, seqK_ret, fSkip_ap, fIfS_ap, fDrop_ap, fAsg_ap, retK_d, retK_new, fRet_ap, fRetN_ap, turnK_next, turnK_cont, turnK_brk, turnK_ret, ofO_some, fFor_ap, forK_items, fSeqI_ap, seqSrc_l, seqSrc_t, seqSrc_s, fRng1_ap, fRng2_ap, fComp_ap, compK_items, gTrue_ap, k1_ap, o2_ap, k2b_ap, k2a_ap, kT_ap, kAnd_t, kAnd_f, kOr_t, kOr_f, kNot_ap, kAndE_t, kAndE_f, kOrE_t, kOrE_f, kNotE_ap, kIfE_t, kIfE_f, kIfS_t, kIfS_f, kCons2_ap, kCons_ap, kz2_ap, kz_ap, kTup2_ap, kTup_ap, kLst2_ap, kLst_ap, kPart_ap, kSl3_ap, kSl2_ap, kSl1_ap, kBlt_ap, kDrop_ap, kAsg2_ap, kAsg_ap, kRng1_ap, kRng2_ap, fCall_ap, kCall_ap, kCall2_ap, kCall3_ap, callK_d, callK_n, upds_io, upds_nil, upds_no, mkArgs_nil, mkArgs_cons, mkArgE_d, once1, once_dd, once_d2, once_s2, once_s3, once_s3d, kMut_ap, kLoop_ap, kLoop2_ap, fVar_ap, vr_d, vr_own, vr_io, vr_rd, noIo_ap, nio_no, nio_d, nio_own, nio_rd, frz_slot, fz_d, fz_own, gd_t, gs_t, store_d, store_new, retK_slot, rk_own, rk_d, lstAt_ap, la_own, la_io, mutAt_ap, ma_own, ma_io, mo_some, mi_some, mkArg_slot, ag_d, ag_own, ag_rd, ag_ownt, ag_iot, putC_ap, pc_own, pc_io, gfName_ap, gfNil_ap, gfCons_ap, gfTup_ap, seqSrc_slot, slotSrc_own, slotSrc_rd, fMut_ap, kMut2_ap, kSet3_ap, kSet2_ap, kSet_ap, fSetI_ap, fSetA_ap, kAtt_ap, kAtt2_ap, sa_ap, back_ap, bk_rd, mapEnv_ok, compK_lend, forK_lend, fEnum_ap, enumSrc_t, once_d3, once_dsd, lim_pos, Nat.reduceBEq, Nat.reduceAdd, Nat.reduceLeDiff, List.getElem?_cons_zero, List.getElem?_cons_succ, List.set_cons_zero, List.set_cons_succ, Out.bind_ok, Option.bind_some, Option.map_some, Bool.not_true, Bool.not_false, List.length_cons, List.length_nil, h10, h11])
  have st2 : (fIfS (gOr (fT (f2 gLt (fVar 10) (fC (.int (1))))) (gOr (fT (f2 gGt (fVar 10) (fC (.int (1000))))) (fT (f2 gGt (fVar 11) (fC (.int (20))))))) (fRet (fC (.bl false))) fSkip) [a, b, .d (.str m), .own (.lst ((every m).map D.str)), .d (.tup (l.map D.str)), x5, .d (spl (cp m) (l.map cp)), x7, x8, x9, .d (.int (s : Int)), .d (.int (t : Int)), .no] = .ok .next [a, b, .d (.str m), .own (.lst ((every m).map D.str)), .d (.tup (l.map D.str)), x5, .d (spl (cp m) (l.map cp)), x7, x8, x9, .d (.int (s : Int)), .d (.int (t : Int)), .no] := by
    simp only [fC_ap, opd_ap, asD_d, asD_slot, asD_new, f1_ap, f2_ap, res_d, res_slot, resS_d, resS_own, resS_io, resS_rd, ress_nil, ress_cons, ofP_d, ofP_l, ofP_t, isB_b, fT_ap, gAnd_ap, gOr_ap, gNot_ap, fAnd_ap, fOr_ap, fNot_ap, fIf_ap, fNil_ap, fCons_ap, frz_d, frzs_nil, frzs_cons, fTup_ap, fLst_ap, isI_i, fPart_ap, fNo_ap, fSl_ap, fBlt_ap, fSeq_ap, seqK_next, seqK_brk, seqK_cont, seqK_ret, fSkip_ap, fIfS_ap, fDrop_ap, fAsg_ap, retK_d, retK_new, fRet_ap, fRetN_ap, turnK_next, turnK_cont, turnK_brk, turnK_ret, ofO_some, fFor_ap, forK_items, fSeqI_ap, seqSrc_l, seqSrc_t, seqSrc_s, fRng1_ap, fRng2_ap, fComp_ap, compK_items, gTrue_ap, k1_ap, o2_ap, k2b_ap, k2a_ap, kT_ap, kAnd_t, kAnd_f, kOr_t, kOr_f, kNot_ap, kAndE_t, kAndE_f, kOrE_t, kOrE_f, kNotE_ap, kIfE_t, kIfE_f, kIfS_t, kIfS_f, kCons2_ap, kCons_ap, kz2_ap, kz_ap, kTup2_ap, kTup_ap, kLst2_ap, kLst_ap, kPart_ap, kSl3_ap, kSl2_ap, kSl1_ap, kBlt_ap, kDrop_ap, kAsg2_ap, kAsg_ap, kRng1_ap, kRng2_ap, fCall_ap, kCall_ap, kCall2_ap, kCall3_ap, callK_d, callK_n, upds_io, upds_nil, upds_no, mkArgs_nil, mkArgs_cons, mkArgE_d, once1, once_dd, once_d2, once_s2, once_s3, once_s3d, kMut_ap, kLoop_ap, kLoop2_ap, fVar_ap, vr_d, vr_own, vr_io, vr_rd, noIo_ap, nio_no, nio_d, nio_own, nio_rd, frz_slot, fz_d, fz_own, gd_t, gs_t, store_d, store_new, retK_slot, rk_own, rk_d, lstAt_ap, la_own, la_io, mutAt_ap, ma_own, ma_io, mo_some, mi_some, mkArg_slot, ag_d, ag_own, ag_rd, ag_ownt, ag_iot, putC_ap, pc_own, pc_io, gfName_ap, gfNil_ap, gfCons_ap, gfTup_ap, seqSrc_slot, slotSrc_own, slotSrc_rd, fMut_ap, kMut2_ap, kSet3_ap, kSet2_ap, kSet_ap, fSetI_ap, fSetA_ap, kAtt_ap, kAtt2_ap, sa_ap, back_ap, bk_rd, mapEnv_ok, compK_lend, forK_lend, fEnum_ap, enumSrc_t, once_d3, once_dsd, lim_pos, Nat.reduceBEq, Nat.reduceAdd, Nat.reduceLeDiff, List.getElem?_cons_zero, List.getElem?_cons_succ, List.set_cons_zero, List.set_cons_succ, Out.bind_ok, Option.bind_some, Option.map_some, Bool.not_true, Bool.not_false, List.length_cons, List.length_nil, gLt_i, gGt_i, d1, d2, d3]
  have st3 : (fIfS (gOr (fT (f2 gNe (fBlt gTuple (fCons (fComp (fSeqI (fVar 3)) (gfName 12) (fT (fCall [false, false] (Φ 27) (fCons (fVar 6) (fCons (fVar 12) fNil)))) (fVar 12) [12]) fNil)) (fVar 4))) (fT (f2 gNe (fCall [false, false] (Φ 13) (fCons (fVar 2) (fCons (fVar 6) fNil))) (fVar 4)))) (fRet (fC (.bl false))) fSkip) [a, b, .d (.str m), .own (.lst ((every m).map D.str)), .d (.tup (l.map D.str)), x5, .d (spl (cp m) (l.map cp)), x7, x8, x9, .d (.int (s : Int)), .d (.int (t : Int)), .no] = .ok .next [a, b, .d (.str m), .own (.lst ((every m).map D.str)), .d (.tup (l.map D.str)), x5, .d (spl (cp m) (l.map cp)), x7, x8, x9, .d (.int (s : Int)), .d (.int (t : Int)), .no] := by
    simp only [fC_ap, opd_ap, asD_d, asD_slot, asD_new, f1_ap, f2_ap, res_d, res_slot, resS_d, resS_own, resS_io, resS_rd, ress_nil, ress_cons, ofP_d, ofP_l, ofP_t, isB_b, fT_ap, gAnd_ap, gOr_ap, gNot_ap, fAnd_ap, fOr_ap, fNot_ap, fIf_ap, fNil_ap, fCons_ap, frz_d, frzs_nil, frzs_cons, fTup_ap, fLst_ap, isI_i, fPart_ap, fNo_ap, fSl_ap, fBlt_ap, fSeq_ap, seqK_next, seqK_brk, seqK_cont, seqK_ret, fSkip_ap, fIfS_ap, fDrop_ap, fAsg_ap, retK_d, retK_new, fRet_ap, fRetN_ap, turnK_next, turnK_cont, turnK_brk, turnK_ret, ofO_some, fFor_ap, forK_items, fSeqI_ap, seqSrc_l, seqSrc_t, seqSrc_s, fRng1_ap, fRng2_ap, fComp_ap, compK_items, gTrue_ap, k1_ap, o2_ap, k2b_ap, k2a_ap, kT_ap, kAnd_t, kAnd_f, kOr_t, kOr_f, kNot_ap, kAndE_t, kAndE_f, kOrE_t, kOrE_f, kNotE_ap, kIfE_t, kIfE_f, kIfS_t, kIfS_f, kCons2_ap, kCons_ap, kz2_ap, kz_ap, kTup2_ap, kTup_ap, kLst2_ap, kLst_ap, kPart_ap, kSl3_ap, kSl2_ap, kSl1_ap, kBlt_ap, kDrop_ap, kAsg2_ap, kAsg_ap, kRng1_ap, kRng2_ap, fCall_ap, kCall_ap, kCall2_ap, kCall3_ap, callK_d, callK_n, upds_io, upds_nil, upds_no, mkArgs_nil, mkArgs_cons, mkArgE_d, once1, once_dd, once_d2, once_s2, once_s3, once_s3d, kMut_ap, kLoop_ap, kLoop2_ap, fVar_ap, vr_d, vr_own, vr_io, vr_rd, noIo_ap, nio_no, nio_d, nio_own, nio_rd, frz_slot, fz_d, fz_own, gd_t, gs_t, store_d, store_new, retK_slot, rk_own, rk_d, lstAt_ap, la_own, la_io, mutAt_ap, ma_own, ma_io, mo_some, mi_some, mkArg_slot, ag_d, ag_own, ag_rd, ag_ownt, ag_iot, putC_ap, pc_own, pc_io, gfName_ap, gfNil_ap, gfCons_ap, gfTup_ap, seqSrc_slot, slotSrc_own, slotSrc_rd, fMut_ap, kMut2_ap, kSet3_ap, kSet2_ap, kSet_ap, fSetI_ap, fSetA_ap, kAtt_ap, kAtt2_ap, sa_ap, back_ap, bk_rd, mapEnv_ok, compK_lend, forK_lend, fEnum_ap, enumSrc_t, once_d3, once_dsd, lim_pos, Nat.reduceBEq, Nat.reduceAdd, Nat.reduceLeDiff, List.getElem?_cons_zero, List.getElem?_cons_succ, List.set_cons_zero, List.set_cons_succ, Out.bind_ok, Option.bind_some, Option.map_some, Bool.not_true, Bool.not_false, List.length_cons, List.length_nil, c1, gTuple_l, n1, e2]
  have st4 : (fIfS (fT (f2 gNe (fCall [false, false] (Φ 15) (fCons (fVar 2) (fCons (fVar 4) fNil))) (fVar 6))) (fRet (fC (.bl false))) fSkip) [a, b, .d (.str m), .own (.lst ((every m).map D.str)), .d (.tup (l.map D.str)), x5, .d (spl (cp m) (l.map cp)), x7, x8, x9, .d (.int (s : Int)), .d (.int (t : Int)), .no] = .ok .next [a, b, .d (.str m), .own (.lst ((every m).map D.str)), .d (.tup (l.map D.str)), x5, .d (spl (cp m) (l.map cp)), x7, x8, x9, .d (.int (s : Int)), .d (.int (t : Int)), .no] := by
    simp only [fC_ap, opd_ap, asD_d, asD_slot, asD_new, f1_ap, f2_ap, res_d, res_slot, resS_d, resS_own, resS_io, resS_rd, ress_nil, ress_cons, ofP_d, ofP_l, ofP_t, isB_b, fT_ap, gAnd_ap, gOr_ap, gNot_ap, fAnd_ap, fOr_ap, fNot_ap, fIf_ap, fNil_ap, fCons_ap, frz_d, frzs_nil, frzs_cons, fTup_ap, fLst_ap, isI_i, fPart_ap, fNo_ap, fSl_ap, fBlt_ap, fSeq_ap, seqK_next, seqK_brk, seqK_cont, seqK_ret, fSkip_ap, fIfS_ap, fDrop_ap, fAsg_ap, retK_d, retK_new, fRet_ap, fRetN_ap, turnK_next, turnK_cont, turnK_brk, turnK_ret, ofO_some, fFor_ap, forK_items, fSeqI_ap, seqSrc_l, seqSrc_t, seqSrc_s, fRng1_ap, fRng2_ap, fComp_ap, compK_items, gTrue_ap, k1_ap, o2_ap, k2b_ap, k2a_ap, kT_ap, kAnd_t, kAnd_f, kOr_t, kOr_f, kNot_ap, kAndE_t, kAndE_f, kOrE_t, kOrE_f, kNotE_ap, kIfE_t, kIfE_f, kIfS_t, kIfS_f, kCons2_ap, kCons_ap, kz2_ap, kz_ap, kTup2_ap, kTup_ap, kLst2_ap, kLst_ap, kPart_ap, kSl3_ap, kSl2_ap, kSl1_ap, kBlt_ap, kDrop_ap, kAsg2_ap, kAsg_ap, kRng1_ap, kRng2_ap, fCall_ap, kCall_ap, kCall2_ap, kCall3_ap, callK_d, callK_n, upds_io, upds_nil, upds_no, mkArgs_nil, mkArgs_cons, mkArgE_d, once1, once_dd, once_d2, once_s2, once_s3, once_s3d, kMut_ap, kLoop_ap, kLoop2_ap, fVar_ap, vr_d, vr_own, vr_io, vr_rd, noIo_ap, nio_no, nio_d, nio_own, nio_rd, frz_slot, fz_d, fz_own, gd_t, gs_t, store_d, store_new, retK_slot, rk_own, rk_d, lstAt_ap, la_own, la_io, mutAt_ap, ma_own, ma_io, mo_some, mi_some, mkArg_slot, ag_d, ag_own, ag_rd, ag_ownt, ag_iot, putC_ap, pc_own, pc_io, gfName_ap, gfNil_ap, gfCons_ap, gfTup_ap, seqSrc_slot, slotSrc_own, slotSrc_rd, fMut_ap, kMut2_ap, kSet3_ap, kSet2_ap, kSet_ap, fSetI_ap, fSetA_ap, kAtt_ap, kAtt2_ap, sa_ap, back_ap, bk_rd, mapEnv_ok, compK_lend, forK_lend, fEnum_ap, enumSrc_t, once_d3, once_dsd, lim_pos, Nat.reduceBEq, Nat.reduceAdd, Nat.reduceLeDiff, List.getElem?_cons_zero, List.getElem?_cons_succ, List.set_cons_zero, List.set_cons_succ, Out.bind_ok, Option.bind_some, Option.map_some, Bool.not_true, Bool.not_false, List.length_cons, List.length_nil, e1, n2]
  unfold cdB
  rw [fSeq_ap, st0, Out.bind_ok, seqK_next, fSeq_ap, st1, Out.bind_ok, seqK_next, fSeq_ap, st2, Out.bind_ok, seqK_next, fSeq_ap, st3, Out.bind_ok, seqK_next, st4]
theorem cd_loop {Φ : Nat → Fn} (hm : m ∈ marks9) (C : Cn Φ m) (a b x5 x7 x8 x9 : Sl) : ∀ (ls : List (List Str)) (x4 x6 x10 x11 : Sl), (∀ l ∈ ls, Good m l) → nio (some x4) = true → nio (some x6) = true → nio (some x10) = true → nio (some x11) = true →
    ∃ y4 y6 y10 y11, nio (some y4) = true ∧ loopL (gfName 4) (cdB Φ) (ls.map lotD) [a, b, .d (.str m), .own (EV m), x4, x5, x6, x7, x8, x9, x10, x11, .no] = .ok .next [a, b, .d (.str m), .own (EV m), y4, x5, y6, x7, x8, x9, y10, y11, .no]
  | [], x4, x6, x10, x11, _, h4, _, _, _ => ⟨x4, x6, x10, x11, h4, rfl⟩
  | l :: ls, x4, x6, x10, x11, h, h4, h6, h10, h11 => by
    obtain ⟨s, t, e1⟩ := cd_turn hm C (h l (by simp)) a b x5 x6 x7 x8 x9 x10 x11 h6 h10 h11
    obtain ⟨y4, y6, y10, y11, g4, e2⟩ := cd_loop hm C a b x5 x7 x8 x9 ls (.d (lotD l)) (.d (spl (cp m) (l.map cp))) (.d (.int (s : Int))) (.d (.int (t : Int))) (fun l hl => h l (by simp [hl])) rfl rfl rfl rfl
    refine ⟨y4, y6, y10, y11, g4, ?_⟩
    rw [List.map_cons, ← e2]
    simp only [loopL_cons, gfName_ap, noIo_ap, List.getElem?_cons_zero, List.getElem?_cons_succ, h4, gs_t, List.set_cons_succ, List.set_cons_zero, ofO_some, Out.bind_ok, kLoop_ap, e1, kLoop2_ap, turnK_next]
def duB (Φ : Nat → Fn) : SF := (fSeq (fAsg 7 (f2 gIx (fLst (fCons (fCall [true] (Φ 21) (fCons (fVar 1) fNil)) (fCons (fBlt gListS (fCons (fVar 3) fNil)) (fCons (f2 gAdd (fTup (fCons (fC (.str "")) fNil)) (fBlt gTuple (fCons (fVar 3) fNil))) (fCons (f2 gAdd (fRev (fBlt gTuple (fCons (fVar 3) fNil)) (fPart (f1 gNeg (fC (.int (1)))))) (fTup (fCons (fC (.str "")) fNil))) fNil))))) (fCall [true, false] (Φ 17) (fCons (fVar 1) (fCons (fC (.int (4))) fNil)))))
  (fSeq (fAsg 8 (f2 gIx (fLst (fCons (fVar 2) (fCons (fVar 2) (fCons (fCall [true] (Φ 21) (fCons (fVar 1) fNil)) fNil)))) (fCall [true, false] (Φ 17) (fCons (fVar 1) (fCons (fC (.int (3))) fNil)))))
  (fSeq (fAsg 9 (fC (.str "told")))
  (fSeq (fIfS (gNot (fT (fCall [false] (Φ 23) (fCons (fVar 8) fNil))))
  (fAsg 9 (fC (.str "marks")))
  (fIfS (gNot (fT (fCall [false, false] (Φ 25) (fCons (fVar 8) (fCons (fVar 7) fNil)))))
  (fAsg 9 (fC (.str "lot")))
  fSkip))
  (fIfS (fT (f2 gNe (fCall [false, false] (Φ 28) (fCons (fVar 8) (fCons (fVar 7) fNil))) (fVar 9)))
  (fRet (fC (.bl false)))
  fSkip)))))
theorem four_at {a b c d : D} {r : Nat} (h : r < 4) : ∃ x, (x = a ∨ x ∈ [b, c, d]) ∧ gIx (.lst [a, b, c, d]) (.int (r : Int)) = some (.d x) := by
  have e : r = 0 ∨ r = 1 ∨ r = 2 ∨ r = 3 := by omega
  rcases e with rfl | rfl | rfl | rfl
  · exact ⟨a, .inl rfl, rfl⟩
  · exact ⟨b, .inr (by simp), rfl⟩
  · exact ⟨c, .inr (by simp), rfl⟩
  · exact ⟨d, .inr (by simp), rfl⟩
theorem three_at {a b c : D} {r : Nat} (h : r < 3) : ∃ x, (x = a ∨ x = b ∨ x = c) ∧ gIx (.lst [a, b, c]) (.int (r : Int)) = some (.d x) := by
  have e : r = 0 ∨ r = 1 ∨ r = 2 := by omega
  rcases e with rfl | rfl | rfl
  · exact ⟨a, .inl rfl, rfl⟩
  · exact ⟨b, .inr (.inl rfl), rfl⟩
  · exact ⟨c, .inr (.inr rfl), rfl⟩
theorem rev_ok {fa : EF} {ρ : Nz.Env} {ds : List D} (h : opd fa ρ = .ok (.d (.tup ds)) ρ) : fRev fa (fPart (f1 gNeg (fC (.int (1))))) ρ = .ok (.d (.tup ds.reverse)) ρ := by
  unfold fRev
  rw [h]
  rfl
theorem du_turn {Φ : Nat → Fn} (hΦ : Φ = run 29) (hm : m ∈ marks9) (C : Cn Φ m) {t : Cell} (Tt : TapeOk t) (a x4 x5 x6 x7 x8 x9 x10 x11 : Sl) (h7 : nio (some x7) = true) (h8 : nio (some x8) = true) (h9 : nio (some x9) = true) :
    ∃ t' y7 y8 y9, TapeOk t' ∧ nio (some y7) = true ∧ nio (some y8) = true ∧ nio (some y9) = true ∧ duB Φ [a, .own t, .d (.str m), .own (EV m), x4, x5, x6, x7, x8, x9, x10, x11, .no] = .ok .next [a, .own t', .d (.str m), .own (EV m), x4, x5, x6, y7, y8, y9, x10, x11, .no] := by
  obtain ⟨d1, t1, o1, T1, e1⟩ := C.od t Tt
  obtain ⟨r1, t2, l1, T2, e2⟩ := C.pk t1 T1 4 (by decide) (by decide)
  obtain ⟨d2, t3, o2, T3, e3⟩ := C.od t2 T2
  obtain ⟨r2, t4, l2, T4, e4⟩ := C.pk t3 T3 3 (by decide) (by decide)
  have e2' : Φ 17 [.io t1, .d (.int 4)] = .ret (.d (.int (r1 : Int))) [some t2, none] := e2
  have e4' : Φ 17 [.io t3, .d (.int 3)] = .ret (.d (.int (r2 : Int))) [some t4, none] := e4
  obtain ⟨x, hx, gx⟩ := four_at (a := d1) (b := .lst ((every m).map D.str)) (c := .tup ([.str ""] ++ (every m).map D.str)) (d := .tup (((every m).map D.str).reverse ++ [.str ""])) l1
  obtain ⟨y, hy, gy⟩ := three_at (a := .str m) (b := .str m) (c := d2) l2
  have hd : x ∈ odds ∨ x ∈ things m := by
    rcases hx with rfl | hx
    · exact .inl o1
    · exact .inr hx
  have ho : y = .str m ∨ y ∈ odds := by
    rcases hy with rfl | rfl | rfl
    · exact .inl rfl
    · exact .inl rfl
    · exact .inr o2
  have hdu := due_inv (due_of hm ho hd)
  rw [← hΦ] at hdu
  obtain ⟨b, s, v1, v2, v3, v4⟩ := hdu
  have hE := (elen hm).2
  have a1 : gAdd (.tup [.str ""]) (.tup ((every m).map D.str)) = some (.newT ([.str ""] ++ (every m).map D.str)) := gAdd_tt (by rw [List.length_map]; simp; omega)
  have a2 : gAdd (.tup ((every m).map D.str).reverse) (.tup [.str ""]) = some (.newT (((every m).map D.str).reverse ++ [.str ""])) := gAdd_tt (by rw [List.length_reverse, List.length_map]; simp; omega)
  have gS : gListS [.lst ((every m).map D.str)] = some (.newL ((every m).map D.str)) := rfl
  have i1 : ∀ o : Out Rv, lim 1 o = o := fun o => lim_pos (by decide)
  have i4 : ∀ o : Out Rv, lim 4 o = o := fun o => lim_pos (by decide)
  have i3 : ∀ o : Out Rv, lim 3 o = o := fun o => lim_pos (by decide)
  have hrv : ∀ ρ : Nz.Env, ρ[3]? = some (.own (.lst ((every m).map D.str))) → fRev (fBlt gTuple (fCons (fVar 3) fNil)) (fPart (f1 gNeg (fC (.int (1))))) ρ = .ok (.d (.tup ((every m).map D.str).reverse)) ρ := fun ρ h => rev_ok (by simp only [fC_ap, opd_ap, asD_d, asD_slot, asD_new, f1_ap, f2_ap, res_d, res_slot, resS_d, resS_own, resS_io, resS_rd, ress_nil, ress_cons, ofP_d, ofP_l, ofP_t, isB_b, fT_ap, gAnd_ap, gOr_ap, gNot_ap, fAnd_ap, fOr_ap, fNot_ap, fIf_ap, fNil_ap, fCons_ap, frz_d, frzs_nil, frzs_cons, fTup_ap, fLst_ap, isI_i, fPart_ap, fNo_ap, fSl_ap, fBlt_ap, fSeq_ap, seqK_next, seqK_brk, seqK_cont, seqK_ret, fSkip_ap, fIfS_ap, fDrop_ap, fAsg_ap, retK_d, retK_new, fRet_ap, fRetN_ap, turnK_next, turnK_cont, turnK_brk, turnK_ret, ofO_some, fFor_ap, forK_items, fSeqI_ap, seqSrc_l, seqSrc_t, seqSrc_s, fRng1_ap, fRng2_ap, fComp_ap, compK_items, gTrue_ap, k1_ap, o2_ap, k2b_ap, k2a_ap, kT_ap, kAnd_t, kAnd_f, kOr_t, kOr_f, kNot_ap, kAndE_t, kAndE_f, kOrE_t, kOrE_f, kNotE_ap, kIfE_t, kIfE_f, kIfS_t, kIfS_f, kCons2_ap, kCons_ap, kz2_ap, kz_ap, kTup2_ap, kTup_ap, kLst2_ap, kLst_ap, kPart_ap, kSl3_ap, kSl2_ap, kSl1_ap, kBlt_ap, kDrop_ap, kAsg2_ap, kAsg_ap, kRng1_ap, kRng2_ap, fCall_ap, kCall_ap, kCall2_ap, kCall3_ap, callK_d, callK_n, upds_io, upds_nil, upds_no, mkArgs_nil, mkArgs_cons, mkArgE_d, once1, once_dd, once_d2, once_s2, once_s3, once_s3d, kMut_ap, kLoop_ap, kLoop2_ap, fVar_ap, vr_d, vr_own, vr_io, vr_rd, noIo_ap, nio_no, nio_d, nio_own, nio_rd, frz_slot, fz_d, fz_own, gd_t, gs_t, store_d, store_new, retK_slot, rk_own, rk_d, lstAt_ap, la_own, la_io, mutAt_ap, ma_own, ma_io, mo_some, mi_some, mkArg_slot, ag_d, ag_own, ag_rd, ag_ownt, ag_iot, putC_ap, pc_own, pc_io, gfName_ap, gfNil_ap, gfCons_ap, gfTup_ap, seqSrc_slot, slotSrc_own, slotSrc_rd, fMut_ap, kMut2_ap, kSet3_ap, kSet2_ap, kSet_ap, fSetI_ap, fSetA_ap, kAtt_ap, kAtt2_ap, sa_ap, back_ap, bk_rd, mapEnv_ok, compK_lend, forK_lend, fEnum_ap, enumSrc_t, once_d3, once_dsd, lim_pos, Nat.reduceBEq, Nat.reduceAdd, Nat.reduceLeDiff, List.getElem?_cons_zero, List.getElem?_cons_succ, List.set_cons_zero, List.set_cons_succ, Out.bind_ok, Option.bind_some, Option.map_some, Bool.not_true, Bool.not_false, List.length_cons, List.length_nil, h, gTuple_l])
  have r1' := hrv [a, .own t1, .d (.str m), .own (.lst ((every m).map D.str)), x4, x5, x6, x7, x8, x9, x10, x11, .no] rfl
  unfold EV
  have fin : ∃ y9, nio (some y9) = true ∧ y9 = .d (.str s) ∧ (fSeq (fIfS (gNot (fT (fCall [false] (Φ 23) (fCons (fVar 8) fNil))))
  (fAsg 9 (fC (.str "marks")))
  (fIfS (gNot (fT (fCall [false, false] (Φ 25) (fCons (fVar 8) (fCons (fVar 7) fNil)))))
  (fAsg 9 (fC (.str "lot")))
  fSkip))
  (fIfS (fT (f2 gNe (fCall [false, false] (Φ 28) (fCons (fVar 8) (fCons (fVar 7) fNil))) (fVar 9)))
  (fRet (fC (.bl false)))
  fSkip)) [a, .own t4, .d (.str m), .own (.lst ((every m).map D.str)), x4, x5, x6, .d x, .d y, .d (.str "told"), x10, x11, .no] = .ok .next [a, .own t4, .d (.str m), .own (.lst ((every m).map D.str)), x4, x5, x6, .d x, .d y, y9, x10, x11, .no] := by
    refine ⟨_, rfl, rfl, ?_⟩
    cases b with
    | false =>
      have hs := v3 rfl
      subst hs
      have hn := gNe_due (s := "marks") (by simp)
      simp only [fC_ap, opd_ap, asD_d, asD_slot, asD_new, f1_ap, f2_ap, res_d, res_slot, resS_d, resS_own, resS_io, resS_rd, ress_nil, ress_cons, ofP_d, ofP_l, ofP_t, isB_b, fT_ap, gAnd_ap, gOr_ap, gNot_ap, fAnd_ap, fOr_ap, fNot_ap, fIf_ap, fNil_ap, fCons_ap, frz_d, frzs_nil, frzs_cons, fTup_ap, fLst_ap, isI_i, fPart_ap, fNo_ap, fSl_ap, fBlt_ap, fSeq_ap, seqK_next, seqK_brk, seqK_cont, seqK_ret, fSkip_ap, fIfS_ap, fDrop_ap, fAsg_ap, retK_d, retK_new, fRet_ap, fRetN_ap, turnK_next, turnK_cont, turnK_brk, turnK_ret, ofO_some, fFor_ap, forK_items, fSeqI_ap, seqSrc_l, seqSrc_t, seqSrc_s, fRng1_ap, fRng2_ap, fComp_ap, compK_items, gTrue_ap, k1_ap, o2_ap, k2b_ap, k2a_ap, kT_ap, kAnd_t, kAnd_f, kOr_t, kOr_f, kNot_ap, kAndE_t, kAndE_f, kOrE_t, kOrE_f, kNotE_ap, kIfE_t, kIfE_f, kIfS_t, kIfS_f, kCons2_ap, kCons_ap, kz2_ap, kz_ap, kTup2_ap, kTup_ap, kLst2_ap, kLst_ap, kPart_ap, kSl3_ap, kSl2_ap, kSl1_ap, kBlt_ap, kDrop_ap, kAsg2_ap, kAsg_ap, kRng1_ap, kRng2_ap, fCall_ap, kCall_ap, kCall2_ap, kCall3_ap, callK_d, callK_n, upds_io, upds_nil, upds_no, mkArgs_nil, mkArgs_cons, mkArgE_d, once1, once_dd, once_d2, once_s2, once_s3, once_s3d, kMut_ap, kLoop_ap, kLoop2_ap, fVar_ap, vr_d, vr_own, vr_io, vr_rd, noIo_ap, nio_no, nio_d, nio_own, nio_rd, frz_slot, fz_d, fz_own, gd_t, gs_t, store_d, store_new, retK_slot, rk_own, rk_d, lstAt_ap, la_own, la_io, mutAt_ap, ma_own, ma_io, mo_some, mi_some, mkArg_slot, ag_d, ag_own, ag_rd, ag_ownt, ag_iot, putC_ap, pc_own, pc_io, gfName_ap, gfNil_ap, gfCons_ap, gfTup_ap, seqSrc_slot, slotSrc_own, slotSrc_rd, fMut_ap, kMut2_ap, kSet3_ap, kSet2_ap, kSet_ap, fSetI_ap, fSetA_ap, kAtt_ap, kAtt2_ap, sa_ap, back_ap, bk_rd, mapEnv_ok, compK_lend, forK_lend, fEnum_ap, enumSrc_t, once_d3, once_dsd, lim_pos, Nat.reduceBEq, Nat.reduceAdd, Nat.reduceLeDiff, List.getElem?_cons_zero, List.getElem?_cons_succ, List.set_cons_zero, List.set_cons_succ, Out.bind_ok, Option.bind_some, Option.map_some, Bool.not_true, Bool.not_false, List.length_cons, List.length_nil, v1, v2, hn]
    | true =>
      obtain ⟨c, v5, hs⟩ := v4 rfl
      cases c with
      | true =>
        have hs : s = "told" := hs
        subst hs
        have hn := gNe_due (s := "told") (by simp)
        simp only [fC_ap, opd_ap, asD_d, asD_slot, asD_new, f1_ap, f2_ap, res_d, res_slot, resS_d, resS_own, resS_io, resS_rd, ress_nil, ress_cons, ofP_d, ofP_l, ofP_t, isB_b, fT_ap, gAnd_ap, gOr_ap, gNot_ap, fAnd_ap, fOr_ap, fNot_ap, fIf_ap, fNil_ap, fCons_ap, frz_d, frzs_nil, frzs_cons, fTup_ap, fLst_ap, isI_i, fPart_ap, fNo_ap, fSl_ap, fBlt_ap, fSeq_ap, seqK_next, seqK_brk, seqK_cont, seqK_ret, fSkip_ap, fIfS_ap, fDrop_ap, fAsg_ap, retK_d, retK_new, fRet_ap, fRetN_ap, turnK_next, turnK_cont, turnK_brk, turnK_ret, ofO_some, fFor_ap, forK_items, fSeqI_ap, seqSrc_l, seqSrc_t, seqSrc_s, fRng1_ap, fRng2_ap, fComp_ap, compK_items, gTrue_ap, k1_ap, o2_ap, k2b_ap, k2a_ap, kT_ap, kAnd_t, kAnd_f, kOr_t, kOr_f, kNot_ap, kAndE_t, kAndE_f, kOrE_t, kOrE_f, kNotE_ap, kIfE_t, kIfE_f, kIfS_t, kIfS_f, kCons2_ap, kCons_ap, kz2_ap, kz_ap, kTup2_ap, kTup_ap, kLst2_ap, kLst_ap, kPart_ap, kSl3_ap, kSl2_ap, kSl1_ap, kBlt_ap, kDrop_ap, kAsg2_ap, kAsg_ap, kRng1_ap, kRng2_ap, fCall_ap, kCall_ap, kCall2_ap, kCall3_ap, callK_d, callK_n, upds_io, upds_nil, upds_no, mkArgs_nil, mkArgs_cons, mkArgE_d, once1, once_dd, once_d2, once_s2, once_s3, once_s3d, kMut_ap, kLoop_ap, kLoop2_ap, fVar_ap, vr_d, vr_own, vr_io, vr_rd, noIo_ap, nio_no, nio_d, nio_own, nio_rd, frz_slot, fz_d, fz_own, gd_t, gs_t, store_d, store_new, retK_slot, rk_own, rk_d, lstAt_ap, la_own, la_io, mutAt_ap, ma_own, ma_io, mo_some, mi_some, mkArg_slot, ag_d, ag_own, ag_rd, ag_ownt, ag_iot, putC_ap, pc_own, pc_io, gfName_ap, gfNil_ap, gfCons_ap, gfTup_ap, seqSrc_slot, slotSrc_own, slotSrc_rd, fMut_ap, kMut2_ap, kSet3_ap, kSet2_ap, kSet_ap, fSetI_ap, fSetA_ap, kAtt_ap, kAtt2_ap, sa_ap, back_ap, bk_rd, mapEnv_ok, compK_lend, forK_lend, fEnum_ap, enumSrc_t, once_d3, once_dsd, lim_pos, Nat.reduceBEq, Nat.reduceAdd, Nat.reduceLeDiff, List.getElem?_cons_zero, List.getElem?_cons_succ, List.set_cons_zero, List.set_cons_succ, Out.bind_ok, Option.bind_some, Option.map_some, Bool.not_true, Bool.not_false, List.length_cons, List.length_nil, v1, v2, v5, hn]
      | false =>
        have hs : s = "lot" := hs
        subst hs
        have hn := gNe_due (s := "lot") (by simp)
        simp only [fC_ap, opd_ap, asD_d, asD_slot, asD_new, f1_ap, f2_ap, res_d, res_slot, resS_d, resS_own, resS_io, resS_rd, ress_nil, ress_cons, ofP_d, ofP_l, ofP_t, isB_b, fT_ap, gAnd_ap, gOr_ap, gNot_ap, fAnd_ap, fOr_ap, fNot_ap, fIf_ap, fNil_ap, fCons_ap, frz_d, frzs_nil, frzs_cons, fTup_ap, fLst_ap, isI_i, fPart_ap, fNo_ap, fSl_ap, fBlt_ap, fSeq_ap, seqK_next, seqK_brk, seqK_cont, seqK_ret, fSkip_ap, fIfS_ap, fDrop_ap, fAsg_ap, retK_d, retK_new, fRet_ap, fRetN_ap, turnK_next, turnK_cont, turnK_brk, turnK_ret, ofO_some, fFor_ap, forK_items, fSeqI_ap, seqSrc_l, seqSrc_t, seqSrc_s, fRng1_ap, fRng2_ap, fComp_ap, compK_items, gTrue_ap, k1_ap, o2_ap, k2b_ap, k2a_ap, kT_ap, kAnd_t, kAnd_f, kOr_t, kOr_f, kNot_ap, kAndE_t, kAndE_f, kOrE_t, kOrE_f, kNotE_ap, kIfE_t, kIfE_f, kIfS_t, kIfS_f, kCons2_ap, kCons_ap, kz2_ap, kz_ap, kTup2_ap, kTup_ap, kLst2_ap, kLst_ap, kPart_ap, kSl3_ap, kSl2_ap, kSl1_ap, kBlt_ap, kDrop_ap, kAsg2_ap, kAsg_ap, kRng1_ap, kRng2_ap, fCall_ap, kCall_ap, kCall2_ap, kCall3_ap, callK_d, callK_n, upds_io, upds_nil, upds_no, mkArgs_nil, mkArgs_cons, mkArgE_d, once1, once_dd, once_d2, once_s2, once_s3, once_s3d, kMut_ap, kLoop_ap, kLoop2_ap, fVar_ap, vr_d, vr_own, vr_io, vr_rd, noIo_ap, nio_no, nio_d, nio_own, nio_rd, frz_slot, fz_d, fz_own, gd_t, gs_t, store_d, store_new, retK_slot, rk_own, rk_d, lstAt_ap, la_own, la_io, mutAt_ap, ma_own, ma_io, mo_some, mi_some, mkArg_slot, ag_d, ag_own, ag_rd, ag_ownt, ag_iot, putC_ap, pc_own, pc_io, gfName_ap, gfNil_ap, gfCons_ap, gfTup_ap, seqSrc_slot, slotSrc_own, slotSrc_rd, fMut_ap, kMut2_ap, kSet3_ap, kSet2_ap, kSet_ap, fSetI_ap, fSetA_ap, kAtt_ap, kAtt2_ap, sa_ap, back_ap, bk_rd, mapEnv_ok, compK_lend, forK_lend, fEnum_ap, enumSrc_t, once_d3, once_dsd, lim_pos, Nat.reduceBEq, Nat.reduceAdd, Nat.reduceLeDiff, List.getElem?_cons_zero, List.getElem?_cons_succ, List.set_cons_zero, List.set_cons_succ, Out.bind_ok, Option.bind_some, Option.map_some, Bool.not_true, Bool.not_false, List.length_cons, List.length_nil, v1, v2, v5, hn]
  obtain ⟨y9, g9, _, fin⟩ := fin
  refine ⟨t4, .d x, .d y, y9, T4, rfl, rfl, g9, ?_⟩
  have st0 : (fAsg 7 (f2 gIx (fLst (fCons (fCall [true] (Φ 21) (fCons (fVar 1) fNil)) (fCons (fBlt gListS (fCons (fVar 3) fNil)) (fCons (f2 gAdd (fTup (fCons (fC (.str "")) fNil)) (fBlt gTuple (fCons (fVar 3) fNil))) (fCons (f2 gAdd (fRev (fBlt gTuple (fCons (fVar 3) fNil)) (fPart (f1 gNeg (fC (.int (1)))))) (fTup (fCons (fC (.str "")) fNil))) fNil))))) (fCall [true, false] (Φ 17) (fCons (fVar 1) (fCons (fC (.int (4))) fNil))))) [a, .own t, .d (.str m), .own (.lst ((every m).map D.str)), x4, x5, x6, x7, x8, x9, x10, x11, .no] = .ok .next [a, .own t2, .d (.str m), .own (.lst ((every m).map D.str)), x4, x5, x6, .d x, x8, x9, x10, x11, .no] := by
    simp only [fC_ap, opd_ap, asD_d, asD_slot, asD_new, f1_ap, f2_ap, res_d, res_slot, resS_d, resS_own, resS_io, resS_rd, ress_nil, ress_cons, ofP_d, ofP_l, ofP_t, isB_b, fT_ap, gAnd_ap, gOr_ap, gNot_ap, fAnd_ap, fOr_ap, fNot_ap, fIf_ap, fNil_ap, fCons_ap, frz_d, frzs_nil, frzs_cons, fTup_ap, fLst_ap, isI_i, fPart_ap, fNo_ap, fSl_ap, fBlt_ap, fSeq_ap, seqK_next, seqK_brk, seqK_cont, seqK_ret, fSkip_ap, fIfS_ap, fDrop_ap, fAsg_ap, retK_d, retK_new, fRet_ap, fRetN_ap, turnK_next, turnK_cont, turnK_brk, turnK_ret, ofO_some, fFor_ap, forK_items, fSeqI_ap, seqSrc_l, seqSrc_t, seqSrc_s, fRng1_ap, fRng2_ap, fComp_ap, compK_items, gTrue_ap, k1_ap, o2_ap, k2b_ap, k2a_ap, kT_ap, kAnd_t, kAnd_f, kOr_t, kOr_f, kNot_ap, kAndE_t, kAndE_f, kOrE_t, kOrE_f, kNotE_ap, kIfE_t, kIfE_f, kIfS_t, kIfS_f, kCons2_ap, kCons_ap, kz2_ap, kz_ap, kTup2_ap, kTup_ap, kLst2_ap, kLst_ap, kPart_ap, kSl3_ap, kSl2_ap, kSl1_ap, kBlt_ap, kDrop_ap, kAsg2_ap, kAsg_ap, kRng1_ap, kRng2_ap, fCall_ap, kCall_ap, kCall2_ap, kCall3_ap, callK_d, callK_n, upds_io, upds_nil, upds_no, mkArgs_nil, mkArgs_cons, mkArgE_d, once1, once_dd, once_d2, once_s2, once_s3, once_s3d, kMut_ap, kLoop_ap, kLoop2_ap, fVar_ap, vr_d, vr_own, vr_io, vr_rd, noIo_ap, nio_no, nio_d, nio_own, nio_rd, frz_slot, fz_d, fz_own, gd_t, gs_t, store_d, store_new, retK_slot, rk_own, rk_d, lstAt_ap, la_own, la_io, mutAt_ap, ma_own, ma_io, mo_some, mi_some, mkArg_slot, ag_d, ag_own, ag_rd, ag_ownt, ag_iot, putC_ap, pc_own, pc_io, gfName_ap, gfNil_ap, gfCons_ap, gfTup_ap, seqSrc_slot, slotSrc_own, slotSrc_rd, fMut_ap, kMut2_ap, kSet3_ap, kSet2_ap, kSet_ap, fSetI_ap, fSetA_ap, kAtt_ap, kAtt2_ap, sa_ap, back_ap, bk_rd, mapEnv_ok, compK_lend, forK_lend, fEnum_ap, enumSrc_t, once_d3, once_dsd, lim_pos, Nat.reduceBEq, Nat.reduceAdd, Nat.reduceLeDiff, List.getElem?_cons_zero, List.getElem?_cons_succ, List.set_cons_zero, List.set_cons_succ, Out.bind_ok, Option.bind_some, Option.map_some, Bool.not_true, Bool.not_false, List.length_cons, List.length_nil, e1, gS, i1, gTuple_l, a1, r1', a2, i4, e2', gx, h7]
  have st1 : (fAsg 8 (f2 gIx (fLst (fCons (fVar 2) (fCons (fVar 2) (fCons (fCall [true] (Φ 21) (fCons (fVar 1) fNil)) fNil)))) (fCall [true, false] (Φ 17) (fCons (fVar 1) (fCons (fC (.int (3))) fNil))))) [a, .own t2, .d (.str m), .own (.lst ((every m).map D.str)), x4, x5, x6, .d x, x8, x9, x10, x11, .no] = .ok .next [a, .own t4, .d (.str m), .own (.lst ((every m).map D.str)), x4, x5, x6, .d x, .d y, x9, x10, x11, .no] := by
    simp only [fC_ap, opd_ap, asD_d, asD_slot, asD_new, f1_ap, f2_ap, res_d, res_slot, resS_d, resS_own, resS_io, resS_rd, ress_nil, ress_cons, ofP_d, ofP_l, ofP_t, isB_b, fT_ap, gAnd_ap, gOr_ap, gNot_ap, fAnd_ap, fOr_ap, fNot_ap, fIf_ap, fNil_ap, fCons_ap, frz_d, frzs_nil, frzs_cons, fTup_ap, fLst_ap, isI_i, fPart_ap, fNo_ap, fSl_ap, fBlt_ap, fSeq_ap, seqK_next, seqK_brk, seqK_cont, seqK_ret, fSkip_ap, fIfS_ap, fDrop_ap, fAsg_ap, retK_d, retK_new, fRet_ap, fRetN_ap, turnK_next, turnK_cont, turnK_brk, turnK_ret, ofO_some, fFor_ap, forK_items, fSeqI_ap, seqSrc_l, seqSrc_t, seqSrc_s, fRng1_ap, fRng2_ap, fComp_ap, compK_items, gTrue_ap, k1_ap, o2_ap, k2b_ap, k2a_ap, kT_ap, kAnd_t, kAnd_f, kOr_t, kOr_f, kNot_ap, kAndE_t, kAndE_f, kOrE_t, kOrE_f, kNotE_ap, kIfE_t, kIfE_f, kIfS_t, kIfS_f, kCons2_ap, kCons_ap, kz2_ap, kz_ap, kTup2_ap, kTup_ap, kLst2_ap, kLst_ap, kPart_ap, kSl3_ap, kSl2_ap, kSl1_ap, kBlt_ap, kDrop_ap, kAsg2_ap, kAsg_ap, kRng1_ap, kRng2_ap, fCall_ap, kCall_ap, kCall2_ap, kCall3_ap, callK_d, callK_n, upds_io, upds_nil, upds_no, mkArgs_nil, mkArgs_cons, mkArgE_d, once1, once_dd, once_d2, once_s2, once_s3, once_s3d, kMut_ap, kLoop_ap, kLoop2_ap, fVar_ap, vr_d, vr_own, vr_io, vr_rd, noIo_ap, nio_no, nio_d, nio_own, nio_rd, frz_slot, fz_d, fz_own, gd_t, gs_t, store_d, store_new, retK_slot, rk_own, rk_d, lstAt_ap, la_own, la_io, mutAt_ap, ma_own, ma_io, mo_some, mi_some, mkArg_slot, ag_d, ag_own, ag_rd, ag_ownt, ag_iot, putC_ap, pc_own, pc_io, gfName_ap, gfNil_ap, gfCons_ap, gfTup_ap, seqSrc_slot, slotSrc_own, slotSrc_rd, fMut_ap, kMut2_ap, kSet3_ap, kSet2_ap, kSet_ap, fSetI_ap, fSetA_ap, kAtt_ap, kAtt2_ap, sa_ap, back_ap, bk_rd, mapEnv_ok, compK_lend, forK_lend, fEnum_ap, enumSrc_t, once_d3, once_dsd, lim_pos, Nat.reduceBEq, Nat.reduceAdd, Nat.reduceLeDiff, List.getElem?_cons_zero, List.getElem?_cons_succ, List.set_cons_zero, List.set_cons_succ, Out.bind_ok, Option.bind_some, Option.map_some, Bool.not_true, Bool.not_false, List.length_cons, List.length_nil, e3, i3, e4', gy, h8]
  have st2 : (fAsg 9 (fC (.str "told"))) [a, .own t4, .d (.str m), .own (.lst ((every m).map D.str)), x4, x5, x6, .d x, .d y, x9, x10, x11, .no] = .ok .next [a, .own t4, .d (.str m), .own (.lst ((every m).map D.str)), x4, x5, x6, .d x, .d y, .d (.str "told"), x10, x11, .no] := by
    simp only [fC_ap, opd_ap, asD_d, asD_slot, asD_new, f1_ap, f2_ap, res_d, res_slot, resS_d, resS_own, resS_io, resS_rd, ress_nil, ress_cons, ofP_d, ofP_l, ofP_t, isB_b, fT_ap, gAnd_ap, gOr_ap, gNot_ap, fAnd_ap, fOr_ap, fNot_ap, fIf_ap, fNil_ap, fCons_ap, frz_d, frzs_nil, frzs_cons, fTup_ap, fLst_ap, isI_i, fPart_ap, fNo_ap, fSl_ap, fBlt_ap, fSeq_ap, seqK_next, seqK_brk, seqK_cont, seqK_ret, fSkip_ap, fIfS_ap, fDrop_ap, fAsg_ap, retK_d, retK_new, fRet_ap, fRetN_ap, turnK_next, turnK_cont, turnK_brk, turnK_ret, ofO_some, fFor_ap, forK_items, fSeqI_ap, seqSrc_l, seqSrc_t, seqSrc_s, fRng1_ap, fRng2_ap, fComp_ap, compK_items, gTrue_ap, k1_ap, o2_ap, k2b_ap, k2a_ap, kT_ap, kAnd_t, kAnd_f, kOr_t, kOr_f, kNot_ap, kAndE_t, kAndE_f, kOrE_t, kOrE_f, kNotE_ap, kIfE_t, kIfE_f, kIfS_t, kIfS_f, kCons2_ap, kCons_ap, kz2_ap, kz_ap, kTup2_ap, kTup_ap, kLst2_ap, kLst_ap, kPart_ap, kSl3_ap, kSl2_ap, kSl1_ap, kBlt_ap, kDrop_ap, kAsg2_ap, kAsg_ap, kRng1_ap, kRng2_ap, fCall_ap, kCall_ap, kCall2_ap, kCall3_ap, callK_d, callK_n, upds_io, upds_nil, upds_no, mkArgs_nil, mkArgs_cons, mkArgE_d, once1, once_dd, once_d2, once_s2, once_s3, once_s3d, kMut_ap, kLoop_ap, kLoop2_ap, fVar_ap, vr_d, vr_own, vr_io, vr_rd, noIo_ap, nio_no, nio_d, nio_own, nio_rd, frz_slot, fz_d, fz_own, gd_t, gs_t, store_d, store_new, retK_slot, rk_own, rk_d, lstAt_ap, la_own, la_io, mutAt_ap, ma_own, ma_io, mo_some, mi_some, mkArg_slot, ag_d, ag_own, ag_rd, ag_ownt, ag_iot, putC_ap, pc_own, pc_io, gfName_ap, gfNil_ap, gfCons_ap, gfTup_ap, seqSrc_slot, slotSrc_own, slotSrc_rd, fMut_ap, kMut2_ap, kSet3_ap, kSet2_ap, kSet_ap, fSetI_ap, fSetA_ap, kAtt_ap, kAtt2_ap, sa_ap, back_ap, bk_rd, mapEnv_ok, compK_lend, forK_lend, fEnum_ap, enumSrc_t, once_d3, once_dsd, lim_pos, Nat.reduceBEq, Nat.reduceAdd, Nat.reduceLeDiff, List.getElem?_cons_zero, List.getElem?_cons_succ, List.set_cons_zero, List.set_cons_succ, Out.bind_ok, Option.bind_some, Option.map_some, Bool.not_true, Bool.not_false, List.length_cons, List.length_nil, h9]
  unfold duB
  rw [fSeq_ap, st0, Out.bind_ok, seqK_next, fSeq_ap, st1, Out.bind_ok, seqK_next, fSeq_ap, st2, Out.bind_ok, seqK_next, fin]
theorem du_loop {Φ : Nat → Fn} (hΦ : Φ = run 29) (hm : m ∈ marks9) (C : Cn Φ m) (a x4 x6 x10 x11 : Sl) : ∀ (ds : List D) (t : Cell) (x5 x7 x8 x9 : Sl), TapeOk t → nio (some x5) = true → nio (some x7) = true → nio (some x8) = true → nio (some x9) = true →
    ∃ t' y5 y7 y8 y9, TapeOk t' ∧ loopL (gfName 5) (duB Φ) ds [a, .own t, .d (.str m), .own (EV m), x4, x5, x6, x7, x8, x9, x10, x11, .no] = .ok .next [a, .own t', .d (.str m), .own (EV m), x4, y5, x6, y7, y8, y9, x10, x11, .no]
  | [], t, x5, x7, x8, x9, Tt, _, _, _, _ => ⟨t, x5, x7, x8, x9, Tt, rfl⟩
  | d :: ds, t, x5, x7, x8, x9, Tt, h5, h7, h8, h9 => by
    obtain ⟨t1, y7, y8, y9, T1, g7, g8, g9, e1⟩ := du_turn hΦ hm C Tt a x4 (.d d) x6 x7 x8 x9 x10 x11 h7 h8 h9
    obtain ⟨t2, z5, z7, z8, z9, T2, e2⟩ := du_loop hΦ hm C a x4 x6 x10 x11 ds t1 (.d d) y7 y8 y9 T1 rfl g7 g8 g9
    refine ⟨t2, z5, z7, z8, z9, T2, ?_⟩
    rw [← e2]
    simp only [loopL_cons, gfName_ap, noIo_ap, List.getElem?_cons_zero, List.getElem?_cons_succ, h5, gs_t, List.set_cons_succ, List.set_cons_zero, ofO_some, Out.bind_ok, kLoop_ap, e1, kLoop2_ap, turnK_next]
end KK

set_option Elab.async false
set_option linter.all false
set_option maxRecDepth 100000
set_option maxHeartbeats 4000000
namespace KK
open PySem L2 Nz
open Nz (D Arg)
variable {m : Str} {n : Nat}
theorem good_all (hm : m ∈ marks9) : Good m (every m) := ⟨List.Sublist.refl _, fun h => by have := (elen hm).1; rw [h] at this; simp at this⟩
theorem good_one {s : Str} (hs : s ∈ every m) : Good m [s] := ⟨List.singleton_sublist.mpr hs, by simp⟩
theorem law_core {Φ : Nat → Fn} (hΦ : Φ = run 29) (hm : m ∈ marks9) (f0 : D) (t0 t1 : Cell) (C : Cn Φ m) (T1 : TapeOk t1)
    (e1 : Φ 16 [.d f0] = .ret (.new t0) [none]) (e2 : Φ 19 [.io t0] = .ret (.d (.str m)) [some t1])
    (e3 : Φ 18 [.d (.str m)] = .ret (.new (EV m)) [none]) :
    finF [.d f0] (b29 Φ [.d f0, .no, .no, .no, .no, .no, .no, .no, .no, .no, .no, .no, .no]) = .ret (.d (.bl true)) [none] := by
  obtain ⟨l, t2, gl, T2, e4⟩ := C.lt t1 T1
  obtain ⟨p, t3, hp, T3, e5⟩ := C.pk t2 T2 (every m).length (elen hm).1 (by have := (elen hm).2; omega)
  have e5' : Φ 17 [.io t2, .d (.int (((every m).map D.str).length : Int))] = .ret (.d (.int (p : Int))) [some t3, none] := by rw [List.length_map]; exact e5
  obtain ⟨s, hs, gs⟩ : ∃ s, s ∈ every m ∧ gIx (.lst ((every m).map D.str)) (.int (p : Int)) = some (.d (.str s)) := by
    refine ⟨(every m)[p], List.getElem_mem hp, lst_at _ ?_⟩
    rw [List.getElem?_map, List.getElem?_eq_getElem hp]
    rfl
  obtain ⟨y4, y6, y10, y11, g4, L1⟩ := cd_loop hm C (.d f0) (.own t3) .no .no .no .no [l, every m, [s]] .no .no .no .no (by
    intro k hk
    rcases List.mem_cons.mp hk with rfl | hk
    · exact gl
    · rcases List.mem_cons.mp hk with rfl | hk
      · exact good_all hm
      · rw [List.mem_singleton.mp hk]; exact good_one hs) rfl rfl rfl rfl
  obtain ⟨t4, y5, y7, y8, y9, T4, L2⟩ := du_loop hΦ hm C (.d f0) y4 y6 y10 y11 [.int (0 + (0 : Nat)), .int (0 + (1 : Nat)), .int (0 + (2 : Nat))] t3 .no .no .no .no T3 rfl rfl rfl rfl
  have n1 := nil_ok hm
  rw [← hΦ] at n1
  have g9 : gEq (.str "lot") (.str "lot") = some (.d (.bl true)) := by unfold gEq; rw [eq_dues "lot" (by simp)]; rfl
  have i0 : ∀ o : Out Rv, lim 0 o = o := fun o => lim_pos (by decide)
  have i1 : ∀ o : Out Rv, lim 1 o = o := fun o => lim_pos (by decide)
  have i3 : ∀ o : Out Rv, lim 3 o = o := fun o => lim_pos (by decide)
  have hr : ∀ ρ, rngSrc1 (some [.int 3]) ρ = .ok (.items [.int (0 + (0 : Nat)), .int (0 + (1 : Nat)), .int (0 + (2 : Nat))]) ρ := fun ρ => rfl
  have hE : ([l, every m, [s]].map lotD) = [lotD l, .tup ((every m).map D.str), .tup [.str s]] := rfl
  rw [hE] at L1
  unfold cdB at L1
  unfold duB at L2
  unfold EV at e3 e4 L1 L2
  have st0 : (fAsg 1 (fCall [false] (Φ 16) (fCons (fVar 0) fNil))) [.d f0, .no, .no, .no, .no, .no, .no, .no, .no, .no, .no, .no, .no] = .ok .next [.d f0, .own t0, .no, .no, .no, .no, .no, .no, .no, .no, .no, .no, .no] := by
    simp only [fC_ap, opd_ap, asD_d, asD_slot, asD_new, f1_ap, f2_ap, res_d, res_slot, resS_d, resS_own, resS_io, resS_rd, ress_nil, ress_cons, ofP_d, ofP_l, ofP_t, isB_b, fT_ap, gAnd_ap, gOr_ap, gNot_ap, fAnd_ap, fOr_ap, fNot_ap, fIf_ap, fNil_ap, fCons_ap, frz_d, frzs_nil, frzs_cons, fTup_ap, fLst_ap, isI_i, fPart_ap, fNo_ap, fSl_ap, fBlt_ap, fSeq_ap, seqK_next, seqK_brk, seqK_cont, seqK_ret, fSkip_ap, fIfS_ap, fDrop_ap, fAsg_ap, retK_d, retK_new, fRet_ap, fRetN_ap, turnK_next, turnK_cont, turnK_brk, turnK_ret, ofO_some, fFor_ap, forK_items, fSeqI_ap, seqSrc_l, seqSrc_t, seqSrc_s, fRng1_ap, fRng2_ap, fComp_ap, compK_items, gTrue_ap, k1_ap, o2_ap, k2b_ap, k2a_ap, kT_ap, kAnd_t, kAnd_f, kOr_t, kOr_f, kNot_ap, kAndE_t, kAndE_f, kOrE_t, kOrE_f, kNotE_ap, kIfE_t, kIfE_f, kIfS_t, kIfS_f, kCons2_ap, kCons_ap, kz2_ap, kz_ap, kTup2_ap, kTup_ap, kLst2_ap, kLst_ap, kPart_ap, kSl3_ap, kSl2_ap, kSl1_ap, kBlt_ap, kDrop_ap, kAsg2_ap, kAsg_ap, kRng1_ap, kRng2_ap, fCall_ap, kCall_ap, kCall2_ap, kCall3_ap, callK_d, callK_n, upds_io, upds_nil, upds_no, mkArgs_nil, mkArgs_cons, mkArgE_d, once1, once_dd, once_d2, once_s2, once_s3, once_s3d, kMut_ap, kLoop_ap, kLoop2_ap, fVar_ap, vr_d, vr_own, vr_io, vr_rd, noIo_ap, nio_no, nio_d, nio_own, nio_rd, frz_slot, fz_d, fz_own, gd_t, gs_t, store_d, store_new, retK_slot, rk_own, rk_d, lstAt_ap, la_own, la_io, mutAt_ap, ma_own, ma_io, mo_some, mi_some, mkArg_slot, ag_d, ag_own, ag_rd, ag_ownt, ag_iot, putC_ap, pc_own, pc_io, gfName_ap, gfNil_ap, gfCons_ap, gfTup_ap, seqSrc_slot, slotSrc_own, slotSrc_rd, fMut_ap, kMut2_ap, kSet3_ap, kSet2_ap, kSet_ap, fSetI_ap, fSetA_ap, kAtt_ap, kAtt2_ap, sa_ap, back_ap, bk_rd, mapEnv_ok, compK_lend, forK_lend, fEnum_ap, enumSrc_t, once_d3, once_dsd, lim_pos, Nat.reduceBEq, Nat.reduceAdd, Nat.reduceLeDiff, List.getElem?_cons_zero, List.getElem?_cons_succ, List.set_cons_zero, List.set_cons_succ, Out.bind_ok, Option.bind_some, Option.map_some, Bool.not_true, Bool.not_false, List.length_cons, List.length_nil, e1]
  have st1 : (fAsg 2 (fCall [true] (Φ 19) (fCons (fVar 1) fNil))) [.d f0, .own t0, .no, .no, .no, .no, .no, .no, .no, .no, .no, .no, .no] = .ok .next [.d f0, .own t1, .d (.str m), .no, .no, .no, .no, .no, .no, .no, .no, .no, .no] := by
    simp only [fC_ap, opd_ap, asD_d, asD_slot, asD_new, f1_ap, f2_ap, res_d, res_slot, resS_d, resS_own, resS_io, resS_rd, ress_nil, ress_cons, ofP_d, ofP_l, ofP_t, isB_b, fT_ap, gAnd_ap, gOr_ap, gNot_ap, fAnd_ap, fOr_ap, fNot_ap, fIf_ap, fNil_ap, fCons_ap, frz_d, frzs_nil, frzs_cons, fTup_ap, fLst_ap, isI_i, fPart_ap, fNo_ap, fSl_ap, fBlt_ap, fSeq_ap, seqK_next, seqK_brk, seqK_cont, seqK_ret, fSkip_ap, fIfS_ap, fDrop_ap, fAsg_ap, retK_d, retK_new, fRet_ap, fRetN_ap, turnK_next, turnK_cont, turnK_brk, turnK_ret, ofO_some, fFor_ap, forK_items, fSeqI_ap, seqSrc_l, seqSrc_t, seqSrc_s, fRng1_ap, fRng2_ap, fComp_ap, compK_items, gTrue_ap, k1_ap, o2_ap, k2b_ap, k2a_ap, kT_ap, kAnd_t, kAnd_f, kOr_t, kOr_f, kNot_ap, kAndE_t, kAndE_f, kOrE_t, kOrE_f, kNotE_ap, kIfE_t, kIfE_f, kIfS_t, kIfS_f, kCons2_ap, kCons_ap, kz2_ap, kz_ap, kTup2_ap, kTup_ap, kLst2_ap, kLst_ap, kPart_ap, kSl3_ap, kSl2_ap, kSl1_ap, kBlt_ap, kDrop_ap, kAsg2_ap, kAsg_ap, kRng1_ap, kRng2_ap, fCall_ap, kCall_ap, kCall2_ap, kCall3_ap, callK_d, callK_n, upds_io, upds_nil, upds_no, mkArgs_nil, mkArgs_cons, mkArgE_d, once1, once_dd, once_d2, once_s2, once_s3, once_s3d, kMut_ap, kLoop_ap, kLoop2_ap, fVar_ap, vr_d, vr_own, vr_io, vr_rd, noIo_ap, nio_no, nio_d, nio_own, nio_rd, frz_slot, fz_d, fz_own, gd_t, gs_t, store_d, store_new, retK_slot, rk_own, rk_d, lstAt_ap, la_own, la_io, mutAt_ap, ma_own, ma_io, mo_some, mi_some, mkArg_slot, ag_d, ag_own, ag_rd, ag_ownt, ag_iot, putC_ap, pc_own, pc_io, gfName_ap, gfNil_ap, gfCons_ap, gfTup_ap, seqSrc_slot, slotSrc_own, slotSrc_rd, fMut_ap, kMut2_ap, kSet3_ap, kSet2_ap, kSet_ap, fSetI_ap, fSetA_ap, kAtt_ap, kAtt2_ap, sa_ap, back_ap, bk_rd, mapEnv_ok, compK_lend, forK_lend, fEnum_ap, enumSrc_t, once_d3, once_dsd, lim_pos, Nat.reduceBEq, Nat.reduceAdd, Nat.reduceLeDiff, List.getElem?_cons_zero, List.getElem?_cons_succ, List.set_cons_zero, List.set_cons_succ, Out.bind_ok, Option.bind_some, Option.map_some, Bool.not_true, Bool.not_false, List.length_cons, List.length_nil, e2]
  have st2 : (fAsg 3 (fCall [false] (Φ 18) (fCons (fVar 2) fNil))) [.d f0, .own t1, .d (.str m), .no, .no, .no, .no, .no, .no, .no, .no, .no, .no] = .ok .next [.d f0, .own t1, .d (.str m), .own (.lst ((every m).map D.str)), .no, .no, .no, .no, .no, .no, .no, .no, .no] := by
    simp only [fC_ap, opd_ap, asD_d, asD_slot, asD_new, f1_ap, f2_ap, res_d, res_slot, resS_d, resS_own, resS_io, resS_rd, ress_nil, ress_cons, ofP_d, ofP_l, ofP_t, isB_b, fT_ap, gAnd_ap, gOr_ap, gNot_ap, fAnd_ap, fOr_ap, fNot_ap, fIf_ap, fNil_ap, fCons_ap, frz_d, frzs_nil, frzs_cons, fTup_ap, fLst_ap, isI_i, fPart_ap, fNo_ap, fSl_ap, fBlt_ap, fSeq_ap, seqK_next, seqK_brk, seqK_cont, seqK_ret, fSkip_ap, fIfS_ap, fDrop_ap, fAsg_ap, retK_d, retK_new, fRet_ap, fRetN_ap, turnK_next, turnK_cont, turnK_brk, turnK_ret, ofO_some, fFor_ap, forK_items, fSeqI_ap, seqSrc_l, seqSrc_t, seqSrc_s, fRng1_ap, fRng2_ap, fComp_ap, compK_items, gTrue_ap, k1_ap, o2_ap, k2b_ap, k2a_ap, kT_ap, kAnd_t, kAnd_f, kOr_t, kOr_f, kNot_ap, kAndE_t, kAndE_f, kOrE_t, kOrE_f, kNotE_ap, kIfE_t, kIfE_f, kIfS_t, kIfS_f, kCons2_ap, kCons_ap, kz2_ap, kz_ap, kTup2_ap, kTup_ap, kLst2_ap, kLst_ap, kPart_ap, kSl3_ap, kSl2_ap, kSl1_ap, kBlt_ap, kDrop_ap, kAsg2_ap, kAsg_ap, kRng1_ap, kRng2_ap, fCall_ap, kCall_ap, kCall2_ap, kCall3_ap, callK_d, callK_n, upds_io, upds_nil, upds_no, mkArgs_nil, mkArgs_cons, mkArgE_d, once1, once_dd, once_d2, once_s2, once_s3, once_s3d, kMut_ap, kLoop_ap, kLoop2_ap, fVar_ap, vr_d, vr_own, vr_io, vr_rd, noIo_ap, nio_no, nio_d, nio_own, nio_rd, frz_slot, fz_d, fz_own, gd_t, gs_t, store_d, store_new, retK_slot, rk_own, rk_d, lstAt_ap, la_own, la_io, mutAt_ap, ma_own, ma_io, mo_some, mi_some, mkArg_slot, ag_d, ag_own, ag_rd, ag_ownt, ag_iot, putC_ap, pc_own, pc_io, gfName_ap, gfNil_ap, gfCons_ap, gfTup_ap, seqSrc_slot, slotSrc_own, slotSrc_rd, fMut_ap, kMut2_ap, kSet3_ap, kSet2_ap, kSet_ap, fSetI_ap, fSetA_ap, kAtt_ap, kAtt2_ap, sa_ap, back_ap, bk_rd, mapEnv_ok, compK_lend, forK_lend, fEnum_ap, enumSrc_t, once_d3, once_dsd, lim_pos, Nat.reduceBEq, Nat.reduceAdd, Nat.reduceLeDiff, List.getElem?_cons_zero, List.getElem?_cons_succ, List.set_cons_zero, List.set_cons_succ, Out.bind_ok, Option.bind_some, Option.map_some, Bool.not_true, Bool.not_false, List.length_cons, List.length_nil, e3]
  have st3 : (fFor (fSeqI (fLst (fCons (fCall [true, false] (Φ 20) (fCons (fVar 1) (fCons (fVar 3) fNil))) (fCons (fBlt gTuple (fCons (fVar 3) fNil)) (fCons (fTup (fCons (f2 gIx (fVar 3) (fCall [true, false] (Φ 17) (fCons (fVar 1) (fCons (fBlt gLen (fCons (fVar 3) fNil)) fNil)))) fNil)) fNil))))) (gfName 4) (fSeq (fAsg 6 (fCall [false, false] (Φ 15) (fCons (fVar 2) (fCons (fVar 4) fNil)))) (fSeq (fAsgG (fCall [false, false] (Φ 26) (fCons (fVar 2) (fCons (fVar 6) fNil))) (gfTup 2 (gfCons (gfName 10) (gfCons (gfName 11) gfNil)))) (fSeq (fIfS (gOr (fT (f2 gLt (fVar 10) (fC (.int (1))))) (gOr (fT (f2 gGt (fVar 10) (fC (.int (1000))))) (fT (f2 gGt (fVar 11) (fC (.int (20))))))) (fRet (fC (.bl false))) fSkip) (fSeq (fIfS (gOr (fT (f2 gNe (fBlt gTuple (fCons (fComp (fSeqI (fVar 3)) (gfName 12) (fT (fCall [false, false] (Φ 27) (fCons (fVar 6) (fCons (fVar 12) fNil)))) (fVar 12) [12]) fNil)) (fVar 4))) (fT (f2 gNe (fCall [false, false] (Φ 13) (fCons (fVar 2) (fCons (fVar 6) fNil))) (fVar 4)))) (fRet (fC (.bl false))) fSkip) (fIfS (fT (f2 gNe (fCall [false, false] (Φ 15) (fCons (fVar 2) (fCons (fVar 4) fNil))) (fVar 6))) (fRet (fC (.bl false))) fSkip)))))) [.d f0, .own t1, .d (.str m), .own (.lst ((every m).map D.str)), .no, .no, .no, .no, .no, .no, .no, .no, .no] = .ok .next [.d f0, .own t3, .d (.str m), .own (.lst ((every m).map D.str)), y4, .no, y6, .no, .no, .no, y10, y11, .no] := by
    simp only [fC_ap, opd_ap, asD_d, asD_slot, asD_new, f1_ap, f2_ap, res_d, res_slot, resS_d, resS_own, resS_io, resS_rd, ress_nil, ress_cons, ofP_d, ofP_l, ofP_t, isB_b, fT_ap, gAnd_ap, gOr_ap, gNot_ap, fAnd_ap, fOr_ap, fNot_ap, fIf_ap, fNil_ap, fCons_ap, frz_d, frzs_nil, frzs_cons, fTup_ap, fLst_ap, isI_i, fPart_ap, fNo_ap, fSl_ap, fBlt_ap, fSeq_ap, seqK_next, seqK_brk, seqK_cont, seqK_ret, fSkip_ap, fIfS_ap, fDrop_ap, fAsg_ap, retK_d, retK_new, fRet_ap, fRetN_ap, turnK_next, turnK_cont, turnK_brk, turnK_ret, ofO_some, fFor_ap, forK_items, fSeqI_ap, seqSrc_l, seqSrc_t, seqSrc_s, fRng1_ap, fRng2_ap, fComp_ap, compK_items, gTrue_ap, k1_ap, o2_ap, k2b_ap, k2a_ap, kT_ap, kAnd_t, kAnd_f, kOr_t, kOr_f, kNot_ap, kAndE_t, kAndE_f, kOrE_t, kOrE_f, kNotE_ap, kIfE_t, kIfE_f, kIfS_t, kIfS_f, kCons2_ap, kCons_ap, kz2_ap, kz_ap, kTup2_ap, kTup_ap, kLst2_ap, kLst_ap, kPart_ap, kSl3_ap, kSl2_ap, kSl1_ap, kBlt_ap, kDrop_ap, kAsg2_ap, kAsg_ap, kRng1_ap, kRng2_ap, fCall_ap, kCall_ap, kCall2_ap, kCall3_ap, callK_d, callK_n, upds_io, upds_nil, upds_no, mkArgs_nil, mkArgs_cons, mkArgE_d, once1, once_dd, once_d2, once_s2, once_s3, once_s3d, kMut_ap, kLoop_ap, kLoop2_ap, fVar_ap, vr_d, vr_own, vr_io, vr_rd, noIo_ap, nio_no, nio_d, nio_own, nio_rd, frz_slot, fz_d, fz_own, gd_t, gs_t, store_d, store_new, retK_slot, rk_own, rk_d, lstAt_ap, la_own, la_io, mutAt_ap, ma_own, ma_io, mo_some, mi_some, mkArg_slot, ag_d, ag_own, ag_rd, ag_ownt, ag_iot, putC_ap, pc_own, pc_io, gfName_ap, gfNil_ap, gfCons_ap, gfTup_ap, seqSrc_slot, slotSrc_own, slotSrc_rd, fMut_ap, kMut2_ap, kSet3_ap, kSet2_ap, kSet_ap, fSetI_ap, fSetA_ap, kAtt_ap, kAtt2_ap, sa_ap, back_ap, bk_rd, mapEnv_ok, compK_lend, forK_lend, fEnum_ap, enumSrc_t, once_d3, once_dsd, lim_pos, Nat.reduceBEq, Nat.reduceAdd, Nat.reduceLeDiff, List.getElem?_cons_zero, List.getElem?_cons_succ, List.set_cons_zero, List.set_cons_succ, Out.bind_ok, Option.bind_some, Option.map_some, Bool.not_true, Bool.not_false, List.length_cons, List.length_nil, e4, gLen_l, gTuple_l, e5', gs, i1, i3]
    exact L1
  have st4 : (fFor (fRng1 (fCons (fC (.int (3))) fNil)) (gfName 5) (fSeq (fAsg 7 (f2 gIx (fLst (fCons (fCall [true] (Φ 21) (fCons (fVar 1) fNil)) (fCons (fBlt gListS (fCons (fVar 3) fNil)) (fCons (f2 gAdd (fTup (fCons (fC (.str "")) fNil)) (fBlt gTuple (fCons (fVar 3) fNil))) (fCons (f2 gAdd (fRev (fBlt gTuple (fCons (fVar 3) fNil)) (fPart (f1 gNeg (fC (.int (1)))))) (fTup (fCons (fC (.str "")) fNil))) fNil))))) (fCall [true, false] (Φ 17) (fCons (fVar 1) (fCons (fC (.int (4))) fNil))))) (fSeq (fAsg 8 (f2 gIx (fLst (fCons (fVar 2) (fCons (fVar 2) (fCons (fCall [true] (Φ 21) (fCons (fVar 1) fNil)) fNil)))) (fCall [true, false] (Φ 17) (fCons (fVar 1) (fCons (fC (.int (3))) fNil))))) (fSeq (fAsg 9 (fC (.str "told"))) (fSeq (fIfS (gNot (fT (fCall [false] (Φ 23) (fCons (fVar 8) fNil)))) (fAsg 9 (fC (.str "marks"))) (fIfS (gNot (fT (fCall [false, false] (Φ 25) (fCons (fVar 8) (fCons (fVar 7) fNil))))) (fAsg 9 (fC (.str "lot"))) fSkip)) (fIfS (fT (f2 gNe (fCall [false, false] (Φ 28) (fCons (fVar 8) (fCons (fVar 7) fNil))) (fVar 9))) (fRet (fC (.bl false))) fSkip)))))) [.d f0, .own t3, .d (.str m), .own (.lst ((every m).map D.str)), y4, .no, y6, .no, .no, .no, y10, y11, .no] = .ok .next [.d f0, .own t4, .d (.str m), .own (.lst ((every m).map D.str)), y4, y5, y6, y7, y8, y9, y10, y11, .no] := by
    simp only [fC_ap, opd_ap, asD_d, asD_slot, asD_new, f1_ap, f2_ap, res_d, res_slot, resS_d, resS_own, resS_io, resS_rd, ress_nil, ress_cons, ofP_d, ofP_l, ofP_t, isB_b, fT_ap, gAnd_ap, gOr_ap, gNot_ap, fAnd_ap, fOr_ap, fNot_ap, fIf_ap, fNil_ap, fCons_ap, frz_d, frzs_nil, frzs_cons, fTup_ap, fLst_ap, isI_i, fPart_ap, fNo_ap, fSl_ap, fBlt_ap, fSeq_ap, seqK_next, seqK_brk, seqK_cont, seqK_ret, fSkip_ap, fIfS_ap, fDrop_ap, fAsg_ap, retK_d, retK_new, fRet_ap, fRetN_ap, turnK_next, turnK_cont, turnK_brk, turnK_ret, ofO_some, fFor_ap, forK_items, fSeqI_ap, seqSrc_l, seqSrc_t, seqSrc_s, fRng1_ap, fRng2_ap, fComp_ap, compK_items, gTrue_ap, k1_ap, o2_ap, k2b_ap, k2a_ap, kT_ap, kAnd_t, kAnd_f, kOr_t, kOr_f, kNot_ap, kAndE_t, kAndE_f, kOrE_t, kOrE_f, kNotE_ap, kIfE_t, kIfE_f, kIfS_t, kIfS_f, kCons2_ap, kCons_ap, kz2_ap, kz_ap, kTup2_ap, kTup_ap, kLst2_ap, kLst_ap, kPart_ap, kSl3_ap, kSl2_ap, kSl1_ap, kBlt_ap, kDrop_ap, kAsg2_ap, kAsg_ap, kRng1_ap, kRng2_ap, fCall_ap, kCall_ap, kCall2_ap, kCall3_ap, callK_d, callK_n, upds_io, upds_nil, upds_no, mkArgs_nil, mkArgs_cons, mkArgE_d, once1, once_dd, once_d2, once_s2, once_s3, once_s3d, kMut_ap, kLoop_ap, kLoop2_ap, fVar_ap, vr_d, vr_own, vr_io, vr_rd, noIo_ap, nio_no, nio_d, nio_own, nio_rd, frz_slot, fz_d, fz_own, gd_t, gs_t, store_d, store_new, retK_slot, rk_own, rk_d, lstAt_ap, la_own, la_io, mutAt_ap, ma_own, ma_io, mo_some, mi_some, mkArg_slot, ag_d, ag_own, ag_rd, ag_ownt, ag_iot, putC_ap, pc_own, pc_io, gfName_ap, gfNil_ap, gfCons_ap, gfTup_ap, seqSrc_slot, slotSrc_own, slotSrc_rd, fMut_ap, kMut2_ap, kSet3_ap, kSet2_ap, kSet_ap, fSetI_ap, fSetA_ap, kAtt_ap, kAtt2_ap, sa_ap, back_ap, bk_rd, mapEnv_ok, compK_lend, forK_lend, fEnum_ap, enumSrc_t, once_d3, once_dsd, lim_pos, Nat.reduceBEq, Nat.reduceAdd, Nat.reduceLeDiff, List.getElem?_cons_zero, List.getElem?_cons_succ, List.set_cons_zero, List.set_cons_succ, Out.bind_ok, Option.bind_some, Option.map_some, Bool.not_true, Bool.not_false, List.length_cons, List.length_nil, hr]
    exact L2
  have st5 : (fRet (f2 gEq (fCall [false, false] (Φ 28) (fCons (fVar 2) (fCons (fTup fNil) fNil))) (fC (.str "lot")))) [.d f0, .own t4, .d (.str m), .own (.lst ((every m).map D.str)), y4, y5, y6, y7, y8, y9, y10, y11, .no] = .ok (.ret (.d (.bl true))) [.d f0, .own t4, .d (.str m), .own (.lst ((every m).map D.str)), y4, y5, y6, y7, y8, y9, y10, y11, .no] := by
    simp only [fC_ap, opd_ap, asD_d, asD_slot, asD_new, f1_ap, f2_ap, res_d, res_slot, resS_d, resS_own, resS_io, resS_rd, ress_nil, ress_cons, ofP_d, ofP_l, ofP_t, isB_b, fT_ap, gAnd_ap, gOr_ap, gNot_ap, fAnd_ap, fOr_ap, fNot_ap, fIf_ap, fNil_ap, fCons_ap, frz_d, frzs_nil, frzs_cons, fTup_ap, fLst_ap, isI_i, fPart_ap, fNo_ap, fSl_ap, fBlt_ap, fSeq_ap, seqK_next, seqK_brk, seqK_cont, seqK_ret, fSkip_ap, fIfS_ap, fDrop_ap, fAsg_ap, retK_d, retK_new, fRet_ap, fRetN_ap, turnK_next, turnK_cont, turnK_brk, turnK_ret, ofO_some, fFor_ap, forK_items, fSeqI_ap, seqSrc_l, seqSrc_t, seqSrc_s, fRng1_ap, fRng2_ap, fComp_ap, compK_items, gTrue_ap, k1_ap, o2_ap, k2b_ap, k2a_ap, kT_ap, kAnd_t, kAnd_f, kOr_t, kOr_f, kNot_ap, kAndE_t, kAndE_f, kOrE_t, kOrE_f, kNotE_ap, kIfE_t, kIfE_f, kIfS_t, kIfS_f, kCons2_ap, kCons_ap, kz2_ap, kz_ap, kTup2_ap, kTup_ap, kLst2_ap, kLst_ap, kPart_ap, kSl3_ap, kSl2_ap, kSl1_ap, kBlt_ap, kDrop_ap, kAsg2_ap, kAsg_ap, kRng1_ap, kRng2_ap, fCall_ap, kCall_ap, kCall2_ap, kCall3_ap, callK_d, callK_n, upds_io, upds_nil, upds_no, mkArgs_nil, mkArgs_cons, mkArgE_d, once1, once_dd, once_d2, once_s2, once_s3, once_s3d, kMut_ap, kLoop_ap, kLoop2_ap, fVar_ap, vr_d, vr_own, vr_io, vr_rd, noIo_ap, nio_no, nio_d, nio_own, nio_rd, frz_slot, fz_d, fz_own, gd_t, gs_t, store_d, store_new, retK_slot, rk_own, rk_d, lstAt_ap, la_own, la_io, mutAt_ap, ma_own, ma_io, mo_some, mi_some, mkArg_slot, ag_d, ag_own, ag_rd, ag_ownt, ag_iot, putC_ap, pc_own, pc_io, gfName_ap, gfNil_ap, gfCons_ap, gfTup_ap, seqSrc_slot, slotSrc_own, slotSrc_rd, fMut_ap, kMut2_ap, kSet3_ap, kSet2_ap, kSet_ap, fSetI_ap, fSetA_ap, kAtt_ap, kAtt2_ap, sa_ap, back_ap, bk_rd, mapEnv_ok, compK_lend, forK_lend, fEnum_ap, enumSrc_t, once_d3, once_dsd, lim_pos, Nat.reduceBEq, Nat.reduceAdd, Nat.reduceLeDiff, List.getElem?_cons_zero, List.getElem?_cons_succ, List.set_cons_zero, List.set_cons_succ, Out.bind_ok, Option.bind_some, Option.map_some, Bool.not_true, Bool.not_false, List.length_cons, List.length_nil, i0, n1, g9]
  unfold b29
  rw [fSeq_ap, st0, Out.bind_ok, seqK_next, fSeq_ap, st1, Out.bind_ok, seqK_next, fSeq_ap, st2, Out.bind_ok, seqK_next, fSeq_ap, st3, Out.bind_ok, seqK_next, fSeq_ap, st4, Out.bind_ok, seqK_next, st5]
  rfl
end KK

set_option Elab.async false
set_option linter.all false
set_option maxRecDepth 100000
set_option maxHeartbeats 4000000
namespace KK
open PySem L2 Nz
open Nz (D Arg)
variable {m : Str} {n : Nat}
theorem cn_ok (hm : m ∈ marks9) : Cn (run 29) m := by
  obtain ⟨_, h5, _⟩ := sfx_of (m_sfx hm)
  have h5 : (cp m).length ≤ 5 := h5
  refine ⟨fun t Tt j hj hj2 => ?_, fun t Tt => odd_ok (n := 27) Tt, fun t Tt => lot_run (n := 27) hm Tt, fun l hl => cond_ok 21 hm hl, fun l hl => ?_, fun l hl => ?_, fun l hl s hs => ?_⟩
  · obtain ⟨a, t', h1, h2, h3, h4⟩ := pick_ok 28 Tt (m := (j : Int)) (by omega) (by omega)
    refine ⟨a.toNat, t', by omega, h3, ?_⟩
    rw [h4]
    have : ((a.toNat : Nat) : Int) = a := by omega
    rw [this]
  · have h := spl_lotof (23 - 4 * (cp m).length) hm (l.map cp)
    have en : 23 - 4 * (cp m).length + 4 + 4 * (cp m).length + 2 = 29 := by omega
    rw [en, spf_lot hm hl] at h
    exact h
  · obtain ⟨s, t, h1, h2, h3, h4, h6⟩ := spl_lsz hm (27 - 2 * (cp m).length) (cp m) (l.map cp) h5 (fun c hc => hc)
    have en : 27 - 2 * (cp m).length + 2 + 2 * (cp m).length = 29 := by omega
    rw [en] at h6
    have := Bn_le h5
    exact ⟨s, t, h1, by omega, by omega, h6⟩
  · have h := lholds_ok s (2 * (cp m).length + 2) (27 - 2 * (cp m).length) _ _ (spl_cv (cp m) (l.map cp) (sg_of hm))
    have en : 27 - 2 * (cp m).length + (2 * (cp m).length + 2) = 29 := by omega
    rw [en, spf_every hm hl hs] at h
    exact h
theorem law_ok (ns : List Int) (_ : ns.length ≤ 63) : run 30 29 [scr ns] = .ret (.d (.bl true)) [none] := by
  have e1 : run 29 16 [.d (.frz (ns.map D.int))] = .ret (.new (tp (ns.map D.int) 0 0 1 0)) [none] := tape_ok 28 ns
  obtain ⟨m, t1, hm, T1, e2⟩ := marks_ok 27 (tape_is ns)
  exact law_core rfl hm _ _ _ (cn_ok hm) T1 e1 e2 (kinds_ok (n := 28) hm).1
end KK

set_option Elab.async false
set_option linter.all false
set_option maxRecDepth 100000
set_option maxHeartbeats 4000000
open PySem PySem.W PyProof.Rows
set_option maxRecDepth 100000 in
set_option maxHeartbeats 0 in
theorem PySem.Challenge.cw_narrowahead_k03_whole_conditions_of_lots_holds : PySem.Challenge.rw_narrowahead_k03_whole_conditions_of_lots.Holds := by
  w_on; o_law; k_head; (case hw => w_witness2)
  k_fill
  refine Nz.law_walk (l := PySem.Challenge.rw_narrowahead_k03_whole_conditions_of_lots) (x := "_law_script") (k := 60) rfl rfl ⟨rfl, by decide, by decide⟩ (fun w h Y => PySem.W.kIn_of Y) ?F
  case F =>
    intro w mg fa h KX Gm hmg
    refine' KK.all_mk KX Gm hmg ?a0 ?l0 ?c0 ?k0 ?a1 ?l1 ?c1 ?k1 ?a2 ?l2 ?c2 ?k2 ?a3 ?l3 ?c3 ?k3 ?a4 ?l4 ?c4 ?k4 ?a5 ?l5 ?c5 ?k5 ?a6 ?l6 ?c6 ?k6 ?a7 ?l7 ?c7 ?k7 ?a8 ?l8 ?c8 ?k8 ?a9 ?l9 ?c9 ?k9 ?a10 ?l10 ?c10 ?k10 ?a11 ?l11 ?c11 ?k11 ?a12 ?l12 ?c12 ?k12 ?a13 ?l13 ?c13 ?k13 ?a14 ?l14 ?c14 ?k14 ?a15 ?l15 ?c15 ?k15 ?a16 ?l16 ?c16 ?k16 ?a17 ?l17 ?c17 ?k17 ?a18 ?l18 ?c18 ?k18 ?a19 ?l19 ?c19 ?k19 ?a20 ?l20 ?c20 ?k20 ?a21 ?l21 ?c21 ?k21 ?a22 ?l22 ?c22 ?k22 ?a23 ?l23 ?c23 ?k23 ?a24 ?l24 ?c24 ?k24 ?a25 ?l25 ?c25 ?k25 ?a26 ?l26 ?c26 ?k26 ?a27 ?l27 ?c27 ?k27 ?a28 ?l28 ?c28 ?k28 ?a29 ?l29 ?c29 ?k29 ?z_all ?z_any ?z_int ?z_isinstance ?z_len ?z_list ?z_max ?z_range ?z_sorted ?z_str ?z_sum ?z_tuple ?y_MOST_CONDITIONS ?y_MOST_DEEP ?y_MOST_MARKS ?y_MOST_PARTS ?y_SMALL ?gX0 ?gX1 ?gX2 ?gX3 ?xkb ?xkd ?bX0 ?hX0 ?tX0 ?kX0 ?aX0 ?uX0 ?eX0 ?cX0 ?mX0 ?bX1 ?hX1 ?tX1 ?kX1 ?aX1 ?uX1 ?eX1 ?cX1 ?mX1 ?bX2 ?hX2 ?tX2 ?sb0_2 ?sb1_2 ?sb0_0 ?sb1_0 ?sb1_1 ?sb0_1 ?bX3 ?hX3 ?tX3 ?sb0_3 ?sb1_3 KK.law_ok
    (case a0 => k_is); (case l0 => k_is); (case c0 => k_is); (case k0 => k_is); (case a1 => k_is); (case l1 => k_is)
    (case c1 => k_is); (case k1 => k_is); (case a2 => k_is); (case l2 => k_is); (case c2 => k_is); (case k2 => k_is)
    (case a3 => k_is); (case l3 => k_is); (case c3 => k_is); (case k3 => k_is); (case a4 => k_is); (case l4 => k_is)
    (case c4 => k_is); (case k4 => k_is); (case a5 => k_is); (case l5 => k_is); (case c5 => k_is); (case k5 => k_is)
    (case a6 => k_is); (case l6 => k_is); (case c6 => k_is); (case k6 => k_is); (case a7 => k_is); (case l7 => k_is)
    (case c7 => k_is); (case k7 => k_is); (case a8 => k_is); (case l8 => k_is); (case c8 => k_is); (case k8 => k_is)
    (case a9 => k_is); (case l9 => k_is); (case c9 => k_is); (case k9 => k_is); (case a10 => k_is); (case l10 => k_is)
    (case c10 => k_is); (case k10 => k_is); (case a11 => k_is); (case l11 => k_is); (case c11 => k_is); (case k11 => k_is)
    (case a12 => k_is); (case l12 => k_is); (case c12 => k_is); (case k12 => k_is); (case a13 => k_is); (case l13 => k_is)
    (case c13 => k_is); (case k13 => k_is); (case a14 => k_is); (case l14 => k_is); (case c14 => k_is); (case k14 => k_is)
    (case a15 => k_is); (case l15 => k_is); (case c15 => k_is); (case k15 => k_is); (case a16 => k_is); (case l16 => k_is)
    (case c16 => k_is); (case k16 => k_is); (case a17 => k_is); (case l17 => k_is); (case c17 => k_is); (case k17 => k_is)
    (case a18 => k_is); (case l18 => k_is); (case c18 => k_is); (case k18 => k_is); (case a19 => k_is); (case l19 => k_is)
    (case c19 => k_is); (case k19 => k_is); (case a20 => k_is); (case l20 => k_is); (case c20 => k_is); (case k20 => k_is)
    (case a21 => k_is); (case l21 => k_is); (case c21 => k_is); (case k21 => k_is); (case a22 => k_is); (case l22 => k_is)
    (case c22 => k_is); (case k22 => k_is); (case a23 => k_is); (case l23 => k_is); (case c23 => k_is); (case k23 => k_is)
    (case a24 => k_is); (case l24 => k_is); (case c24 => k_is); (case k24 => k_is); (case a25 => k_is); (case l25 => k_is)
    (case c25 => k_is); (case k25 => k_is); (case a26 => k_is); (case l26 => k_is); (case c26 => k_is); (case k26 => k_is)
    (case a27 => k_is); (case l27 => k_is); (case c27 => k_is); (case k27 => k_is); (case a28 => k_is); (case l28 => k_is)
    (case c28 => k_is); (case k28 => k_is); (case a29 => k_is); (case l29 => k_is); (case c29 => k_is); (case k29 => k_is)
    (case z_all => k_is); (case z_any => k_is); (case z_int => k_is); (case z_isinstance => k_is); (case z_len => k_is); (case z_list => k_is)
    (case z_max => k_is); (case z_range => k_is); (case z_sorted => k_is); (case z_str => k_is); (case z_sum => k_is); (case z_tuple => k_is)
    (case y_MOST_CONDITIONS => k_is); (case y_MOST_DEEP => k_is); (case y_MOST_MARKS => k_is); (case y_MOST_PARTS => k_is); (case y_SMALL => k_is); (case gX0 => k_is)
    (case gX1 => k_is); (case gX2 => k_is); (case gX3 => k_is); (case xkb => k_is); (case xkd => k_is); (case bX0 => k_is)
    (case hX0 => k_is); (case tX0 => k_is); (case kX0 => k_is); (case aX0 => k_is); (case uX0 => k_is); (case eX0 => k_exc)
    (case cX0 => k_is); (case mX0 => k_is); (case bX1 => k_is); (case hX1 => k_is); (case tX1 => k_is); (case kX1 => k_is)
    (case aX1 => k_is); (case uX1 => k_is); (case eX1 => k_exc); (case cX1 => k_is); (case mX1 => k_is); (case bX2 => k_is)
    (case hX2 => k_is); (case tX2 => k_is); (case sb0_2 => first | k_is | rfl); (case sb1_2 => first | k_is | rfl); (case sb0_0 => first | k_is | rfl); (case sb1_0 => first | k_is | rfl)
    (case sb1_1 => first | k_is | rfl); (case sb0_1 => first | k_is | rfl); (case bX3 => k_is); (case hX3 => k_is); (case tX3 => k_is); (case sb0_3 => first | k_is | rfl)
    (case sb1_3 => first | k_is | rfl)
