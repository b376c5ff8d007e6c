import PyProof.Rows.All
import Wide.All
import OpenK.AllK
import Wide.FinOn
import HandS.ForMost
import HandS.IsInst
import HandS.Wide
import HandS.Zip
import HandS.TupAny
import HandS.TupLe
import HandS.TupMul
import HandS.Deep
import HandS.Style
import HandS.Walk
import KE.GoesNew
import KE.GoesMore
import KE.DataMinMax
import HandS.Text
import HandS.Dict
import HandS.SortInts
import HandS.SetFor
import HandS.Defaults
import HandS.Strs
import HandS.Conv
import HandS.List
import PySem.Challenge.RW_roadtables_k07_whole_tables_with_gaps
set_option Elab.async false
set_option linter.all false
set_option maxRecDepth 100000
set_option maxHeartbeats 4000000
namespace PL
open PySem PySem.Spec PyProof.Rows L2

/-! ## data -/
inductive D where
  | non | bl (b : Bool) | int (i : Int) | str (x : Str) | scr (ns : List Int)
  | lst (xs : List D) | tup (xs : List D) | dct (kvs : List ((Int × Int) × Int))

def dK2 (p : (Int × Int) × Int) : List Key × V := ([.inl p.1.1, .inl p.1.2], V.int p.2)

mutual
inductive Rep (K : PySem.W.Frag) (G : Hp) : D → V → Prop
  | non : Rep K G .non .non
  | bl (b : Bool) : Rep K G (.bl b) (.bl b)
  | int (i : Int) : Rep K G (.int i) (.int i)
  | str (x : Str) : Rep K G (.str x) (.str x)
  | scr {a : Addr} {ns : List Int} : SqL K G a (ns.map V.int) → Rep K G (.scr ns) (.ref a)
  | lst {a : Addr} {vs : List V} {ds : List D} : G a = some (.lst vs) → Reps K G ds vs → Rep K G (.lst ds) (.ref a)
  | tup {a : Addr} {vs : List V} {ds : List D} : G a = some (.tup vs) → Reps K G ds vs → Rep K G (.tup ds) (.ref a)
  | dct {a : Addr} {kvs : List ((Int × Int) × Int)} : G a = some (.dT (kvs.map dK2)) → Rep K G (.dct kvs) (.ref a)
inductive Reps (K : PySem.W.Frag) (G : Hp) : List D → List V → Prop
  | nil : Reps K G [] []
  | cons {d : D} {v : V} {ds : List D} {vs : List V} : Rep K G d v → Reps K G ds vs → Reps K G (d :: ds) (v :: vs)
end

/-- G grows -/
abbrev Ex := L2.Same
theorem Ex.refl (H : Hp) : Ex H H := Same.refl H
theorem Ex.trans {H H1 H2 : Hp} (a : Ex H H1) (b : Ex H1 H2) : Ex H H2 := Same.trans a b
theorem Ex.new {H : Hp} {p : Addr} {o : HO} (h : H p = none) : Ex H (upd H p o) := fun a u e => by
  rw [upd_ne (ne_of_none e h)]; exact e
theorem Ex.free {H H' : Hp} {p : Addr} (e : Ex H H') (h : H' p = none) : H p = none := Same.free e h
theorem Ex.upd2 {G H : Hp} {p : Addr} {o : HO} (e : Ex G H) : Ex (upd G p o) (upd H p o) := fun a u h => by
  by_cases q : a = p
  · subst q; rw [upd_same] at h ⊢; exact h
  · rw [upd_ne q] at h ⊢; exact e a u h
theorem Ex.updR {G H : Hp} {p : Addr} {o : HO} (e : Ex G H) (h : G p = none) : Ex G (upd H p o) := fun a u ha => by
  rw [upd_ne (ne_of_none ha h)]; exact e a u ha
theorem Ex.sql {K : PySem.W.Frag} {H H' : Hp} {a : Addr} {xs : List V} (e : Ex H H') (h : SqL K H a xs) : SqL K H' a xs := Same.seq e h

mutual
theorem Rep.mono {K : PySem.W.Frag} {G G' : Hp} (e : Ex G G') : ∀ {d : D} {v : V}, Rep K G d v → Rep K G' d v
  | _, _, .non => .non
  | _, _, .bl b => .bl b
  | _, _, .int i => .int i
  | _, _, .str x => .str x
  | _, _, .scr h => .scr (e.sql h)
  | _, _, .lst h r => .lst (e _ _ h) (Reps.mono e r)
  | _, _, .tup h r => .tup (e _ _ h) (Reps.mono e r)
  | _, _, .dct h => .dct (e _ _ h)
theorem Reps.mono {K : PySem.W.Frag} {G G' : Hp} (e : Ex G G') : ∀ {ds : List D} {vs : List V}, Reps K G ds vs → Reps K G' ds vs
  | _, _, .nil => .nil
  | _, _, .cons h r => .cons (Rep.mono e h) (Reps.mono e r)
end
theorem Reps.length {K : PySem.W.Frag} {G : Hp} : ∀ {ds : List D} {vs : List V}, Reps K G ds vs → ds.length = vs.length
  | _, _, .nil => rfl
  | _, _, .cons _ r => by rw [List.length_cons, List.length_cons, r.length]
theorem Reps.get {K : PySem.W.Frag} {G : Hp} : ∀ {ds : List D} {vs : List V} {i : Nat} {d : D}, Reps K G ds vs → ds[i]? = some d → ∃ v, vs[i]? = some v ∧ Rep K G d v
  | _, _, _, _, .nil, e => by simp at e
  | _, _, 0, _, .cons r _, e => by simp at e; subst e; exact ⟨_, rfl, r⟩
  | _, _, i + 1, _, .cons _ t, e => by
    obtain ⟨u, h1, h2⟩ := Reps.get (i := i) t (by simpa using e)
    exact ⟨u, by simpa using h1, h2⟩
theorem Reps.getV {K : PySem.W.Frag} {G : Hp} {ds : List D} {vs : List V} {i : Nat} {v : V} (h : Reps K G ds vs) (e : vs[i]? = some v) : ∃ d, ds[i]? = some d ∧ Rep K G d v := by
  have hi : i < ds.length := by rw [h.length]; exact (List.getElem?_eq_some_iff.mp e).1
  obtain ⟨u, h1, h2⟩ := h.get (List.getElem?_eq_getElem hi)
  rw [e] at h1; cases h1
  exact ⟨_, List.getElem?_eq_getElem hi, h2⟩
theorem Reps.append {K : PySem.W.Frag} {G : Hp} : ∀ {ds es : List D} {vs ws : List V}, Reps K G ds vs → Reps K G es ws → Reps K G (ds ++ es) (vs ++ ws)
  | _, _, _, _, .nil, s => s
  | _, _, _, _, .cons r t, s => .cons r (Reps.append t s)
theorem Reps.take {K : PySem.W.Frag} {G : Hp} : ∀ {ds : List D} {vs : List V} (n : Nat), Reps K G ds vs → Reps K G (ds.take n) (vs.take n)
  | _, _, 0, _ => by simp; exact .nil
  | _, _, _ + 1, .nil => by simp; exact .nil
  | _, _, n + 1, .cons r t => .cons r (Reps.take n t)
theorem Reps.drop {K : PySem.W.Frag} {G : Hp} : ∀ {ds : List D} {vs : List V} (n : Nat), Reps K G ds vs → Reps K G (ds.drop n) (vs.drop n)
  | _, _, 0, r => by simpa using r
  | _, _, _ + 1, .nil => by simp; exact .nil
  | _, _, n + 1, .cons _ t => by simpa using Reps.drop n t
theorem Reps.set {K : PySem.W.Frag} {G : Hp} {d : D} {v : V} (r : Rep K G d v) : ∀ {ds : List D} {vs : List V} (i : Nat), Reps K G ds vs → Reps K G (ds.set i d) (vs.set i v)
  | _, _, _, .nil => .nil
  | _, _, 0, .cons _ t => .cons r t
  | _, _, i + 1, .cons q t => .cons q (Reps.set r i t)
theorem Reps.reverse {K : PySem.W.Frag} {G : Hp} {ds : List D} {vs : List V} (h : Reps K G ds vs) : Reps K G ds.reverse vs.reverse := by
  induction ds generalizing vs with
  | nil => cases h; exact .nil
  | cons d ds ih =>
    cases h with
    | cons r t => simp only [List.reverse_cons]; exact (ih t).append (.cons r .nil)
theorem Reps.ints {K : PySem.W.Frag} {G : Hp} : ∀ {ns : List Int} {vs : List V}, Reps K G (ns.map D.int) vs → vs = ns.map V.int
  | [], _, .nil => rfl
  | _ :: _, _, .cons (.int _) t => by rw [List.map_cons, Reps.ints t]
theorem Reps.ofInts {K : PySem.W.Frag} {G : Hp} : ∀ (ns : List Int), Reps K G (ns.map D.int) (ns.map V.int)
  | [] => .nil
  | n :: ns => .cons (.int n) (Reps.ofInts ns)
theorem Reps.strs {K : PySem.W.Frag} {G : Hp} : ∀ {ns : List Str} {vs : List V}, Reps K G (ns.map D.str) vs → vs = ns.map V.str
  | [], _, .nil => rfl
  | _ :: _, _, .cons (.str _) t => by rw [List.map_cons, Reps.strs t]
theorem Reps.ofStrs {K : PySem.W.Frag} {G : Hp} : ∀ (ns : List Str), Reps K G (ns.map D.str) (ns.map V.str)
  | [] => .nil
  | n :: ns => .cons (.str n) (Reps.ofStrs ns)
theorem Reps.bls {K : PySem.W.Frag} {G : Hp} : ∀ {ns : List Bool} {vs : List V}, Reps K G (ns.map D.bl) vs → vs = ns.map V.bl
  | [], _, .nil => rfl
  | _ :: _, _, .cons (.bl _) t => by rw [List.map_cons, Reps.bls t]

/-! ## cells, environments -/
inductive Cell where
  | p (d : D)
  | ol (xs : List D)
  | oll (xss : List (List D))
  | od (kvs : List ((Int × Int) × Int))
  | oi (kvs : List (Int × Int))
abbrev DEnv := Nat → Option Cell
def DEnv.set (ρ : DEnv) (i : Nat) (c : Cell) : DEnv := fun j => if j = i then some c else ρ j
def DEnv.wipe (ρ : DEnv) (vs : List Nat) : DEnv := fun j => if j ∈ vs then none else ρ j
def dKi (p : Int × Int) : Key × V := (.inl p.1, V.int p.2)

/-- what a cell is, for reading -/
def CellE (K : PySem.W.Frag) (G H : Hp) : Cell → V → Prop
  | .p d, v => Rep K G d v
  | .ol xs, v => ∃ a vs, v = .ref a ∧ H a = some (.lst vs) ∧ Reps K G xs vs
  | .oll xss, v => ∃ (a : Addr) (bs : List Addr), v = .ref a ∧ H a = some (.lst (bs.map V.ref)) ∧ Paired (fun b xs => ∃ vs, H b = some (.lst vs) ∧ Reps K G xs vs) bs xss
  | .od kvs, v => ∃ a, v = .ref a ∧ H a = some (.dT (kvs.map dK2))
  | .oi kvs, v => ∃ a, v = .ref a ∧ H a = some (.dK (kvs.map dKi))
theorem Paired.map2 {α β : Type} {F G : α → β → Prop} : ∀ {l₁ : List α} {l₂ : List β}, Paired F l₁ l₂ → (∀ a b, F a b → G a b) → Paired G l₁ l₂
  | _, _, .nil, _ => .nil
  | _, _, .cons r t, f => .cons (f _ _ r) (Paired.map2 t f)
theorem CellE.mono {K : PySem.W.Frag} {G H G' H' : Hp} (g : Ex G G') (h : Ex H H') : ∀ {c : Cell} {v : V}, CellE K G H c v → CellE K G' H' c v
  | .p d, v, r => Rep.mono g r
  | .ol xs, v, ⟨a, vs, e, q, r⟩ => ⟨a, vs, e, h _ _ q, r.mono g⟩
  | .oll xss, v, ⟨a, bs, e, q, r⟩ => ⟨a, bs, e, h _ _ q, Paired.map2 r fun b xs ⟨vs, z, y⟩ => ⟨vs, h _ _ z, y.mono g⟩⟩
  | .od kvs, v, ⟨a, e, q⟩ => ⟨a, e, h _ _ q⟩
  | .oi kvs, v, ⟨a, e, q⟩ => ⟨a, e, h _ _ q⟩
structure ER (K : PySem.W.Frag) (n : Nat) (ρ : DEnv) (σ : L2.St) (G H : Hp) : Prop where
  len : σ.length = n
  at_ : ∀ i c, ρ i = some c → ∃ v, σ[i]? = some (some v) ∧ CellE K G H c v
theorem ER.mono {K : PySem.W.Frag} {n : Nat} {ρ : DEnv} {σ : L2.St} {G H G' H' : Hp} (g : Ex G G') (h : Ex H H') (r : ER K n ρ σ G H) : ER K n ρ σ G' H' := ⟨r.len, fun i c e => by
  obtain ⟨v, h1, h2⟩ := r.at_ i c e
  exact ⟨v, h1, h2.mono g h⟩⟩

/-- the frozen part and the heap grow together -/
structure Up (G H G' H' : Hp) : Prop where
  g : Ex G G'
  h : Ex H H'
  le : Ex G' H'
  new : ∀ a o, H a = some o → G a = none → G' a = none
theorem Up.refl {G H : Hp} (e : Ex G H) : Up G H G H := ⟨.refl G, .refl H, e, fun _ _ _ n => n⟩
theorem Up.trans {G H G1 H1 G2 H2 : Hp} (a : Up G H G1 H1) (b : Up G1 H1 G2 H2) : Up G H G2 H2 :=
  ⟨a.g.trans b.g, a.h.trans b.h, b.le, fun x o e n => b.new x o (a.h x o e) (a.new x o e n)⟩
/-- a new pure object -/
theorem Up.pure {G H : Hp} {p : Addr} {o : HO} (e : Ex G H) (h : H p = none) : Up G H (upd G p o) (upd H p o) :=
  ⟨.new (e.free h), .new h, e.upd2, fun a u q n => by rw [upd_ne (ne_of_none q h)]; exact n⟩
/-- a new object, not frozen -/
theorem Up.own {G H : Hp} {p : Addr} {o : HO} (e : Ex G H) (h : H p = none) : Up G H G (upd H p o) :=
  ⟨.refl G, .new h, e.trans (.new h), fun a u q n => n⟩
theorem ER.up {K : PySem.W.Frag} {n : Nat} {ρ : DEnv} {σ : L2.St} {G H G' H' : Hp} (r : ER K n ρ σ G H) (u : Up G H G' H') : ER K n ρ σ G' H' := r.mono u.g u.h

theorem ER.set {K : PySem.W.Frag} {n : Nat} {ρ : DEnv} {σ : L2.St} {G H : Hp} {i : Nat} {c : Cell} {v : V} (r : ER K n ρ σ G H) (hi : i < n) (h : CellE K G H c v) : ER K n (ρ.set i c) (σ.set i (some v)) G H := ⟨by rw [List.length_set]; exact r.len, fun j c' e => by
  unfold DEnv.set at e
  by_cases q : j = i
  · subst q
    rw [if_pos rfl] at e; cases e
    exact ⟨v, by rw [List.getElem?_set_self (by rw [r.len]; exact hi)], h⟩
  · rw [if_neg q] at e
    obtain ⟨w, h1, h2⟩ := r.at_ j c' e
    exact ⟨w, by rw [List.getElem?_set_ne (Ne.symm q)]; exact h1, h2⟩⟩
theorem wipe_get {σ : L2.St} {i : Nat} : ∀ {vs : List Nat}, i ∉ vs → (wipe σ vs)[i]? = σ[i]?
  | [], _ => rfl
  | v :: vs, h => by
    unfold wipe
    rw [List.getElem?_set_ne (fun e => h (by simp [e]))]
    exact wipe_get fun z => h (List.mem_cons_of_mem _ z)
theorem ER.wipe {K : PySem.W.Frag} {n : Nat} {ρ : DEnv} {σ : L2.St} {G H : Hp} {vs : List Nat} (r : ER K n ρ σ G H) : ER K n (ρ.wipe vs) (L2.wipe σ vs) G H := ⟨by rw [wipe_length]; exact r.len, fun j c e => by
  unfold DEnv.wipe at e
  by_cases q : j ∈ vs
  · rw [if_pos q] at e; cases e
  · rw [if_neg q] at e
    obtain ⟨w, h1, h2⟩ := r.at_ j c e
    exact ⟨w, by rw [wipe_get q]; exact h1, h2⟩⟩

/-! ## the judgements of expressions -/
abbrev DE := DEnv → Option D
abbrev DB := DEnv → Option Bool
abbrev DL := DEnv → Option (List D)
/-- a list of pure things that need not be frozen itself -/
def RepT (K : PySem.W.Frag) (G H : Hp) (d : D) (v : V) : Prop :=
  Rep K G d v ∨ (∃ a vs ds, v = .ref a ∧ d = .lst ds ∧ H a = some (.lst vs) ∧ Reps K G ds vs) ∨ (∃ a kvs, v = .ref a ∧ d = .dct kvs ∧ H a = some (.dT (kvs.map dK2)))
theorem RepT.of {K : PySem.W.Frag} {G H : Hp} {d : D} {v : V} (h : Rep K G d v) : RepT K G H d v := .inl h
theorem RepT.mono {K : PySem.W.Frag} {G H G' H' : Hp} (g : Ex G G') (h : Ex H H') {d : D} {v : V} (r : RepT K G H d v) : RepT K G' H' d v := by
  rcases r with r | ⟨a, vs, ds, e, e2, q, r⟩ | ⟨a, kvs, e, e2, q⟩
  · exact .inl (r.mono g)
  · exact .inr (.inl ⟨a, vs, ds, e, e2, h _ _ q, r.mono g⟩)
  · exact .inr (.inr ⟨a, kvs, e, e2, h _ _ q⟩)

def TEok (K : PySem.W.Frag) (nn : Nat) (t : TE) (f : DE) : Prop := ∀ ρ σ G H (Q : VK) d, Ex G H → ER K nn ρ σ G H → f ρ = some d →
  (∀ v G' H', Up G H G' H' → Rep K G' d v → Q v H') → t σ H Q
/-- .. only for reading -/
def TRok (K : PySem.W.Frag) (nn : Nat) (t : TE) (f : DE) : Prop := ∀ ρ σ G H (Q : VK) d, Ex G H → ER K nn ρ σ G H → f ρ = some d →
  (∀ v G' H', Up G H G' H' → RepT K G' H' d v → Q v H') → t σ H Q
/-- .. a new list -/
def TNok (K : PySem.W.Frag) (nn : Nat) (t : TE) (f : DL) : Prop := ∀ ρ σ G H (Q : VK) ds, Ex G H → ER K nn ρ σ G H → f ρ = some ds →
  (∀ p vs G' H', Up G H G' H' → H p = none → G' p = none → H' p = some (.lst vs) → Reps K G' ds vs → Q (.ref p) H') → t σ H Q
def TTok (K : PySem.W.Frag) (nn : Nat) (t : TT) (f : DB) : Prop := ∀ ρ σ G H (Q : Bool → Hp → Prop) b, Ex G H → ER K nn ρ σ G H → f ρ = some b →
  (∀ G' H', Up G H G' H' → Q b H') → t σ H Q
def TAok (K : PySem.W.Frag) (nn : Nat) (t : TA) (f : DL) : Prop := ∀ ρ σ G H (Q : List V → Hp → Prop) ds, Ex G H → ER K nn ρ σ G H → f ρ = some ds →
  (∀ vs G' H', Up G H G' H' → Reps K G' ds vs → Q vs H') → t σ H Q
structure PuE (X : Cx) (e : Expr) (f : DE) : Prop where
  ex : ∃ t, PE X e t ∧ TEok X.K X.N.length t f
structure RdE (X : Cx) (e : Expr) (f : DE) : Prop where
  ex : ∃ t, PE X e t ∧ TRok X.K X.N.length t f
structure NwE (X : Cx) (e : Expr) (f : DL) : Prop where
  ex : ∃ t, PE X e t ∧ TNok X.K X.N.length t f
structure PuT (X : Cx) (e : Expr) (f : DB) : Prop where
  ex : ∃ t, PT X e t ∧ TTok X.K X.N.length t f
structure PuW (X : Cx) (e : Expr) (f : DB) : Prop where
  ex : ∃ t, PW X e t ∧ TTok X.K X.N.length t f
structure PuA (X : Cx) (es : List Expr) (f : DL) : Prop where
  ex : ∃ t, PA X es t ∧ TAok X.K X.N.length t f
section
variable {X : Cx} {e : Expr} {f : DE}
theorem PuE.rd (h : PuE X e f) : RdE X e f := let ⟨t, a, b⟩ := h.ex; ⟨t, a, fun ρ σ G H Q d l r q k => b ρ σ G H Q d l r q fun v G' H' u z => k v G' H' u (.of z)⟩
def eNew (f : DL) : DE := fun ρ => (f ρ).map D.lst
theorem NwE.pu {f : DL} (h : NwE X e f) : PuE X e (eNew f) := let ⟨t, a, b⟩ := h.ex; ⟨t, a, fun ρ σ G H Q d l r q k => by
  unfold eNew at q
  cases z : f ρ with
  | none => rw [z] at q; cases q
  | some ds =>
    rw [z] at q; cases q
    refine b ρ σ G H Q ds l r z fun p vs G' H' u np ng hp rp => k _ (upd G' p (.lst vs)) H' ⟨u.g.trans (.new ng), u.h, fun x o e => ?_, fun x o e n => ?_⟩ (.lst upd_same (rp.mono (.new ng)))
    · by_cases y : x = p
      · subst y; rw [upd_same] at e; cases e; exact hp
      · rw [upd_ne y] at e; exact u.le x o e
    · rw [upd_ne (ne_of_none e np)]; exact u.new x o e n⟩

/-! ## names, constants -/
def ePv (i : Nat) : DE := fun ρ => match ρ i with | some (.p d) => some d | _ => none
def eRv (i : Nat) : DE := fun ρ => match ρ i with | some (.p d) => some d | some (.ol xs) => some (.lst xs) | some (.od kvs) => some (.dct kvs) | _ => none
def eC (d : D) : DE := fun _ => some d
theorem pu_var (i : Nat) {x : Str} {pos : Pos} (hN : X.N[i]? = some x := by rfl) (hv : Vis X.env.scope x := by first | exact Or.inl rfl | exact Or.inr (Or.inl rfl) | exact Or.inr (Or.inr rfl)) (hd : (x == ("__debug__" : Str)) = false := by decide)
    (hcd : (x == ("__classdict__" : Str)) = false := by decide) : PuE X (.Name x pos) (ePv i) := ⟨_, pe_var hN hv hd hcd, fun ρ σ G H Q d l r q k => by
  unfold ePv at q
  cases z : ρ i with
  | none => rw [z] at q; cases q
  | some c =>
    rw [z] at q
    cases c with
    | p d' =>
      cases q
      obtain ⟨v, h1, h2⟩ := r.at_ i _ z
      exact ⟨v, h1, k v G H (.refl l) h2⟩
    | ol _ => cases q
    | oll _ => cases q
    | od _ => cases q
    | oi _ => cases q⟩
theorem rd_var (i : Nat) {x : Str} {pos : Pos} (hN : X.N[i]? = some x := by rfl) (hv : Vis X.env.scope x := by first | exact Or.inl rfl | exact Or.inr (Or.inl rfl) | exact Or.inr (Or.inr rfl)) (hd : (x == ("__debug__" : Str)) = false := by decide)
    (hcd : (x == ("__classdict__" : Str)) = false := by decide) : RdE X (.Name x pos) (eRv i) := ⟨_, pe_var hN hv hd hcd, fun ρ σ G H Q d l r q k => by
  unfold eRv at q
  cases z : ρ i with
  | none => rw [z] at q; cases q
  | some c =>
    rw [z] at q
    obtain ⟨v, h1, h2⟩ := r.at_ i _ z
    refine ⟨v, h1, k v G H (.refl l) ?_⟩
    cases c with
    | p d' => cases q; exact .inl h2
    | ol xs => cases q; obtain ⟨a, vs, e1, e2, e3⟩ := h2; exact .inr (.inl ⟨a, vs, xs, e1, rfl, e2, e3⟩)
    | oll _ => cases q
    | od kvs => cases q; obtain ⟨a, e1, e2⟩ := h2; exact .inr (.inr ⟨a, kvs, e1, rfl, e2⟩)
    | oi _ => cases q⟩
theorem te_c {K : PySem.W.Frag} {nn : Nat} {v : V} {d : D} (h : ∀ G, Rep K G d v) : TEok K nn (tC v) (eC d) := fun ρ σ G H Q d' l r q k => by cases q; exact k v G H (.refl l) (h G)
theorem pu_int {i : Int} {j pos} : PuE X (.Constant (.int i) j pos) (eC (.int i)) := ⟨_, pe_int, te_c fun _ => .int i⟩
theorem pu_bl {b j pos} : PuE X (.Constant (.bool b) j pos) (eC (.bl b)) := ⟨_, pe_bl, te_c fun _ => .bl b⟩
theorem pu_non {j pos} : PuE X (.Constant .none j pos) (eC .non) := ⟨_, pe_non, te_c fun _ => .non⟩
theorem pu_str {x : Str} {j pos} : PuE X (.Constant (.str x) j pos) (eC (.str x)) := ⟨_, pe_str, te_c fun _ => .str x⟩
end

/-! ## operators on two values -/
/-- r meets g: from the operands' data to the answer's -/
def R2ok (K : PySem.W.Frag) (r : R2) (g : D → D → Option D) : Prop := ∀ G H x y (d e z : D) (Q : VK), Ex G H → RepT K G H d x → RepT K G H e y → g d e = some z →
  (∀ v G' H', Up G H G' H' → Rep K G' z v → Q v H') → r x y H Q
def e2 (g : D → D → Option D) (a b : DE) : DE := fun ρ => (a ρ).bind fun d => (b ρ).bind fun e => g d e
theorem te_op {K : PySem.W.Frag} {nn : Nat} {ta tb : TE} {a b : DE} {r : R2} {g : D → D → Option D} (ha : TRok K nn ta a) (hb : TRok K nn tb b) (hr : R2ok K r g) : TEok K nn (tOp r ta tb) (e2 g a b) := fun ρ σ G H Q z l r0 q k => by
  unfold e2 at q
  cases q1 : a ρ with
  | none => rw [q1] at q; cases q
  | some d =>
    rw [q1] at q
    cases q2 : b ρ with
    | none => rw [q2] at q; cases q
    | some e =>
      rw [q2] at q
      refine ha ρ σ G H _ d l r0 q1 fun x G1 H1 u1 rx => ?_
      refine hb ρ σ G1 H1 _ e u1.le (r0.up u1) q2 fun y G2 H2 u2 ry => ?_
      exact hr G2 H2 x y d e z Q u2.le (rx.mono u2.g u2.h) ry q fun v G3 H3 u3 rv => k v G3 H3 ((u1.trans u2).trans u3) rv
def gII (f : Int → Int → Option D) : D → D → Option D | .int i, .int j => f i j | _, _ => none
theorem RepT.int_inv {K : PySem.W.Frag} {G H : Hp} {i : Int} {v : V} (h : RepT K G H (.int i) v) : v = .int i := by
  rcases h with h | ⟨_, _, _, _, e, _⟩ | ⟨_, _, _, e, _⟩
  · cases h; rfl
  · cases e
  · cases e
theorem RepT.str_inv {K : PySem.W.Frag} {G H : Hp} {i : Str} {v : V} (h : RepT K G H (.str i) v) : v = .str i := by
  rcases h with h | ⟨_, _, _, _, e, _⟩ | ⟨_, _, _, e, _⟩
  · cases h; rfl
  · cases e
  · cases e
theorem RepT.bl_inv {K : PySem.W.Frag} {G H : Hp} {i : Bool} {v : V} (h : RepT K G H (.bl i) v) : v = .bl i := by
  rcases h with h | ⟨_, _, _, _, e, _⟩ | ⟨_, _, _, e, _⟩
  · cases h; rfl
  · cases e
  · cases e
theorem RepT.non_inv {K : PySem.W.Frag} {G H : Hp} {v : V} (h : RepT K G H .non v) : v = .non := by
  rcases h with h | ⟨_, _, _, _, e, _⟩ | ⟨_, _, _, e, _⟩
  · cases h; rfl
  · cases e
  · cases e
theorem RepT.lst_inv {K : PySem.W.Frag} {G H : Hp} {ds : List D} {v : V} (l : Ex G H) (h : RepT K G H (.lst ds) v) : ∃ a vs, v = .ref a ∧ H a = some (.lst vs) ∧ Reps K G ds vs := by
  rcases h with h | ⟨a, vs, ds', e1, e, e2, e3⟩ | ⟨_, _, _, e, _⟩
  · cases h with | lst h1 h2 => exact ⟨_, _, rfl, l _ _ h1, h2⟩
  · cases e; exact ⟨a, vs, e1, e2, e3⟩
  · cases e
theorem RepT.tup_inv {K : PySem.W.Frag} {G H : Hp} {ds : List D} {v : V} (h : RepT K G H (.tup ds) v) : ∃ a vs, v = .ref a ∧ G a = some (.tup vs) ∧ Reps K G ds vs := by
  rcases h with h | ⟨a, vs, ds', e1, e, e2, e3⟩ | ⟨_, _, _, e, _⟩
  · cases h with | tup h1 h2 => exact ⟨_, _, rfl, h1, h2⟩
  · cases e
  · cases e
theorem RepT.scr_inv {K : PySem.W.Frag} {G H : Hp} {ns : List Int} {v : V} (l : Ex G H) (h : RepT K G H (.scr ns) v) : ∃ a, v = .ref a ∧ SqL K H a (ns.map V.int) := by
  rcases h with h | ⟨a, vs, ds', e1, e, e2, e3⟩ | ⟨_, _, _, e, _⟩
  · cases h with | scr h1 => exact ⟨_, rfl, l.sql h1⟩
  · cases e
  · cases e
theorem RepT.dct_inv {K : PySem.W.Frag} {G H : Hp} {kvs : List ((Int × Int) × Int)} {v : V} (l : Ex G H) (h : RepT K G H (.dct kvs) v) : ∃ a, v = .ref a ∧ H a = some (.dT (kvs.map dK2)) := by
  rcases h with h | ⟨a, vs, ds', e1, e, e2, e3⟩ | ⟨a, kvs', e1, e, e2⟩
  · cases h with | dct h1 => exact ⟨_, rfl, l _ _ h1⟩
  · cases e
  · cases e; exact ⟨a, e1, e2⟩
theorem r2_I0 {K : PySem.W.Frag} {g : Int → Int → V} {g' : Int → Int → D} (h : ∀ i j G, Rep K G (g' i j) (g i j)) : R2ok K (rI0 g) (gII fun i j => some (g' i j)) := fun G H x y d e z Q l rx ry q k => by
  cases d <;> cases e <;> first | cases q | skip
  rw [rx.int_inv, ry.int_inv]
  exact ⟨_, _, rfl, rfl, k _ G H (.refl l) (h _ _ _)⟩
theorem r2_I {K : PySem.W.Frag} {C : Int → Int → Prop} {g : Int → Int → V} {g' : Int → Int → Option D} (h : ∀ i j z, g' i j = some z → C i j ∧ ∀ G, Rep K G z (g i j)) : R2ok K (rI C g) (gII g') := fun G H x y d e z Q l rx ry q k => by
  cases d <;> cases e <;> first | cases q | skip
  rw [rx.int_inv, ry.int_inv]
  obtain ⟨hc, hr⟩ := h _ _ _ q
  exact ⟨_, _, rfl, rfl, hc, k _ G H (.refl l) (hr G)⟩
end PL

namespace PL
open PySem PySem.Spec PyProof.Rows L2

/-! ## equality of data -/
mutual
def D.toP : D → PyData
  | .non => .none | .bl b => .bool b | .int i => .int i | .str x => .str x
  | .scr ns => .list (ns.map PyData.int)
  | .lst xs => .list (D.toPs xs) | .tup xs => .tuple (D.toPs xs) | .dct _ => .dict []
def D.toPs : List D → List PyData
  | [] => [] | d :: ds => d.toP :: D.toPs ds
end
mutual
/-- no dict within, texts that can be, at most n deep -/
def D.ok : D → Nat → Bool
  | .non, _ | .bl _, _ | .int _, _ => true
  | .str x, _ => PyData.strOk x
  | .scr _, n => decide (2 ≤ n)
  | .lst xs, n => match n with | 0 => false | n + 1 => D.oks xs n
  | .tup xs, n => match n with | 0 => false | n + 1 => D.oks xs n
  | .dct _, _ => false
def D.oks : List D → Nat → Bool
  | [], _ => true
  | d :: ds, n => d.ok n && D.oks ds n
end
theorem oks_all (n : Nat) : ∀ ds : List D, D.oks ds n = ds.all (fun d => d.ok n)
  | [] => rfl
  | d :: ds => by rw [D.oks, oks_all n ds]; rfl
theorem ok_lst (xs : List D) (n : Nat) : (D.lst xs).ok (n + 1) = xs.all fun d => d.ok n := by rw [D.ok, oks_all]
theorem ok_tup (xs : List D) (n : Nat) : (D.tup xs).ok (n + 1) = xs.all fun d => d.ok n := by rw [D.ok, oks_all]
theorem toPs_map : ∀ ds : List D, D.toPs ds = ds.map D.toP
  | [] => rfl
  | d :: ds => by rw [D.toPs, toPs_map ds]; rfl
theorem lay_ints : ∀ ns : List Int, PyData.canLayAll0 (ns.map PyData.int) = true
  | [] => rfl
  | n :: ns => by rw [List.map_cons, PyData.canLayAll0, lay_ints ns]; rfl
theorem dep_ints : ∀ ns : List Int, PyData.depthAll (ns.map PyData.int) ≤ 1
  | [] => by simp [PyData.depthAll]
  | n :: ns => by rw [List.map_cons, PyData.depthAll, PyData.depth]; have := dep_ints ns; omega
mutual
theorem ok_lay : ∀ (d : D) (n : Nat), d.ok n = true → d.toP.canLay0 = true ∧ d.toP.depth ≤ n + 1
  | .non, _, _ => ⟨rfl, by simp [D.toP, PyData.depth]⟩
  | .bl _, _, _ => ⟨rfl, by simp [D.toP, PyData.depth]⟩
  | .int _, _, _ => ⟨rfl, by simp [D.toP, PyData.depth]⟩
  | .str x, _, h => ⟨by simpa [D.toP, PyData.canLay0, D.ok] using h, by simp [D.toP, PyData.depth]⟩
  | .scr ns, n, h => ⟨by simp [D.toP, PyData.canLay0, lay_ints], by
      have h' : 2 ≤ n := by simpa [D.ok] using h
      have := dep_ints ns
      simp only [D.toP, PyData.depth]; omega⟩
  | .lst xs, n, h => by
    cases n with
    | zero => simp [D.ok] at h
    | succ n =>
      have h' := oks_lay xs n (by simpa [D.ok] using h)
      exact ⟨by simpa [D.toP, PyData.canLay0] using h'.1, by simp only [D.toP, PyData.depth]; omega⟩
  | .tup xs, n, h => by
    cases n with
    | zero => simp [D.ok] at h
    | succ n =>
      have h' := oks_lay xs n (by simpa [D.ok] using h)
      exact ⟨by simpa [D.toP, PyData.canLay0] using h'.1, by simp only [D.toP, PyData.depth]; omega⟩
  | .dct _, _, h => by simp [D.ok] at h
theorem oks_lay : ∀ (ds : List D) (n : Nat), D.oks ds n = true → PyData.canLayAll0 (D.toPs ds) = true ∧ PyData.depthAll (D.toPs ds) ≤ n + 1
  | [], _, _ => ⟨rfl, by simp [D.toPs, PyData.depthAll]⟩
  | d :: ds, n, h => by
    have h' : d.ok n = true ∧ D.oks ds n = true := by simpa [D.oks] using h
    have h1 := ok_lay d n h'.1
    have h2 := oks_lay ds n h'.2
    exact ⟨by simp [D.toPs, PyData.canLayAll0, h1.1, h2.1], by simp only [D.toPs, PyData.depthAll]; omega⟩
end
theorem ok_shaped {d : D} (h : d.ok 50 = true) : SeqAt.shaped d.toP = true := by
  have h' := ok_lay d 50 h
  unfold SeqAt.shaped
  rw [h'.1, decide_eq_true (by omega)]; rfl
theorem dpAll_ints {K : PySem.W.Frag} {H : Hp} : ∀ ns : List Int, DpAll K H (ns.map V.int) (ns.map PyData.int)
  | [] => .nil
  | n :: ns => .cons (.int n) (dpAll_ints ns)
mutual
theorem Rep.dp {K : PySem.W.Frag} {G : Hp} : ∀ {d : D} {v : V} {n : Nat}, Rep K G d v → d.ok n = true → Dp K G v d.toP
  | _, _, _, .non, _ => .non
  | _, _, _, .bl b, _ => .bl b
  | _, _, _, .int i, _ => .int i
  | _, _, _, .str x, _ => .str x
  | _, _, _, .scr h, _ => by rw [D.toP]; exact .lst h (dpAll_ints _)
  | _, _, n, .lst h r, o => by
    cases n with
    | zero => simp [D.ok] at o
    | succ n => rw [D.toP]; exact .lst (.of h) (Reps.dp r (by simpa [D.ok] using o))
  | _, _, n, .tup h r, o => by
    cases n with
    | zero => simp [D.ok] at o
    | succ n => rw [D.toP]; exact .tup (.of h) (Reps.dp r (by simpa [D.ok] using o))
  | _, _, _, .dct _, o => by simp [D.ok] at o
theorem Reps.dp {K : PySem.W.Frag} {G : Hp} : ∀ {ds : List D} {vs : List V} {n : Nat}, Reps K G ds vs → D.oks ds n = true → DpAll K G vs (D.toPs ds)
  | _, _, _, .nil, _ => by rw [D.toPs]; exact .nil
  | _, _, n, .cons r t, o => by
    rename_i d v ds vs
    have h' : d.ok n = true ∧ D.oks ds n = true := by simpa [D.oks] using o
    rw [D.toPs]
    exact .cons (Rep.dp r h'.1) (Reps.dp t h'.2)
end
theorem RepT.dp {K : PySem.W.Frag} {G H : Hp} {d : D} {v : V} (l : Ex G H) (h : RepT K G H d v) (o : d.ok 50 = true) : Dp K H v d.toP := by
  rcases h with h | ⟨a, vs, ds, rfl, rfl, e, r⟩ | ⟨a, kvs, rfl, rfl, e⟩
  · exact Rep.dp (h.mono l) o
  · rw [D.toP]
    exact .lst (.of e) (Reps.dp (r.mono l) (n := 49) (by simpa [D.ok] using o))
  · simp [D.ok] at o
def D.eqv (d e : D) : Bool := PyData.eqv d.toP e.toP
def gEq (d e : D) : Option D := if d.ok 50 && e.ok 50 then some (.bl (d.eqv e)) else none
def gNe (d e : D) : Option D := if d.ok 50 && e.ok 50 then some (.bl (!d.eqv e)) else none
theorem r2_eq {K : PySem.W.Frag} : R2ok K (rEqD K) gEq := fun G H x y d e z Q l rx ry q k => by
  unfold gEq at q
  split at q
  · rename_i h
    cases q
    have h' : d.ok 50 = true ∧ e.ok 50 = true := by simpa using h
    exact ⟨_, _, rx.dp l h'.1, ry.dp l h'.2, ok_shaped h'.1, ok_shaped h'.2, k _ G H (.refl l) (.bl _)⟩
  · cases q
theorem r2_ne {K : PySem.W.Frag} : R2ok K (rNeD K) gNe := fun G H x y d e z Q l rx ry q k => by
  unfold gNe at q
  split at q
  · rename_i h
    cases q
    have h' : d.ok 50 = true ∧ e.ok 50 = true := by simpa using h
    exact ⟨_, _, rx.dp l h'.1, ry.dp l h'.2, ok_shaped h'.1, ok_shaped h'.2, k _ G H (.refl l) (.bl _)⟩
  · cases q

/-! ## arithmetic -/
def gAddI (d e : D) : Option D := match d, e with | .int i, .int j => some (.int (i + j)) | _, _ => none
def szB (n : Nat) : Bool := decide (n ≤ 16777216)
theorem szB_le {n : Nat} (h : szB n = true) : n ≤ sizeLine := by rw [sizeLine_eq]; exact of_decide_eq_true h
def gAdd (d e : D) : Option D := match d, e with
  | .int i, .int j => some (.int (i + j))
  | .tup a, .tup b => if szB (a.length + b.length) then some (.tup (a ++ b)) else none
  | .lst a, .lst b => if szB (a.length + b.length) then some (.lst (a ++ b)) else none
  | .str a, .str b => if szB (a.length + b.length) then some (.str (a ++ b)) else none
  | _, _ => none
def rAddA (K : PySem.W.Frag) : R2 := fun x y H Q => rI0 (fun i j => .int (i + j)) x y H Q ∨ rCatA K x y H Q ∨ rCat x y H Q ∨ (∃ i j, x = .str i ∧ y = .str j ∧ i.length + j.length ≤ sizeLine ∧ Q (.str (i ++ j)) H)
theorem op_addA {X : Cx} : OpR X (binaryOp .Add) (rAddA X.K) := op_add.or (op_catA.or (op_cat.or op_add_str))
theorem Reps.nil_iff {K : PySem.W.Frag} {G : Hp} {ds : List D} {vs : List V} (r : Reps K G ds vs) : ds = [] ↔ vs = [] := by
  cases r with
  | nil => simp
  | cons _ _ => simp
theorem r2_add {K : PySem.W.Frag} : R2ok K (rAddA K) gAdd := fun G H x y d e z Q l rx ry q k => by
  cases d <;> cases e <;> first | cases q | skip
  case int.int i j =>
    rw [rx.int_inv, ry.int_inv]
    exact .inl ⟨_, _, rfl, rfl, k _ G H (.refl l) (.int _)⟩
  case str.str i j =>
    rw [rx.str_inv, ry.str_inv]
    simp only [gAdd] at q
    split at q
    · rename_i hz; cases q
      exact .inr (.inr (.inr ⟨_, _, rfl, rfl, szB_le hz, k _ G H (.refl l) (.str _)⟩))
    · cases q
  case lst.lst a b =>
    obtain ⟨p, vs, rfl, hp, rp⟩ := rx.lst_inv l
    obtain ⟨p', vs', rfl, hp', rp'⟩ := ry.lst_inv l
    simp only [gAdd] at q
    split at q
    · rename_i hz; cases q
      refine .inr (.inr (.inl ⟨p, p', vs, vs', rfl, rfl, hp, hp', by rw [← rp.length, ← rp'.length]; exact szB_le hz, fun n hn => ?_⟩))
      exact k _ _ _ (.pure l hn) (.lst upd_same ((rp.append rp').mono (.new (l.free hn))))
    · cases q
  case tup.tup a b =>
    obtain ⟨p, vs, rfl, hp, rp⟩ := rx.tup_inv
    obtain ⟨p', vs', rfl, hp', rp'⟩ := ry.tup_inv
    simp only [gAdd] at q
    split at q
    · rename_i hz; cases q
      refine .inr (.inl ⟨p, p', vs, vs', rfl, rfl, .of (l _ _ hp), .of (l _ _ hp'), by rw [← rp.length, ← rp'.length]; exact szB_le hz, fun h0 => ?_, fun h0 h1 => ?_, fun h0 h1 n hn => ?_⟩)
      · have e : a = [] := rp.nil_iff.mpr h0
        subst e
        exact k _ G H (.refl l) (.tup hp' rp')
      · have e : b = [] := rp'.nil_iff.mpr h1
        subst e
        rw [List.append_nil] at k
        exact k _ G H (.refl l) (.tup hp rp)
      · exact k _ _ _ (.pure l hn) (.tup upd_same ((rp.append rp').mono (.new (l.free hn))))
    · cases q
def gSub : D → D → Option D := gII fun i j => some (.int (i - j))
theorem r2_sub {K : PySem.W.Frag} : R2ok K (rI0 fun i j => .int (i - j)) gSub := r2_I0 fun i j G => .int _
/-- products: one factor below 2^64, or both of moderate size -/
def mulB (i j : Int) : Bool := decide (i.natAbs < 18446744073709551616) || decide (j.natAbs < 18446744073709551616)
def gMul : D → D → Option D := gII fun i j => if mulB i j then some (.int (i * j)) else none
theorem r2_mul {K : PySem.W.Frag} : R2ok K (rI CMul fun i j => .int (i * j)) gMul := r2_I fun i j z q => by
  unfold mulB at q
  split at q
  · rename_i h
    cases q
    refine ⟨?_, fun G => .int _⟩
    unfold CMul
    rw [Bool.or_eq_true, decide_eq_true_iff, decide_eq_true_iff] at h
    have e : (2 : Int) ^ 64 = 18446744073709551616 := by decide
    rw [e]
    rcases h with h | h
    · exact .inl ⟨by omega, by omega⟩
    · exact .inr ⟨by omega, by omega⟩
  · cases q
/-- // and % by a positive number -/
def gDiv : D → D → Option D := gII fun i j => if 0 < j ∧ j < 4294967296 then some (.int (i / j)) else none
theorem r2_div {K : PySem.W.Frag} : R2ok K (rI CDivW fun i j => .int (i / j)) gDiv := r2_I fun i j z q => by
  split at q
  · rename_i h
    cases q
    refine ⟨wide_div h.1 (b := 32) ?_ (by decide) (by decide), fun G => .int _⟩
    have e : (2 : Nat) ^ 32 = 4294967296 := by decide
    rw [e]; omega
  · cases q
def gMod : D → D → Option D := gII fun i j => if 0 < j then some (.int (i % j)) else none
theorem r2_mod {K : PySem.W.Frag} : R2ok K (rI (fun _ j => 0 < j) fun i j => .int (i % j)) gMod := r2_I fun i j z q => by
  split at q
  · rename_i h
    cases q
    exact ⟨h, fun G => .int _⟩
  · cases q
def gPow : D → D → Option D := gII fun i j => if 0 ≤ j ∧ j ≤ 1000 ∧ i.natAbs < 1000 then some (.int (i ^ j.toNat)) else none
theorem r2_pow {K : PySem.W.Frag} : R2ok K (rI CPow fun i j => .int (i ^ j.toNat)) gPow := r2_I fun i j z q => by
  split at q
  · rename_i h
    cases q
    exact ⟨⟨h.1, by omega, Nat.lt_trans h.2.2 (by decide)⟩, fun G => .int _⟩
  · cases q
def gLt : D → D → Option D := gII fun i j => some (.bl (decide (i < j)))
def gLe : D → D → Option D := gII fun i j => some (.bl (decide (i ≤ j)))
def gGt : D → D → Option D := gII fun i j => some (.bl (decide (j < i)))
def gGe : D → D → Option D := gII fun i j => some (.bl (decide (j ≤ i)))
theorem r2_lt {K : PySem.W.Frag} : R2ok K (rI0 fun i j => .bl (decide (i < j))) gLt := r2_I0 fun i j G => .bl _
theorem r2_le {K : PySem.W.Frag} : R2ok K (rI0 fun i j => .bl (decide (i ≤ j))) gLe := r2_I0 fun i j G => .bl _
theorem r2_gt {K : PySem.W.Frag} : R2ok K (rI0 fun i j => .bl (decide (j < i))) gGt := r2_I0 fun i j G => .bl _
theorem r2_ge {K : PySem.W.Frag} : R2ok K (rI0 fun i j => .bl (decide (j ≤ i))) gGe := r2_I0 fun i j G => .bl _

section
variable {X : Cx} {a b c : Expr} {fa fb fc : DE} {pos : Pos}
theorem pu_bin {op : Operator} {r : R2} {g : D → D → Option D} (ho : OpR X (binaryOp op) r) (hg : R2ok X.K r g) (ha : RdE X a fa) (hb : RdE X b fb) : PuE X (.BinOp a op b pos) (e2 g fa fb) :=
  let ⟨_, a1, a2⟩ := ha.ex; let ⟨_, b1, b2⟩ := hb.ex; ⟨_, pe_op ho a1 b1, te_op a2 b2 hg⟩
theorem pu_add (ha : RdE X a fa) (hb : RdE X b fb) : PuE X (.BinOp a .Add b pos) (e2 gAdd fa fb) := pu_bin op_addA r2_add ha hb
theorem pu_sub (ha : RdE X a fa) (hb : RdE X b fb) : PuE X (.BinOp a .Sub b pos) (e2 gSub fa fb) := pu_bin op_sub r2_sub ha hb
theorem pu_mul (ha : RdE X a fa) (hb : RdE X b fb) : PuE X (.BinOp a .Mult b pos) (e2 gMul fa fb) := pu_bin op_mul r2_mul ha hb
theorem pu_div (ha : RdE X a fa) (hb : RdE X b fb) : PuE X (.BinOp a .FloorDiv b pos) (e2 gDiv fa fb) := pu_bin op_fdivW r2_div ha hb
theorem pu_mod (ha : RdE X a fa) (hb : RdE X b fb) : PuE X (.BinOp a .Mod b pos) (e2 gMod fa fb) := pu_bin op_mod r2_mod ha hb
theorem pu_pow (ha : RdE X a fa) (hb : RdE X b fb) : PuE X (.BinOp a .Pow b pos) (e2 gPow fa fb) := pu_bin op_pow r2_pow ha hb

/-! ## a comparison -/
structure CmpR (X : Cx) (op : CmpOp) (g : D → D → Option D) : Prop where
  ex : ∃ r, OpR X (compareOp op) r ∧ R2ok X.K r g
theorem c_lt : CmpR X .Lt gLt := ⟨_, op_lt, r2_lt⟩
theorem c_le : CmpR X .LtE gLe := ⟨_, op_le, r2_le⟩
theorem c_gt : CmpR X .Gt gGt := ⟨_, op_gt, r2_gt⟩
theorem c_ge : CmpR X .GtE gGe := ⟨_, op_ge, r2_ge⟩
theorem c_eq (hu : X.A.units + 64 < cLine) : CmpR X .Eq gEq := ⟨_, op_eqD hu, r2_eq⟩
theorem c_ne (hu : X.A.units + 64 < cLine) : CmpR X .NotEq gNe := ⟨_, op_neD hu, r2_ne⟩
def gIsN (neg : Bool) (d e : D) : Option D := match e with | .non => some (.bl (match d with | .non => !neg | _ => neg)) | _ => none
theorem rep_non_dec {K : PySem.W.Frag} {G H : Hp} {d : D} {x : V} (h : RepT K G H d x) : decide (x = .non) = (match d with | .non => true | _ => false) := by
  rcases h with h | ⟨a, vs, ds, rfl, rfl, e, r⟩ | ⟨a, kvs, rfl, rfl, e⟩
  · cases h <;> rfl
  · rfl
  · rfl
theorem c_isN : CmpR X .Is (gIsN false) := ⟨_, op_isN, fun G H x y d e z Q l rx ry q k => by
  cases e <;> first | cases q | skip
  refine ⟨ry.non_inv, ?_⟩
  rw [rep_non_dec rx]
  refine k _ G H (.refl l) ?_
  cases d <;> exact .bl _⟩
theorem c_notN : CmpR X .IsNot (gIsN true) := ⟨_, op_notN, fun G H x y d e z Q l rx ry q k => by
  cases e <;> first | cases q | skip
  refine ⟨ry.non_inv, ?_⟩
  rw [rep_non_dec rx]
  refine k _ G H (.refl l) ?_
  cases d <;> exact .bl _⟩
def gIsB (neg : Bool) (d e : D) : Option D := match d, e with | .bl a, .bl b => some (.bl (if neg then !decide (a = b) else decide (a = b))) | _, _ => none
theorem c_isB : CmpR X .Is (gIsB false) := ⟨_, op_isBl, fun G H x y d e z Q l rx ry q k => by
  cases d <;> cases e <;> first | cases q | skip
  rw [rx.bl_inv, ry.bl_inv]
  exact ⟨_, _, rfl, rfl, k _ G H (.refl l) (.bl _)⟩⟩
theorem c_notB : CmpR X .IsNot (gIsB true) := ⟨_, op_notBl, fun G H x y d e z Q l rx ry q k => by
  cases d <;> cases e <;> first | cases q | skip
  rw [rx.bl_inv, ry.bl_inv]
  exact ⟨_, _, rfl, rfl, k _ G H (.refl l) (.bl _)⟩⟩
theorem pu_cmp {op : CmpOp} {g : D → D → Option D} (hc : CmpR X op g) (ha : RdE X a fa) (hb : RdE X b fb) (hm : behindInMarks op b = false := by first | exact nomark _ | rfl) : PuE X (.Compare a [op] [b] pos) (e2 g fa fb) :=
  let ⟨_, o1, o2⟩ := hc.ex; let ⟨_, a1, a2⟩ := ha.ex; let ⟨_, b1, b2⟩ := hb.ex; ⟨_, pe_cmpR o1 a1 b1 hm, te_op a2 b2 o2⟩
/-! ## tests -/
def tV (f : DE) : DB := fun ρ => (f ρ).bind fun d => match d with | .bl b => some b | _ => none
theorem tt_val {K : PySem.W.Frag} {nn : Nat} {t : TE} {f : DE} (h : TEok K nn t f) : TTok K nn (tB t) (tV f) := fun ρ σ G H Q b l r q k => by
  unfold tV at q
  cases z : f ρ with
  | none => rw [z] at q; cases q
  | some d =>
    rw [z] at q
    cases d <;> first | cases q | skip
    refine h ρ σ G H _ _ l r z fun v G' H' u rv => ?_
    cases rv
    exact ⟨_, rfl, k G' H' u⟩
theorem pt_valU {e : Expr} {f : DE} (h : PuE X e f) (he : ∀ whole, isTrue e X.env whole = (do let v ← whole; standAt e.pos; holding [v] (truthy v)) := by intro _; rfl) : PuT X e (tV f) :=
  let ⟨_, a1, a2⟩ := h.ex; ⟨_, pt_val a1 he, tt_val a2⟩
theorem pt_cmpU {op : CmpOp} {g : D → D → Option D} (hc : CmpR X op g) (ha : RdE X a fa) (hb : RdE X b fb) (hm : behindInMarks op b = false := by first | exact nomark _ | rfl) : PuT X (.Compare a [op] [b] pos) (tV (e2 g fa fb)) :=
  let ⟨_, o1, o2⟩ := hc.ex; let ⟨_, a1, a2⟩ := ha.ex; let ⟨_, b1, b2⟩ := hb.ex; ⟨_, pt_cmpR o1 a1 b1 hm, tt_val (te_op a2 b2 o2)⟩
def bNot (f : DB) : DB := fun ρ => (f ρ).map fun b => !b
def bAnd (f g : DB) : DB := fun ρ => (f ρ).bind fun b => if b = true then g ρ else some false
def bOr (f g : DB) : DB := fun ρ => (f ρ).bind fun b => if b = true then some true else g ρ
variable {A B : DB} {rest : List Expr}
theorem pt_notU (h : PuT X a A) : PuT X (.UnaryOp .Not a pos) (bNot A) := let ⟨_, a1, a2⟩ := h.ex; ⟨_, pt_not a1, fun ρ σ G H Q b l r q k => by
  unfold bNot at q
  cases z : A ρ with
  | none => rw [z] at q; cases q
  | some d => rw [z] at q; cases q; exact a2 ρ σ G H _ _ l r z k⟩
theorem pw_and1U (h : PuT X a A) : PuW X (.BoolOp .And [a] pos) A := let ⟨_, a1, a2⟩ := h.ex; ⟨_, pw_and1 a1, a2⟩
theorem pw_or1U (h : PuT X a A) : PuW X (.BoolOp .Or [a] pos) A := let ⟨_, a1, a2⟩ := h.ex; ⟨_, pw_or1 a1, a2⟩
theorem tt_and {K : PySem.W.Frag} {nn : Nat} {t u : TT} (ha : TTok K nn t A) (hb : TTok K nn u B) : TTok K nn (tAnd t u) (bAnd A B) := fun ρ σ G H Q b l r q k => by
  unfold bAnd at q
  cases z : A ρ with
  | none => rw [z] at q; cases q
  | some d =>
    rw [z] at q
    refine ha ρ σ G H _ _ l r z fun G' H' u' => ?_
    cases d with
    | true => exact hb ρ σ G' H' _ _ u'.le (r.up u') q fun G2 H2 u2 => k G2 H2 (u'.trans u2)
    | false => cases q; exact k G' H' u'
theorem tt_or {K : PySem.W.Frag} {nn : Nat} {t u : TT} (ha : TTok K nn t A) (hb : TTok K nn u B) : TTok K nn (tOr t u) (bOr A B) := fun ρ σ G H Q b l r q k => by
  unfold bOr at q
  cases z : A ρ with
  | none => rw [z] at q; cases q
  | some d =>
    rw [z] at q
    refine ha ρ σ G H _ _ l r z fun G' H' u' => ?_
    cases d with
    | false => exact hb ρ σ G' H' _ _ u'.le (r.up u') q fun G2 H2 u2 => k G2 H2 (u'.trans u2)
    | true => cases q; exact k G' H' u'
theorem pw_andU (ha : PuT X a A) (hb : PuW X (.BoolOp .And (b :: rest) pos) B) : PuW X (.BoolOp .And (a :: b :: rest) pos) (bAnd A B) :=
  let ⟨_, a1, a2⟩ := ha.ex; let ⟨_, b1, b2⟩ := hb.ex; ⟨_, pw_and a1 b1, tt_and a2 b2⟩
theorem pw_orU (ha : PuT X a A) (hb : PuW X (.BoolOp .Or (b :: rest) pos) B) : PuW X (.BoolOp .Or (a :: b :: rest) pos) (bOr A B) :=
  let ⟨_, a1, a2⟩ := ha.ex; let ⟨_, b1, b2⟩ := hb.ex; ⟨_, pw_or a1 b1, tt_or a2 b2⟩
theorem PuW.pt {e : Expr} (h : PuW X e A) : PuT X e A := let ⟨_, a1, a2⟩ := h.ex; ⟨_, a1.pt, a2⟩
/-! ### as values -/
def eAnd (f g : DE) : DE := fun ρ => (f ρ).bind fun d => match d with | .bl true => g ρ | .bl false => some (.bl false) | _ => none
def eOr (f g : DE) : DE := fun ρ => (f ρ).bind fun d => match d with | .bl false => g ρ | .bl true => some (.bl true) | _ => none
def eNot (f : DE) : DE := fun ρ => (f ρ).bind fun d => match d with | .bl b => some (.bl (!b)) | _ => none
theorem pu_one {op} (h : PuE X a fa) : PuE X (.BoolOp op [a] pos) fa := let ⟨_, a1, a2⟩ := h.ex; ⟨_, pe_one a1, a2⟩
theorem pu_and (ha : PuE X a fa) (hb : PuE X (.BoolOp .And (b :: rest) pos) fb) : PuE X (.BoolOp .And (a :: b :: rest) pos) (eAnd fa fb) :=
  let ⟨_, a1, a2⟩ := ha.ex; let ⟨_, b1, b2⟩ := hb.ex; ⟨_, pe_and a1 b1, fun ρ σ G H Q d l r q k => by
    unfold eAnd at q
    cases z : fa ρ with
    | none => rw [z] at q; cases q
    | some e =>
      rw [z] at q
      cases e <;> first | cases q | skip
      rename_i bb
      refine a2 ρ σ G H _ _ l r z fun v G' H' u rv => ?_
      cases rv
      refine ⟨_, rfl, ?_⟩
      cases bb with
      | true => exact b2 ρ σ G' H' _ _ u.le (r.up u) q fun w G2 H2 u2 rw => k w G2 H2 (u.trans u2) rw
      | false => cases q; exact k _ G' H' u (.bl _)⟩
theorem pu_or (ha : PuE X a fa) (hb : PuE X (.BoolOp .Or (b :: rest) pos) fb) : PuE X (.BoolOp .Or (a :: b :: rest) pos) (eOr fa fb) :=
  let ⟨_, a1, a2⟩ := ha.ex; let ⟨_, b1, b2⟩ := hb.ex; ⟨_, pe_or a1 b1, fun ρ σ G H Q d l r q k => by
    unfold eOr at q
    cases z : fa ρ with
    | none => rw [z] at q; cases q
    | some e =>
      rw [z] at q
      cases e <;> first | cases q | skip
      rename_i bb
      refine a2 ρ σ G H _ _ l r z fun v G' H' u rv => ?_
      cases rv
      refine ⟨_, rfl, ?_⟩
      cases bb with
      | false => exact b2 ρ σ G' H' _ _ u.le (r.up u) q fun w G2 H2 u2 rw => k w G2 H2 (u.trans u2) rw
      | true => cases q; exact k _ G' H' u (.bl _)⟩
theorem pu_not (ha : PuE X a fa) : PuE X (.UnaryOp .Not a pos) (eNot fa) := let ⟨_, a1, a2⟩ := ha.ex; ⟨_, pe_not a1, fun ρ σ G H Q d l r q k => by
    unfold eNot at q
    cases z : fa ρ with
    | none => rw [z] at q; cases q
    | some e =>
      rw [z] at q
      cases e <;> first | cases q | skip
      refine a2 ρ σ G H _ _ l r z fun v G' H' u rv => ?_
      cases rv
      exact ⟨_, rfl, k _ G' H' u (.bl _)⟩⟩
def eNeg (f : DE) : DE := fun ρ => (f ρ).bind fun d => match d with | .int i => some (.int (-i)) | _ => none
theorem pu_neg (ha : PuE X a fa) : PuE X (.UnaryOp .USub a pos) (eNeg fa) := let ⟨_, a1, a2⟩ := ha.ex; ⟨_, pe_un un_neg a1, fun ρ σ G H Q d l r q k => by
    unfold eNeg at q
    cases z : fa ρ with
    | none => rw [z] at q; cases q
    | some e =>
      rw [z] at q
      cases e <;> first | cases q | skip
      refine a2 ρ σ G H _ _ l r z fun v G' H' u rv => ?_
      cases rv
      exact ⟨_, rfl, k _ G' H' u (.int _)⟩⟩
def eIf (c : DB) (f g : DE) : DE := fun ρ => (c ρ).bind fun b => if b = true then f ρ else g ρ
theorem pu_if (hc : PuT X c A) (ha : PuE X a fa) (hb : PuE X b fb) : PuE X (.IfExp c a b pos) (eIf A fa fb) :=
  let ⟨_, c1, c2⟩ := hc.ex; let ⟨_, a1, a2⟩ := ha.ex; let ⟨_, b1, b2⟩ := hb.ex; ⟨_, pe_ifExp c1 a1 b1, fun ρ σ G H Q d l r q k => by
    unfold eIf at q
    cases z : A ρ with
    | none => rw [z] at q; cases q
    | some e =>
      rw [z] at q
      refine c2 ρ σ G H _ _ l r z fun G' H' u => ?_
      cases e with
      | true => exact a2 ρ σ G' H' _ _ u.le (r.up u) q fun w G2 H2 u2 rw => k w G2 H2 (u.trans u2) rw
      | false => exact b2 ρ σ G' H' _ _ u.le (r.up u) q fun w G2 H2 u2 rw => k w G2 H2 (u.trans u2) rw⟩
/-- a < b < c -/
def eChain (g g' : D → D → Option D) (fa fb fc : DE) : DE := fun ρ => (fa ρ).bind fun x => (fb ρ).bind fun y => (g x y).bind fun z => match z with
  | .bl true => (fc ρ).bind fun w => g' y w | .bl false => some (.bl false) | _ => none
theorem te_chain {K : PySem.W.Frag} {nn : Nat} {ta tb tc : TE} {r r' : R2} {g g' : D → D → Option D} (ha : TRok K nn ta fa) (hb : TRok K nn tb fb) (hc : TRok K nn tc fc) (hr : R2ok K r g) (hr' : R2ok K r' g') : TEok K nn (tChain r r' ta tb tc) (eChain g g' fa fb fc) := fun ρ σ G H Q z l r0 q k => by
  unfold eChain at q
  cases q1 : fa ρ with
  | none => rw [q1] at q; cases q
  | some d =>
    rw [q1] at q
    cases q2 : fb ρ with
    | none => rw [q2] at q; cases q
    | some e =>
      rw [q2] at q
      change ((g d e).bind _) = _ at q
      cases q3 : g d e with
      | none => rw [q3] at q; cases q
      | some t =>
        rw [q3] at q
        refine ha ρ σ G H _ d l r0 q1 fun x G1 H1 u1 rx => ?_
        refine hb ρ σ G1 H1 _ e u1.le (r0.up u1) q2 fun y G2 H2 u2 ry => ?_
        refine hr G2 H2 x y d e t _ u2.le (rx.mono u2.g u2.h) ry q3 fun v G3 H3 u3 rv => ?_
        cases t <;> first | cases q | skip
        rename_i bb
        cases rv
        refine ⟨bb, rfl, ?_⟩
        cases bb with
        | true =>
          have q : ((fc ρ).bind fun w => g' e w) = some z := q
          cases q4 : fc ρ with
          | none => rw [q4] at q; cases q
          | some w =>
            rw [q4] at q
            refine hc ρ σ G3 H3 _ w u3.le (r0.up ((u1.trans u2).trans u3)) q4 fun w' G4 H4 u4 rw' => ?_
            exact hr' G4 H4 y w' e w z Q u4.le (ry.mono (u3.trans u4).g (u3.trans u4).h) rw' q fun v G5 H5 u5 rv => k v G5 H5 ((((u1.trans u2).trans u3).trans u4).trans u5) rv
        | false => cases q; exact k _ G3 H3 ((u1.trans u2).trans u3) (.bl _)
theorem pu_chain {op op' : CmpOp} {g g' : D → D → Option D} (h1 : CmpR X op g) (h2 : CmpR X op' g') (ha : RdE X a fa) (hb : RdE X b fb) (hc : RdE X c fc) (hm : lastMarks [op, op'] [b, c] = false := by with_unfolding_all rfl) : PuE X (.Compare a [op, op'] [b, c] pos) (eChain g g' fa fb fc) :=
  let ⟨_, o1, o2⟩ := h1.ex; let ⟨_, o3, o4⟩ := h2.ex; let ⟨_, a1, a2⟩ := ha.ex; let ⟨_, b1, b2⟩ := hb.ex; let ⟨_, c1, c2⟩ := hc.ex; ⟨_, pe_chain o1 o3 a1 b1 c1 hm, te_chain a2 b2 c2 o2 o4⟩
theorem pt_chainU {op op' : CmpOp} {g g' : D → D → Option D} (h1 : CmpR X op g) (h2 : CmpR X op' g') (ha : RdE X a fa) (hb : RdE X b fb) (hc : RdE X c fc) (hm : lastMarks [op, op'] [b, c] = false := by with_unfolding_all rfl) : PuT X (.Compare a [op, op'] [b, c] pos) (tV (eChain g g' fa fb fc)) :=
  let ⟨_, o1, o2⟩ := h1.ex; let ⟨_, o3, o4⟩ := h2.ex; let ⟨_, a1, a2⟩ := ha.ex; let ⟨_, b1, b2⟩ := hb.ex; let ⟨_, c1, c2⟩ := hc.ex; ⟨_, pt_chain o1 o3 a1 b1 c1 hm, tt_val (te_chain a2 b2 c2 o2 o4)⟩
end
end PL

namespace PL
open PySem PySem.Spec PyProof.Rows L2

/-! ## subscripts -/
def gIx (d e : D) : Option D := match d, e with
  | .lst xs, .int i => atI xs i
  | .tup xs, .int i => atI xs i
  | .scr ns, .int i => (atI ns i).map D.int
  | .str z, .int i => if szB z.length then (atI z.cps.toList i).map fun c => .str ⟨#[c]⟩ else none
  | _, _ => none
theorem atI_rep {K : PySem.W.Frag} {G : Hp} {ds : List D} {vs : List V} {i : Int} {d : D} (r : Reps K G ds vs) (h : atI ds i = some d) : ∃ v, atI vs i = some v ∧ Rep K G d v := by
  unfold atI at h ⊢
  rw [r.length] at h
  cases q : ixN vs.length i with
  | none => rw [q] at h; cases h
  | some j => rw [q] at h; exact r.get h
theorem atI_map {α β : Type} (f : α → β) (xs : List α) (i : Int) : atI (xs.map f) i = (atI xs i).map f := by
  unfold atI
  rw [List.length_map]
  cases ixN xs.length i with
  | none => rfl
  | some j => simp
theorem r2_ix {K : PySem.W.Frag} : R2ok K (rIx K) gIx := fun G H x y d e z Q l rx ry q k => by
  cases d <;> cases e <;> first | cases q | skip
  case lst.int xs i =>
    obtain ⟨p, vs, rfl, hp, rp⟩ := rx.lst_inv l
    rw [ry.int_inv]
    obtain ⟨v, h1, h2⟩ := atI_rep rp q
    exact .inl ⟨p, vs, i, v, rfl, rfl, .of hp, h1, k v G H (.refl l) h2⟩
  case tup.int xs i =>
    obtain ⟨p, vs, rfl, hp, rp⟩ := rx.tup_inv
    rw [ry.int_inv]
    obtain ⟨v, h1, h2⟩ := atI_rep rp q
    exact .inr (.inl ⟨p, vs, i, v, rfl, rfl, .of (l _ _ hp), h1, k v G H (.refl l) h2⟩)
  case scr.int ns i =>
    obtain ⟨p, rfl, hp⟩ := rx.scr_inv l
    rw [ry.int_inv]
    have q : (atI ns i).map D.int = some z := q
    cases z1 : atI ns i with
    | none => rw [z1] at q; cases q
    | some m =>
      rw [z1] at q; cases q
      exact .inl ⟨p, _, i, .int m, rfl, rfl, hp, by rw [atI_map, z1]; rfl, k _ G H (.refl l) (.int m)⟩
  case str.int w i =>
    rw [rx.str_inv, ry.int_inv]
    simp only [gIx] at q
    split at q
    · rename_i hz
      cases z1 : atI w.cps.toList i with
      | none => rw [z1] at q; cases q
      | some m =>
        rw [z1] at q; cases q
        exact .inr (.inr ⟨w, i, m, rfl, rfl, szB_le hz, z1, k _ G H (.refl l) (.str _)⟩)
    · cases q
section
variable {X : Cx} {a b c : Expr} {fa fb fc : DE} {pos : Pos}
theorem pu_ix (ha : RdE X a fa) (hb : RdE X b fb) (hs : PlainIx b := by exact fun _ _ => rfl) : PuE X (.Subscript a b pos) (e2 gIx fa fb) :=
  let ⟨_, a1, a2⟩ := ha.ex; let ⟨_, b1, b2⟩ := hb.ex; ⟨_, pe_ix ix_seq a1 b1 hs, te_op a2 b2 r2_ix⟩
/-- an item of an own list of lists -/
def eIxLL (i : Nat) (fb : DE) : DE := fun ρ => match ρ i, fb ρ with
  | some (.oll xss), some (.int k) => (atI xss k).map D.lst
  | _, _ => none
theorem paired_get {α β : Type} {F : α → β → Prop} : ∀ {l₁ : List α} {l₂ : List β} {i : Nat} {y : β}, Paired F l₁ l₂ → l₂[i]? = some y → ∃ x, l₁[i]? = some x ∧ F x y
  | _, _, _, _, .nil, e => by simp at e
  | _, _, 0, _, .cons r _, e => by simp at e; subst e; exact ⟨_, rfl, r⟩
  | _, _, i + 1, _, .cons _ t, e => by
    obtain ⟨u, h1, h2⟩ := paired_get (i := i) t (by simpa using e)
    exact ⟨u, by simpa using h1, h2⟩
theorem rd_ixLL (i : Nat) {x : Str} {xp : Pos} (hb : RdE X b fb) (hN : X.N[i]? = some x := by rfl) (hv : Vis X.env.scope x := by first | exact Or.inl rfl | exact Or.inr (Or.inl rfl) | exact Or.inr (Or.inr rfl)) (hd : (x == ("__debug__" : Str)) = false := by decide)
    (hcd : (x == ("__classdict__" : Str)) = false := by decide) (hs : PlainIx b := by exact fun _ _ => rfl) : RdE X (.Subscript (.Name x xp) b pos) (eIxLL i fb) :=
  let ⟨_, b1, b2⟩ := hb.ex; ⟨_, pe_ix ix_list (pe_var hN hv hd hcd) b1 hs, fun ρ σ G H Q d l r q k => by
    unfold eIxLL at q
    cases z : ρ i with
    | none => rw [z] at q; cases q
    | some cc =>
      rw [z] at q
      cases cc <;> first | cases q | skip
      rename_i xss
      cases z2 : fb ρ with
      | none => rw [z2] at q; cases q
      | some dd =>
        rw [z2] at q
        cases dd <;> first | cases q | skip
        rename_i kk
        obtain ⟨v, h1, h2⟩ := r.at_ i _ z
        refine ⟨v, h1, ?_⟩
        refine b2 ρ σ G H _ _ l r z2 fun w G' H' u rw' => ?_
        obtain ⟨p, bs, rfl, hp, hb'⟩ := h2.mono u.g u.h
        rw [rw'.int_inv]
        have q : (atI xss kk).map D.lst = some d := q
        cases z3 : atI xss kk with
        | none => rw [z3] at q; cases q
        | some xs =>
          rw [z3] at q; cases q
          have hl : bs.length = xss.length := Paired.length hb'
          unfold atI at z3
          cases z4 : ixN xss.length kk with
          | none => rw [z4] at z3; cases z3
          | some j =>
            rw [z4] at z3
            obtain ⟨bb, y1, vs, y2, y3⟩ := paired_get hb' z3
            refine ⟨p, bs.map V.ref, kk, .ref bb, rfl, rfl, .of hp, ?_, k _ G' H' u (.inr (.inl ⟨bb, vs, xs, rfl, rfl, y2, y3⟩))⟩
            unfold atI
            rw [List.length_map, hl, z4]
            show (bs.map V.ref)[j]? = _
            rw [List.getElem?_map, y1]; rfl⟩

/-! ## slices -/
def cutD (xs : List D) (lo hi : Option Int) : List D := (xs.drop (HT.sIx xs.length 0 lo)).take (HT.sIx xs.length xs.length hi - HT.sIx xs.length 0 lo)
theorem cut_rep {K : PySem.W.Frag} {G : Hp} {ds : List D} {vs : List V} (lo hi : Option Int) (r : Reps K G ds vs) : Reps K G (cutD ds lo hi) (cutV vs lo hi) := by
  unfold cutD cutV
  rw [← r.length]
  exact (r.drop _).take _
/-- a part of a slice -/
abbrev DO := DEnv → Option (Option Int)
def oNo : DO := fun _ => some none
def oSome (f : DE) : DO := fun ρ => (f ρ).bind fun d => match d with | .int i => some (some i) | _ => none
def TOok (K : PySem.W.Frag) (nn : Nat) (t : TO) (f : DO) : Prop := ∀ ρ σ G H (Q : Option Int → Hp → Prop) d, Ex G H → ER K nn ρ σ G H → f ρ = some d →
  (∀ G' H', Up G H G' H' → Q d H') → t σ H Q
structure PuO (X : Cx) (e : Option Expr) (f : DO) : Prop where
  ex : ∃ t, PO X e t ∧ TOok X.K X.N.length t f
theorem po_no : PuO X none oNo := ⟨_, po_none, fun ρ σ G H Q d l r q k => by cases q; exact k G H (.refl l)⟩
theorem po_so {e : Expr} {f : DE} (h : RdE X e f) : PuO X (some e) (oSome f) := let ⟨_, a1, a2⟩ := h.ex; ⟨_, po_some a1, fun ρ σ G H Q d l r q k => by
  unfold oSome at q
  cases z : f ρ with
  | none => rw [z] at q; cases q
  | some dd =>
    rw [z] at q
    cases dd <;> first | cases q | skip
    refine a2 ρ σ G H _ _ l r z fun v G' H' u rv => ?_
    exact ⟨_, rv.int_inv, k G' H' u⟩⟩
def gCut (d : D) (lo hi : Option Int) : Option D := match d with
  | .lst xs => some (.lst (cutD xs lo hi))
  | .tup xs => some (.tup (cutD xs lo hi))
  | _ => none
def rSlLT (K : PySem.W.Frag) : V → Option Int → Option Int → Hp → VK → Prop := fun x lo hi H Q => rSlL K x lo hi H Q ∨ rSlA K x lo hi H Q
def eCut (f : DE) (lo hi : DO) : DE := fun ρ => (f ρ).bind fun d => (lo ρ).bind fun l => (hi ρ).bind fun h => gCut d l h
theorem cutD_whole {xs : List D} {lo hi : Option Int} (h : HT.sIx xs.length 0 lo = 0 ∧ HT.sIx xs.length xs.length hi = xs.length) : cutD xs lo hi = xs := by
  unfold cutD
  rw [h.1, h.2]; simp
theorem pu_slice {lo hi : Option Expr} {fl fh : DO} {p2 : Pos} (ha : RdE X a fa) (hl : PuO X lo fl) (hh : PuO X hi fh) : PuE X (.Subscript a (.Slice lo hi none p2) pos) (eCut fa fl fh) :=
  let ⟨_, a1, a2⟩ := ha.ex; let ⟨_, b1, b2⟩ := hl.ex; let ⟨_, c1, c2⟩ := hh.ex; ⟨_, pe_slice (sl_list.or sl_tupA) a1 b1 c1, fun ρ σ G H Q d l r q k => by
    unfold eCut at q
    cases z : fa ρ with
    | none => rw [z] at q; cases q
    | some dd =>
      rw [z] at q
      cases z2 : fl ρ with
      | none => rw [z2] at q; cases q
      | some lo' =>
        rw [z2] at q
        cases z3 : fh ρ with
        | none => rw [z3] at q; cases q
        | some hi' =>
          rw [z3] at q
          have q : gCut dd lo' hi' = some d := q
          refine a2 ρ σ G H _ _ l r z fun v G1 H1 u1 rv => ?_
          refine b2 ρ σ G1 H1 _ _ u1.le (r.up u1) z2 fun G2 H2 u2 => ?_
          refine c2 ρ σ G2 H2 _ _ u2.le (r.up (u1.trans u2)) z3 fun G3 H3 u3 => ?_
          have rv := rv.mono (u2.trans u3).g (u2.trans u3).h
          have uu := (u1.trans u2).trans u3
          cases dd <;> first | cases q | skip
          · obtain ⟨p, vs, rfl, hp, rp⟩ := rv.lst_inv u3.le
            cases q
            exact .inl ⟨p, vs, rfl, .of hp, fun n hn => k _ _ _ (uu.trans (.pure u3.le hn)) (.lst upd_same ((cut_rep lo' hi' rp).mono (.new (u3.le.free hn))))⟩
          · obtain ⟨p, vs, rfl, hp, rp⟩ := rv.tup_inv
            cases q
            refine .inr ⟨p, vs, rfl, .of (u3.le _ _ hp), fun hw => ?_, fun hw n hn => k _ _ _ (uu.trans (.pure u3.le hn)) (.tup upd_same ((cut_rep lo' hi' rp).mono (.new (u3.le.free hn))))⟩
            rw [← rp.length] at hw
            rw [cutD_whole hw] at k
            exact k _ _ _ uu (.tup hp rp)⟩

/-! ## argument lists, displays -/
def dNil : DL := fun _ => some []
def dCons (f : DE) (g : DL) : DL := fun ρ => (f ρ).bind fun d => (g ρ).map fun ds => d :: ds
theorem pa_nilU : PuA X [] dNil := ⟨_, pa_nil, fun ρ σ G H Q ds l r q k => by cases q; exact k _ G H (.refl l) .nil⟩
theorem pa_consU {es : List Expr} {g : DL} (ha : PuE X a fa) (hr : PuA X es g) (hs : starEach (a :: es) X.env = (false, eval a X.env) :: starEach es X.env := by rfl) : PuA X (a :: es) (dCons fa g) :=
  let ⟨_, a1, a2⟩ := ha.ex; let ⟨_, b1, b2⟩ := hr.ex; ⟨_, pa_cons a1 b1 hs, fun ρ σ G H Q ds l r q k => by
    unfold dCons at q
    cases z : fa ρ with
    | none => rw [z] at q; cases q
    | some d =>
      rw [z] at q
      cases z2 : g ρ with
      | none => rw [z2] at q; cases q
      | some es' =>
        rw [z2] at q; cases q
        refine a2 ρ σ G H _ _ l r z fun v G1 H1 u1 rv => ?_
        exact b2 ρ σ G1 H1 _ _ u1.le (r.up u1) z2 fun vs G2 H2 u2 rvs => k _ G2 H2 (u1.trans u2) (.cons (rv.mono u2.g) rvs)⟩
def eTup (g : DL) : DE := fun ρ => (g ρ).bind fun ds => if szB ds.length then some (.tup ds) else none
theorem pu_tup {es : List Expr} {g : DL} {k : Nat} (h : PuA X es g) : PuE X (.Tuple es k pos) (eTup g) := let ⟨_, a1, a2⟩ := h.ex; ⟨_, pe_tup a1, fun ρ σ G H Q d l r q k => by
  unfold eTup at q
  cases z : g ρ with
  | none => rw [z] at q; cases q
  | some ds =>
    rw [z] at q
    have q : (if szB ds.length then some (D.tup ds) else none) = some d := q
    split at q
    · rename_i hz
      cases q
      refine a2 ρ σ G H _ _ l r z fun vs G1 H1 u1 rvs => ⟨by rw [← rvs.length]; exact szB_le hz, fun p hp => ?_⟩
      exact k _ _ _ (u1.trans (.pure u1.le hp)) (.tup upd_same (rvs.mono (.new (u1.le.free hp))))
    · cases q⟩
def dSz (g : DL) : DL := fun ρ => (g ρ).bind fun ds => if szB ds.length then some ds else none
theorem nw_lst {es : List Expr} {g : DL} (h : PuA X es g) : NwE X (.List es pos) (dSz g) := let ⟨_, a1, a2⟩ := h.ex; ⟨_, pe_lst a1, fun ρ σ G H Q d l r q k => by
  unfold dSz at q
  cases z : g ρ with
  | none => rw [z] at q; cases q
  | some ds =>
    rw [z] at q
    have q : (if szB ds.length then some ds else none) = some d := q
    split at q
    · rename_i hz
      cases q
      refine a2 ρ σ G H _ _ l r z fun vs G1 H1 u1 rvs => ⟨by rw [← rvs.length]; exact szB_le hz, fun p hp => ?_⟩
      exact k _ _ _ _ (u1.trans (.own u1.le hp)) (u1.h.free hp) (u1.le.free hp) upd_same rvs
    · cases q⟩

/-! ## calls of built-ins -/
def RepTs (K : PySem.W.Frag) (G H : Hp) : List D → List V → Prop := Paired (RepT K G H)
theorem RepTs.mono {K : PySem.W.Frag} {G H G' H' : Hp} (g : Ex G G') (h : Ex H H') {ds : List D} {vs : List V} (r : RepTs K G H ds vs) : RepTs K G' H' ds vs := Paired.map2 r fun _ _ z => z.mono g h
def TAr (K : PySem.W.Frag) (nn : Nat) (t : TA) (f : DL) : Prop := ∀ ρ σ G H (Q : List V → Hp → Prop) ds, Ex G H → ER K nn ρ σ G H → f ρ = some ds →
  (∀ vs G' H', Up G H G' H' → RepTs K G' H' ds vs → Q vs H') → t σ H Q
structure RdA (X : Cx) (es : List Expr) (f : DL) : Prop where
  ex : ∃ t, PA X es t ∧ TAr X.K X.N.length t f
theorem ra_nil : RdA X [] dNil := ⟨_, pa_nil, fun ρ σ G H Q ds l r q k => by cases q; exact k _ G H (.refl l) .nil⟩
theorem ra_cons {es : List Expr} {g : DL} (ha : RdE X a fa) (hr : RdA X es g) (hs : starEach (a :: es) X.env = (false, eval a X.env) :: starEach es X.env := by rfl) : RdA X (a :: es) (dCons fa g) :=
  let ⟨_, a1, a2⟩ := ha.ex; let ⟨_, b1, b2⟩ := hr.ex; ⟨_, pa_cons a1 b1 hs, fun ρ σ G H Q ds l r q k => by
    unfold dCons at q
    cases z : fa ρ with
    | none => rw [z] at q; cases q
    | some d =>
      rw [z] at q
      cases z2 : g ρ with
      | none => rw [z2] at q; cases q
      | some es' =>
        rw [z2] at q; cases q
        refine a2 ρ σ G H _ _ l r z fun v G1 H1 u1 rv => ?_
        exact b2 ρ σ G1 H1 _ _ u1.le (r.up u1) z2 fun vs G2 H2 u2 rvs => k _ G2 H2 (u1.trans u2) (.cons (rv.mono u2.g u2.h) rvs)⟩
/-- a built-in's answer by data -/
def Cok (K : PySem.W.Frag) (r : List V → Hp → VK → Prop) (g : List D → Option D) : Prop := ∀ G H vs ds z (Q : VK), Ex G H → RepTs K G H ds vs → g ds = some z →
  (∀ v G' H', Up G H G' H' → Rep K G' z v → Q v H') → r vs H Q
/-- .. a new list -/
def CNok (K : PySem.W.Frag) (r : List V → Hp → VK → Prop) (g : List D → Option (List D)) : Prop := ∀ G H vs ds zs (Q : VK), Ex G H → RepTs K G H ds vs → g ds = some zs →
  (∀ p ws G' H', Up G H G' H' → H p = none → G' p = none → H' p = some (.lst ws) → Reps K G' zs ws → Q (.ref p) H') → r vs H Q
structure Blt (X : Cx) (x : Str) (u : Value) (g : List D → Option D) : Prop where
  ex : ∃ r, CallR X u r ∧ Cok X.K r g
  boot : bootBuiltins x = some u
structure BltN (X : Cx) (x : Str) (u : Value) (g : List D → Option (List D)) : Prop where
  ex : ∃ r, CallR X u r ∧ CNok X.K r g
  boot : bootBuiltins x = some u
def eBlt (g : List D → Option D) (f : DL) : DE := fun ρ => (f ρ).bind g
def dBlt (g : List D → Option (List D)) (f : DL) : DL := fun ρ => (f ρ).bind g
variable {x : Str} {es : List Expr} {p : Pos} {fs : DL}
theorem pu_callB {id : String} {g : List D → Option D} (B : Blt X x (.builtin id) g) (hm : X.mg x = none) (ha : RdA X (a :: es) fs) (hg : Gl X x := by rfl) (hn : x ≠ "__name__" := by decide) (hdb : (x == ("__debug__" : Str)) = false := by decide)
    (he : starEach (a :: es) X.env = (false, eval a X.env) :: starEach es X.env := by rfl) (hpl : (backTo pos (starEach es X.env)).any (·.1) = false := by rfl) : PuE X (.Call (.Name x p) (a :: es) [] pos) (eBlt g fs) :=
  let ⟨_, c1, c2⟩ := B.ex; let ⟨_, a1, a2⟩ := ha.ex; ⟨_, pe_callB c1 hg hm B.boot a1 hn hdb he hpl, fun ρ σ G H Q d l r q k => by
    unfold eBlt at q
    cases z : fs ρ with
    | none => rw [z] at q; cases q
    | some ds =>
      rw [z] at q
      refine a2 ρ σ G H _ _ l r z fun vs G1 H1 u1 rvs => ?_
      exact c2 G1 H1 vs ds d Q u1.le rvs q fun v G2 H2 u2 rv => k v G2 H2 (u1.trans u2) rv⟩
theorem pu_callT {T : String} {g : List D → Option D} (B : Blt X x (.type T) g) (hm : X.mg x = none) (ha : RdA X (a :: es) fs) (hg : Gl X x := by rfl) (hn : x ≠ "__name__" := by decide) (hdb : (x == ("__debug__" : Str)) = false := by decide)
    (he : starEach (a :: es) X.env = (false, eval a X.env) :: starEach es X.env := by rfl) (hpl : (backTo pos (starEach es X.env)).any (·.1) = false := by rfl) : PuE X (.Call (.Name x p) (a :: es) [] pos) (eBlt g fs) :=
  let ⟨_, c1, c2⟩ := B.ex; let ⟨_, a1, a2⟩ := ha.ex; ⟨_, pe_callTy c1 hg hm B.boot a1 hn hdb he hpl, fun ρ σ G H Q d l r q k => by
    unfold eBlt at q
    cases z : fs ρ with
    | none => rw [z] at q; cases q
    | some ds =>
      rw [z] at q
      refine a2 ρ σ G H _ _ l r z fun vs G1 H1 u1 rvs => ?_
      exact c2 G1 H1 vs ds d Q u1.le rvs q fun v G2 H2 u2 rv => k v G2 H2 (u1.trans u2) rv⟩
theorem nw_callB {id : String} {g : List D → Option (List D)} (B : BltN X x (.builtin id) g) (hm : X.mg x = none) (ha : RdA X (a :: es) fs) (hg : Gl X x := by rfl) (hn : x ≠ "__name__" := by decide) (hdb : (x == ("__debug__" : Str)) = false := by decide)
    (he : starEach (a :: es) X.env = (false, eval a X.env) :: starEach es X.env := by rfl) (hpl : (backTo pos (starEach es X.env)).any (·.1) = false := by rfl) : NwE X (.Call (.Name x p) (a :: es) [] pos) (dBlt g fs) :=
  let ⟨_, c1, c2⟩ := B.ex; let ⟨_, a1, a2⟩ := ha.ex; ⟨_, pe_callB c1 hg hm B.boot a1 hn hdb he hpl, fun ρ σ G H Q d l r q k => by
    unfold dBlt at q
    cases z : fs ρ with
    | none => rw [z] at q; cases q
    | some ds =>
      rw [z] at q
      refine a2 ρ σ G H _ _ l r z fun vs G1 H1 u1 rvs => ?_
      exact c2 G1 H1 vs ds d Q u1.le rvs q fun p vs G2 H2 u2 n1 n2 h rv => k p vs G2 H2 (u1.trans u2) (u1.h.free n1) n2 h rv⟩
theorem nw_callT {T : String} {g : List D → Option (List D)} (B : BltN X x (.type T) g) (hm : X.mg x = none) (ha : RdA X (a :: es) fs) (hg : Gl X x := by rfl) (hn : x ≠ "__name__" := by decide) (hdb : (x == ("__debug__" : Str)) = false := by decide)
    (he : starEach (a :: es) X.env = (false, eval a X.env) :: starEach es X.env := by rfl) (hpl : (backTo pos (starEach es X.env)).any (·.1) = false := by rfl) : NwE X (.Call (.Name x p) (a :: es) [] pos) (dBlt g fs) :=
  let ⟨_, c1, c2⟩ := B.ex; let ⟨_, a1, a2⟩ := ha.ex; ⟨_, pe_callTy c1 hg hm B.boot a1 hn hdb he hpl, fun ρ σ G H Q d l r q k => by
    unfold dBlt at q
    cases z : fs ρ with
    | none => rw [z] at q; cases q
    | some ds =>
      rw [z] at q
      refine a2 ρ σ G H _ _ l r z fun vs G1 H1 u1 rvs => ?_
      exact c2 G1 H1 vs ds d Q u1.le rvs q fun p vs G2 H2 u2 n1 n2 h rv => k p vs G2 H2 (u1.trans u2) (u1.h.free n1) n2 h rv⟩

/-! ### the built-ins -/
def b1 (g : D → Option D) (ds : List D) : Option D := match ds with | [d] => g d | _ => none
theorem RepTs.one {K : PySem.W.Frag} {G H : Hp} {d : D} {vs : List V} (h : RepTs K G H [d] vs) : ∃ v, vs = [v] ∧ RepT K G H d v := by
  cases h with
  | cons r t => cases t; exact ⟨_, rfl, r⟩
theorem RepTs.two {K : PySem.W.Frag} {G H : Hp} {d e : D} {vs : List V} (h : RepTs K G H [d, e] vs) : ∃ v w, vs = [v, w] ∧ RepT K G H d v ∧ RepT K G H e w := by
  cases h with
  | cons r t => cases t with | cons r' t => cases t; exact ⟨_, _, rfl, r, r'⟩
theorem cok1 {K : PySem.W.Frag} {r : List V → Hp → VK → Prop} {g : D → Option D} (h : ∀ G H v d z (Q : VK), Ex G H → RepT K G H d v → g d = some z → (∀ v G' H', Up G H G' H' → Rep K G' z v → Q v H') → r [v] H Q) : Cok K r (b1 g) := fun G H vs ds z Q l rs q k => by
  match ds, q with
  | [d], q =>
    obtain ⟨v, rfl, rv⟩ := rs.one
    exact h G H v d z Q l rv q k
def gLen (d : D) : Option D := match d with
  | .lst xs => some (.int xs.length) | .tup xs => some (.int xs.length) | .scr ns => some (.int ns.length)
  | .str z => if szB z.length then some (.int z.length) else none | _ => none
theorem b_len : Blt X "len" (.builtin "len") (b1 gLen) := ⟨⟨_, call_len_seq.or call_len_str, cok1 fun G H v d z Q l rv q k => by
  cases d <;> first | cases q | skip
  · rw [rv.str_inv]
    simp only [gLen] at q
    split at q
    · rename_i hz; cases q; exact .inr ⟨_, rfl, szB_le hz, k _ G H (.refl l) (.int _)⟩
    · cases q
  · obtain ⟨p, rfl, hp⟩ := rv.scr_inv l
    refine .inl ⟨p, _, rfl, .inl hp, k _ G H (.refl l) ?_⟩
    rw [List.length_map]; exact .int _
  · obtain ⟨p, vs, rfl, hp, rp⟩ := rv.lst_inv l
    refine .inl ⟨p, vs, rfl, .inl (.of hp), k _ G H (.refl l) ?_⟩
    rw [← rp.length]; exact .int _
  · obtain ⟨p, vs, rfl, hp, rp⟩ := rv.tup_inv
    refine .inl ⟨p, vs, rfl, .inr (.of (l _ _ hp)), k _ G H (.refl l) ?_⟩
    rw [← rp.length]; exact .int _⟩, PySem.boot_len⟩
def gAbs (d : D) : Option D := match d with | .int i => some (.int (if i < 0 then -i else i)) | _ => none
theorem b_abs : Blt X "abs" (.builtin "abs") (b1 gAbs) := ⟨⟨_, call_abs, cok1 fun G H v d z Q l rv q k => by
  cases d <;> first | cases q | skip
  rw [rv.int_inv]
  exact ⟨_, rfl, k _ G H (.refl l) (.int _)⟩⟩, boot_abs⟩
/-- list(x), tuple(x) -/
def gList (ds : List D) : Option (List D) := match ds with | [.lst xs] => some xs | [.tup xs] => some xs | _ => none
theorem b_list : BltN X "list" (.type "list") gList := ⟨⟨_, call_list_of, fun G H vs ds z Q l rs q k => by
  match ds, q with
  | [.lst xs], q =>
    cases q
    obtain ⟨v, rfl, rv⟩ := rs.one
    obtain ⟨p, vs, rfl, hp, rp⟩ := rv.lst_inv l
    exact ⟨p, vs, rfl, .inl (.of hp), fun n hn => k n vs _ _ (.own l hn) hn (l.free hn) upd_same rp⟩
  | [.tup xs], q =>
    cases q
    obtain ⟨v, rfl, rv⟩ := rs.one
    obtain ⟨p, vs, rfl, hp, rp⟩ := rv.tup_inv
    exact ⟨p, vs, rfl, .inr (.of (l _ _ hp)), fun n hn => k n vs _ _ (.own l hn) hn (l.free hn) upd_same rp⟩⟩, boot_list⟩
def gTuple (d : D) : Option D := match d with | .lst xs => some (.tup xs) | .tup xs => some (.tup xs) | _ => none
theorem b_tuple : Blt X "tuple" (.type "tuple") (b1 gTuple) := ⟨⟨_, call_tuple_of, cok1 fun G H v d z Q l rv q k => by
  cases d <;> first | cases q | skip
  · obtain ⟨p, vs, rfl, hp, rp⟩ := rv.lst_inv l
    exact ⟨p, vs, rfl, .inl ⟨.of hp, fun n hn => k _ _ _ (.pure l hn) (.tup upd_same (rp.mono (.new (l.free hn))))⟩⟩
  · obtain ⟨p, vs, rfl, hp, rp⟩ := rv.tup_inv
    exact ⟨p, vs, rfl, .inr ⟨.of (l _ _ hp), k _ G H (.refl l) (.tup hp rp)⟩⟩⟩, boot_tuple⟩
end
end PL

namespace PL
open PySem PySem.Spec PyProof.Rows L2

/-! ## targets -/
theorem slots_ok {is : List Nat} {n : Nat} (h : is.all (fun i => decide (i < n)) = true) : ∀ i ∈ is, i < n := fun i hi => of_decide_eq_true (List.all_eq_true.mp h i hi)
inductive Tg where
  | nm (i : Nat)
  | tp (is : List Nat)
def Tg.slots : Tg → List Nat | .nm i => [i] | .tp is => is
def setAll : List Nat → List D → DEnv → Option DEnv
  | [], [], ρ => some ρ
  | i :: is, d :: ds, ρ => setAll is ds (ρ.set i (.p d))
  | _, _, _ => none
def bindT : Tg → Cell → DEnv → Option DEnv
  | .nm i, c, ρ => some (ρ.set i c)
  | .tp is, .p (.tup ds), ρ => setAll is ds ρ
  | .tp _, _, _ => none
def gNames : List Nat → TGs
  | [] => gNil
  | i :: is => gCons (gName i) (gNames is)
def tgTG (K : PySem.W.Frag) : Tg → TG
  | .nm i => gName i
  | .tp is => gTup K is.length (gNames is)
def stAll : List Nat → List V → L2.St → L2.St
  | i :: is, v :: vs, σ => stAll is vs (σ.set i (some v))
  | _, _, σ => σ
/-- what a target's stores do to the slots -/
inductive StTo (K : PySem.W.Frag) (G : Hp) : Tg → Cell → V → L2.St → L2.St → Prop
  | nm {i : Nat} {c : Cell} {v : V} {σ : L2.St} : StTo K G (.nm i) c v σ (σ.set i (some v))
  | tp {is : List Nat} {ds : List D} {v : V} {vs : List V} {σ : L2.St} : Reps K G ds vs → ds.length = is.length → StTo K G (.tp is) (.p (.tup ds)) v σ (stAll is vs σ)
theorem gNames_ok {K : PySem.W.Frag} {G H : Hp} {Q : L2.St → Hp → Prop} : ∀ {is : List Nat} {ds : List D} {vs : List V} {σ : L2.St}, Reps K G ds vs → ds.length = is.length → Q (stAll is vs σ) H → gNames is vs σ H Q
  | [], [], _, σ, .nil, _, q => ⟨rfl, q⟩
  | i :: is, _ :: _, _, σ, .cons r t, h, q => ⟨_, _, rfl, gNames_ok (is := is) t (by simpa using h) q⟩
theorem setAll_len : ∀ {is : List Nat} {ds : List D} {ρ ρ' : DEnv}, setAll is ds ρ = some ρ' → ds.length = is.length
  | [], [], _, _, _ => rfl
  | i :: is, d :: ds, _, _, h => by rw [List.length_cons, List.length_cons, setAll_len (is := is) (ds := ds) h]
  | [], _ :: _, _, _, h => by cases h
  | _ :: _, [], _, _, h => by cases h
theorem tg_ok {K : PySem.W.Frag} {G H : Hp} (l : Ex G H) {tg : Tg} {c : Cell} {v : V} {ρ ρ' : DEnv} {σ : L2.St} {Q : L2.St → Hp → Prop} (hc : CellE K G H c v) (hb : bindT tg c ρ = some ρ')
    (q : ∀ σ', StTo K G tg c v σ σ' → Q σ' H) : tgTG K tg v σ H Q := by
  cases tg with
  | nm i => exact q _ .nm
  | tp is =>
    cases c <;> first | cases hb | skip
    rename_i d
    cases d <;> first | cases hb | skip
    rename_i ds
    cases hc with
    | tup h r =>
      have e := setAll_len (show setAll is ds ρ = some ρ' from hb)
      exact ⟨_, _, rfl, .of (l _ _ h), by rw [← r.length]; exact e, gNames_ok r e (q _ (.tp r e))⟩
theorem stAll_er {K : PySem.W.Frag} {n : Nat} {G H : Hp} : ∀ {is : List Nat} {ds : List D} {vs : List V} {ρ ρ' : DEnv} {σ : L2.St}, ER K n ρ σ G H → Reps K G ds vs → (∀ i ∈ is, i < n) → setAll is ds ρ = some ρ' → ER K n ρ' (stAll is vs σ) G H
  | [], _, _, _, _, _, r, .nil, _, h => by cases h; exact r
  | i :: is, _, _, _, _, _, r, .cons a t, hl, h =>
    stAll_er (is := is) (r.set (hl i List.mem_cons_self) (show CellE K G H (.p _) _ from a)) t (fun j hj => hl j (List.mem_cons_of_mem _ hj)) h
  | [], _, _, _, _, _, r, .cons _ _, _, h => by cases h
  | _ :: _, _, _, _, _, _, r, .nil, _, h => by cases h
theorem StTo.er {K : PySem.W.Frag} {n : Nat} {G H : Hp} {tg : Tg} {c : Cell} {v : V} {ρ ρ' : DEnv} {σ σ' : L2.St} (s : StTo K G tg c v σ σ') (r : ER K n ρ σ G H) (hc : CellE K G H c v) (hl : ∀ i ∈ tg.slots, i < n) (hb : bindT tg c ρ = some ρ') : ER K n ρ' σ' G H := by
  cases s with
  | nm => cases hb; exact r.set (hl _ (by simp [Tg.slots])) hc
  | tp a e => exact stAll_er r a hl hb
theorem wipe_at (σ : L2.St) (j : Nat) : ∀ vs : List Nat, (wipe σ vs)[j]? = if j ∈ vs ∧ j < σ.length then some none else σ[j]?
  | [] => by simp [wipe]
  | v :: vs => by
    unfold wipe
    by_cases h : v = j
    · subst h
      by_cases hv : v < σ.length
      · rw [List.getElem?_set_self (by rw [wipe_length]; exact hv), if_pos ⟨List.mem_cons_self, hv⟩]
      · rw [if_neg (fun z => hv z.2), List.getElem?_eq_none (by rw [List.length_set, wipe_length]; omega), List.getElem?_eq_none (by omega)]
    · rw [List.getElem?_set_ne h, wipe_at σ j vs]
      have : (j ∈ v :: vs) ↔ j ∈ vs := by
        rw [List.mem_cons]
        exact ⟨fun z => z.elim (fun e => absurd e.symm h) id, .inr⟩
      simp only [this]
theorem wipe_set {σ : L2.St} {vs : List Nat} {i : Nat} {x : Option V} (h : i ∈ vs) : wipe (σ.set i x) vs = wipe σ vs := by
  apply List.ext_getElem?
  intro j
  rw [wipe_at, wipe_at, List.length_set]
  by_cases hj : j ∈ vs ∧ j < σ.length
  · rw [if_pos hj, if_pos hj]
  · rw [if_neg hj, if_neg hj]
    by_cases e : i = j
    · subst e
      rw [List.getElem?_eq_none (by rw [List.length_set]; exact Nat.le_of_not_lt fun z => hj ⟨h, z⟩), List.getElem?_eq_none (Nat.le_of_not_lt fun z => hj ⟨h, z⟩)]
    · rw [List.getElem?_set_ne e]
theorem wipe_wipe {σ : L2.St} {vs : List Nat} : wipe (wipe σ vs) vs = wipe σ vs := by
  apply List.ext_getElem?
  intro j
  rw [wipe_at, wipe_length, wipe_at]
  split <;> rfl
theorem stAll_wipe {vs : List Nat} : ∀ {is : List Nat} {xs : List V} {σ : L2.St}, (∀ i ∈ is, i ∈ vs) → wipe (stAll is xs σ) vs = wipe σ vs
  | [], _, _, _ => by unfold stAll; rfl
  | _ :: _, [], _, _ => by unfold stAll; rfl
  | i :: is, x :: xs, σ, h => by
    unfold stAll
    rw [stAll_wipe (is := is) (fun j hj => h j (List.mem_cons_of_mem _ hj)), wipe_set (h i List.mem_cons_self)]
theorem StTo.wipe {K : PySem.W.Frag} {G : Hp} {tg : Tg} {c : Cell} {v : V} {σ σ' : L2.St} (s : StTo K G tg c v σ σ') {vs : List Nat} (hv : ∀ i ∈ tg.slots, i ∈ vs) : L2.wipe σ' vs = L2.wipe σ vs := by
  cases s with
  | nm => exact wipe_set (hv _ (by simp [Tg.slots]))
  | tp a e => exact stAll_wipe hv

/-! ## what is walked -/
/-- strong: while the frozen part grows | weak: while the heap grows -/
def WalksG (K : PySem.W.Frag) (J : It) (cs : List Cell) (G' : Hp) : Prop := ∀ i G2 H2, Ex G' G2 → Ex G2 H2 →
  (∀ c, cs[i]? = some c → J.go i H2 ∧ ∀ v H3, J.yld i H2 v H3 → ∃ G3, Up G2 H2 G3 H3 ∧ CellE K G3 H3 c v) ∧ (i = cs.length → J.stop i H2)
def WalksH (K : PySem.W.Frag) (J : It) (cs : List Cell) (G' H' : Hp) : Prop := ∀ i G2 H2, Ex G' G2 → Ex H' H2 → Ex G2 H2 →
  (∀ c, cs[i]? = some c → J.go i H2 ∧ ∀ v H3, J.yld i H2 v H3 → ∃ G3, Up G2 H2 G3 H3 ∧ CellE K G3 H3 c v) ∧ (i = cs.length → J.stop i H2)
theorem WalksG.weak {K : PySem.W.Frag} {J : It} {cs : List Cell} {G' H' : Hp} (h : WalksG K J cs G') : WalksH K J cs G' H' := fun i G2 H2 a _ c => h i G2 H2 a c
abbrev DI := DEnv → Option (List Cell)
def TIg (K : PySem.W.Frag) (nn : Nat) (w : TI) (f : DI) : Prop := ∀ ρ σ G H (R : It → Hp → Prop) cs, Ex G H → ER K nn ρ σ G H → f ρ = some cs →
  (∀ J G' H', Up G H G' H' → WalksG K J cs G' → R J H') → w σ H R
def TIh (K : PySem.W.Frag) (nn : Nat) (w : TI) (f : DI) : Prop := ∀ ρ σ G H (R : It → Hp → Prop) cs, Ex G H → ER K nn ρ σ G H → f ρ = some cs →
  (∀ J G' H', Up G H G' H' → WalksH K J cs G' H' → R J H') → w σ H R
structure ItG (X : Cx) (tg iter : Expr) (f : DI) : Prop where
  ex : ∃ w, PI X tg iter w ∧ TIg X.K X.N.length w f
structure ItH (X : Cx) (tg iter : Expr) (f : DI) : Prop where
  ex : ∃ w, PI X tg iter w ∧ TIh X.K X.N.length w f
theorem ItG.weak {X : Cx} {tg iter : Expr} {f : DI} (h : ItG X tg iter f) : ItH X tg iter f := let ⟨_, a, b⟩ := h.ex; ⟨_, a, fun ρ σ G H R cs l r q k => b ρ σ G H R cs l r q fun J G' H' u w => k J G' H' u w.weak⟩

def asL (d : D) : Option (List Cell) := match d with | .lst xs => some (xs.map .p) | _ => none
def asT (d : D) : Option (List Cell) := match d with | .tup xs => some (xs.map .p) | _ => none
def iOf (g : D → Option (List Cell)) (f : DE) : DI := fun ρ => (f ρ).bind g
theorem walks_list {K : PySem.W.Frag} {a : Addr} {vs : List V} {ds : List D} {G' : Hp} (h : G' a = some (.lst vs)) (r : Reps K G' ds vs) : WalksG K (Itl K a) (ds.map .p) G' := fun i G2 H2 g l => by
  have h2 : H2 a = some (.lst vs) := l _ _ (g _ _ h)
  refine ⟨fun c hc => ?_, fun hi => ⟨vs, .of h2, by rw [← r.length]; simpa using Nat.le_of_eq hi.symm⟩⟩
  rw [List.getElem?_map] at hc
  cases z : ds[i]? with
  | none => rw [z] at hc; cases hc
  | some d =>
    rw [z] at hc; cases hc
    obtain ⟨v, h3, h4⟩ := r.get z
    refine ⟨⟨vs, v, .of h2, h3⟩, fun w H3 y => ?_⟩
    obtain ⟨rfl, y⟩ := y
    have e := y vs (.of h2)
    rw [h3] at e; cases e
    exact ⟨G2, .refl l, h4.mono g⟩
theorem walks_tup {K : PySem.W.Frag} {a : Addr} {vs : List V} {ds : List D} {G' : Hp} (h : G' a = some (.tup vs)) (r : Reps K G' ds vs) : WalksG K (Itt K a) (ds.map .p) G' := fun i G2 H2 g l => by
  have h2 : H2 a = some (.tup vs) := l _ _ (g _ _ h)
  refine ⟨fun c hc => ?_, fun hi => ⟨vs, .of h2, by rw [← r.length]; simpa using Nat.le_of_eq hi.symm⟩⟩
  rw [List.getElem?_map] at hc
  cases z : ds[i]? with
  | none => rw [z] at hc; cases hc
  | some d =>
    rw [z] at hc; cases hc
    obtain ⟨v, h3, h4⟩ := r.get z
    refine ⟨⟨vs, v, .of h2, h3⟩, fun w H3 y => ?_⟩
    obtain ⟨rfl, y⟩ := y
    have e := y vs (.of h2)
    rw [h3] at e; cases e
    exact ⟨G2, .refl l, h4.mono g⟩
theorem walks_listH {K : PySem.W.Frag} {a : Addr} {vs : List V} {ds : List D} {G' H' : Hp} (h : H' a = some (.lst vs)) (r : Reps K G' ds vs) : WalksH K (Itl K a) (ds.map .p) G' H' := fun i G2 H2 g hh l => by
  have h2 : H2 a = some (.lst vs) := hh _ _ h
  refine ⟨fun c hc => ?_, fun hi => ⟨vs, .of h2, by rw [← r.length]; simpa using Nat.le_of_eq hi.symm⟩⟩
  rw [List.getElem?_map] at hc
  cases z : ds[i]? with
  | none => rw [z] at hc; cases hc
  | some d =>
    rw [z] at hc; cases hc
    obtain ⟨v, h3, h4⟩ := r.get z
    refine ⟨⟨vs, v, .of h2, h3⟩, fun w H3 y => ?_⟩
    obtain ⟨rfl, y⟩ := y
    have e := y vs (.of h2)
    rw [h3] at e; cases e
    exact ⟨G2, .refl l, h4.mono g⟩
section
variable {X : Cx} {tg e : Expr} {f : DE}
theorem ig_list (h : PuE X e f) : ItG X tg e (iOf asL f) := let ⟨_, a1, a2⟩ := h.ex; ⟨_, pi_list a1, fun ρ σ G H R cs l r q k => by
  unfold iOf at q
  cases z : f ρ with
  | none => rw [z] at q; cases q
  | some d =>
    rw [z] at q
    cases d <;> first | cases q | skip
    refine a2 ρ σ G H _ _ l r z fun v G1 H1 u1 rv => ?_
    cases rv with
    | lst hp rp => exact ⟨_, rfl, ⟨_, .of (u1.le _ _ hp)⟩, k _ G1 H1 u1 (walks_list hp rp)⟩⟩
theorem ig_tup (h : PuE X e f) : ItG X tg e (iOf asT f) := let ⟨_, a1, a2⟩ := h.ex; ⟨_, pi_tup a1, fun ρ σ G H R cs l r q k => by
  unfold iOf at q
  cases z : f ρ with
  | none => rw [z] at q; cases q
  | some d =>
    rw [z] at q
    cases d <;> first | cases q | skip
    refine a2 ρ σ G H _ _ l r z fun v G1 H1 u1 rv => ?_
    cases rv with
    | tup hp rp => exact ⟨_, rfl, ⟨_, .of (u1.le _ _ hp)⟩, k _ G1 H1 u1 (walks_tup hp rp)⟩⟩
theorem ih_list (h : RdE X e f) : ItH X tg e (iOf asL f) := let ⟨_, a1, a2⟩ := h.ex; ⟨_, pi_list a1, fun ρ σ G H R cs l r q k => by
  unfold iOf at q
  cases z : f ρ with
  | none => rw [z] at q; cases q
  | some d =>
    rw [z] at q
    cases d <;> first | cases q | skip
    refine a2 ρ σ G H _ _ l r z fun v G1 H1 u1 rv => ?_
    obtain ⟨p, vs, rfl, hp, rp⟩ := rv.lst_inv u1.le
    exact ⟨_, rfl, ⟨_, .of hp⟩, k _ G1 H1 u1 (walks_listH hp rp)⟩⟩
/-- an own list of lists, in a comprehension -/
def iLL (i : Nat) : DI := fun ρ => match ρ i with | some (.oll xss) => some (xss.map .ol) | _ => none
theorem ih_LL (i : Nat) {x : Str} {pos : Pos} (hN : X.N[i]? = some x := by rfl) (hv : Vis X.env.scope x := by first | exact Or.inl rfl | exact Or.inr (Or.inl rfl) | exact Or.inr (Or.inr rfl)) (hd : (x == ("__debug__" : Str)) = false := by decide)
    (hcd : (x == ("__classdict__" : Str)) = false := by decide) : ItH X tg (.Name x pos) (iLL i) := ⟨_, pi_list (pe_var hN hv hd hcd), fun ρ σ G H R cs l r q k => by
  unfold iLL at q
  cases z : ρ i with
  | none => rw [z] at q; cases q
  | some c =>
    rw [z] at q
    cases c <;> first | cases q | skip
    rename_i xss
    obtain ⟨v, h1, p, bs, rfl, hp, hb⟩ := r.at_ i _ z
    refine ⟨_, h1, p, rfl, ⟨_, .of hp⟩, k _ G H (.refl l) fun j G2 H2 g hh l2 => ?_⟩
    have h2 : H2 p = some (.lst (bs.map V.ref)) := hh _ _ hp
    have hl : bs.length = xss.length := Paired.length hb
    refine ⟨fun c hc => ?_, fun hi => ⟨_, .of h2, by simpa [hl] using Nat.le_of_eq hi.symm⟩⟩
    rw [List.getElem?_map] at hc
    cases z2 : xss[j]? with
    | none => rw [z2] at hc; cases hc
    | some xs =>
      rw [z2] at hc; cases hc
      obtain ⟨b, y1, vs, y2, y3⟩ := paired_get hb z2
      have y4 : (bs.map V.ref)[j]? = some (.ref b) := by rw [List.getElem?_map, y1]; rfl
      refine ⟨⟨_, _, .of h2, y4⟩, fun w H3 y => ?_⟩
      obtain ⟨rfl, y⟩ := y
      have e := y _ (.of h2)
      rw [y4] at e; cases e
      exact ⟨G2, .refl l2, ⟨b, vs, rfl, hh _ _ y2, y3.mono g⟩⟩⟩
/-! ### ranges -/
def rngCells (lo : Int) (n : Nat) : List Cell := (List.range n).map fun i => .p (.int (lo + (i : Nat)))
def iRng (lo hi : DE) : DI := fun ρ => match lo ρ, hi ρ with
  | some (.int a), some (.int b) => if -1000000000 ≤ a ∧ a ≤ 1000000000 ∧ -1000000000 ≤ b ∧ b ≤ 1000000000 then some (rngCells a (b - a).toNat) else none
  | _, _ => none
theorem walks_rng {K : PySem.W.Frag} {lo : Int} {n : Nat} {G' : Hp} : WalksG K (Itr lo n) (rngCells lo n) G' := fun i G2 H2 g l => by
  refine ⟨fun c hc => ?_, fun hi => (show n ≤ i by simpa [rngCells] using Nat.le_of_eq hi.symm)⟩
  unfold rngCells at hc
  rw [List.getElem?_map] at hc
  by_cases hi : i < n
  · rw [List.getElem?_range hi] at hc; cases hc
    exact ⟨hi, fun w H3 y => by obtain ⟨rfl, rfl⟩ := y; exact ⟨G2, .refl l, .int _⟩⟩
  · rw [List.getElem?_eq_none (by simp; omega)] at hc; cases hc
theorem pow62 : (2 : Int) ^ 62 = 4611686018427387904 := by decide
variable {a b : Expr} {fa fb : DE} {p pos : Pos}
theorem ig_range2 (hm : X.mg "range" = none) (ha : RdE X a fa) (hb : RdE X b fb) (hg : Gl X "range" := by rfl) (hs : starEach [a, b] X.env = [(false, eval a X.env), (false, eval b X.env)] := by rfl) (hs2 : starEach [b] X.env = [(false, eval b X.env)] := by rfl)
    (hs3 : starEach (a :: [b]) X.env = (false, eval a X.env) :: starEach [b] X.env := by rfl) (hs4 : starEach (b :: []) X.env = (false, eval b X.env) :: starEach [] X.env := by rfl) : ItG X tg (.Call (.Name "range" p) [a, b] [] pos) (iRng fa fb) :=
  let ⟨_, a1, a2⟩ := (ra_cons ha (ra_cons hb ra_nil hs4) hs3).ex; ⟨_, pi_range2 hg hm a1 hs hs2, fun ρ σ G H R cs l r q k => by
  unfold iRng at q
  split at q
  · rename_i x y e1 e2
    split at q
    · rename_i hB
      cases q
      refine a2 ρ σ G H _ [.int x, .int y] l r (by simp [dCons, dNil, e1, e2]) fun vs G1 H1 u1 rvs => ?_
      obtain ⟨v, w, rfl, rv, rw'⟩ := rvs.two
      rw [rv.int_inv, rw'.int_inv]
      refine ⟨x, y, rfl, ?_, k _ G1 H1 u1 walks_rng⟩
      rw [pow62]; omega
    · cases q
  · cases q⟩
theorem ig_range1 (hm : X.mg "range" = none) (ha : RdE X a fa) (hg : Gl X "range" := by rfl) (hs : starEach [a] X.env = [(false, eval a X.env)] := by rfl) 
    (hs3 : starEach (a :: []) X.env = (false, eval a X.env) :: starEach [] X.env := by rfl) : ItG X tg (.Call (.Name "range" p) [a] [] pos) (iRng (eC (.int 0)) fa) :=
  let ⟨_, a1, a2⟩ := (ra_cons ha ra_nil hs3).ex; ⟨_, pi_range1 hg hm a1 hs, fun ρ σ G H R cs l r q k => by
  unfold iRng at q
  split at q
  · rename_i x y e1 e2
    cases e1
    split at q
    · rename_i hB
      cases q
      refine a2 ρ σ G H _ [.int y] l r (by simp [dCons, dNil, e2]) fun vs G1 H1 u1 rvs => ?_
      obtain ⟨v, rfl, rv⟩ := rvs.one
      rw [rv.int_inv]
      refine ⟨y, rfl, by rw [pow62]; omega, by rw [pow62]; omega, ?_⟩
      have e : (y - 0).toNat = y.toNat := by simp
      rw [e] at k
      exact k _ G1 H1 u1 walks_rng
    · cases q
  · cases q⟩
end

/-! ## comprehensions -/
def compL (tg : Tg) (ws : List Nat) (cond : DB) (elt : DE) (ρ : DEnv) : List Cell → Option (List D)
  | [] => some []
  | c :: cs => (bindT tg c (ρ.wipe ws)).bind fun ρ1 => (cond ρ1).bind fun b => if b = true then (elt ρ1).bind fun d => (compL tg ws cond elt ρ cs).map fun ds => d :: ds else compL tg ws cond elt ρ cs
def eComp (it : DI) (tg : Tg) (ws : List Nat) (cond : DB) (elt : DE) : DL := fun ρ => (it ρ).bind fun cs => (compL tg ws cond elt ρ cs).bind fun ds => if szB ds.length then some ds else none
def bYes : DB := fun _ => some true
structure PuTs (X : Cx) (ifs : List Expr) (f : DB) : Prop where
  ex : ∃ t, PTs X ifs t ∧ TTok X.K X.N.length t f
theorem pts_no {X : Cx} : PuTs X [] bYes := ⟨_, pts_nil, fun ρ σ G H Q b l r q k => by cases q; exact k G H (.refl l)⟩
theorem pts_if {X : Cx} {c : Expr} {f : DB} (h : PuT X c f) : PuTs X [c] f := let ⟨_, a1, a2⟩ := h.ex; ⟨_, pts_one a1, a2⟩
theorem te_comp {K : PySem.W.Frag} {nn : Nat} {wi : TI} {it : DI} {tt : TT} {cond : DB} {te : TE} {elt : DE} {tg : Tg} {ws : List Nat} (hi : TIh K nn wi it) (ht : TTok K nn tt cond) (he : TEok K nn te elt) (hs : ∀ i ∈ tg.slots, i < nn) (hw : ∀ i ∈ tg.slots, i ∈ ws) :
    TNok K nn (tLc wi (tgTG K tg) tt te ws) (eComp it tg ws cond elt) := fun ρ σ G H Q ds l r q k => by
  unfold eComp at q
  cases z : it ρ with
  | none => rw [z] at q; cases q
  | some cs =>
    rw [z] at q
    cases z2 : compL tg ws cond elt ρ cs with
    | none => simp only [Option.bind_some, z2] at q; cases q
    | some out =>
      simp only [Option.bind_some, z2] at q
      split at q
      · rename_i hz
        cases q
        refine hi ρ σ G H _ cs l r z fun J G1 H1 u1 wk => ?_
        intro Dl hD
        have r1 := r.up u1
        -- the invariant: a heap that grows but for Dl
        let Inv : Nat → Hp → Prop := fun i H' => ∃ G' vs done rest, Up G1 H1 G' H' ∧ G' Dl = none ∧ H' Dl = some (.lst vs) ∧ Reps K G' done vs ∧ ds = done ++ rest ∧ compL tg ws cond elt ρ (cs.drop i) = some rest
        refine ⟨fun i m H' => m = cs.length - i ∧ i ≤ cs.length ∧ Inv i H', ⟨cs.length, by simp, Nat.zero_le _, G1, [], [], ds, .own u1.le hD, u1.le.free hD, upd_same, .nil, by simp, by simpa using z2⟩, ?_⟩
        rintro i m H' ⟨rfl, hi, G', vs, done, rest, u, gD, hd, rv, e, cr⟩
        have w := wk i G' H' u.g u.h u.le
        by_cases hlt : i < cs.length
        · right
          obtain ⟨go, yl⟩ := w.1 cs[i] (List.getElem?_eq_getElem hlt)
          refine ⟨go, fun H2 => Inv (i + 1) H2, fun H2 q => ⟨cs.length - (i + 1), by omega, rfl, hlt, q⟩, fun x H2 y => ?_⟩
          obtain ⟨G3, u3, cx⟩ := yl x H2 y
          rw [List.drop_eq_getElem_cons hlt] at cr
          unfold compL at cr
          cases z3 : bindT tg cs[i] (ρ.wipe ws) with
          | none => rw [z3] at cr; cases cr
          | some ρ1 =>
            rw [z3] at cr
            refine tg_ok u3.le cx z3 fun σ2 st => ?_
            refine ⟨(st.wipe hw).trans wipe_wipe, ?_⟩
            have r2 : ER K nn ρ1 σ2 G3 H2 := st.er ((r1.up (u.trans u3)).wipe) cx hs z3
            cases z4 : cond ρ1 with
            | none => simp only [Option.bind_some, z4] at cr; cases cr
            | some b =>
              simp only [Option.bind_some, z4] at cr
              refine ht ρ1 σ2 G3 H2 _ b u3.le r2 z4 fun G4 H4 u4 => ?_
              have u5 := u3.trans u4
              cases b with
              | false =>
                rw [if_neg Bool.false_ne_true] at cr ⊢
                exact ⟨G4, vs, done, rest, u.trans u5, u5.new _ _ hd gD, u5.h _ _ hd, rv.mono u5.g, e, cr⟩
              | true =>
                rw [if_pos rfl] at cr ⊢
                cases z5 : elt ρ1 with
                | none => rw [z5] at cr; cases cr
                | some d =>
                  rw [z5] at cr
                  refine he ρ1 σ2 G4 H4 _ d u4.le (r2.up u4) z5 fun v G6 H6 u6 rv6 => ?_
                  have u7 := u5.trans u6
                  cases z6 : compL tg ws cond elt ρ (cs.drop (i + 1)) with
                  | none => simp only [Option.bind_some, z6] at cr; cases cr
                  | some rest' =>
                    simp only [Option.bind_some, z6, Option.map_some] at cr
                    cases cr
                    have g6 : G6 Dl = none := u7.new _ _ hd gD
                    refine ⟨vs, u7.h _ _ hd, ?_, G6, vs ++ [v], done ++ [d], rest', ?_, g6, upd_same, (rv.mono u7.g).append (.cons rv6 .nil), by rw [e]; simp, z6⟩
                    · have h1 : ds.length ≤ sizeLine := szB_le hz
                      rw [← rv.length]
                      rw [e, List.length_append, List.length_cons] at h1
                      omega
                    · exact ⟨(u.trans u7).g, (u.trans u7).h.updR hD, u7.le.updR g6, (u.trans u7).new⟩
        · left
          have ei : i = cs.length := by omega
          subst ei
          refine ⟨w.2 rfl, ?_⟩
          rw [List.drop_length] at cr
          cases cr
          rw [List.append_nil] at e
          subst e
          exact k Dl vs G' H' (u1.trans u) (u1.h.free hD) gD hd rv
      · cases q
section
variable {X : Cx} {elt tgE iter : Expr} {ifs : List Expr} {scope : Scope} {own : List (Str × Nat)} {pos : Pos} {it : DI} {tg : Tg} {cond : DB} {fe : DE}
theorem nw_comp (tg : Tg) (hc : X.calm = true) (hN : X.N.Nodup) (hi : ItH X tgE iter it) (ok : blkC X.N X.env.scope scope own = true)
    (hg : ∀ (s : Shared) (H : Hp) (C : Addr) (cl : List (Str × Addr)) (fp : List Addr), PG (X.blk s H scope (compEnvC scope cl C X.env) fp) tgE (tgTG X.K tg))
    (ht : ∀ (s : Shared) (H : Hp) (C : Addr) (cl : List (Str × Addr)) (fp : List Addr), PuTs (X.blk s H scope (compEnvC scope cl C X.env) fp) ifs cond)
    (he : ∀ (s : Shared) (H : Hp) (C : Addr) (cl : List (Str × Addr)) (fp : List Addr), PuE (X.blk s H scope (compEnvC scope cl C X.env) fp) elt fe)
    (hsl : ∀ i ∈ tg.slots, i < X.N.length) (hw : ∀ i ∈ tg.slots, i ∈ own.map (·.2)) (hs : ∀ x, foldedSetIterable iter X.env x = pure x := by intro _; rfl) :
    NwE X (.ListComp elt [⟨tgE, iter, ifs, 0⟩] scope pos) (eComp it tg (own.map (·.2)) cond fe) := by
  obtain ⟨wi, i1, i2⟩ := hi.ex
  -- one reading for every block: the weakest that all parts share
  refine ⟨tLc wi (tgTG X.K tg) (fun σ H Q => ∀ t, (∀ (s : Shared) (H : Hp) (C : Addr) (cl : List (Str × Addr)) (fp : List Addr), True) → TTok X.K X.N.length t cond → t σ H Q) (fun σ H Q => ∀ t, TEok X.K X.N.length t fe → t σ H Q) (own.map (·.2)), ?_, ?_⟩
  · refine pe_lc hc hN i1 (blkOk_by ok) hg (fun s H C cl fp => ?_) (fun s H C cl fp => ?_) hs
    · obtain ⟨t, a1, a2⟩ := (ht s H C cl fp).ex
      exact ⟨fun pins s' σ H' Q I h => a1.run pins s' σ H' Q I (h t (fun _ _ _ _ _ => trivial) a2)⟩
    · obtain ⟨t, a1, a2⟩ := (he s H C cl fp).ex
      exact ⟨fun pins s' σ H' Q I h => a1.run pins s' σ H' Q I (h t a2)⟩
  · exact te_comp i2 (fun ρ σ G H Q b l r q k t _ ok => ok ρ σ G H Q b l r q k) (fun ρ σ G H Q d l r q k t ok => ok ρ σ G H Q d l r q k) hsl hw
end
end PL

namespace PL
open PySem PySem.Spec PyProof.Rows L2

/-! ## the state of a body -/
/-- what an own cell stands on: fresh to the frozen part and to the caller -/
def OwnC (G H H0 : Hp) : Cell → V → Prop
  | .p _, _ => True
  | .oll _, v => ∀ (p : Addr) (bs : List Addr), v = .ref p → H p = some (.lst (bs.map V.ref)) → (G p = none ∧ H0 p = none) ∧ bs.Nodup ∧ p ∉ bs ∧ ∀ b ∈ bs, G b = none ∧ H0 b = none
  | _, v => ∀ a : Addr, v = .ref a → G a = none ∧ H0 a = none
def Foot (H : Hp) : Cell → V → Addr → Prop
  | .p _, _, _ => False
  | .oll _, v, a => v = .ref a ∨ ∃ (p : Addr) (bs : List Addr), v = .ref p ∧ H p = some (.lst (bs.map V.ref)) ∧ a ∈ bs
  | _, v, a => v = .ref a
structure SR (K : PySem.W.Frag) (nn : Nat) (G0 H0 : Hp) (ρ : DEnv) (σ : L2.St) (G H : Hp) : Prop where
  er : ER K nn ρ σ G H
  up : Up G0 H0 G H
  own : ∀ i c v, ρ i = some c → σ[i]? = some (some v) → OwnC G H H0 c v
  dist : ∀ i j c c' v v' a, ρ i = some c → ρ j = some c' → σ[i]? = some (some v) → σ[j]? = some (some v') → Foot H c v a → Foot H c' v' a → i = j
theorem refs_inj : ∀ {bs bs' : List Addr}, bs.map V.ref = bs'.map V.ref → bs = bs'
  | [], [], _ => rfl
  | [], _ :: _, h => by cases h
  | _ :: _, [], h => by cases h
  | b :: bs, b' :: bs', h => by
    rw [List.map_cons, List.map_cons] at h
    injection h with h1 h2
    injection h1 with h1
    rw [h1, refs_inj h2]
theorem lst_inj {H : Hp} {a : Addr} {vs ws : List V} (h : H a = some (.lst vs)) (h' : H a = some (.lst ws)) : vs = ws := by
  rw [h] at h'; exact HO.lst.inj (Option.some.inj h')
/-- an own cell's objects stand in the heap -/
theorem foot_there {K : PySem.W.Frag} {G H : Hp} {c : Cell} {v : V} {a : Addr} (h : CellE K G H c v) (f : Foot H c v a) : ∃ o, H a = some o := by
  cases c with
  | p _ => exact f.elim
  | ol _ => obtain ⟨p, vs, rfl, e, _⟩ := h; cases f; exact ⟨_, e⟩
  | od _ => obtain ⟨p, rfl, e⟩ := h; cases f; exact ⟨_, e⟩
  | oi _ => obtain ⟨p, rfl, e⟩ := h; cases f; exact ⟨_, e⟩
  | oll xss =>
    obtain ⟨p, bs, rfl, e, hb⟩ := h
    rcases f with f | ⟨p', bs', f, e', m⟩
    · cases f; exact ⟨_, e⟩
    · cases f
      have := refs_inj (lst_inj e e')
      subst this
      obtain ⟨j, hj, ej⟩ := List.mem_iff_getElem.mp m
      have hl : bs.length = xss.length := Paired.length hb
      obtain ⟨b, y1, vs, y2, _⟩ := paired_get hb (List.getElem?_eq_getElem (by omega : j < xss.length))
      rw [List.getElem?_eq_getElem hj, ej] at y1
      cases y1
      exact ⟨_, y2⟩
theorem foot_up {K : PySem.W.Frag} {G H H' : Hp} (h : Ex H H') {c : Cell} {v : V} {a : Addr} (hc : CellE K G H c v) (f : Foot H' c v a) : Foot H c v a := by
  cases c with
  | p _ => exact f
  | ol _ => exact f
  | od _ => exact f
  | oi _ => exact f
  | oll xss =>
    obtain ⟨p, bs, rfl, e, hb⟩ := hc
    rcases f with f | ⟨p', bs', f, e', m⟩
    · exact .inl f
    · cases f
      have := refs_inj (lst_inj (h _ _ e) e')
      subst this
      exact .inr ⟨p, bs, rfl, e, m⟩
section
variable {K : PySem.W.Frag} {nn : Nat} {G0 H0 G H G' H' : Hp} {ρ : DEnv} {σ : L2.St}
theorem OwnC.step {c : Cell} {v : V} (hc : CellE K G H c v) (u : Up G H G' H') (o : OwnC G H H0 c v) : OwnC G' H' H0 c v := by
  cases c with
  | p _ => trivial
  | ol _ => obtain ⟨p, vs, rfl, e, _⟩ := hc; intro a ea; cases ea; have := o p rfl; exact ⟨u.new _ _ e this.1, this.2⟩
  | od _ => obtain ⟨p, rfl, e⟩ := hc; intro a ea; cases ea; have := o p rfl; exact ⟨u.new _ _ e this.1, this.2⟩
  | oi _ => obtain ⟨p, rfl, e⟩ := hc; intro a ea; cases ea; have := o p rfl; exact ⟨u.new _ _ e this.1, this.2⟩
  | oll xss =>
    have hc' := hc
    obtain ⟨p, bs, rfl, e, hb⟩ := hc
    intro p' bs' ep e'
    cases ep
    have := refs_inj (lst_inj (u.h _ _ e) e')
    subst this
    obtain ⟨q1, q2, q3, q4⟩ := o p bs rfl e
    refine ⟨⟨u.new _ _ e q1.1, q1.2⟩, q2, q3, fun b hbm => ?_⟩
    obtain ⟨o', eo⟩ := foot_there hc' (.inr ⟨p, bs, rfl, e, hbm⟩)
    exact ⟨u.new _ _ eo (q4 b hbm).1, (q4 b hbm).2⟩
/-- behind an expression -/
theorem SR.step (s : SR K nn G0 H0 ρ σ G H) (u : Up G H G' H') : SR K nn G0 H0 ρ σ G' H' where
  er := s.er.up u
  up := s.up.trans u
  own := fun i c v h1 h2 => by
    obtain ⟨v', e, hc⟩ := s.er.at_ i c h1
    rw [h2] at e; cases e
    exact (s.own i c v h1 h2).step hc u
  dist := fun i j c c' v v' a h1 h2 h3 h4 f f' => by
    obtain ⟨w, e, hc⟩ := s.er.at_ i c h1
    rw [h3] at e; cases e
    obtain ⟨w', e', hc'⟩ := s.er.at_ j c' h2
    rw [h4] at e'; cases e'
    exact s.dist i j c c' v v' a h1 h2 h3 h4 (foot_up u.h hc f) (foot_up u.h hc' f')
theorem DEnv.set_self (ρ : DEnv) (i : Nat) (c : Cell) : ρ.set i c i = some c := by unfold DEnv.set; rw [if_pos rfl]
theorem DEnv.set_ne (ρ : DEnv) {i j : Nat} (c : Cell) (h : j ≠ i) : ρ.set i c j = ρ j := by unfold DEnv.set; rw [if_neg h]
/-- a slot is stored -/
theorem SR.set {i : Nat} {c : Cell} {v : V} (s : SR K nn G0 H0 ρ σ G H) (hi : i < nn) (hc : CellE K G H c v) (ho : OwnC G H H0 c v)
    (hd : ∀ j c' v' a, j ≠ i → ρ j = some c' → σ[j]? = some (some v') → Foot H c v a → Foot H c' v' a → False) : SR K nn G0 H0 (ρ.set i c) (σ.set i (some v)) G H := by
  have hg : ∀ j, j ≠ i → (σ.set i (some v))[j]? = σ[j]? := fun j hj => List.getElem?_set_ne (Ne.symm hj)
  have hs : (σ.set i (some v))[i]? = some (some v) := List.getElem?_set_self (by rw [s.er.len]; exact hi)
  refine ⟨s.er.set hi hc, s.up, fun j c' v' h1 h2 => ?_, fun j k c1 c2 v1 v2 a h1 h2 h3 h4 f1 f2 => ?_⟩
  · by_cases e : j = i
    · subst e
      rw [DEnv.set_self] at h1; cases h1
      rw [hs] at h2; cases h2
      exact ho
    · rw [DEnv.set_ne _ _ e] at h1
      rw [hg j e] at h2
      exact s.own j c' v' h1 h2
  · by_cases ej : j = i
    · by_cases ek : k = i
      · rw [ej, ek]
      · subst ej
        rw [DEnv.set_self] at h1; cases h1
        rw [hs] at h3; cases h3
        rw [DEnv.set_ne _ _ ek] at h2
        rw [hg k ek] at h4
        exact (hd k c2 v2 a ek h2 h4 f1 f2).elim
    · by_cases ek : k = i
      · subst ek
        rw [DEnv.set_self] at h2; cases h2
        rw [hs] at h4; cases h4
        rw [DEnv.set_ne _ _ ej] at h1
        rw [hg j ej] at h3
        exact (hd j c1 v1 a ej h1 h3 f2 f1).elim
      · rw [DEnv.set_ne _ _ ej] at h1
        rw [DEnv.set_ne _ _ ek] at h2
        rw [hg j ej] at h3
        rw [hg k ek] at h4
        exact s.dist j k c1 c2 v1 v2 a h1 h2 h3 h4 f1 f2
theorem SR.setP {i : Nat} {d : D} {v : V} (s : SR K nn G0 H0 ρ σ G H) (hi : i < nn) (hc : Rep K G d v) : SR K nn G0 H0 (ρ.set i (.p d)) (σ.set i (some v)) G H :=
  s.set hi hc trivial fun _ _ _ _ _ _ _ f _ => f.elim
theorem SR.stAll : ∀ {is : List Nat} {ds : List D} {vs : List V} {ρ ρ' : DEnv} {σ : L2.St}, SR K nn G0 H0 ρ σ G H → Reps K G ds vs → (∀ i ∈ is, i < nn) → setAll is ds ρ = some ρ' → SR K nn G0 H0 ρ' (stAll is vs σ) G H
  | [], _, _, _, _, _, r, .nil, _, h => by cases h; exact r
  | i :: is, _, _, _, _, _, r, .cons a t, hl, h =>
    SR.stAll (is := is) (r.setP (hl i List.mem_cons_self) a) t (fun j hj => hl j (List.mem_cons_of_mem _ hj)) h
  | [], _, _, _, _, _, r, .cons _ _, _, h => by cases h
  | _ :: _, _, _, _, _, _, r, .nil, _, h => by cases h
theorem StTo.sr {tg : Tg} {d : D} {v : V} {ρ' : DEnv} {σ' : L2.St} (s : StTo K G tg (.p d) v σ σ') (r : SR K nn G0 H0 ρ σ G H) (hc : Rep K G d v) (hl : ∀ i ∈ tg.slots, i < nn) (hb : bindT tg (.p d) ρ = some ρ') : SR K nn G0 H0 ρ' σ' G H := by
  cases s with
  | nm => cases hb; exact r.setP (hl _ (by simp [Tg.slots])) hc
  | tp a e => exact SR.stAll r a hl hb
/-- an own object at a is written -/
theorem SR.write {i : Nat} {c : Cell} {a : Addr} {o : HO} (s : SR K nn G0 H0 ρ σ G H) (hi : i < nn) {c0 : Cell} {v : V} (h0 : ρ i = some c0) (hv : σ[i]? = some (some v)) (hf : Foot H c0 v a) (ha : G a = none ∧ H0 a = none)
    (hc : CellE K G (upd H a o) c v) (ho : OwnC G (upd H a o) H0 c v) (hF : ∀ b, Foot (upd H a o) c v b → Foot H c0 v b)
    (hk : ∀ xss, c0 = .oll xss → ∀ (p : Addr) (bs : List Addr), v = .ref p → H p = some (.lst (bs.map V.ref)) → True) : SR K nn G0 H0 (ρ.set i c) σ G (upd H a o) := by
  have hne : ∀ j c' v' b, j ≠ i → ρ j = some c' → σ[j]? = some (some v') → Foot H c' v' b → b ≠ a := fun j c' v' b hj h1 h2 f e => by
    subst e
    exact hj (s.dist j i c' c0 v' v b h1 h0 h2 hv f hf)
  have hcell : ∀ j c' v', j ≠ i → ρ j = some c' → σ[j]? = some (some v') → CellE K G H c' v' → CellE K G (upd H a o) c' v' := fun j c' v' hj h1 h2 hE => by
    cases c' with
    | p _ => exact hE
    | ol _ => obtain ⟨p, vs, rfl, e, r⟩ := hE; exact ⟨p, vs, rfl, by rw [upd_ne (hne j _ _ p hj h1 h2 rfl)]; exact e, r⟩
    | od _ => obtain ⟨p, rfl, e⟩ := hE; exact ⟨p, rfl, by rw [upd_ne (hne j _ _ p hj h1 h2 rfl)]; exact e⟩
    | oi _ => obtain ⟨p, rfl, e⟩ := hE; exact ⟨p, rfl, by rw [upd_ne (hne j _ _ p hj h1 h2 rfl)]; exact e⟩
    | oll xss =>
      obtain ⟨p, bs, rfl, e, hb⟩ := hE
      refine ⟨p, bs, rfl, by rw [upd_ne (hne j _ _ p hj h1 h2 (.inl rfl))]; exact e, ?_⟩
      have hmem : ∀ b ∈ bs, b ≠ a := fun b hb' => hne j _ _ b hj h1 h2 (.inr ⟨p, bs, rfl, e, hb'⟩)
      clear e h1
      induction hb with
      | nil => exact .nil
      | cons r t ih =>
        obtain ⟨vs, y1, y2⟩ := r
        exact .cons ⟨vs, by rw [upd_ne (hmem _ List.mem_cons_self)]; exact y1, y2⟩ (ih fun b hb' => hmem b (List.mem_cons_of_mem _ hb'))
  have hfoot : ∀ j c' v' b, j ≠ i → ρ j = some c' → σ[j]? = some (some v') → CellE K G H c' v' → Foot (upd H a o) c' v' b → Foot H c' v' b := fun j c' v' b hj h1 h2 hE f => by
    cases c' with
    | p _ => exact f
    | ol _ => exact f
    | od _ => exact f
    | oi _ => exact f
    | oll xss =>
      obtain ⟨p, bs, rfl, e, hb⟩ := hE
      rcases f with f | ⟨p', bs', f, e', m⟩
      · exact .inl f
      · cases f
        rw [upd_ne (hne j _ _ p hj h1 h2 (.inl rfl))] at e'
        exact .inr ⟨p, bs', rfl, e', m⟩
  have hown : ∀ j c' v', j ≠ i → ρ j = some c' → σ[j]? = some (some v') → OwnC G H H0 c' v' → OwnC G (upd H a o) H0 c' v' := fun j c' v' hj h1 h2 hO => by
    cases c' with
    | p _ => trivial
    | ol _ => exact hO
    | od _ => exact hO
    | oi _ => exact hO
    | oll xss =>
      intro p bs ep e
      subst ep
      rw [upd_ne (hne j _ _ p hj h1 h2 (.inl rfl))] at e
      exact hO p bs rfl e
  refine ⟨⟨s.er.len, fun j c' h1 => ?_⟩, ⟨s.up.g, s.up.h.updR ha.2, s.up.le.updR ha.1, s.up.new⟩, fun j c' v' h1 h2 => ?_, fun j k c1 c2 v1 v2 b h1 h2 h3 h4 f1 f2 => ?_⟩
  · by_cases e : j = i
    · subst e
      rw [DEnv.set_self] at h1; cases h1
      exact ⟨v, hv, hc⟩
    · rw [DEnv.set_ne _ _ e] at h1
      obtain ⟨w, h2, h3⟩ := s.er.at_ j c' h1
      exact ⟨w, h2, hcell j c' w e h1 h2 h3⟩
  · by_cases e : j = i
    · subst e
      rw [DEnv.set_self] at h1; cases h1
      rw [hv] at h2; cases h2
      exact ho
    · rw [DEnv.set_ne _ _ e] at h1
      exact hown j c' v' e h1 h2 (s.own j c' v' h1 h2)
  · have conv : ∀ j c' v', (ρ.set i c) j = some c' → σ[j]? = some (some v') → Foot (upd H a o) c' v' b → ∃ c'', ρ j = some c'' ∧ Foot H c'' v' b := fun j c' v' y1 y2 f => by
      by_cases e : j = i
      · subst e
        rw [DEnv.set_self] at y1; cases y1
        rw [hv] at y2; cases y2
        exact ⟨c0, h0, hF b f⟩
      · rw [DEnv.set_ne _ _ e] at y1
        obtain ⟨w, y2', y3⟩ := s.er.at_ j c' y1
        rw [y2] at y2'; cases y2'
        exact ⟨c', y1, hfoot j c' v' b e y1 y2 y3 f⟩
    obtain ⟨d1, g1, g2⟩ := conv j c1 v1 h1 h3 f1
    obtain ⟨d2, g3, g4⟩ := conv k c2 v2 h2 h4 f2
    exact s.dist j k d1 d2 v1 v2 b g1 g3 h3 h4 g2 g4
/-- freezing -/
def freeze (i : Nat) (ρ : DEnv) : DEnv := match ρ i with
  | some (.ol xs) => ρ.set i (.p (.lst xs))
  | some (.od kvs) => ρ.set i (.p (.dct kvs))
  | _ => ρ
theorem ER.lt (r : ER K nn ρ σ G H) {i : Nat} {c : Cell} (h : ρ i = some c) : i < nn := by
  obtain ⟨v, e, _⟩ := r.at_ i c h
  have := (List.getElem?_eq_some_iff.mp e).1
  rw [r.len] at this
  exact this
/-- an object of the heap is frozen -/
theorem SR.frz1 {i : Nat} {c0 : Cell} {d : D} {a : Addr} {o : HO} (s : SR K nn G0 H0 ρ σ G H) (h0 : ρ i = some c0) (hv : σ[i]? = some (some (.ref a))) (hf : ∀ b, b = a → Foot H c0 (.ref a) b) (ha : G a = none ∧ H0 a = none) (ho : H a = some o) (hr : Rep K (upd G a o) d (.ref a)) :
    SR K nn G0 H0 (ρ.set i (.p d)) σ (upd G a o) H := by
  have hne : ∀ j c' v' b, j ≠ i → ρ j = some c' → σ[j]? = some (some v') → Foot H c' v' b → b ≠ a := fun j c' v' b hj h1 h2 f e => by
    subst e
    exact hj (s.dist j i c' c0 v' _ b h1 h0 h2 hv f (hf b rfl))
  have gx : Ex G (upd G a o) := .new ha.1
  refine ⟨⟨s.er.len, fun j c' h1 => ?_⟩, ⟨s.up.g.trans gx, s.up.h, fun x u e => ?_, fun x u e n => ?_⟩, fun j c' v' h1 h2 => ?_, fun j k c1 c2 v1 v2 b h1 h2 h3 h4 f1 f2 => ?_⟩
  · by_cases e : j = i
    · subst e
      rw [DEnv.set_self] at h1; cases h1
      exact ⟨_, hv, hr⟩
    · rw [DEnv.set_ne _ _ e] at h1
      obtain ⟨w, h2, h3⟩ := s.er.at_ j c' h1
      exact ⟨w, h2, h3.mono gx (.refl H)⟩
  · by_cases e' : x = a
    · subst e'; rw [upd_same] at e; cases e; exact ho
    · rw [upd_ne e'] at e; exact s.up.le x u e
  · rw [upd_ne (ne_of_none e ha.2)]
    exact s.up.new x u e n
  · by_cases e : j = i
    · subst e
      rw [DEnv.set_self] at h1; cases h1
      trivial
    · rw [DEnv.set_ne _ _ e] at h1
      have hO := s.own j c' v' h1 h2
      obtain ⟨w, h2', h3⟩ := s.er.at_ j c' h1
      rw [h2] at h2'; cases h2'
      cases c' with
      | p _ => trivial
      | ol _ => intro b eb; have := hO b eb; exact ⟨by rw [upd_ne (hne j _ _ b e h1 h2 eb)]; exact this.1, this.2⟩
      | od _ => intro b eb; have := hO b eb; exact ⟨by rw [upd_ne (hne j _ _ b e h1 h2 eb)]; exact this.1, this.2⟩
      | oi _ => intro b eb; have := hO b eb; exact ⟨by rw [upd_ne (hne j _ _ b e h1 h2 eb)]; exact this.1, this.2⟩
      | oll xss =>
        intro p bs ep e2
        obtain ⟨q1, q2, q3, q4⟩ := hO p bs ep e2
        exact ⟨⟨by rw [upd_ne (hne j _ _ p e h1 h2 (.inl ep))]; exact q1.1, q1.2⟩, q2, q3, fun b hb => ⟨by rw [upd_ne (hne j _ _ b e h1 h2 (.inr ⟨p, bs, ep, e2, hb⟩))]; exact (q4 b hb).1, (q4 b hb).2⟩⟩
  · by_cases ej : j = i
    · subst ej
      rw [DEnv.set_self] at h1; cases h1
      exact f1.elim
    · by_cases ek : k = i
      · subst ek
        rw [DEnv.set_self] at h2; cases h2
        exact f2.elim
      · rw [DEnv.set_ne _ _ ej] at h1
        rw [DEnv.set_ne _ _ ek] at h2
        exact s.dist j k c1 c2 v1 v2 b h1 h2 h3 h4 f1 f2
theorem SR.frz (s : SR K nn G0 H0 ρ σ G H) (i : Nat) : ∃ G', Ex G G' ∧ SR K nn G0 H0 (freeze i ρ) σ G' H := by
  unfold freeze
  cases z : ρ i with
  | none => exact ⟨G, .refl G, s⟩
  | some c =>
    obtain ⟨v, h1, h2⟩ := s.er.at_ i c z
    have ho := s.own i c v z h1
    cases c with
    | p _ => exact ⟨G, .refl G, s⟩
    | oll _ => exact ⟨G, .refl G, s⟩
    | oi _ => exact ⟨G, .refl G, s⟩
    | ol xs =>
      obtain ⟨a, vs, rfl, e, r⟩ := h2
      have hg := ho a rfl
      exact ⟨_, .new hg.1, s.frz1 z h1 (fun b e => by subst e; rfl) hg e (.lst upd_same (r.mono (.new hg.1)))⟩
    | od kvs =>
      obtain ⟨a, rfl, e⟩ := h2
      have hg := ho a rfl
      exact ⟨_, .new hg.1, s.frz1 z h1 (fun b e => by subst e; rfl) hg e (.dct upd_same)⟩
end

/-! ## statements -/
inductive DRes where
  | nx (ρ : DEnv) | rt (d : D) | bk (ρ : DEnv) | ct (ρ : DEnv)
abbrev DS := DEnv → Option DRes
def DOk (K : PySem.W.Frag) (nn : Nat) (G0 H0 G : Hp) (E : Ends) : DRes → Prop
  | .nx ρ' => ∀ σ' G' H', SR K nn G0 H0 ρ' σ' G' H' → Ex G G' → E.nx σ' H'
  | .bk ρ' => ∀ σ' G' H', SR K nn G0 H0 ρ' σ' G' H' → Ex G G' → E.bk σ' H'
  | .ct ρ' => ∀ σ' G' H', SR K nn G0 H0 ρ' σ' G' H' → Ex G G' → E.ct σ' H'
  | .rt d => ∀ v G' H', Up G0 H0 G' H' → Rep K G' d v → E.rt v H'
theorem DOk.weak {K : PySem.W.Frag} {nn : Nat} {G0 H0 G G' : Hp} {E : Ends} {r : DRes} (h : DOk K nn G0 H0 G E r) (e : Ex G G') : DOk K nn G0 H0 G' E r := by
  cases r with
  | nx ρ => exact fun σ' G2 H2 s x => h σ' G2 H2 s (e.trans x)
  | bk ρ => exact fun σ' G2 H2 s x => h σ' G2 H2 s (e.trans x)
  | ct ρ => exact fun σ' G2 H2 s x => h σ' G2 H2 s (e.trans x)
  | rt d => exact h
def TSok (K : PySem.W.Frag) (nn : Nat) (t : TS) (f : DS) : Prop := ∀ G0 H0 ρ σ G H (E : Ends) r, SR K nn G0 H0 ρ σ G H → f ρ = some r → DOk K nn G0 H0 G E r → t E σ H
structure PuS (X : Cx) (st : Stmt) (f : DS) : Prop where
  ex : ∃ t, PS X st t ∧ TSok X.K X.N.length t f
structure PuSs (X : Cx) (sts : List Stmt) (f : DS) : Prop where
  ex : ∃ t, PSs X sts t ∧ TSok X.K X.N.length t f
def sSkip : DS := fun ρ => some (.nx ρ)
def sSeq (f g : DS) : DS := fun ρ => (f ρ).bind fun r => match r with | .nx ρ' => g ρ' | r => some r
def sPre (i : Nat) (f : DS) : DS := fun ρ => f (freeze i ρ)
section
variable {X : Cx} {st : Stmt} {rest : List Stmt} {f g : DS} {e a b : Expr} {fe fa fb : DE} {pos : Pos}
theorem ss_nil : PuSs X [] sSkip := ⟨_, pss_nil, fun G0 H0 ρ σ G H E r s q k => by cases q; exact k σ G H s (.refl G)⟩
theorem ss_one (h : PuS X st f) : PuSs X [st] f := let ⟨_, a1, a2⟩ := h.ex; ⟨_, pss_one a1, a2⟩
theorem ss_cons (h : PuS X st f) (h2 : PuSs X rest g) : PuSs X (st :: rest) (sSeq f g) := let ⟨_, a1, a2⟩ := h.ex; let ⟨_, b1, b2⟩ := h2.ex; ⟨_, pss_cons a1 b1, fun G0 H0 ρ σ G H E r s q k => by
  unfold sSeq at q
  cases z : f ρ with
  | none => rw [z] at q; cases q
  | some r1 =>
    rw [z] at q
    refine a2 G0 H0 ρ σ G H _ r1 s z ?_
    cases r1 with
    | nx ρ' => exact fun σ' G' H' s' x => b2 G0 H0 ρ' σ' G' H' E r s' q (k.weak x)
    | bk ρ' => cases q; exact k
    | ct ρ' => cases q; exact k
    | rt d => cases q; exact k⟩
/-- the slot i is frozen first -/
theorem st_pre (i : Nat) (h : PuS X st f) : PuS X st (sPre i f) := let ⟨_, a1, a2⟩ := h.ex; ⟨_, a1, fun G0 H0 ρ σ G H E r s q k => by
  obtain ⟨G', x, s'⟩ := s.frz i
  exact a2 G0 H0 _ σ G' H E r s' q (k.weak x)⟩
theorem st_pass : PuS X (.Pass pos) sSkip := ⟨_, ps_pass, fun G0 H0 ρ σ G H E r s q k => by cases q; exact k σ G H s (.refl G)⟩
theorem st_break : PuS X (.Break pos) (fun ρ => some (.bk ρ)) := ⟨_, ps_break, fun G0 H0 ρ σ G H E r s q k => by cases q; exact k σ G H s (.refl G)⟩
theorem st_continue : PuS X (.Continue pos) (fun ρ => some (.ct ρ)) := ⟨_, ps_continue, fun G0 H0 ρ σ G H E r s q k => by cases q; exact k σ G H s (.refl G)⟩
/-! ### stores -/
def sAsg (tg : Tg) (f : DE) : DS := fun ρ => (f ρ).bind fun d => (bindT tg (.p d) ρ).map .nx
theorem ts_asg {K : PySem.W.Frag} {nn : Nat} {te : TE} {f : DE} {tg : Tg} (h : TEok K nn te f) (hl : ∀ i ∈ tg.slots, i < nn) : TSok K nn (tAsg te (tgTG K tg)) (sAsg tg f) := fun G0 H0 ρ σ G H E r s q k => by
  unfold sAsg at q
  cases z : f ρ with
  | none => rw [z] at q; cases q
  | some d =>
    rw [z] at q
    cases z2 : bindT tg (.p d) ρ with
    | none => simp only [Option.bind_some, z2] at q; cases q
    | some ρ' =>
      simp only [Option.bind_some, z2, Option.map_some] at q
      cases q
      refine h ρ σ G H _ d s.up.le s.er z fun v G' H' u rv => ?_
      exact tg_ok u.le (c := .p d) rv z2 fun σ' st => k σ' G' H' (st.sr (s.step u) rv hl z2) u.g
theorem st_set (i : Nat) {x : Str} {pos' : Pos} (he : PuE X e fe) (hN : X.N.Nodup) (hi : X.N[i]? = some x := by rfl) (hx : Loc X.env.scope x := by first | exact .inl rfl | exact .inr rfl) (hs : swapsWith e (some (.Name x pos')) pos.line X.env = pure false := by rfl)
    (hf : X.fn x = true ∨ X.env.scope.names.lookup x = some .local := by first | exact .inl rfl | exact .inr rfl) : PuS X (.Assign [.Name x pos'] e pos) (sAsg (.nm i) fe) :=
  let ⟨_, a1, a2⟩ := he.ex; ⟨_, ps_set hN hi hx a1 hs hf, ts_asg (tg := .nm i) a2 (by simp [Tg.slots]; exact (List.getElem?_eq_some_iff.mp hi).1)⟩
/-- a new list of one's own -/
def sOwn (i : Nat) (f : DL) : DS := fun ρ => (f ρ).map fun ds => .nx (ρ.set i (.ol ds))
theorem ts_own {K : PySem.W.Frag} {nn : Nat} {te : TE} {f : DL} {i : Nat} (h : TNok K nn te f) (hl : i < nn) : TSok K nn (tAsg te (gName i)) (sOwn i f) := fun G0 H0 ρ σ G H E r s q k => by
  unfold sOwn at q
  cases z : f ρ with
  | none => rw [z] at q; cases q
  | some ds =>
    rw [z] at q; cases q
    refine h ρ σ G H _ ds s.up.le s.er z fun p vs G' H' u n1 n2 hp rv => ?_
    refine k _ G' H' ((s.step u).set hl ⟨p, vs, rfl, hp, rv⟩ (fun a e => by cases e; exact ⟨n2, s.up.h.free n1⟩) fun j c' v' b hj h1 h2 f1 f2 => ?_) u.g
    cases f1
    obtain ⟨w, h3, h4⟩ := s.er.at_ j c' h1
    rw [h2] at h3; cases h3
    obtain ⟨o, ho⟩ := foot_there h4 (foot_up u.h h4 f2)
    rw [n1] at ho; cases ho
theorem st_own (i : Nat) {x : Str} {pos' : Pos} {fl : DL} (he : NwE X e fl) (hN : X.N.Nodup) (hi : X.N[i]? = some x := by rfl) (hx : Loc X.env.scope x := by first | exact .inl rfl | exact .inr rfl) (hs : swapsWith e (some (.Name x pos')) pos.line X.env = pure false := by rfl)
    (hf : X.fn x = true ∨ X.env.scope.names.lookup x = some .local := by first | exact .inl rfl | exact .inr rfl) : PuS X (.Assign [.Name x pos'] e pos) (sOwn i fl) :=
  let ⟨_, a1, a2⟩ := he.ex; ⟨_, ps_set hN hi hx a1 hs hf, ts_own a2 (List.getElem?_eq_some_iff.mp hi).1⟩
/-- a, b = e -/
theorem st_tup {is : List Nat} {es : List Expr} {k : Nat} {tpos : Pos} (he : PuE X e fe) (hg : PG X (.Tuple es k tpos) (tgTG X.K (.tp is))) (hl : ∀ i ∈ is, i < X.N.length) (hs : swapsWithSole [.Tuple es k tpos] e pos.line X.env = pure false := by rfl) (hw : swappedStores [.Tuple es k tpos] e X.env = pure none := by rfl)
    (h1 : (assignEach [.Tuple es k tpos] X.env).map (·.2) = [assign (.Tuple es k tpos) X.env] := by rfl) : PuS X (.Assign [.Tuple es k tpos] e pos) (sAsg (.tp is) fe) :=
  let ⟨_, a1, a2⟩ := he.ex; ⟨_, ps_asg a1 hg hs hw h1, ts_asg (tg := .tp is) a2 hl⟩
/-- a, b = x, y -/
def sPar (i j : Nat) (fa fb : DE) : DS := fun ρ => (fa ρ).bind fun d => (fb ρ).map fun e => .nx ((ρ.set i (.p d)).set j (.p e))
theorem st_par (i j : Nat) {x y : Str} {px py pt : Pos} {kt k2 pt2} (ha : PuE X a fa) (hb : PuE X b fb) (hc : X.calm = true) (hN : X.N.Nodup) (hi : X.N[i]? = some x := by rfl) (hj : X.N[j]? = some y := by rfl) (hij : i ≠ j := by decide)
    (hx : X.env.scope.names.lookup x = some .local := by rfl) (hy : X.env.scope.names.lookup y = some .local := by rfl)
    (hw : swappedStores [.Tuple [.Name x px, .Name y py] kt pt] (.Tuple [a, b] k2 pt2) X.env = pure (some [x, y]) := by rfl)
    (hs : swapsWithSole [.Tuple [.Name x px, .Name y py] kt pt] (.Tuple [a, b] k2 pt2) pos.line X.env = pure false := by rfl)
    (hs1 : starEach (a :: [b]) X.env = (false, eval a X.env) :: starEach [b] X.env := by rfl) (hs2 : starEach (b :: []) X.env = (false, eval b X.env) :: starEach [] X.env := by rfl) :
    PuS X (.Assign [.Tuple [.Name x px, .Name y py] kt pt] (.Tuple [a, b] k2 pt2) pos) (sPar i j fa fb) :=
  let ⟨_, a1, a2⟩ := (pa_consU ha (pa_consU hb pa_nilU hs2) hs1).ex; ⟨_, ps_par hc hN hi hj hij hx hy a1 hw hs, fun G0 H0 ρ σ G H E r s q k => by
    unfold sPar at q
    cases z : fa ρ with
    | none => rw [z] at q; cases q
    | some d =>
      rw [z] at q
      cases z2 : fb ρ with
      | none => rw [z2] at q; cases q
      | some d2 =>
        rw [z2] at q; cases q
        refine a2 ρ σ G H _ [d, d2] s.up.le s.er (by simp [dCons, dNil, z, z2]) fun vs G' H' u rvs => ?_
        cases rvs with
        | cons r1 t =>
          cases t with
          | cons r2 t =>
            cases t
            exact ⟨_, _, rfl, k _ G' H' (((s.step u).setP (List.getElem?_eq_some_iff.mp hi).1 r1).setP (List.getElem?_eq_some_iff.mp hj).1 r2) u.g⟩⟩
/-! ### return, if, expressions -/
def sRet (f : DE) : DS := fun ρ => (f ρ).map .rt
theorem st_ret (he : PuE X e fe) : PuS X (.Return (some e) pos) (sRet fe) := let ⟨_, a1, a2⟩ := he.ex; ⟨_, ps_ret a1, fun G0 H0 ρ σ G H E r s q k => by
  unfold sRet at q
  cases z : fe ρ with
  | none => rw [z] at q; cases q
  | some d =>
    rw [z] at q; cases q
    exact a2 ρ σ G H _ d s.up.le s.er z fun v G' H' u rv => k v G' H' (s.up.trans u) rv⟩
theorem st_retN : PuS X (.Return none pos) (sRet (eC .non)) := ⟨_, ps_retN, fun G0 H0 ρ σ G H E r s q k => by cases q; exact k _ G H s.up .non⟩
def sIf (c : DB) (f g : DS) : DS := fun ρ => (c ρ).bind fun b => if b = true then f ρ else g ρ
theorem st_if {c : Expr} {B : DB} {sa sb : List Stmt} (hc : PuT X c B) (ha : PuSs X sa f) (hb : PuSs X sb g) : PuS X (.If c sa sb pos) (sIf B f g) :=
  let ⟨_, c1, c2⟩ := hc.ex; let ⟨_, a1, a2⟩ := ha.ex; let ⟨_, b1, b2⟩ := hb.ex; ⟨_, ps_if c1 a1 b1, fun G0 H0 ρ σ G H E r s q k => by
  unfold sIf at q
  cases z : B ρ with
  | none => rw [z] at q; cases q
  | some b =>
    rw [z] at q
    refine c2 ρ σ G H _ b s.up.le s.er z fun G' H' u => ?_
    cases b with
    | true => exact a2 G0 H0 ρ σ G' H' E r (s.step u) q (k.weak u.g)
    | false => exact b2 G0 H0 ρ σ G' H' E r (s.step u) q (k.weak u.g)⟩
def sDrop (f : DE) : DS := fun ρ => (f ρ).map fun _ => .nx ρ
theorem st_expr (he : PuE X e fe) (hs : swapsWith e none pos.line X.env = pure false := by rfl) : PuS X (.Expr e pos) (sDrop fe) := let ⟨_, a1, a2⟩ := he.ex; ⟨_, ps_expr a1 hs, fun G0 H0 ρ σ G H E r s q k => by
  unfold sDrop at q
  cases z : fe ρ with
  | none => rw [z] at q; cases q
  | some d =>
    rw [z] at q; cases q
    exact a2 ρ σ G H _ d s.up.le s.er z fun v G' H' u rv => k σ G' H' (s.step u) u.g⟩
/-! ### own objects changed -/
def sApp (i : Nat) (f : DE) : DS := fun ρ => match ρ i, f ρ with
  | some (.ol xs), some d => if szB (xs.length + 1) then some (.nx (ρ.set i (.ol (xs ++ [d])))) else none
  | _, _ => none
theorem st_app (i : Nat) {x : Str} {xp ap cp : Pos} (he : PuE X e fe) (hN : X.N[i]? = some x := by rfl) (hv : Vis X.env.scope x := by first | exact Or.inl rfl | exact Or.inr (Or.inl rfl) | exact Or.inr (Or.inr rfl)) (hd : (x == ("__debug__" : Str)) = false := by decide)
    (hcd : (x == ("__classdict__" : Str)) = false := by decide) (hs : swapsWith (.Call (.Attribute (.Name x xp) "append" ap) [e] [] cp) none pos.line X.env = pure false := by rfl)
    (hb : attributeBase (.Name x xp) "append" X.env (eval (.Name x xp) X.env) = eval (.Name x xp) X.env := by rfl) (hs1 : starEach (e :: []) X.env = (false, eval e X.env) :: starEach [] X.env := by rfl) (hln : (ap.endLine == cp.line) = true := by rfl) 
    (hfew : ((backTo cp (starEach (e :: []) X.env)).all (fun x => !x.1) && (backToKw cp (keywordEach [] X.env)).all (fun x => x.1.isSome)
      && decide ((e :: ([] : List Expr)).length + ([] : List Keyword).length + (if ([] : List Keyword).isEmpty then 0 else 1) < 30)) = true := by rfl)
    (hpl : (backTo cp (starEach [] X.env)).any (·.1) = false := by rfl) : PuS X (.Expr (.Call (.Attribute (.Name x xp) "append" ap) [e] [] cp) pos) (sApp i fe) :=
  let ⟨_, a1, a2⟩ := he.ex; ⟨_, ps_expr (pe_bm PySem.F.plainAttrs_list PySem.F.slot_list_append PySem.F.type_list_append mt_append (pe_var hN hv hd hcd) (pa_cons a1 pa_nil hs1) hb hfew hln hs1 hpl) hs, fun G0 H0 ρ σ G H E r s q k => by
    unfold sApp at q
    split at q
    · rename_i xs d e1 e2
      split at q
      · rename_i hz
        cases q
        obtain ⟨v, h1, h2⟩ := s.er.at_ i _ e1
        obtain ⟨p, vs, rfl, hp, rp⟩ := id h2
        refine ⟨_, h1, .inl ⟨rfl, _, .inl (.inl hp)⟩, ?_⟩
        refine a2 ρ σ G H _ d s.up.le s.er e2 fun w G' H' u rw' => ?_
        have s' := s.step u
        have hg := s'.own i _ _ e1 h1 p rfl
        refine ⟨p, vs, w, rfl, rfl, u.h _ _ hp, ?_, ?_⟩
        · have h1 := szB_le hz
          rw [← rp.length]
          omega
        · refine k σ G' _ (s'.write (s.er.lt e1) e1 h1 rfl hg ⟨p, vs ++ [w], rfl, upd_same, (rp.mono u.g).append (.cons rw' .nil)⟩ (fun a ea => by cases ea; exact hg) (fun b f => f) (fun _ _ _ _ _ _ => trivial)) u.g
      · cases q
    · cases q⟩
/-- x[k] = e of an own list -/
def sSetL (i : Nat) (fk fe : DE) : DS := fun ρ => match ρ i, fe ρ, fk ρ with
  | some (.ol xs), some d, some (.int k) => (ixN xs.length k).map fun j => .nx (ρ.set i (.ol (xs.set j d)))
  | _, _, _ => none
theorem st_setL (i : Nat) {x : Str} {xp sp : Pos} (he : PuE X e fe) (hb : PuE X b fb) (hN : X.N[i]? = some x := by rfl) (hv : Vis X.env.scope x := by first | exact Or.inl rfl | exact Or.inr (Or.inl rfl) | exact Or.inr (Or.inr rfl)) (hd : (x == ("__debug__" : Str)) = false := by decide)
    (hcd : (x == ("__classdict__" : Str)) = false := by decide) (hs : swapsWithSole [.Subscript (.Name x xp) b sp] e pos.line X.env = pure false := by rfl) (hw : swappedStores [.Subscript (.Name x xp) b sp] e X.env = pure none := by rfl)
    (h1 : (assignEach [.Subscript (.Name x xp) b sp] X.env).map (·.2) = [assign (.Subscript (.Name x xp) b sp) X.env] := by rfl)
    (ha : ∀ v, assign (.Subscript (.Name x xp) b sp) X.env v = (do
      let ov ← holding [v] (eval (.Name x xp) X.env)
      let iv ← holding [v, ov] (eval b X.env)
      standAt sp
      holding [v, ov, iv] (setItem ov iv v)
      release [v, ov, iv] []) := by intro _; rfl) : PuS X (.Assign [.Subscript (.Name x xp) b sp] e pos) (sSetL i fb fe) :=
  let ⟨_, a1, a2⟩ := he.ex; let ⟨_, b1, b2⟩ := hb.ex; ⟨_, ps_asg a1 (pg_sub (pe_var hN hv hd hcd) b1 set_list ha) hs hw h1, fun G0 H0 ρ σ G H E r s q k => by
    unfold sSetL at q
    split at q
    · rename_i xs d kk e1 e2 e3
      cases z : ixN xs.length kk with
      | none => rw [z] at q; cases q
      | some j =>
        rw [z] at q; cases q
        obtain ⟨v, h1, h2⟩ := s.er.at_ i _ e1
        obtain ⟨p, vs, rfl, hp, rp⟩ := id h2
        refine a2 ρ σ G H _ d s.up.le s.er e2 fun w G1 H1 u1 rw1 => ?_
        refine ⟨_, h1, ?_⟩
        refine b2 ρ σ G1 H1 _ _ u1.le (s.er.up u1) e3 fun w2 G2 H2 u2 rw2 => ?_
        cases rw2
        have u := u1.trans u2
        have s' := s.step u
        have hg := s'.own i _ _ e1 h1 p rfl
        refine ⟨p, vs, kk, j, rfl, rfl, u.h _ _ hp, by rw [← rp.length]; exact z, ?_⟩
        exact k σ G2 _ (s'.write (s.er.lt e1) e1 h1 rfl hg ⟨p, _, rfl, upd_same, (rp.mono u.g).set (rw1.mono u2.g) j⟩ (fun a ea => by cases ea; exact hg) (fun b f => f) (fun _ _ _ _ _ _ => trivial)) u.g
    · cases q⟩
/-! ### loops -/
def forL (tg : Tg) (body : DS) : List Cell → DEnv → Option DRes
  | [], ρ => some (.nx ρ)
  | .p d :: cs, ρ => (bindT tg (.p d) ρ).bind fun ρ1 => (body ρ1).bind fun r => match r with
    | .nx ρ2 => forL tg body cs ρ2 | .ct ρ2 => forL tg body cs ρ2 | .bk ρ2 => some (.nx ρ2) | .rt d => some (.rt d)
  | _ :: _, _ => none
def sFor (it : DI) (tg : Tg) (body : DS) : DS := fun ρ => (it ρ).bind fun cs => forL tg body cs ρ
theorem ts_for {K : PySem.W.Frag} {nn : Nat} {wi : TI} {it : DI} {tb : TS} {body : DS} {tg : Tg} (hi : TIg K nn wi it) (hb : TSok K nn tb body) (hl : ∀ i ∈ tg.slots, i < nn) : TSok K nn (tFor wi (tgTG K tg) tb) (sFor it tg body) := fun G0 H0 ρ σ G H E r s q k => by
  unfold sFor at q
  cases z : it ρ with
  | none => rw [z] at q; cases q
  | some cs =>
    rw [z] at q
    have q : forL tg body cs ρ = some r := q
    refine hi ρ σ G H _ cs s.up.le s.er z fun J G1 H1 u1 wk => ?_
    let Wp : Nat → L2.St → Hp → Prop := fun i σ' H' => ∃ ρ' G', SR K nn G0 H0 ρ' σ' G' H' ∧ Ex G1 G' ∧ forL tg body (cs.drop i) ρ' = some r
    refine ⟨fun i m σ' H' => m = cs.length - i ∧ i ≤ cs.length ∧ Wp i σ' H', ⟨cs.length, by simp, Nat.zero_le _, ρ, G1, s.step u1, .refl _, by simpa using q⟩, ?_⟩
    rintro i m σ' H' ⟨rfl, hi', ρ', G', s', x', fq⟩
    have w := wk i G' H' x' s'.up.le
    by_cases hlt : i < cs.length
    · right
      obtain ⟨go, yl⟩ := w.1 cs[i] (List.getElem?_eq_getElem hlt)
      refine ⟨go, Wp (i + 1), fun σ2 H2 hq => ⟨cs.length - (i + 1), by omega, rfl, hlt, hq⟩, fun v H2 y => ?_⟩
      obtain ⟨G3, u3, cx⟩ := yl v H2 y
      rw [List.drop_eq_getElem_cons hlt] at fq
      cases zc : cs[i] with
      | ol _ => rw [zc] at fq; cases fq
      | oll _ => rw [zc] at fq; cases fq
      | od _ => rw [zc] at fq; cases fq
      | oi _ => rw [zc] at fq; cases fq
      | p d =>
        rw [zc] at fq cx
        unfold forL at fq
        cases z3 : bindT tg (.p d) ρ' with
        | none => rw [z3] at fq; cases fq
        | some ρ1 =>
          rw [z3] at fq
          refine tg_ok u3.le cx z3 fun σ2 st => ?_
          have s2 := st.sr (s'.step u3) cx hl z3
          cases z4 : body ρ1 with
          | none => simp only [Option.bind_some, z4] at fq; cases fq
          | some r1 =>
            simp only [Option.bind_some, z4] at fq
            refine hb G0 H0 ρ1 σ2 G3 H2 _ r1 s2 z4 ?_
            cases r1 with
            | nx ρ2 => exact fun σ3 G4 H4 s4 x4 => ⟨ρ2, G4, s4, (x'.trans u3.g).trans x4, fq⟩
            | ct ρ2 => exact fun σ3 G4 H4 s4 x4 => ⟨ρ2, G4, s4, (x'.trans u3.g).trans x4, fq⟩
            | bk ρ2 => cases fq; exact fun σ3 G4 H4 s4 x4 => k σ3 G4 H4 s4 (((u1.g.trans x').trans u3.g).trans x4)
            | rt dd => cases fq; exact k
    · left
      have ei : i = cs.length := by omega
      subst ei
      refine ⟨w.2 rfl, ?_⟩
      rw [List.drop_length] at fq
      cases fq
      exact k σ' G' H' s' (u1.g.trans x')
theorem st_for {tgE iter : Expr} {body : List Stmt} {it : DI} (tg : Tg) (hp : PassesOwn (model X.prog X.w) X.A X.env X.xe) (hc : X.calm = true) (hi : ItG X tgE iter it) (hg : PG X tgE (tgTG X.K tg)) (hb : PuSs X body f) (hl : ∀ i ∈ tg.slots, i < X.N.length)
    (hs : ∀ x, foldedSetIterable iter X.env x = pure x := by intro _; rfl) : PuS X (.For tgE iter body [] pos) (sFor it tg f) :=
  let ⟨_, i1, i2⟩ := hi.ex; let ⟨_, b1, b2⟩ := hb.ex; ⟨_, ps_for hp hc i1 hg b1 hs, ts_for i2 b2 hl⟩
/-- y = [.. for ..], y a local name on its line -/
theorem st_compTS {i : Nat} {y : Str} {py spos : Pos} {elt tgE iter : Expr} {ifs : List Expr} {scope : Scope} {own : List (Str × Nat)} {it : DI} {cond : DB} {fe : DE} (tg : Tg) (hc : X.calm = true) (hN : X.N.Nodup) (hi : ItH X tgE iter it) (ok : blkC X.N X.env.scope scope own = true)
    (hg : ∀ (s : Shared) (H : Hp) (C : Addr) (cl : List (Str × Addr)) (fp : List Addr), PG (X.blk s H scope (compEnvC scope cl C X.env) fp) tgE (tgTG X.K tg))
    (ht : ∀ (s : Shared) (H : Hp) (C : Addr) (cl : List (Str × Addr)) (fp : List Addr), PuTs (X.blk s H scope (compEnvC scope cl C X.env) fp) ifs cond)
    (he : ∀ (s : Shared) (H : Hp) (C : Addr) (cl : List (Str × Addr)) (fp : List Addr), PuE (X.blk s H scope (compEnvC scope cl C X.env) fp) elt fe)
    (hsl : ∀ i ∈ tg.slots, i < X.N.length) (hw : ∀ i ∈ tg.slots, i ∈ own.map (·.2)) (hy : X.N[i]? = some y) (hyl : X.env.scope.names.lookup y = some .local)
    (hsw : swapsWith (.ListComp elt [⟨tgE, iter, ifs, 0⟩] scope pos) (some (.Name y py)) spos.line X.env = pure true) (hs : ∀ x, foldedSetIterable iter X.env x = pure x) :
    ∃ te, PS X (.Assign [.Name y py] (.ListComp elt [⟨tgE, iter, ifs, 0⟩] scope pos) spos) (tAsg te (gName i)) ∧ TNok X.K X.N.length te (eComp it tg (own.map (·.2)) cond fe) := by
  obtain ⟨wi, i1, i2⟩ := hi.ex
  refine ⟨tLc wi (tgTG X.K tg) (fun σ H Q => ∀ t, TTok X.K X.N.length t cond → t σ H Q) (fun σ H Q => ∀ t, TEok X.K X.N.length t fe → t σ H Q) (own.map (·.2)), ?_, ?_⟩
  · refine ps_setLc hc hN hy hyl hsw i1 (blkOk_by ok) hg (fun s H C cl fp => ?_) (fun s H C cl fp => ?_) hs
    · obtain ⟨t, a1, a2⟩ := (ht s H C cl fp).ex
      exact ⟨fun pins s' σ H' Q I h => a1.run pins s' σ H' Q I (h t a2)⟩
    · obtain ⟨t, a1, a2⟩ := (he s H C cl fp).ex
      exact ⟨fun pins s' σ H' Q I h => a1.run pins s' σ H' Q I (h t a2)⟩
  · exact te_comp i2 (fun ρ σ G H Q b l r q k t ok => ok ρ σ G H Q b l r q k) (fun ρ σ G H Q d l r q k t ok => ok ρ σ G H Q d l r q k) hsl hw
end
theorem TNok.te {K : PySem.W.Frag} {nn : Nat} {t : TE} {f : DL} (h : TNok K nn t f) : TEok K nn t (eNew f) := fun ρ σ G H Q d l r q k => by
  unfold eNew at q
  cases z : f ρ with
  | none => rw [z] at q; cases q
  | some ds =>
    rw [z] at q; cases q
    refine h ρ σ G H Q ds l r z fun p vs G' H' u np ng hp rp => k _ (upd G' p (.lst vs)) H' ⟨u.g.trans (.new ng), u.h, fun x o e => ?_, fun x o e n => ?_⟩ (.lst upd_same (rp.mono (.new ng)))
    · by_cases y : x = p
      · subst y; rw [upd_same] at e; cases e; exact hp
      · rw [upd_ne y] at e; exact u.le x o e
    · rw [upd_ne (ne_of_none e np)]; exact u.new x o e n
section
variable {X : Cx} {i : Nat} {y : Str} {py spos pos : Pos} {elt tgE iter : Expr} {ifs : List Expr} {scope : Scope} {own : List (Str × Nat)} {it : DI} {cond : DB} {fe : DE}
/-- .. kept as one's own | frozen -/
theorem st_ownC (i : Nat) (tg : Tg) (hc : X.calm = true) (hN : X.N.Nodup) (hi : ItH X tgE iter it) (ok : blkC X.N X.env.scope scope own = true)
    (hg : ∀ (s : Shared) (H : Hp) (C : Addr) (cl : List (Str × Addr)) (fp : List Addr), PG (X.blk s H scope (compEnvC scope cl C X.env) fp) tgE (tgTG X.K tg))
    (ht : ∀ (s : Shared) (H : Hp) (C : Addr) (cl : List (Str × Addr)) (fp : List Addr), PuTs (X.blk s H scope (compEnvC scope cl C X.env) fp) ifs cond)
    (he : ∀ (s : Shared) (H : Hp) (C : Addr) (cl : List (Str × Addr)) (fp : List Addr), PuE (X.blk s H scope (compEnvC scope cl C X.env) fp) elt fe)
    (hsl : ∀ i ∈ tg.slots, i < X.N.length) (hw : ∀ i ∈ tg.slots, i ∈ own.map (·.2)) (hy : X.N[i]? = some y := by rfl) (hyl : X.env.scope.names.lookup y = some .local := by rfl)
    (hsw : swapsWith (.ListComp elt [⟨tgE, iter, ifs, 0⟩] scope pos) (some (.Name y py)) spos.line X.env = pure true := by exact sw_true rfl rfl rfl (by decide +kernel)) (hs : ∀ x, foldedSetIterable iter X.env x = pure x := by intro _; rfl) :
    PuS X (.Assign [.Name y py] (.ListComp elt [⟨tgE, iter, ifs, 0⟩] scope pos) spos) (sOwn i (eComp it tg (own.map (·.2)) cond fe)) :=
  let ⟨_, a1, a2⟩ := st_compTS (i := i) (py := py) (spos := spos) (pos := pos) tg hc hN hi ok hg ht he hsl hw hy hyl hsw hs; ⟨_, a1, ts_own a2 (List.getElem?_eq_some_iff.mp hy).1⟩
theorem st_setC (i : Nat) (tg : Tg) (hc : X.calm = true) (hN : X.N.Nodup) (hi : ItH X tgE iter it) (ok : blkC X.N X.env.scope scope own = true)
    (hg : ∀ (s : Shared) (H : Hp) (C : Addr) (cl : List (Str × Addr)) (fp : List Addr), PG (X.blk s H scope (compEnvC scope cl C X.env) fp) tgE (tgTG X.K tg))
    (ht : ∀ (s : Shared) (H : Hp) (C : Addr) (cl : List (Str × Addr)) (fp : List Addr), PuTs (X.blk s H scope (compEnvC scope cl C X.env) fp) ifs cond)
    (he : ∀ (s : Shared) (H : Hp) (C : Addr) (cl : List (Str × Addr)) (fp : List Addr), PuE (X.blk s H scope (compEnvC scope cl C X.env) fp) elt fe)
    (hsl : ∀ i ∈ tg.slots, i < X.N.length) (hw : ∀ i ∈ tg.slots, i ∈ own.map (·.2)) (hy : X.N[i]? = some y := by rfl) (hyl : X.env.scope.names.lookup y = some .local := by rfl)
    (hsw : swapsWith (.ListComp elt [⟨tgE, iter, ifs, 0⟩] scope pos) (some (.Name y py)) spos.line X.env = pure true := by exact sw_true rfl rfl rfl (by decide +kernel)) (hs : ∀ x, foldedSetIterable iter X.env x = pure x := by intro _; rfl) :
    PuS X (.Assign [.Name y py] (.ListComp elt [⟨tgE, iter, ifs, 0⟩] scope pos) spos) (sAsg (.nm i) (eNew (eComp it tg (own.map (·.2)) cond fe))) :=
  let ⟨_, a1, a2⟩ := st_compTS (i := i) (py := py) (spos := spos) (pos := pos) tg hc hN hi ok hg ht he hsl hw hy hyl hsw hs; ⟨_, a1, ts_asg (tg := .nm i) a2.te (by simp [Tg.slots]; exact (List.getElem?_eq_some_iff.mp hy).1)⟩
end

/-! ## defs -/
/-- the built-in names that the texts use are not the module's own -/
structure BN (mg : Str → Option Value) : Prop where
  len : mg "len" = none
  range : mg "range" = none
  abs : mg "abs" = none
  max : mg "max" = none
  min : mg "min" = none
  sum : mg "sum" = none
  sorted : mg "sorted" = none
  set : mg "set" = none
  all : mg "all" = none
  list : mg "list" = none
  tuple : mg "tuple" = none
  zip : mg "zip" = none
  enumerate : mg "enumerate" = none
  isinstance : mg "isinstance" = none
  int : mg "int" = none
  bool : mg "bool" = none
  str : mg "str" = none
def spF (K : PySem.W.Frag) (F : List D → Option D) : Sp := fun vs H Q _ => ∃ G ds d, Ex G H ∧ Reps K G ds vs ∧ F ds = some d ∧ ∀ v G' H', Up G H G' H' → Rep K G' d v → Q v H'
def env0 (ds : List D) : DEnv := fun i => (ds[i]?).map .p
def endD : DRes → Option D | .rt d => some d | .nx _ => some .non | _ => none
def fnD (n : Nat) (body : DS) : List D → Option D := fun ds => if ds.length = n then (body (env0 ds)).bind endD else none
structure FnD (P : Program) (w : World) (K : PySem.W.Frag) (mg : Str → Option Value) (base : Heap) (k : Nat) (x : Str) (F : List D → Option D) : Prop where
  ex : ∃ f fd ps, mg x = some (.ref f) ∧ PySem.W.keepIn K (.ref f) = true ∧ Binds K fd ps [] ∧ FnOk P w K mg base CX0 k f fd ps (spF K F)
theorem FnD.mono {P : Program} {w : World} {K : PySem.W.Frag} {mg : Str → Option Value} {base : Heap} {j k : Nat} {x : Str} {F : List D → Option D} (h : FnD P w K mg base j x F) (hk : j ≤ k) : FnD P w K mg base k x F :=
  let ⟨f, fd, ps, a, b, c, d⟩ := h.ex; ⟨f, fd, ps, a, b, c, d.mono hk⟩
theorem start_len {N : List Str} {vs : List V} (h : vs.length ≤ N.length) : (L2.start N vs).length = N.length := by
  unfold L2.start
  rw [List.length_append, List.length_map, List.length_replicate]; omega
theorem start_sr {K : PySem.W.Frag} {N : List Str} {G H : Hp} {ds : List D} {vs : List V} (l : Ex G H) (r : Reps K G ds vs) (h : vs.length ≤ N.length) : SR K N.length G H (env0 ds) (L2.start N vs) G H := by
  have at0 : ∀ i c, env0 ds i = some c → ∃ d v, c = .p d ∧ (L2.start N vs)[i]? = some (some v) ∧ Rep K G d v := fun i c e => by
    unfold env0 at e
    cases z : ds[i]? with
    | none => rw [z] at e; cases e
    | some d =>
      rw [z] at e; cases e
      obtain ⟨v, h1, h2⟩ := r.get z
      refine ⟨d, v, rfl, ?_, h2⟩
      unfold L2.start
      have hi := (List.getElem?_eq_some_iff.mp h1).1
      rw [List.getElem?_append_left (by rw [List.length_map]; exact hi), List.getElem?_map, h1]; rfl
  refine ⟨⟨start_len h, fun i c e => ?_⟩, .refl l, fun i c v e _ => ?_, fun i j c c' v v' a e _ _ _ f _ => ?_⟩
  · obtain ⟨d, v, rfl, h1, h2⟩ := at0 i c e
    exact ⟨v, h1, h2⟩
  · obtain ⟨d, v, rfl, h1, h2⟩ := at0 i c e
    trivial
  · obtain ⟨d, v, rfl, h1, h2⟩ := at0 i c e
    exact f.elim
section
variable {P : Program} {w : World} {K : PySem.W.Frag} {mg : Str → Option Value} {base : Heap}
/-- THE RULE for a def -/
theorem pure_ok {x qual : Str} {st : Stmt} {f : Addr} {fd : FuncData} {N ps : List Str} {k : Nat} {body : DS} (F : Fun K x qual st f fd) (S : FnScope N ps (defScope st)) (hl : ps.length ≤ N.length)
    (hb : ∀ (cdv : Value) (A : Around) (outer : List Env) (s : Shared) (H : Hp) (E : XK), Room k (A.deeper (envOfC qual (defScope st) s.heap.objs.size f cdv)) →
      PuSs (cxOf CX0 P w K mg base N qual (defScope st) f cdv A outer s H E).nox (defBody st) body) : FnOk P w K mg base CX0 (k + 1) f fd ps (spF K (fnD ps.length body)) := by
  refine F.ok S (fun vs H Q E h => ?_) (fun cdv A outer s H vs Q E hr h => ?_)
  · obtain ⟨G, ds, d, l, r, q, _⟩ := h
    unfold fnD at q
    split at q
    · rename_i e; rw [← e, r.length]
    · cases q
  · obtain ⟨G, ds, d, l, r, q, kq⟩ := h
    unfold fnD at q
    split at q
    · rename_i e
      obtain ⟨t, a1, a2⟩ := (hb cdv A outer s H E hr).ex
      refine ⟨t, a1, ?_⟩
      cases z : body (env0 ds) with
      | none => rw [z] at q; cases q
      | some rr =>
        rw [z] at q
        have q : endD rr = some d := q
        refine a2 G H (env0 ds) (L2.start N vs) G H _ rr (start_sr l r (by rw [← r.length, e]; exact hl)) z ?_
        cases rr with
        | nx ρ' => cases q; exact fun σ' G' H' s' _ => kq _ G' H' s'.up .non
        | rt d' => cases q; exact fun v G' H' u rv => kq v G' H' u rv
        | bk _ => cases q
        | ct _ => cases q
    · cases q
end
/-- a call of such a def -/
def eCall (F : List D → Option D) (fs : DL) : DE := fun ρ => (fs ρ).bind F
section
variable {X : Cx} {x : Str} {p pos : Pos} {e : Expr} {es : List Expr} {fs : DL} {F : List D → Option D} {k : Nat}
theorem pu_call {j : Nat} (B : FnD X.prog X.w X.K X.mg X.base j x F) (hr : Room k X.A) (ha : PuA X (e :: es) fs) (hjk : j ≤ k := by decide) (hg : Gl X x := by rfl) (hdb : (x == ("__debug__" : Str)) = false := by decide)
    (he : starEach (e :: es) X.env = (false, eval e X.env) :: starEach es X.env := by rfl) (hpl : (backTo pos (starEach es X.env)).any (·.1) = false := by rfl) : PuE X (.Call (.Name x p) (e :: es) [] pos) (eCall F fs) :=
  let ⟨f, fd, ps, b1, b2, b3, b4⟩ := B.ex; let ⟨_, a1, a2⟩ := ha.ex; ⟨_, pe_call b4 (hr.mono hjk) hg b1 b2 b3 .nil pass0 a1 hdb he hpl, fun ρ σ G H Q d l r q kk => by
    unfold eCall at q
    cases z : fs ρ with
    | none => rw [z] at q; cases q
    | some ds =>
      rw [z] at q
      refine a2 ρ σ G H _ ds l r z fun vs G1 H1 u1 rvs => ?_
      show spF X.K F (vs ++ []) H1 Q E0
      rw [List.append_nil]
      exact ⟨G1, ds, d, u1.le, rvs, q, fun v G2 H2 u2 rv => kk v G2 H2 (u1.trans u2) rv⟩⟩
end
end PL

namespace PL
open PySem PySem.Spec PyProof.Rows L2

/-! ## lists, tuples, texts, walked -/
theorem pi_both {X : Cx} {tg e : Expr} {w1 w2 : TI} (h1 : PI X tg e w1) (h2 : PI X tg e w2) : PI X tg e (fun σ H R => w1 σ H R ∨ w2 σ H R) :=
  ⟨fun pins s σ H R I h => h.elim (h1.run pins s σ H R I) (h2.run pins s σ H R I)⟩
def asS (d : D) : Option (List Cell) := match d with
  | .lst xs => some (xs.map .p) | .tup xs => some (xs.map .p)
  | .str z => some (z.cps.toList.map fun c => .p (.str ⟨#[c]⟩)) | _ => none
theorem walks_strG {K : PySem.W.Frag} {z : Str} {G' : Hp} : WalksG K (Its z) (z.cps.toList.map fun c => .p (.str ⟨#[c]⟩)) G' := fun i G2 H2 g l => by
  refine ⟨fun c hc => ?_, fun hi => (show z.cps.size ≤ i by simpa using Nat.le_of_eq hi.symm)⟩
  rw [List.getElem?_map] at hc
  cases q : z.cps.toList[i]? with
  | none => rw [q] at hc; cases hc
  | some c' =>
    rw [q] at hc; cases hc
    have hi : i < z.cps.size := by have := (List.getElem?_eq_some_iff.mp q).1; simpa using this
    refine ⟨hi, fun v H3 y => ?_⟩
    obtain ⟨rfl, c2, e, rfl⟩ := y
    have e2 : z.cps.toList[i]? = some c2 := by simpa using e
    rw [q] at e2; cases e2
    exact ⟨G2, .refl l, .str _⟩
theorem ig_seq {X : Cx} {tg e : Expr} {f : DE} (h : PuE X e f) : ItG X tg e (iOf asS f) := let ⟨_, a1, a2⟩ := h.ex; ⟨_, pi_both (pi_list a1) (pi_both (pi_tup a1) (pi_str a1)), fun ρ σ G H R cs l r q k => by
  unfold iOf at q
  cases z : f ρ with
  | none => rw [z] at q; cases q
  | some d =>
    rw [z] at q
    cases d <;> cases q
    · exact .inr (.inr (a2 ρ σ G H _ _ l r z fun v G1 H1 u1 rv => by
        cases rv
        exact ⟨_, rfl, k _ G1 H1 u1 walks_strG⟩))
    · exact .inl (a2 ρ σ G H _ _ l r z fun v G1 H1 u1 rv => by
        cases rv with
        | lst hp rp => exact ⟨_, rfl, ⟨_, .of (u1.le _ _ hp)⟩, k _ G1 H1 u1 (walks_list hp rp)⟩)
    · exact .inr (.inl (a2 ρ σ G H _ _ l r z fun v G1 H1 u1 rv => by
        cases rv with
        | tup hp rp => exact ⟨_, rfl, ⟨_, .of (u1.le _ _ hp)⟩, k _ G1 H1 u1 (walks_tup hp rp)⟩))⟩

/-! ## zip and enumerate over lists and tuples in any mix -/
/-- a sequence at a, by its kind (true: a list) -/
def SqX (K : PySem.W.Frag) (b : Bool) (H : Hp) (a : Addr) (xs : List V) : Prop := if b = true then SqL K H a xs else SqT K H a xs
def ItX (b : Bool) (h : Heap) (it a : Addr) (i : Nat) : Prop := if b = true then h.IsListIter it a i else h.IsTupleIter it a i
def obX (b : Bool) (a : Addr) : Obj := { cls := .type (if b = true then "list_iterator" else "tuple_iterator"), data := .fields #[.ref a, .int 0 0] }
theorem itx_ob {b : Bool} {h : Heap} {it a : Addr} {i : Nat} (x : ItX b h it a i) : ∃ o, h.get? it = some o ∧ ∀ v, o.data ≠ .cell v := by
  cases b with
  | true => obtain ⟨o, e, _, d⟩ := (show h.IsListIter it a i from x); exact ⟨o, e, fun v z => by rw [d] at z; cases z⟩
  | false => obtain ⟨o, e, _, d⟩ := (show h.IsTupleIter it a i from x); exact ⟨o, e, fun v z => by rw [d] at z; cases z⟩
theorem itx_lt {b : Bool} {h : Heap} {it a : Addr} {i : Nat} (x : ItX b h it a i) : it < h.objs.size := let ⟨_, e, _⟩ := itx_ob x; Heap.lt_size e
theorem itx_at {b : Bool} {h h' : Heap} {it a : Addr} {i : Nat} (x : ItX b h it a i) (k : ∀ o, h.get? it = some o → h'.get? it = some o) : ItX b h' it a i := by
  cases b with
  | true => exact (show h.IsListIter it a i from x).at k
  | false => exact (show h.IsTupleIter it a i from x).at k
theorem itx_ne {b : Bool} {h : Heap} {it a a' : Addr} {i : Nat} {its : Array Value} (x : ItX b h it a i) (c : if b = true then h.IsList a' its else h.IsTuple a' its) : a' ≠ it := fun e => by
  subst e
  cases b with
  | true =>
    obtain ⟨o, e1, k1, _⟩ := (show h.IsListIter a' a i from x)
    obtain ⟨o', e2, k2, _⟩ := (show h.IsList a' its from c)
    rw [e1] at e2; cases e2; rw [k1] at k2; exact absurd k2 (by decide)
  | false =>
    obtain ⟨o, e1, k1, _⟩ := (show h.IsTupleIter a' a i from x)
    obtain ⟨o', e2, k2, _⟩ := (show h.IsTuple a' its from c)
    rw [e1] at e2; cases e2; rw [k1] at k2; exact absurd k2 (by decide)
theorem itx_new {b : Bool} {h : Heap} {it a : Addr} (e : h.get? it = some (obX b a)) : ItX b h it a 0 := by
  cases b with
  | true => exact ⟨_, e, rfl, rfl⟩
  | false => exact ⟨_, e, rfl, rfl⟩
section
variable {X : Cx} {pins : List (Addr × Obj)} {σ : L2.St} {H : Hp} {s : Shared}
/-- what stands in the heap of such a sequence -/
theorem sqx_in {b : Bool} {a : Addr} {xs : List V} (I : Inv X pins σ H s) (h : SqX X.K b H a xs) : ∃ its : List Value, Vals xs its ∧ (if b = true then s.heap.IsList a its.toArray else s.heap.IsTuple a its.toArray) := by
  cases b with
  | true => obtain ⟨its, r, p, _⟩ := I.list (show SqL X.K H a xs from h); exact ⟨its, r, p.isList⟩
  | false => obtain ⟨its, r, p, _⟩ := I.tuple (show SqT X.K H a xs from h); exact ⟨its, r, p⟩
theorem sqx_inj {b : Bool} {a : Addr} {xs ys : List V} (I : Inv X pins σ H s) (h : SqX X.K b H a xs) (h' : SqX X.K b H a ys) : xs = ys := by
  cases b with
  | true => exact I.list_inj h h'
  | false => exact I.tuple_inj h h'
def CnX (b : Bool) (a : Addr) (its : Array Value) (h : Heap) : Prop := if b = true then h.IsList a its else h.IsTuple a its
theorem draws_x {prog : Program} {w : World} {A : Around} (b : Bool) (hh : A.handled = none) (it a : Addr) (hne : a ≠ it) (its : Array Value) :
    Draws prog w A it [it, a] its.size (fun i v => its[i]? = some v) (fun i h => ItX b h it a i ∧ CnX b a its h) := by
  cases b with
  | true => exact .list hh it a hne its
  | false => exact .tuple hh it a hne its
theorem begins_x (b : Bool) (a : Addr) (its : Array Value) : Begins (.ref a) (obX b a) (CnX b a its) := by
  cases b with
  | true => exact begins_list a its
  | false => exact begins_tuple a its
end
theorem SqX.mono {K : PySem.W.Frag} {b : Bool} {H H' : Hp} {a : Addr} {xs : List V} (e : Ex H H') (h : SqX K b H a xs) : SqX K b H' a xs := by
  cases b with
  | true => exact e.sql h
  | false =>
    rcases (show SqT K H a xs from h) with (h | ⟨o, h⟩) | h
    · exact .inl (.inl (e _ _ h))
    · exact .inl (.inr ⟨o, e _ _ h⟩)
    · exact .inr h

/-- the turns of zip over three -/
def Itz3 (K : PySem.W.Frag) (b1 b2 b3 : Bool) (a1 a2 a3 : Addr) : It :=
  ⟨fun i H => ∃ (xs ys zs : List V) (x y z : V), SqX K b1 H a1 xs ∧ SqX K b2 H a2 ys ∧ SqX K b3 H a3 zs ∧ xs[i]? = some x ∧ ys[i]? = some y ∧ zs[i]? = some z,
   fun i H v H' => ∃ T x y z, v = .ref T ∧ H T = none ∧ H' = upd H T (.tup [x, y, z]) ∧ (∀ xs, SqX K b1 H a1 xs → xs[i]? = some x) ∧ (∀ ys, SqX K b2 H a2 ys → ys[i]? = some y) ∧ (∀ zs, SqX K b3 H a3 zs → zs[i]? = some z),
   fun i H => ∃ xs ys zs : List V, SqX K b1 H a1 xs ∧ SqX K b2 H a2 ys ∧ SqX K b3 H a3 zs ∧ i = min (min xs.length ys.length) zs.length⟩
theorem vals_size {xs : List V} {its : List Value} (r : Vals xs its) : its.toArray.size = xs.length := by rw [List.size_toArray]; exact r.length.symm
theorem turn_zip3 {P : Program} {w : World} {K : PySem.W.Frag} {elts : List Expr} {kk : Nat} {tpos : Pos} {b1 b2 b3 : Bool} {a1 a2 a3 z TI TO i1 i2 i3 : Addr} (S : ZipSep3 z TI TO i1 i2 i3 [i1, a1] [i2, a2] [i3, a3]) :
    Turn P w K (.Tuple elts kk tpos) (Itz3 K b1 b2 b3 a1 a2 a3) [z, TI, TO, i1, i2, i3] z
      (fun i h => IsZip h z TI TO .none ∧ IsTupOf3 h TI (.ref i1) (.ref i2) (.ref i3) ∧ (∃ x y u, IsTupOf3 h TO x y u) ∧ ItX b1 h i1 a1 i ∧ ItX b2 h i2 a2 i ∧ ItX b3 h i3 a3 i) where
  mem := by simp
  obj := fun i h st c hc => by
    obtain ⟨hz, hTI, ⟨x, y, u, hTO⟩, h1, h2, h3⟩ := st
    have e' : c = z ∨ c = TI ∨ c = TO ∨ c = i1 ∨ c = i2 ∨ c = i3 := by simpa using hc
    rcases e' with q | q | q | q | q | q
    · rw [q]; exact ⟨_, hz, fun v q => nomatch q⟩
    · rw [q]; exact ⟨_, hTI, fun v q => nomatch q⟩
    · rw [q]; exact ⟨_, hTO, fun v q => nomatch q⟩
    · rw [q]; exact itx_ob h1
    · rw [q]; exact itx_ob h2
    · rw [q]; exact itx_ob h3
  keep := fun i h h' st k => by
    obtain ⟨hz, hTI, ⟨x, y, u, hTO⟩, h1, h2, h3⟩ := st
    exact ⟨k z (by simp) _ hz, k TI (by simp) _ hTI, ⟨x, y, u, k TO (by simp) _ hTO⟩, itx_at h1 fun o q => k i1 (by simp) o q, itx_at h2 fun o q => k i2 (by simp) o q, itx_at h3 fun o q => k i3 (by simp) o q⟩
  item := by
    intro X hP hw hK hc i pins s σ H E I hf st hg
    subst hP hw hK
    obtain ⟨xs, ys, zs, x, y, u, hqx, hqy, hqz, hx, hy, hu⟩ := hg
    obtain ⟨js1, r1, c1⟩ := sqx_in I hqx
    obtain ⟨js2, r2, c2⟩ := sqx_in I hqy
    obtain ⟨js3, r3, c3⟩ := sqx_in I hqz
    obtain ⟨hz, hTI, hTO, h1, h2, h3⟩ := st
    have n1 := itx_ne h1 c1
    have n2 := itx_ne h2 c2
    have n3 := itx_ne h3 c3
    have hh : X.A.in1.handled = none := I.ok.hd hc
    have W := GoesN.zip3 (prog := X.prog) (w := X.w) (A := X.A) (elts := elts) (x1 := kk) (pos := tpos) S (draws_x b1 hh i1 a1 n1 js1.toArray) (draws_x b2 hh i2 a2 n2 js2.toArray) (draws_x b3 hh i3 a3 n3 js3.toArray)
    have l1 := (List.getElem?_eq_some_iff.mp hx).1
    have l2 := (List.getElem?_eq_some_iff.mp hy).1
    have l3 := (List.getElem?_eq_some_iff.mp hu).1
    have hzl : z < s.heap.objs.size := Heap.lt_size hz
    have hin : i < min (min js1.toArray.size js2.toArray.size) js3.toArray.size := by rw [vals_size r1, vals_size r2, vals_size r3]; omega
    refine W.goes i s _ E hin ⟨hz, hTI, hTO, ⟨h1, c1⟩, ⟨h2, c2⟩, ⟨h3, c3⟩⟩ fun v h' tk hY st' hk htk => ?_
    obtain ⟨T, v1, v2, v3, rfl, hT, e1, e2, e3, hTt⟩ := hY
    obtain ⟨w1, q1, p1⟩ := r1.get hx
    obtain ⟨w2, q2, p2⟩ := r2.get hy
    obtain ⟨w3, q3, p3⟩ := r3.get hu
    have x1 : v1 = w1 := by have z1 : js1[i]? = some v1 := by simpa using e1
                            rw [q1] at z1; exact (Option.some.inj z1).symm
    have x2 : v2 = w2 := by have z1 : js2[i]? = some v2 := by simpa using e2
                            rw [q2] at z1; exact (Option.some.inj z1).symm
    have x3 : v3 = w3 := by have z1 : js3[i]? = some v3 := by simpa using e3
                            rw [q3] at z1; exact (Option.some.inj z1).symm
    subst x1 x2 x3
    have new : ObjOk X.prog X.w (upd H T (.tup [x, y, u])) h' T (.tup [x, y, u]) := ⟨by show 3 ≤ sizeLine; rw [sizeLine_eq]; decide, [v1, v2, v3], .cons p1 (.cons p2 (.cons p3 .nil)), hTt⟩
    have I1 : Inv X pins σ (upd H T (.tup [x, y, u])) { s with heap := h', toks := tk } :=
      I.turnedNew (ch := [z, TI, TO, i1, i2, i3]) (fun b o hb q => hk b o (fun m => hb (by simp at m ⊢; rcases m with m | m | m | m | m <;> simp [m])) q) hf hT new
    refine ⟨.ref T, _, I1, rfl, ⟨T, x, y, u, rfl, I.hok.fresh hT, rfl, fun l hl => by rw [sqx_inj I hl hqx]; exact hx, fun l hl => by rw [sqx_inj I hl hqy]; exact hy, fun l hl => by rw [sqx_inj I hl hqz]; exact hu⟩, ?_, fun b hb => ?_⟩
    · obtain ⟨g1, g2, g3, g4, g5, g6⟩ := st'
      exact ⟨g1, g2, g3, g4.1, g5.1, g6.1⟩
    · have hlt : b < s.heap.objs.size := by
        obtain ⟨ax, ay, au, hTO⟩ := hTO
        have e' : b = z ∨ b = TI ∨ b = TO ∨ b = i1 ∨ b = i2 ∨ b = i3 := by simpa using hb
        rcases e' with q | q | q | q | q | q
        · rw [q]; exact hzl
        · rw [q]; exact Heap.lt_size hTI
        · rw [q]; exact Heap.lt_size hTO
        · rw [q]; exact itx_lt h1
        · rw [q]; exact itx_lt h2
        · rw [q]; exact itx_lt h3
      rw [upd_ne (Nat.ne_of_lt (Nat.lt_of_lt_of_le hlt hT))]
      exact (hf b hb).1
  done := by
    intro X hP hw hK hc i pins s σ H E I hf st hg
    subst hP hw hK
    obtain ⟨xs, ys, zs, hqx, hqy, hqz, hi⟩ := hg
    obtain ⟨js1, r1, c1⟩ := sqx_in I hqx
    obtain ⟨js2, r2, c2⟩ := sqx_in I hqy
    obtain ⟨js3, r3, c3⟩ := sqx_in I hqz
    obtain ⟨hz, hTI, hTO, h1, h2, h3⟩ := st
    have n1 := itx_ne h1 c1
    have n2 := itx_ne h2 c2
    have n3 := itx_ne h3 c3
    have hh : X.A.in1.handled = none := I.ok.hd hc
    have W := GoesN.zip3 (prog := X.prog) (w := X.w) (A := X.A) (elts := elts) (x1 := kk) (pos := tpos) S (draws_x b1 hh i1 a1 n1 js1.toArray) (draws_x b2 hh i2 a2 n2 js2.toArray) (draws_x b3 hh i3 a3 n3 js3.toArray)
    rw [vals_size r1, vals_size r2, vals_size r3, ← hi] at W
    refine W.stops s _ E ⟨hz, hTI, hTO, ⟨h1, c1⟩, ⟨h2, c2⟩, ⟨h3, c3⟩⟩ fun h' tk hk htk => ?_
    exact I.turnedL (ch := [z, TI, TO, i1, i2, i3]) (fun b o hb q => hk b o (fun m => hb (by simp at m ⊢; rcases m with m | m | m | m | m <;> simp [m])) q) hf
  self := fun A i s Q E st h => wpAny_pyIter_zip st.1 h

def iZip3 (K : PySem.W.Frag) (ta : TA) : TI := fun σ H R => ta σ H fun vs H1 => ∃ b1 b2 b3 a1 a2 a3 xs ys zs, vs = [.ref a1, .ref a2, .ref a3] ∧ SqX K b1 H1 a1 xs ∧ SqX K b2 H1 a2 ys ∧ SqX K b3 H1 a3 zs ∧ R (Itz3 K b1 b2 b3 a1 a2 a3) H1
theorem vals3 {x y z : V} {us : List Value} (r : Vals [x, y, z] us) : ∃ u v w, us = [u, v, w] ∧ RelV x u ∧ RelV y v ∧ RelV z w := by
  cases r with
  | cons r1 t => cases t with
    | cons r2 t => cases t with
      | cons r3 t => cases t; exact ⟨_, _, _, rfl, r1, r2, r3⟩
theorem pi_zip3 {X : Cx} {e e2 e3 : Expr} {ta : TA} {p pos tpos : Pos} {elts : List Expr} {kk : Nat} (hg : Gl X "zip") (hm : X.mg "zip" = none) (ha : PA X [e, e2, e3] ta)
    (hs : starEach [e, e2, e3] X.env = (false, eval e X.env) :: starEach [e2, e3] X.env := by rfl) (hpl : (backTo pos (starEach [e2, e3] X.env)).any (·.1) = false := by rfl) :
    PI X (.Tuple elts kk tpos) (.Call (.Name "zip" p) [e, e2, e3] [] pos) (iZip3 X.K ta) := by
  refine ⟨fun pins s σ H R I h => ?_⟩
  refine Call_ (ld_blt I hg hm PyProof.Rows.boot_zip (PyProof.Rows.callWith_type1 (thn (ha.run pos pins s σ H _ I h) fun us s1 ⟨vs, H1, I1, r1, q1⟩ => ?_) hs hpl))
  obtain ⟨b1, b2, b3, a1, a2, a3, xs, ys, zs, ex, hq1, hq2, hq3, q⟩ := q1
  subst ex
  obtain ⟨u1, u2, u3, rfl, r1, r2, r3⟩ := vals3 r1
  cases r1
  cases r2
  cases r3
  obtain ⟨js1, w1, c1⟩ := sqx_in I1 hq1
  obtain ⟨js2, w2, c2⟩ := sqx_in I1 hq2
  obtain ⟨js3, w3, c3⟩ := sqx_in I1 hq3
  have lt : ∀ {b : Bool} {a : Addr} {its : Array Value}, CnX b a its s1.heap → a < s1.heap.objs.size := fun {b a its} c => by
    cases b with
    | true => obtain ⟨o, e, _⟩ := (show s1.heap.IsList a its from c); exact Heap.lt_size e
    | false => obtain ⟨o, e, _⟩ := (show s1.heap.IsTuple a its from c); exact Heap.lt_size e
  refine zip_begins3 (begins_x b1 a1 js1.toArray) (begins_x b2 a2 js2.toArray) (begins_x b3 a3 js3.toArray) c1 c2 c3 fun h' hz hTI hTO h1 h2 h3 hsz hk => wpAny_pyIter_zip hz ?_
  have I2 : Inv X pins σ H1 { s1 with heap := h' } := I1.kept (t' := s1.toks) hk
  have S := zip_sep3 (N := s1.heap.objs.size) (fp1 := [a1]) (fp2 := [a2]) (fp3 := [a3]) (fun b hb => by rw [List.mem_singleton.mp hb]; exact lt c1) (fun b hb => by rw [List.mem_singleton.mp hb]; exact lt c2) (fun b hb => by rw [List.mem_singleton.mp hb]; exact lt c3)
  refine ⟨s1.heap.objs.size + 5, [s1.heap.objs.size + 5, s1.heap.objs.size + 3, s1.heap.objs.size + 4, s1.heap.objs.size, s1.heap.objs.size + 1, s1.heap.objs.size + 2], _, _, H1, rfl, I2, turn_zip3 (b1 := b1) (b2 := b2) (b3 := b3) S, ⟨hz, hTI, ⟨_, _, _, hTO⟩, itx_new h1, itx_new h2, itx_new h3⟩, fun b hb => ?_, q⟩
  have hle : s1.heap.objs.size ≤ b := by
    have e' : b = s1.heap.objs.size + 5 ∨ b = s1.heap.objs.size + 3 ∨ b = s1.heap.objs.size + 4 ∨ b = s1.heap.objs.size ∨ b = s1.heap.objs.size + 1 ∨ b = s1.heap.objs.size + 2 := by simpa using hb
    rcases e' with z | z | z | z | z | z
    all_goals (rw [z])
    all_goals first | exact Nat.le_refl _ | exact Nat.le_add_right _ _
  exact I1.fpOk hle (I1.hok.fresh hle)

/-! ### two -/
def Itz2 (K : PySem.W.Frag) (b1 b2 : Bool) (a1 a2 : Addr) : It :=
  ⟨fun i H => ∃ (xs ys : List V) (x y : V), SqX K b1 H a1 xs ∧ SqX K b2 H a2 ys ∧ xs[i]? = some x ∧ ys[i]? = some y,
   fun i H v H' => ∃ T x y, v = .ref T ∧ H T = none ∧ H' = upd H T (.tup [x, y]) ∧ (∀ xs, SqX K b1 H a1 xs → xs[i]? = some x) ∧ (∀ ys, SqX K b2 H a2 ys → ys[i]? = some y),
   fun i H => ∃ xs ys : List V, SqX K b1 H a1 xs ∧ SqX K b2 H a2 ys ∧ i = min xs.length ys.length⟩
theorem turn_zip2 {P : Program} {w : World} {K : PySem.W.Frag} {elts : List Expr} {kk : Nat} {tpos : Pos} {b1 b2 : Bool} {a1 a2 z TI TO i1 i2 : Addr} (S : ZipSep2 z TI TO i1 i2 [i1, a1] [i2, a2]) :
    Turn P w K (.Tuple elts kk tpos) (Itz2 K b1 b2 a1 a2) [z, TI, TO, i1, i2] z
      (fun i h => IsZip h z TI TO .none ∧ IsTupOf2 h TI (.ref i1) (.ref i2) ∧ (∃ x y, IsTupOf2 h TO x y) ∧ ItX b1 h i1 a1 i ∧ ItX b2 h i2 a2 i) where
  mem := by simp
  obj := fun i h st c hc => by
    obtain ⟨hz, hTI, ⟨x, y, hTO⟩, h1, h2⟩ := st
    have e' : c = z ∨ c = TI ∨ c = TO ∨ c = i1 ∨ c = i2 := by simpa using hc
    rcases e' with q | q | q | q | q
    · rw [q]; exact ⟨_, hz, fun v q => nomatch q⟩
    · rw [q]; exact ⟨_, hTI, fun v q => nomatch q⟩
    · rw [q]; exact ⟨_, hTO, fun v q => nomatch q⟩
    · rw [q]; exact itx_ob h1
    · rw [q]; exact itx_ob h2
  keep := fun i h h' st k => by
    obtain ⟨hz, hTI, ⟨x, y, hTO⟩, h1, h2⟩ := st
    exact ⟨k z (by simp) _ hz, k TI (by simp) _ hTI, ⟨x, y, k TO (by simp) _ hTO⟩, itx_at h1 fun o q => k i1 (by simp) o q, itx_at h2 fun o q => k i2 (by simp) o q⟩
  item := by
    intro X hP hw hK hc i pins s σ H E I hf st hg
    subst hP hw hK
    obtain ⟨xs, ys, x, y, hqx, hqy, hx, hy⟩ := hg
    obtain ⟨js1, r1, c1⟩ := sqx_in I hqx
    obtain ⟨js2, r2, c2⟩ := sqx_in I hqy
    obtain ⟨hz, hTI, hTO, h1, h2⟩ := st
    have hh : X.A.in1.handled = none := I.ok.hd hc
    have W := GoesN.zip2 (prog := X.prog) (w := X.w) (A := X.A) (elts := elts) (x1 := kk) (pos := tpos) S (draws_x b1 hh i1 a1 (itx_ne h1 c1) js1.toArray) (draws_x b2 hh i2 a2 (itx_ne h2 c2) js2.toArray)
    have l1 := (List.getElem?_eq_some_iff.mp hx).1
    have l2 := (List.getElem?_eq_some_iff.mp hy).1
    have hzl : z < s.heap.objs.size := Heap.lt_size hz
    have hin : i < min js1.toArray.size js2.toArray.size := by rw [vals_size r1, vals_size r2]; omega
    refine W.goes i s _ E hin ⟨hz, hTI, hTO, ⟨h1, c1⟩, ⟨h2, c2⟩⟩ fun v h' tk hY st' hk htk => ?_
    obtain ⟨T, v1, v2, rfl, hT, e1, e2, hTt⟩ := hY
    obtain ⟨w1, q1, p1⟩ := r1.get hx
    obtain ⟨w2, q2, p2⟩ := r2.get hy
    have x1 : v1 = w1 := by
      have z1 : js1[i]? = some v1 := by simpa using e1
      rw [q1] at z1; exact (Option.some.inj z1).symm
    have x2 : v2 = w2 := by
      have z1 : js2[i]? = some v2 := by simpa using e2
      rw [q2] at z1; exact (Option.some.inj z1).symm
    subst x1 x2
    have new : ObjOk X.prog X.w (upd H T (.tup [x, y])) h' T (.tup [x, y]) := ⟨by show 2 ≤ sizeLine; rw [sizeLine_eq]; decide, [v1, v2], .cons p1 (.cons p2 .nil), hTt⟩
    have I1 : Inv X pins σ (upd H T (.tup [x, y])) { s with heap := h', toks := tk } :=
      I.turnedNew (ch := [z, TI, TO, i1, i2]) (fun b o hb q => hk b o (fun m => hb (by simp at m ⊢; rcases m with m | m | m | m <;> simp [m])) q) hf hT new
    refine ⟨.ref T, _, I1, rfl, ⟨T, x, y, rfl, I.hok.fresh hT, rfl, fun l hl => by rw [sqx_inj I hl hqx]; exact hx, fun l hl => by rw [sqx_inj I hl hqy]; exact hy⟩, ?_, fun b hb => ?_⟩
    · obtain ⟨g1, g2, g3, g4, g5⟩ := st'
      exact ⟨g1, g2, g3, g4.1, g5.1⟩
    · have hlt : b < s.heap.objs.size := by
        obtain ⟨ax, ay, hTO⟩ := hTO
        have e' : b = z ∨ b = TI ∨ b = TO ∨ b = i1 ∨ b = i2 := by simpa using hb
        rcases e' with q | q | q | q | q
        · rw [q]; exact hzl
        · rw [q]; exact Heap.lt_size hTI
        · rw [q]; exact Heap.lt_size hTO
        · rw [q]; exact itx_lt h1
        · rw [q]; exact itx_lt h2
      rw [upd_ne (Nat.ne_of_lt (Nat.lt_of_lt_of_le hlt hT))]
      exact (hf b hb).1
  done := by
    intro X hP hw hK hc i pins s σ H E I hf st hg
    subst hP hw hK
    obtain ⟨xs, ys, hqx, hqy, hi⟩ := hg
    obtain ⟨js1, r1, c1⟩ := sqx_in I hqx
    obtain ⟨js2, r2, c2⟩ := sqx_in I hqy
    obtain ⟨hz, hTI, hTO, h1, h2⟩ := st
    have hh : X.A.in1.handled = none := I.ok.hd hc
    have W := GoesN.zip2 (prog := X.prog) (w := X.w) (A := X.A) (elts := elts) (x1 := kk) (pos := tpos) S (draws_x b1 hh i1 a1 (itx_ne h1 c1) js1.toArray) (draws_x b2 hh i2 a2 (itx_ne h2 c2) js2.toArray)
    rw [vals_size r1, vals_size r2, ← hi] at W
    refine W.stops s _ E ⟨hz, hTI, hTO, ⟨h1, c1⟩, ⟨h2, c2⟩⟩ fun h' tk hk htk => ?_
    exact I.turnedL (ch := [z, TI, TO, i1, i2]) (fun b o hb q => hk b o (fun m => hb (by simp at m ⊢; rcases m with m | m | m | m <;> simp [m])) q) hf
  self := fun A i s Q E st h => wpAny_pyIter_zip st.1 h
def iZip2 (K : PySem.W.Frag) (ta : TA) : TI := fun σ H R => ta σ H fun vs H1 => ∃ b1 b2 a1 a2 xs ys, vs = [.ref a1, .ref a2] ∧ SqX K b1 H1 a1 xs ∧ SqX K b2 H1 a2 ys ∧ R (Itz2 K b1 b2 a1 a2) H1
theorem cnx_lt {b : Bool} {a : Addr} {its : Array Value} {h : Heap} (c : CnX b a its h) : a < h.objs.size := by
  cases b with
  | true => obtain ⟨o, e, _⟩ := (show h.IsList a its from c); exact Heap.lt_size e
  | false => obtain ⟨o, e, _⟩ := (show h.IsTuple a its from c); exact Heap.lt_size e
theorem pi_zip2 {X : Cx} {e e2 : Expr} {ta : TA} {p pos tpos : Pos} {elts : List Expr} {kk : Nat} (hg : Gl X "zip") (hm : X.mg "zip" = none) (ha : PA X [e, e2] ta)
    (hs : starEach [e, e2] X.env = (false, eval e X.env) :: starEach [e2] X.env := by rfl) (hpl : (backTo pos (starEach [e2] X.env)).any (·.1) = false := by rfl) :
    PI X (.Tuple elts kk tpos) (.Call (.Name "zip" p) [e, e2] [] pos) (iZip2 X.K ta) := by
  refine ⟨fun pins s σ H R I h => ?_⟩
  refine Call_ (ld_blt I hg hm PyProof.Rows.boot_zip (PyProof.Rows.callWith_type1 (thn (ha.run pos pins s σ H _ I h) fun us s1 ⟨vs, H1, I1, r1, q1⟩ => ?_) hs hpl))
  obtain ⟨b1, b2, a1, a2, xs, ys, ex, hq1, hq2, q⟩ := q1
  subst ex
  obtain ⟨u1, u2, rfl, r1, r2⟩ := vals2 r1
  cases r1
  cases r2
  obtain ⟨js1, w1, c1⟩ := sqx_in I1 hq1
  obtain ⟨js2, w2, c2⟩ := sqx_in I1 hq2
  refine zip_begins2 (begins_x b1 a1 js1.toArray) (begins_x b2 a2 js2.toArray) c1 c2 fun h' hz hTI hTO h1 h2 hsz hk => wpAny_pyIter_zip hz ?_
  have I2 : Inv X pins σ H1 { s1 with heap := h' } := I1.kept (t' := s1.toks) hk
  have S := zip_sep2 (N := s1.heap.objs.size) (fp1 := [a1]) (fp2 := [a2]) (fun b hb => by rw [List.mem_singleton.mp hb]; exact cnx_lt c1) (fun b hb => by rw [List.mem_singleton.mp hb]; exact cnx_lt c2)
  refine ⟨s1.heap.objs.size + 4, [s1.heap.objs.size + 4, s1.heap.objs.size + 2, s1.heap.objs.size + 3, s1.heap.objs.size, s1.heap.objs.size + 1], _, _, H1, rfl, I2, turn_zip2 (b1 := b1) (b2 := b2) S, ⟨hz, hTI, ⟨_, _, hTO⟩, itx_new h1, itx_new h2⟩, fun b hb => ?_, q⟩
  have hle : s1.heap.objs.size ≤ b := by
    have e' : b = s1.heap.objs.size + 4 ∨ b = s1.heap.objs.size + 2 ∨ b = s1.heap.objs.size + 3 ∨ b = s1.heap.objs.size ∨ b = s1.heap.objs.size + 1 := by simpa using hb
    rcases e' with z | z | z | z | z
    all_goals (rw [z])
    all_goals first | exact Nat.le_refl _ | exact Nat.le_add_right _ _
  exact I1.fpOk hle (I1.hok.fresh hle)

/-! ### enumerate -/
def Ite1 (K : PySem.W.Frag) (b : Bool) (a : Addr) : It :=
  ⟨fun i H => ∃ (xs : List V) (x : V), SqX K b H a xs ∧ xs[i]? = some x, fun i H v H' => ∃ T x, v = .ref T ∧ H T = none ∧ H' = upd H T (.tup [.int (i : Nat), x]) ∧ ∀ xs, SqX K b H a xs → xs[i]? = some x, fun i H => ∃ xs : List V, SqX K b H a xs ∧ i = xs.length⟩
theorem turn_enum1 {P : Program} {w : World} {K : PySem.W.Frag} {elts : List Expr} {kk : Nat} {tpos : Pos} {b : Bool} {a e it : Addr} (hei : e ≠ it) (hea : e ≠ a) :
    Turn P w K (.Tuple elts kk tpos) (Ite1 K b a) [e, it] e (fun i h => (∃ old, IsEnum h e it ((0 : Int) + (i : Int)) old) ∧ ItX b h it a i) where
  mem := by simp
  obj := fun i h st c hc => by
    obtain ⟨⟨old, he⟩, h1⟩ := st
    have e' : c = e ∨ c = it := by simpa using hc
    rcases e' with z | z
    · rw [z]; exact ⟨_, he, fun v q => nomatch q⟩
    · rw [z]; exact itx_ob h1
  keep := fun i h h' st k => let ⟨⟨old, he⟩, h1⟩ := st; ⟨⟨old, k e (by simp) _ he⟩, itx_at h1 fun o q => k it (by simp) o q⟩
  item := by
    intro X hP hw hK hc i pins s σ H E I hf st hg
    subst hP hw hK
    obtain ⟨xs, x, hq, hx⟩ := hg
    obtain ⟨js, r, c⟩ := sqx_in I hq
    obtain ⟨he, h1⟩ := st
    have hh : X.A.in1.handled = none := I.ok.hd hc
    have W := GoesN.enumFrom (prog := X.prog) (w := X.w) (A := X.A) (elts := elts) (x1 := kk) (pos := tpos) 0 (draws_x b hh it a (itx_ne h1 c) js.toArray) e hei (by simp [hei, hea]) (by simp)
    have l1 := (List.getElem?_eq_some_iff.mp hx).1
    have hin : i < js.toArray.size := by rw [vals_size r]; omega
    refine W.goes i s _ E hin ⟨he, h1, c⟩ fun v h' tk hY st' hk htk => ?_
    obtain ⟨T, t, v1, rfl, hT, e1, hTt⟩ := hY
    obtain ⟨w1, q1, p1⟩ := r.get hx
    have x1 : v1 = w1 := by
      have z1 : js[i]? = some v1 := by simpa using e1
      rw [q1] at z1; exact (Option.some.inj z1).symm
    subst x1
    have new : ObjOk X.prog X.w (upd H T (.tup [.int (i : Nat), x])) h' T (.tup [.int (i : Nat), x]) := ⟨by show 2 ≤ sizeLine; rw [sizeLine_eq]; decide, [.int (0 + (i : Int)) t, v1], .cons ⟨t, by rw [Int.zero_add]⟩ (.cons p1 .nil), hTt⟩
    have I1 : Inv X pins σ (upd H T (.tup [.int (i : Nat), x])) { s with heap := h', toks := tk } := I.turnedNew (ch := [e, it]) hk hf hT new
    refine ⟨.ref T, _, I1, rfl, ⟨T, x, rfl, I.hok.fresh hT, rfl, fun l hl => by rw [sqx_inj I hl hq]; exact hx⟩, ⟨st'.1, st'.2.1⟩, fun c' hb => ?_⟩
    have hlt : c' < s.heap.objs.size := by
      have e' : c' = e ∨ c' = it := by simpa using hb
      rcases e' with z | z
      · rw [z]; obtain ⟨old, he⟩ := he; exact Heap.lt_size he
      · rw [z]; exact itx_lt h1
    rw [upd_ne (Nat.ne_of_lt (Nat.lt_of_lt_of_le hlt hT))]
    exact (hf c' hb).1
  done := by
    intro X hP hw hK hc i pins s σ H E I hf st hg
    subst hP hw hK
    obtain ⟨xs, hq, hi⟩ := hg
    obtain ⟨js, r, c⟩ := sqx_in I hq
    obtain ⟨he, h1⟩ := st
    have hh : X.A.in1.handled = none := I.ok.hd hc
    have W := GoesN.enumFrom (prog := X.prog) (w := X.w) (A := X.A) (elts := elts) (x1 := kk) (pos := tpos) 0 (draws_x b hh it a (itx_ne h1 c) js.toArray) e hei (by simp [hei, hea]) (by simp)
    rw [vals_size r, ← hi] at W
    refine W.stops s _ E ⟨he, h1, c⟩ fun h' tk hk htk => ?_
    exact I.turnedL (ch := [e, it]) hk hf
  self := fun A i s Q E st h => let ⟨⟨_, he⟩, _⟩ := st; wpAny_pyIter_enum he h
theorem enum1_meets {v : Value} {o : Obj} {Hh : Heap → Prop} (B : Begins v o Hh) :
    Meets (Builtin.«enumerate.__new__» ⟨[.type "enumerate", v], []⟩) (fun _ R s => Hh s.heap ∧
      R (.ok (.ret (.ref (s.heap.push o).objs.size))) { s with heap := (s.heap.push o).push { cls := .type "enumerate", data := .fields #[.none, .bool false, .ref s.heap.objs.size, rawInt 0, .none, .none] } }) :=
  .of_wp fun prog w A R s h => by
    obtain ⟨hp, g, d, tk, os⟩ := s; obtain ⟨h1, h⟩ := h
    have hsub := sub_enumerate
    have go : ∀ {A' : Around} {E : Value → Shared → Prop} {Q : Value → Shared → Prop}, Q (.ref hp.objs.size) ⟨hp.push o, g, d, tk, os⟩ → wpAny (model prog w) A' (pyIter v) Q E ⟨hp, g, d, tk, os⟩ :=
      fun q => B.iter prog w _ _ ⟨hp, g, d, tk, os⟩ _ h1 q
    wp_walk using go
    refine wpAny_stack_any fun st => wpAny_pure ?_
    split
    · rename_i c _ _ _ _ _
      cases (c == Value.type "enumerate") <;> (wp_walk using go; exact ⟨_, rfl, h⟩)
    · wp_walk using go
      exact ⟨_, rfl, h⟩
theorem enum1_call {prog : Program} {w : World} {A : Around} {E : Value → Shared → Prop} {s : Shared} {v : Value} {o : Obj} {Hh : Heap → Prop} {Q : Value → Shared → Prop} (B : Begins v o Hh) (h1 : Hh s.heap)
    (h : ∀ h', IsEnum h' (s.heap.objs.size + 1) s.heap.objs.size 0 .none → h'.get? s.heap.objs.size = some o → (∀ b o, s.heap.get? b = some o → h'.get? b = some o) → Q (.ref (s.heap.objs.size + 1)) { s with heap := h' }) :
    wpAny (model prog w) A (call (.type "enumerate") [v]) Q E s := by
  refine callType_new F.called_enumerate (by decide) (F.typeCall_enumerate_1 _) (F.newCall_enumerate_1 _) (fun obj => F.args_object_init_2 obj _) F.entry_enumerate_new (enum1_meets B) ⟨h1, ?_⟩
  have hz : (s.heap.push o).objs.size = s.heap.objs.size + 1 := Heap.size_push ..
  show _ ∧ _
  rw [hz]
  have he := Heap.get?_push_size (s.heap.push o) (o := { cls := .type "enumerate", data := .fields #[.none, .bool false, .ref s.heap.objs.size, rawInt 0, .none, .none] }) rfl
  rw [hz] at he
  exact ⟨⟨_, he, rfl⟩, h _ he (Heap.get?_push_of_some _ (Heap.get?_push_size _ B.free)) fun b o' x => Heap.get?_push_of_some _ (Heap.get?_push_of_some _ x)⟩
def iEnum1 (K : PySem.W.Frag) (ta : TA) : TI := fun σ H R => ta σ H fun vs H1 => ∃ b a xs, vs = [.ref a] ∧ SqX K b H1 a xs ∧ R (Ite1 K b a) H1
theorem pi_enum1 {X : Cx} {e : Expr} {ta : TA} {p pos tpos : Pos} {elts : List Expr} {kk : Nat} (hg : Gl X "enumerate") (hm : X.mg "enumerate" = none) (ha : PA X [e] ta) (hs : starEach [e] X.env = [(false, eval e X.env)] := by rfl) :
    PI X (.Tuple elts kk tpos) (.Call (.Name "enumerate" p) [e] [] pos) (iEnum1 X.K ta) := by
  refine ⟨fun pins s σ H R I h => ?_⟩
  refine Call_ (ld_blt I hg hm boot_enumerate (PyProof.Rows.callWith_type1 (thn (ha.run pos pins s σ H _ I h) fun us s1 ⟨vs, H1, I1, r1, q1⟩ => ?_) hs rfl))
  obtain ⟨b, a, xs, ex, hq, q⟩ := q1
  subst ex
  obtain ⟨u, rfl, r⟩ := vals1 r1
  cases r
  obtain ⟨js, w, c⟩ := sqx_in I1 hq
  refine enum1_call (begins_x b a js.toArray) c fun h' he h1 hk => wpAny_pyIter_enum he ?_
  have I2 : Inv X pins σ H1 { s1 with heap := h' } := I1.kept (t' := s1.toks) hk
  have hlt := cnx_lt c
  refine ⟨s1.heap.objs.size + 1, [s1.heap.objs.size + 1, s1.heap.objs.size], _, _, H1, rfl, I2, turn_enum1 (b := b) (a := a) (Nat.succ_ne_self _) (Nat.ne_of_gt (Nat.lt_succ_of_lt hlt)), ⟨⟨.none, he⟩, itx_new h1⟩, fun c' hb => ?_, q⟩
  have hle : s1.heap.objs.size ≤ c' := by
    have e' : c' = s1.heap.objs.size + 1 ∨ c' = s1.heap.objs.size := by simpa using hb
    rcases e' with z | z
    all_goals (rw [z])
    all_goals first | exact Nat.le_refl _ | exact Nat.le_add_right _ _
  exact I1.fpOk hle (I1.hok.fresh hle)

/-! ### by data -/
def seqD (d : D) : Option (Bool × List D) := match d with | .lst xs => some (true, xs) | .tup xs => some (false, xs) | _ => none
theorem seq_rep {K : PySem.W.Frag} {G : Hp} {d : D} {v : V} {b : Bool} {xs : List D} (h : Rep K G d v) (q : seqD d = some (b, xs)) : ∃ a vs, v = .ref a ∧ SqX K b G a vs ∧ Reps K G xs vs := by
  cases d <;> cases q
  · cases h with | lst h r => exact ⟨_, _, rfl, .of h, r⟩
  · cases h with | tup h r => exact ⟨_, _, rfl, .of h, r⟩
theorem sqx_fun {K : PySem.W.Frag} {b : Bool} {G H : Hp} {a : Addr} {vs : List V} : SqX K b G a vs → Ex G H → SqX K b H a vs := fun h e => h.mono e
def iEn (f : DE) : DI := fun ρ => (f ρ).bind fun d => (seqD d).map fun q => (List.range q.2.length).map fun i => .p (.tup [.int (i : Nat), q.2.getD i .non])
def zip2D : List D → List D → List Cell
  | a :: as, b :: bs => .p (.tup [a, b]) :: zip2D as bs
  | _, _ => []
def zip3D : List D → List D → List D → List Cell
  | a :: as, b :: bs, c :: cs => .p (.tup [a, b, c]) :: zip3D as bs cs
  | _, _, _ => []
theorem zip2D_len : ∀ (as bs : List D), (zip2D as bs).length = min as.length bs.length
  | [], _ => by simp [zip2D]
  | _ :: _, [] => by simp [zip2D]
  | a :: as, b :: bs => by simp only [zip2D, List.length_cons, zip2D_len as bs]; omega
theorem zip3D_len : ∀ (as bs cs : List D), (zip3D as bs cs).length = min (min as.length bs.length) cs.length
  | [], _, _ => by simp [zip3D]
  | _ :: _, [], _ => by simp [zip3D]
  | _ :: _, _ :: _, [] => by simp [zip3D]
  | a :: as, b :: bs, c :: cs => by simp only [zip3D, List.length_cons, zip3D_len as bs cs]; omega
theorem zip2D_get : ∀ (as bs : List D) (i : Nat) (c : Cell), (zip2D as bs)[i]? = some c → ∃ a b, c = .p (.tup [a, b]) ∧ as[i]? = some a ∧ bs[i]? = some b
  | [], _, _, _, h => by simp [zip2D] at h
  | _ :: _, [], _, _, h => by simp [zip2D] at h
  | a :: as, b :: bs, 0, c, h => by simp [zip2D] at h; exact ⟨a, b, h.symm, rfl, rfl⟩
  | a :: as, b :: bs, i + 1, c, h => by simpa using zip2D_get as bs i c (by simpa [zip2D] using h)
theorem zip3D_get : ∀ (as bs cs : List D) (i : Nat) (x : Cell), (zip3D as bs cs)[i]? = some x → ∃ a b c, x = .p (.tup [a, b, c]) ∧ as[i]? = some a ∧ bs[i]? = some b ∧ cs[i]? = some c
  | [], _, _, _, _, h => by simp [zip3D] at h
  | _ :: _, [], _, _, _, h => by simp [zip3D] at h
  | _ :: _, _ :: _, [], _, _, h => by simp [zip3D] at h
  | a :: as, b :: bs, c :: cs, 0, x, h => by simp [zip3D] at h; exact ⟨a, b, c, h.symm, rfl, rfl, rfl⟩
  | a :: as, b :: bs, c :: cs, i + 1, x, h => by simpa using zip3D_get as bs cs i x (by simpa [zip3D] using h)
theorem Up.pair {G H : Hp} {T : Addr} {o : HO} (l : Ex G H) (h : H T = none) : Up G H (upd G T o) (upd H T o) := .pure l h
def iZ2 (fa fb : DE) : DI := fun ρ => (fa ρ).bind fun d => (fb ρ).bind fun e => (seqD d).bind fun p => (seqD e).map fun q => zip2D p.2 q.2
def iZ3 (fa fb fc : DE) : DI := fun ρ => (fa ρ).bind fun d => (fb ρ).bind fun e => (fc ρ).bind fun f => (seqD d).bind fun p => (seqD e).bind fun q => (seqD f).map fun r => zip3D p.2 q.2 r.2
section
variable {X : Cx} {a b c : Expr} {fa fb fc : DE} {elts : List Expr} {kk : Nat} {p pos tpos : Pos}
theorem ig_enum (hm : X.mg "enumerate" = none) (ha : PuE X a fa) (hg : Gl X "enumerate" := by rfl) (hs : starEach [a] X.env = [(false, eval a X.env)] := by rfl) (hs1 : starEach (a :: []) X.env = (false, eval a X.env) :: starEach [] X.env := by rfl) :
    ItG X (.Tuple elts kk tpos) (.Call (.Name "enumerate" p) [a] [] pos) (iEn fa) :=
  let ⟨_, a1, a2⟩ := (pa_consU ha pa_nilU hs1).ex; ⟨_, pi_enum1 hg hm a1 hs, fun ρ σ G H R cs l r q k => by
    unfold iEn at q
    cases z : fa ρ with
    | none => rw [z] at q; cases q
    | some d =>
      rw [z] at q
      have q : ((seqD d).map fun q => (List.range q.2.length).map fun i => Cell.p (.tup [.int (i : Nat), q.2.getD i .non])) = some cs := q
      cases z2 : seqD d with
      | none => rw [z2] at q; cases q
      | some bx =>
        obtain ⟨bb, xs⟩ := bx
        rw [z2] at q; cases q
        refine a2 ρ σ G H _ [d] l r (by simp [dCons, dNil, z]) fun vs G1 H1 u1 rvs => ?_
        cases rvs with
        | cons r1 t =>
          cases t
          obtain ⟨ad, ws, rfl, hx, rw'⟩ := seq_rep r1 z2
          refine ⟨bb, ad, ws, rfl, hx.mono u1.le, k _ G1 H1 u1 fun i G2 H2 g l2 => ?_⟩
          have hx2 : SqX X.K bb H2 ad ws := (hx.mono g).mono l2
          refine ⟨fun cc hc => ?_, fun hi => ⟨ws, hx2, ?_⟩⟩
          · rw [List.getElem?_map] at hc
            by_cases hi : i < xs.length
            · rw [List.getElem?_range hi] at hc; cases hc
              have e1 : xs[i]? = some xs[i] := List.getElem?_eq_getElem hi
              obtain ⟨w, h1, h2⟩ := rw'.get e1
              refine ⟨⟨ws, w, hx2, h1⟩, fun v H3 y => ?_⟩
              obtain ⟨T, x, rfl, nT, rfl, f1⟩ := y
              have e := f1 ws hx2
              rw [h1] at e; cases e
              refine ⟨_, .pair l2 nT, .tup upd_same (.cons (.int _) (.cons ?_ .nil))⟩
              rw [List.getD_eq_getElem?_getD, e1]
              exact h2.mono (g.trans (.new (l2.free nT)))
            · rw [List.getElem?_eq_none (by simp; omega)] at hc; cases hc
          · rw [hi, ← rw'.length]; simp⟩
theorem ig_zip2 (hm : X.mg "zip" = none) (ha : PuE X a fa) (hb : PuE X b fb) (hg : Gl X "zip" := by rfl) (hs : starEach [a, b] X.env = (false, eval a X.env) :: starEach [b] X.env := by rfl) (hs1 : starEach (b :: []) X.env = (false, eval b X.env) :: starEach [] X.env := by rfl)
    (hpl : (backTo pos (starEach [b] X.env)).any (·.1) = false := by rfl) : ItG X (.Tuple elts kk tpos) (.Call (.Name "zip" p) [a, b] [] pos) (iZ2 fa fb) :=
  let ⟨_, a1, a2⟩ := (pa_consU ha (pa_consU hb pa_nilU hs1) hs).ex; ⟨_, pi_zip2 hg hm a1 hs hpl, fun ρ σ G H R cs l r q k => by
    unfold iZ2 at q
    cases z : fa ρ with
    | none => rw [z] at q; cases q
    | some d =>
      cases y : fb ρ with
      | none => simp [z, y] at q
      | some e =>
        simp only [z, y, Option.bind_some] at q
        cases z2 : seqD d with
        | none => simp [z2] at q
        | some bx =>
          obtain ⟨b1, xs⟩ := bx
          cases y2 : seqD e with
          | none => simp [z2, y2] at q
          | some by' =>
            obtain ⟨b2, ys⟩ := by'
            simp only [z2, y2, Option.bind_some, Option.map_some] at q
            cases q
            refine a2 ρ σ G H _ [d, e] l r (by simp [dCons, dNil, z, y]) fun vs G1 H1 u1 rvs => ?_
            cases rvs with
            | cons r1 t => cases t with
              | cons r2 t =>
                cases t
                obtain ⟨ad, ws, rfl, hx, rw1⟩ := seq_rep r1 z2
                obtain ⟨ae, us, rfl, hy, rw2⟩ := seq_rep r2 y2
                refine ⟨b1, b2, ad, ae, ws, us, rfl, hx.mono u1.le, hy.mono u1.le, k _ G1 H1 u1 fun i G2 H2 g l2 => ?_⟩
                have hx2 : SqX X.K b1 H2 ad ws := (hx.mono g).mono l2
                have hy2 : SqX X.K b2 H2 ae us := (hy.mono g).mono l2
                refine ⟨fun cc hc => ?_, fun hi => ⟨ws, us, hx2, hy2, by rw [hi, zip2D_len, rw1.length, rw2.length]⟩⟩
                obtain ⟨x, w, rfl, e1, e2⟩ := zip2D_get _ _ _ _ hc
                obtain ⟨v1, g1, p1⟩ := rw1.get e1
                obtain ⟨v2, g2, p2⟩ := rw2.get e2
                refine ⟨⟨ws, us, v1, v2, hx2, hy2, g1, g2⟩, fun v H3 yy => ?_⟩
                obtain ⟨T, x', y', rfl, nT, rfl, f1, f2⟩ := yy
                have e1 := f1 ws hx2
                have e2 := f2 us hy2
                rw [g1] at e1; cases e1
                rw [g2] at e2; cases e2
                have gg := g.trans (Ex.new (o := .tup [v1, v2]) (l2.free nT))
                exact ⟨_, .pair l2 nT, .tup upd_same (.cons (p1.mono gg) (.cons (p2.mono gg) .nil))⟩⟩
theorem ig_zip3 (hm : X.mg "zip" = none) (ha : PuE X a fa) (hb : PuE X b fb) (hc : PuE X c fc) (hg : Gl X "zip" := by rfl) (hs : starEach [a, b, c] X.env = (false, eval a X.env) :: starEach [b, c] X.env := by rfl) (hs1 : starEach (b :: [c]) X.env = (false, eval b X.env) :: starEach [c] X.env := by rfl)
    (hs2 : starEach (c :: []) X.env = (false, eval c X.env) :: starEach [] X.env := by rfl) (hpl : (backTo pos (starEach [b, c] X.env)).any (·.1) = false := by rfl) : ItG X (.Tuple elts kk tpos) (.Call (.Name "zip" p) [a, b, c] [] pos) (iZ3 fa fb fc) :=
  let ⟨_, a1, a2⟩ := (pa_consU ha (pa_consU hb (pa_consU hc pa_nilU hs2) hs1) hs).ex; ⟨_, pi_zip3 hg hm a1 hs hpl, fun ρ σ G H R cs l r q k => by
    unfold iZ3 at q
    cases z : fa ρ with
    | none => rw [z] at q; cases q
    | some d =>
      cases y : fb ρ with
      | none => simp [z, y] at q
      | some e =>
        cases t : fc ρ with
        | none => simp [z, y, t] at q
        | some f =>
          simp only [z, y, t, Option.bind_some] at q
          cases z2 : seqD d with
          | none => simp [z2] at q
          | some bx =>
            obtain ⟨b1, xs⟩ := bx
            cases y2 : seqD e with
            | none => simp [z2, y2] at q
            | some by' =>
              obtain ⟨b2, ys⟩ := by'
              cases t2 : seqD f with
              | none => simp [z2, y2, t2] at q
              | some bt =>
                obtain ⟨b3, zs⟩ := bt
                simp only [z2, y2, t2, Option.bind_some, Option.map_some] at q
                cases q
                refine a2 ρ σ G H _ [d, e, f] l r (by simp [dCons, dNil, z, y, t]) fun vs G1 H1 u1 rvs => ?_
                cases rvs with
                | cons r1 t => cases t with
                  | cons r2 t => cases t with
                    | cons r3 t =>
                      cases t
                      obtain ⟨ad, ws, rfl, hx, rw1⟩ := seq_rep r1 z2
                      obtain ⟨ae, us, rfl, hy, rw2⟩ := seq_rep r2 y2
                      obtain ⟨af, ts, rfl, hz, rw3⟩ := seq_rep r3 t2
                      refine ⟨b1, b2, b3, ad, ae, af, ws, us, ts, rfl, hx.mono u1.le, hy.mono u1.le, hz.mono u1.le, k _ G1 H1 u1 fun i G2 H2 g l2 => ?_⟩
                      have hx2 : SqX X.K b1 H2 ad ws := (hx.mono g).mono l2
                      have hy2 : SqX X.K b2 H2 ae us := (hy.mono g).mono l2
                      have hz2 : SqX X.K b3 H2 af ts := (hz.mono g).mono l2
                      refine ⟨fun cc hc => ?_, fun hi => ⟨ws, us, ts, hx2, hy2, hz2, by rw [hi, zip3D_len, rw1.length, rw2.length, rw3.length]⟩⟩
                      obtain ⟨x, w, o, rfl, e1, e2, e3⟩ := zip3D_get _ _ _ _ _ hc
                      obtain ⟨v1, g1, p1⟩ := rw1.get e1
                      obtain ⟨v2, g2, p2⟩ := rw2.get e2
                      obtain ⟨v3, g3, p3⟩ := rw3.get e3
                      refine ⟨⟨ws, us, ts, v1, v2, v3, hx2, hy2, hz2, g1, g2, g3⟩, fun v H3 yy => ?_⟩
                      obtain ⟨T, x', y', z', rfl, nT, rfl, f1, f2, f3⟩ := yy
                      have e1 := f1 ws hx2
                      have e2 := f2 us hy2
                      have e3 := f3 ts hz2
                      rw [g1] at e1; cases e1
                      rw [g2] at e2; cases e2
                      rw [g3] at e3; cases e3
                      have gg := g.trans (Ex.new (o := .tup [v1, v2, v3]) (l2.free nT))
                      exact ⟨_, .pair l2 nT, .tup upd_same (.cons (p1.mono gg) (.cons (p2.mono gg) (.cons (p3.mono gg) .nil)))⟩⟩
end
end PL

namespace PL
open PySem PySem.Spec PyProof.Rows L2 PySem.W

/-! ## sums, least and greatest -/
/-- all ints -/
def intsD : List D → Option (List Int)
  | [] => some []
  | .int i :: ds => (intsD ds).map fun is => i :: is
  | _ :: _ => none
theorem intsD_eq : ∀ {ds : List D} {ns : List Int}, intsD ds = some ns → ds = ns.map D.int
  | [], _, h => by cases h; rfl
  | d :: ds, ns, h => by
    cases d <;> try (cases h; done)
    rename_i i
    have h : (intsD ds).map (fun is => i :: is) = some ns := h
    cases z : intsD ds with
    | none => rw [z] at h; cases h
    | some ms => rw [z] at h; cases h; rw [intsD_eq z]; rfl
theorem intsD_map : ∀ ns : List Int, intsD (ns.map D.int) = some ns
  | [] => rfl
  | n :: ns => by rw [List.map_cons, intsD, intsD_map ns]; rfl
def blsD : List D → Option (List Bool)
  | [] => some []
  | .bl i :: ds => (blsD ds).map fun is => i :: is
  | _ :: _ => none
theorem blsD_eq : ∀ {ds : List D} {ns : List Bool}, blsD ds = some ns → ds = ns.map D.bl
  | [], _, h => by cases h; rfl
  | d :: ds, ns, h => by
    cases d <;> try (cases h; done)
    rename_i i
    have h : (blsD ds).map (fun is => i :: is) = some ns := h
    cases z : blsD ds with
    | none => rw [z] at h; cases h
    | some ms => rw [z] at h; cases h; rw [blsD_eq z]; rfl
theorem blsD_map : ∀ ns : List Bool, blsD (ns.map D.bl) = some ns
  | [] => rfl
  | n :: ns => by rw [List.map_cons, blsD, blsD_map ns]; rfl
def gSum (d : D) : Option D := match d with | .lst xs => (intsD xs).map fun ns => .int ns.sum | _ => none
def gAll (d : D) : Option D := match d with | .lst xs => (blsD xs).map fun bs => .bl (bs.all id) | _ => none
section
variable {X : Cx}
theorem b_sum (hc : X.calm = true) : Blt X "sum" (.builtin "sum") (b1 gSum) := ⟨⟨_, cr_sum hc, cok1 fun G H v d z Q l rv q k => by
  cases d <;> try (cases q; done)
  rename_i xs
  have q : ((intsD xs).map fun ns => D.int ns.sum) = some z := q
  cases e : intsD xs with
  | none => rw [e] at q; cases q
  | some ns =>
    rw [e] at q; cases q
    have := intsD_eq e
    subst this
    obtain ⟨p, vs, rfl, hp, rp⟩ := rv.lst_inv l
    have := rp.ints
    subst this
    exact ⟨p, ns, rfl, .of hp, k _ G H (.refl l) (.int _)⟩⟩, by decide +kernel⟩
theorem b_all (hc : X.calm = true) : Blt X "all" (.builtin "all") (b1 gAll) := ⟨⟨_, cr_all hc, cok1 fun G H v d z Q l rv q k => by
  cases d <;> try (cases q; done)
  rename_i xs
  have q : ((blsD xs).map fun bs => D.bl (bs.all id)) = some z := q
  cases e : blsD xs with
  | none => rw [e] at q; cases q
  | some ns =>
    rw [e] at q; cases q
    have := blsD_eq e
    subst this
    obtain ⟨p, vs, rfl, hp, rp⟩ := rv.lst_inv l
    have := rp.bls
    subst this
    exact ⟨p, ns, rfl, .of hp, k _ G H (.refl l) (.bl _)⟩⟩, by decide +kernel⟩
/-- of a tuple of ints -/
def rMaxT (K : PySem.W.Frag) : List V → Hp → VK → Prop := fun vs H Q => ∃ (a : Addr) (n : Int) (ns : List Int), vs = [V.ref a] ∧ SqT K H a ((n :: ns).map V.int) ∧ Q (.int (ns.foldl max n)) H
def rMinT (K : PySem.W.Frag) : List V → Hp → VK → Prop := fun vs H Q => ∃ (a : Addr) (n : Int) (ns : List Int), vs = [V.ref a] ∧ SqT K H a ((n :: ns).map V.int) ∧ Q (.int (ns.foldl min n)) H
theorem alike_ints (ns : List Int) : AlikeAll (ns.map PyData.int) := ⟨fun x hx y hy => by
    obtain ⟨i, _, rfl⟩ := List.mem_map.mp hx
    obtain ⟨j, _, rfl⟩ := List.mem_map.mp hy
    rfl, fun x hx e => by
    obtain ⟨i, _, rfl⟩ := List.mem_map.mp hx
    cases e⟩
theorem cr_maxT (hc : X.calm = true) (hu : X.A.units + 64 < cLine) : CallR X (.builtin "max") (rMaxT X.K) := by
  intro pins s σ H vs us Q I r h
  obtain ⟨a, n, ns, rfl, hq, q⟩ := h
  obtain ⟨its, rv, p, _⟩ := I.tuple hq
  obtain ⟨as, hr⟩ := Dp.readsAll I ((n :: ns).map PyData.int) _ its (dpAll_ints (n :: ns)) rv
  rw [Vals.ref1 r]
  refine max_tuple_data (x := .int n) (xs := ns.map PyData.int) (I.ok.hd hc) (show s.heap.IsTuple a its.toArray from p) (by simpa using hr) (alike_ints (n :: ns)) (by have := dep_ints (n :: ns); simp only [List.map_cons] at this; omega) fun i v h' tk bs hv hrd hk => ?_
  rw [maxD_ints] at hrd
  cases hrd
  exact ⟨.int _, H, I.kept hk, ⟨_, rfl⟩, q⟩
theorem cr_minT (hc : X.calm = true) (hu : X.A.units + 64 < cLine) : CallR X (.builtin "min") (rMinT X.K) := by
  intro pins s σ H vs us Q I r h
  obtain ⟨a, n, ns, rfl, hq, q⟩ := h
  obtain ⟨its, rv, p, _⟩ := I.tuple hq
  obtain ⟨as, hr⟩ := Dp.readsAll I ((n :: ns).map PyData.int) _ its (dpAll_ints (n :: ns)) rv
  rw [Vals.ref1 r]
  refine min_tuple_data (x := .int n) (xs := ns.map PyData.int) (I.ok.hd hc) (show s.heap.IsTuple a its.toArray from p) (by simpa using hr) (alike_ints (n :: ns)) (by have := dep_ints (n :: ns); simp only [List.map_cons] at this; omega) fun i v h' tk bs hv hrd hk => ?_
  rw [minD_ints] at hrd
  cases hrd
  exact ⟨.int _, H, I.kept hk, ⟨_, rfl⟩, q⟩
theorem foldl_max_ge : ∀ (ns : List Int) (n : Int), n ≤ ns.foldl max n ∧ ∀ m ∈ ns, m ≤ ns.foldl max n
  | [], n => ⟨Int.le_refl n, fun _ h => nomatch h⟩
  | a :: ns, n => by
    have h := foldl_max_ge ns (max n a)
    simp only [List.foldl_cons]
    refine ⟨by have := h.1; omega, fun m hm => ?_⟩
    rcases List.mem_cons.mp hm with e | hm
    · have := h.1; omega
    · exact h.2 m hm
theorem foldl_max_mem : ∀ (ns : List Int) (n : Int), ns.foldl max n ∈ n :: ns
  | [], n => by simp
  | a :: ns, n => by
    have h := foldl_max_mem ns (max n a)
    simp only [List.foldl_cons]
    rcases List.mem_cons.mp h with e | h
    · rw [e]
      by_cases q : n ≤ a
      · rw [Int.max_eq_right q]; simp
      · rw [Int.max_eq_left (by omega)]; simp
    · exact List.mem_cons_of_mem _ (List.mem_cons_of_mem _ h)
theorem foldl_min_le : ∀ (ns : List Int) (n : Int), ns.foldl min n ≤ n ∧ ∀ m ∈ ns, ns.foldl min n ≤ m
  | [], n => ⟨Int.le_refl n, fun _ h => nomatch h⟩
  | a :: ns, n => by
    have h := foldl_min_le ns (min n a)
    simp only [List.foldl_cons]
    refine ⟨by have := h.1; omega, fun m hm => ?_⟩
    rcases List.mem_cons.mp hm with e | hm
    · have := h.1; omega
    · exact h.2 m hm
theorem foldl_min_mem : ∀ (ns : List Int) (n : Int), ns.foldl min n ∈ n :: ns
  | [], n => by simp
  | a :: ns, n => by
    have h := foldl_min_mem ns (min n a)
    simp only [List.foldl_cons]
    rcases List.mem_cons.mp h with e | h
    · rw [e]
      by_cases q : n ≤ a
      · rw [Int.min_eq_left q]; simp
      · rw [Int.min_eq_right (by omega)]; simp
    · exact List.mem_cons_of_mem _ (List.mem_cons_of_mem _ h)
def maxL (ns : List Int) : Option Int := match ns with | [] => none | n :: ns => some (ns.foldl max n)
def minL (ns : List Int) : Option Int := match ns with | [] => none | n :: ns => some (ns.foldl min n)
def gMM (f : List Int → Option Int) (ds : List D) : Option D := match ds with
  | [.lst xs] => (intsD xs).bind fun ns => (f ns).map D.int
  | [.tup xs] => (intsD xs).bind fun ns => (f ns).map D.int
  | [.int i, .int j] => (f [i, j]).map D.int
  | _ => none
abbrev gMax := gMM maxL
abbrev gMin := gMM minL
theorem b_max (hc : X.calm = true) (hu : X.A.units + 64 < cLine) : Blt X "max" (.builtin "max") gMax := ⟨⟨_, (cr_max hc).or ((cr_maxT hc hu).or (call_max2 hc)), fun G H vs ds z Q l rs q k => by
  match ds, q with
  | [.lst xs], q =>
    obtain ⟨v, rfl, rv⟩ := rs.one
    have q : ((intsD xs).bind fun ns => (maxL ns).map D.int) = some z := q
    cases e : intsD xs with
    | none => rw [e] at q; cases q
    | some ns =>
      have := intsD_eq e
      subst this
      rw [e] at q
      obtain ⟨p, vs, rfl, hp, rp⟩ := rv.lst_inv l
      have := rp.ints
      subst this
      cases ns with
      | nil => cases q
      | cons n ns =>
        cases q
        refine .inl ⟨p, n :: ns, rfl, .of hp, by simp, fun m hm hle => ?_⟩
        have h1 := foldl_max_ge ns n
        have h2 := hle _ (foldl_max_mem ns n)
        have h3 : m = ns.foldl max n := by
          rcases List.mem_cons.mp hm with e | hm
          · have := h1.1; omega
          · have := h1.2 m hm; omega
        rw [h3]
        exact k _ G H (.refl l) (.int _)
  | [.tup xs], q =>
    obtain ⟨v, rfl, rv⟩ := rs.one
    have q : ((intsD xs).bind fun ns => (maxL ns).map D.int) = some z := q
    cases e : intsD xs with
    | none => rw [e] at q; cases q
    | some ns =>
      have := intsD_eq e
      subst this
      rw [e] at q
      obtain ⟨p, vs, rfl, hp, rp⟩ := rv.tup_inv
      have := rp.ints
      subst this
      cases ns with
      | nil => cases q
      | cons n ns =>
        cases q
        exact .inr (.inl ⟨p, n, ns, rfl, .of (l _ _ hp), k _ G H (.refl l) (.int _)⟩)
  | [.int i, .int j], q =>
    cases q
    obtain ⟨v, w, rfl, r1, r2⟩ := rs.two
    rw [r1.int_inv, r2.int_inv]
    refine .inr (.inr ⟨i, j, rfl, k _ G H (.refl l) ?_⟩)
    have e : (if j > i then j else i) = max i j := by
      split <;> omega
    rw [e]
    exact .int _⟩, by decide +kernel⟩
theorem b_min (hc : X.calm = true) (hu : X.A.units + 64 < cLine) : Blt X "min" (.builtin "min") gMin := ⟨⟨_, (cr_min hc).or ((cr_minT hc hu).or (call_min2 hc)), fun G H vs ds z Q l rs q k => by
  match ds, q with
  | [.lst xs], q =>
    obtain ⟨v, rfl, rv⟩ := rs.one
    have q : ((intsD xs).bind fun ns => (minL ns).map D.int) = some z := q
    cases e : intsD xs with
    | none => rw [e] at q; cases q
    | some ns =>
      have := intsD_eq e
      subst this
      rw [e] at q
      obtain ⟨p, vs, rfl, hp, rp⟩ := rv.lst_inv l
      have := rp.ints
      subst this
      cases ns with
      | nil => cases q
      | cons n ns =>
        cases q
        refine .inl ⟨p, n :: ns, rfl, .of hp, by simp, fun m hm hle => ?_⟩
        have h1 := foldl_min_le ns n
        have h2 := hle _ (foldl_min_mem ns n)
        have h3 : m = ns.foldl min n := by
          rcases List.mem_cons.mp hm with e | hm
          · have := h1.1; omega
          · have := h1.2 m hm; omega
        rw [h3]
        exact k _ G H (.refl l) (.int _)
  | [.tup xs], q =>
    obtain ⟨v, rfl, rv⟩ := rs.one
    have q : ((intsD xs).bind fun ns => (minL ns).map D.int) = some z := q
    cases e : intsD xs with
    | none => rw [e] at q; cases q
    | some ns =>
      have := intsD_eq e
      subst this
      rw [e] at q
      obtain ⟨p, vs, rfl, hp, rp⟩ := rv.tup_inv
      have := rp.ints
      subst this
      cases ns with
      | nil => cases q
      | cons n ns =>
        cases q
        exact .inr (.inl ⟨p, n, ns, rfl, .of (l _ _ hp), k _ G H (.refl l) (.int _)⟩)
  | [.int i, .int j], q =>
    cases q
    obtain ⟨v, w, rfl, r1, r2⟩ := rs.two
    rw [r1.int_inv, r2.int_inv]
    refine .inr (.inr ⟨i, j, rfl, k _ G H (.refl l) ?_⟩)
    have e : (if j < i then j else i) = min i j := by
      split <;> omega
    rw [e]
    exact .int _⟩, by decide +kernel⟩
/-! ### int, bool of ints and bools; str of an int -/
def gInt (d : D) : Option D := match d with | .int i => some (.int i) | .bl b => some (.int (if b then 1 else 0)) | _ => none
def gBool (d : D) : Option D := match d with | .int i => some (.bl (i != 0)) | .bl b => some (.bl b) | _ => none
def gStr (d : D) : Option D := match d with | .int i => if i.natAbs < 10 ^ 100 then some (.str (toString i)) else none | _ => none
theorem b_int : Blt X "int" (.type "int") (b1 gInt) := ⟨⟨_, call_int1, cok1 fun G H v d z Q l rv q k => by
  cases d <;> cases q
  · rw [rv.bl_inv]; exact .inr ⟨_, rfl, k _ G H (.refl l) (.int _)⟩
  · rw [rv.int_inv]; exact .inl ⟨_, rfl, k _ G H (.refl l) (.int _)⟩⟩, boot_int⟩
theorem b_bool : Blt X "bool" (.type "bool") (b1 gBool) := ⟨⟨_, call_bool1, cok1 fun G H v d z Q l rv q k => by
  cases d <;> cases q
  · rw [rv.bl_inv]; exact .inr ⟨_, rfl, k _ G H (.refl l) (.bl _)⟩
  · rw [rv.int_inv]; exact .inl ⟨_, rfl, k _ G H (.refl l) (.bl _)⟩⟩, boot_bool⟩
theorem b_str : Blt X "str" (.type "str") (b1 gStr) := ⟨⟨_, call_str_int, cok1 fun G H v d z Q l rv q k => by
  cases d <;> try (cases q; done)
  rename_i i
  have q : (if i.natAbs < 10 ^ 100 then some (D.str (toString i)) else none) = some z := q
  split at q
  · rename_i h
    cases q
    rw [rv.int_inv]
    refine ⟨_, rfl, ?_, k _ G H (.refl l) (.str _)⟩
    have : i.natAbs < 2 ^ 400 := Nat.lt_trans h (by decide +kernel)
    by_cases h0 : i.natAbs = 0
    · rw [h0]; decide
    · exact Nat.lt_trans ((Nat.log2_lt h0).mpr this) (by decide)
  · cases q⟩, boot_str⟩
end

/-! ## isinstance -/
inductive TyN where | tint | tbool | tstr | ttuple | tlist
  deriving DecidableEq
/-- a value's own type -/
def D.ty : D → String
  | .non => "NoneType" | .bl _ => "bool" | .int _ => "int" | .str _ => "str" | .scr _ => "list" | .lst _ => "list" | .tup _ => "tuple" | .dct _ => "dict"
def TyN.nm : TyN → String | .tint => "int" | .tbool => "bool" | .tstr => "str" | .ttuple => "tuple" | .tlist => "list"
def D.isTy (d : D) : TyN → Bool
  | .tint => match d with | .int _ => true | .bl _ => true | _ => false
  | .tbool => match d with | .bl _ => true | _ => false
  | .tstr => match d with | .str _ => true | _ => false
  | .ttuple => match d with | .tup _ => true | _ => false
  | .tlist => match d with | .lst _ => true | .scr _ => true | _ => false
theorem kit_all : ∀ t : TyN, kitB "NoneType" t.nm = some false ∧ kitB "bool" t.nm = some (match t with | .tint => true | .tbool => true | _ => false) ∧ kitB "int" t.nm = some (match t with | .tint => true | _ => false) ∧
    kitB "str" t.nm = some (match t with | .tstr => true | _ => false) ∧ kitB "list" t.nm = some (match t with | .tlist => true | _ => false) ∧ kitB "tuple" t.nm = some (match t with | .ttuple => true | _ => false) ∧ kitB "dict" t.nm = some false := by
  intro t
  cases t <;> decide +kernel
theorem kit_D (d : D) (t : TyN) : kitB d.ty t.nm = some (d.isTy t) := by
  have h := kit_all t
  cases d <;> cases t <;> first | exact h.1 | exact h.2.1 | exact h.2.2.1 | exact h.2.2.2.1 | exact h.2.2.2.2.1 | exact h.2.2.2.2.2.1 | exact h.2.2.2.2.2.2
theorem ty_x {K : PySem.W.Frag} {G H : Hp} {d : D} {v : V} (l : Ex G H) (h : RepT K G H d v) : TyX K H v (.type d.ty) := by
  cases d with
  | non => rw [h.non_inv]; exact .base .non
  | bl b => rw [h.bl_inv]; exact .base (.bl b)
  | int i => rw [h.int_inv]; exact .base (.int i)
  | str x => rw [h.str_inv]; exact .base (.str x)
  | scr ns =>
    obtain ⟨a, rfl, h2⟩ := h.scr_inv l
    rcases h2 with (h3 | ⟨o, h3⟩) | ⟨o, its, n, h3, hc, _⟩
    · exact .base (.lst h3)
    · exact .base (.frz h3)
    · exact .kList h3 hc
  | lst xs => obtain ⟨a, vs, rfl, h2, _⟩ := h.lst_inv l; exact .base (.lst h2)
  | tup xs => obtain ⟨a, vs, rfl, h2, _⟩ := h.tup_inv; exact .base (.tup (l _ _ h2))
  | dct kvs => obtain ⟨a, rfl, h2⟩ := h.dct_inv l; exact .base (.dT h2)
def e1 (g : D → Option D) (f : DE) : DE := fun ρ => (f ρ).bind g
def gIs (t : TyN) (d : D) : Option D := some (.bl (d.isTy t))
def gIsLT (d : D) : Option D := some (.bl (d.isTy .tlist || d.isTy .ttuple))
section
variable {X : Cx} {a : Expr} {fa : DE} {p p2 pos : Pos}
theorem pu_is (t : TyN) {x : Str} (hb : bootBuiltins x = some (.type t.nm)) (hm : X.mg "isinstance" = none) (hx : X.mg x = none) (ha : RdE X a fa) (hg : Gl X "isinstance") (hgx : Gl X x) (hn : x ≠ "__name__") (hd : (x == ("__debug__" : Str)) = false)
    (he : starEach [a, .Name x p2] X.env = (false, eval a X.env) :: starEach [.Name x p2] X.env) (he2 : starEach [.Name x p2] X.env = (false, eval (.Name x p2) X.env) :: starEach [] X.env) (hpl : (backTo pos (starEach [.Name x p2] X.env)).any (·.1) = false) :
    PuE X (.Call (.Name "isinstance" p) [a, .Name x p2] [] pos) (e1 (gIs t) fa) :=
  let ⟨_, a1, a2⟩ := ha.ex; ⟨_, pe_callB call_isi hg hm boot_isinstance (pa_cons a1 (pa_cons (pe_bltn (v := .ty t.nm) hgx hx hb rfl hn hd) pa_nil he2) he) (by decide) (by decide) he hpl, fun ρ σ G H Q d l r q k => by
    unfold PL.e1 at q
    cases z : fa ρ with
    | none => rw [z] at q; cases q
    | some dd =>
      rw [z] at q; cases q
      refine a2 ρ σ G H _ _ l r z fun v G1 H1 u1 rv => ?_
      exact ⟨v, .ty t.nm, _, _, _, rfl, .ty _, ty_x u1.le rv, kit_ty (kit_D dd t), k _ G1 H1 u1 (.bl _)⟩⟩
theorem pu_is_int (hm : X.mg "isinstance" = none) (hx : X.mg "int" = none) (ha : RdE X a fa) (hg : Gl X "isinstance" := by rfl) (hgx : Gl X "int" := by rfl)
    (he : starEach [a, .Name "int" p2] X.env = (false, eval a X.env) :: starEach [.Name "int" p2] X.env := by rfl) (he2 : starEach [.Name "int" p2] X.env = (false, eval (.Name "int" p2) X.env) :: starEach [] X.env := by rfl) (hpl : (backTo pos (starEach [.Name "int" p2] X.env)).any (·.1) = false := by rfl) :
    PuE X (.Call (.Name "isinstance" p) [a, .Name "int" p2] [] pos) (e1 (gIs .tint) fa) := pu_is .tint boot_int hm hx ha hg hgx (by decide) (by decide) he he2 hpl
theorem pu_is_bool (hm : X.mg "isinstance" = none) (hx : X.mg "bool" = none) (ha : RdE X a fa) (hg : Gl X "isinstance" := by rfl) (hgx : Gl X "bool" := by rfl)
    (he : starEach [a, .Name "bool" p2] X.env = (false, eval a X.env) :: starEach [.Name "bool" p2] X.env := by rfl) (he2 : starEach [.Name "bool" p2] X.env = (false, eval (.Name "bool" p2) X.env) :: starEach [] X.env := by rfl) (hpl : (backTo pos (starEach [.Name "bool" p2] X.env)).any (·.1) = false := by rfl) :
    PuE X (.Call (.Name "isinstance" p) [a, .Name "bool" p2] [] pos) (e1 (gIs .tbool) fa) := pu_is .tbool boot_bool hm hx ha hg hgx (by decide) (by decide) he he2 hpl
theorem pu_is_str (hm : X.mg "isinstance" = none) (hx : X.mg "str" = none) (ha : RdE X a fa) (hg : Gl X "isinstance" := by rfl) (hgx : Gl X "str" := by rfl)
    (he : starEach [a, .Name "str" p2] X.env = (false, eval a X.env) :: starEach [.Name "str" p2] X.env := by rfl) (he2 : starEach [.Name "str" p2] X.env = (false, eval (.Name "str" p2) X.env) :: starEach [] X.env := by rfl) (hpl : (backTo pos (starEach [.Name "str" p2] X.env)).any (·.1) = false := by rfl) :
    PuE X (.Call (.Name "isinstance" p) [a, .Name "str" p2] [] pos) (e1 (gIs .tstr) fa) := pu_is .tstr boot_str hm hx ha hg hgx (by decide) (by decide) he he2 hpl
theorem pu_is_tuple (hm : X.mg "isinstance" = none) (hx : X.mg "tuple" = none) (ha : RdE X a fa) (hg : Gl X "isinstance" := by rfl) (hgx : Gl X "tuple" := by rfl)
    (he : starEach [a, .Name "tuple" p2] X.env = (false, eval a X.env) :: starEach [.Name "tuple" p2] X.env := by rfl) (he2 : starEach [.Name "tuple" p2] X.env = (false, eval (.Name "tuple" p2) X.env) :: starEach [] X.env := by rfl) (hpl : (backTo pos (starEach [.Name "tuple" p2] X.env)).any (·.1) = false := by rfl) :
    PuE X (.Call (.Name "isinstance" p) [a, .Name "tuple" p2] [] pos) (e1 (gIs .ttuple) fa) := pu_is .ttuple boot_tuple hm hx ha hg hgx (by decide) (by decide) he he2 hpl
theorem pu_is_list (hm : X.mg "isinstance" = none) (hx : X.mg "list" = none) (ha : RdE X a fa) (hg : Gl X "isinstance" := by rfl) (hgx : Gl X "list" := by rfl)
    (he : starEach [a, .Name "list" p2] X.env = (false, eval a X.env) :: starEach [.Name "list" p2] X.env := by rfl) (he2 : starEach [.Name "list" p2] X.env = (false, eval (.Name "list" p2) X.env) :: starEach [] X.env := by rfl) (hpl : (backTo pos (starEach [.Name "list" p2] X.env)).any (·.1) = false := by rfl) :
    PuE X (.Call (.Name "isinstance" p) [a, .Name "list" p2] [] pos) (e1 (gIs .tlist) fa) := pu_is .tlist boot_list hm hx ha hg hgx (by decide) (by decide) he he2 hpl
/-- isinstance(x, (list, tuple)) -/
theorem pu_isLT {k : Nat} {p3 tp : Pos} (hm : X.mg "isinstance" = none) (hl : X.mg "list" = none) (ht : X.mg "tuple" = none) (ha : RdE X a fa) (hg : Gl X "isinstance" := by rfl) (hgl : Gl X "list" := by rfl) (hgt : Gl X "tuple" := by rfl)
    (he : starEach [a, .Tuple [.Name "list" p2, .Name "tuple" p3] k tp] X.env = (false, eval a X.env) :: starEach [.Tuple [.Name "list" p2, .Name "tuple" p3] k tp] X.env := by rfl)
    (he2 : starEach [.Tuple [.Name "list" p2, .Name "tuple" p3] k tp] X.env = (false, eval (.Tuple [.Name "list" p2, .Name "tuple" p3] k tp) X.env) :: starEach [] X.env := by rfl)
    (he3 : starEach [.Name "list" p2, .Name "tuple" p3] X.env = (false, eval (.Name "list" p2) X.env) :: starEach [.Name "tuple" p3] X.env := by rfl) (he4 : starEach [.Name "tuple" p3] X.env = (false, eval (.Name "tuple" p3) X.env) :: starEach [] X.env := by rfl)
    (hpl : (backTo pos (starEach [.Tuple [.Name "list" p2, .Name "tuple" p3] k tp] X.env)).any (·.1) = false := by rfl) :
    PuE X (.Call (.Name "isinstance" p) [a, .Tuple [.Name "list" p2, .Name "tuple" p3] k tp] [] pos) (e1 gIsLT fa) :=
  let ⟨_, a1, a2⟩ := ha.ex; ⟨_, pe_callB call_isiT hg hm boot_isinstance (pa_cons a1 (pa_cons (pe_tup (pa_cons (pe_bltn (v := .ty "list") hgl hl boot_list rfl) (pa_cons (pe_bltn (v := .ty "tuple") hgt ht boot_tuple rfl) pa_nil he4) he3)) pa_nil he2) he) (by decide) (by decide) he hpl, fun ρ σ G H Q d l r q kk => by
    unfold PL.e1 at q
    cases z : fa ρ with
    | none => rw [z] at q; cases q
    | some dd =>
      rw [z] at q; cases q
      refine a2 ρ σ G H _ _ l r z fun v G1 H1 u1 rv => ?_
      refine ⟨by show 2 ≤ sizeLine; rw [sizeLine_eq]; decide, fun T hT => ?_⟩
      refine ⟨v, T, [.ty "list", .ty "tuple"], .type dd.ty, [.type "list", .type "tuple"], _, rfl, upd_same, .cons (.ty _) (.cons (.ty _) .nil), ty_x (u1.le.trans (.new hT)) (rv.mono (.refl G1) (.new hT)), ?_, kk _ _ _ (u1.trans (.own u1.le hT)) (.bl _)⟩
      refine kitAny_cons (kit_ty (kit_D dd .tlist)) (fun hb => ?_) fun hb => by rw [hb]; rfl
      rw [hb, Bool.false_or]
      refine kitAny_cons (kit_ty (kit_D dd .ttuple)) (fun hb => by rw [hb]; rfl) fun hb => hb⟩
end
end PL

namespace PL
open PySem PySem.Spec PyProof.Rows L2

/-! ## in, not in, index -/
def rInA (K : PySem.W.Frag) (neg : Bool) : R2 := fun x y H Q => (∃ d ds, Dp K H x d ∧ (Dp K H y (.list ds) ∨ Dp K H y (.tuple ds)) ∧ SeqAt.shaped d = true ∧ PyData.canLayAll0 ds = true ∧ Q (.bl (if neg then !ds.any (fun z => PyData.eqv z d) else ds.any fun z => PyData.eqv z d)) H) ∨
  (∃ (c : Nat) (z : Str), x = .str ⟨#[c]⟩ ∧ y = .str z ∧ Q (.bl (if neg then !decide (c ∈ z.cps.toList) else decide (c ∈ z.cps.toList))) H)
theorem room_in1 {A : Around} {d : PyData} {ds : List PyData} (sd : SeqAt.shaped d = true) (hu : A.units + 65 < cLine) : A.units + 1 + min (PyData.depthAll ds) d.depth < cLine := by
  have := SeqAt.depth_of_shaped sd
  have : min (PyData.depthAll ds) d.depth ≤ d.depth := Nat.min_le_right _ _
  omega
theorem op_inA {X : Cx} (hu : X.A.units + 65 < cLine) : OpR X (compareOp .In) (rInA X.K false) := by
  intro pins s σ H x y v u Q I rx ry h
  rcases h with ⟨d, ds, hd, he | he, sd, se, q⟩ | ⟨c, z, rfl, rfl, q⟩
  · obtain ⟨as, r1⟩ := Dp.reads I d x v hd rx
    obtain ⟨bs, r2⟩ := Dp.reads I (.list ds) y u he ry
    exact SeqAt.in_list_reads r2 r1 se (SeqAt.canLay_of_shaped sd) (room_in1 sd hu) ⟨.bl _, H, I, rfl, q⟩
  · obtain ⟨as, r1⟩ := Dp.reads I d x v hd rx
    obtain ⟨bs, r2⟩ := Dp.reads I (.tuple ds) y u he ry
    exact SeqAt.in_tuple_reads r2 r1 se (SeqAt.canLay_of_shaped sd) (room_in1 sd hu) ⟨.bl _, H, I, rfl, q⟩
  · exact op_in_sign pins s σ H _ _ v u Q I rx ry ⟨c, z, rfl, rfl, q⟩
theorem op_notInA {X : Cx} (hu : X.A.units + 65 < cLine) : OpR X (compareOp .NotIn) (rInA X.K true) := by
  intro pins s σ H x y v u Q I rx ry h
  rcases h with ⟨d, ds, hd, he | he, sd, se, q⟩ | ⟨c, z, rfl, rfl, q⟩
  · obtain ⟨as, r1⟩ := Dp.reads I d x v hd rx
    obtain ⟨bs, r2⟩ := Dp.reads I (.list ds) y u he ry
    exact SeqAt.notIn_list_reads r2 r1 se (SeqAt.canLay_of_shaped sd) (room_in1 sd hu) ⟨.bl _, H, I, rfl, q⟩
  · obtain ⟨as, r1⟩ := Dp.reads I d x v hd rx
    obtain ⟨bs, r2⟩ := Dp.reads I (.tuple ds) y u he ry
    exact SeqAt.notIn_tuple_reads r2 r1 se (SeqAt.canLay_of_shaped sd) (room_in1 sd hu) ⟨.bl _, H, I, rfl, q⟩
  · exact op_notIn_sign pins s σ H _ _ v u Q I rx ry ⟨c, z, rfl, rfl, q⟩
def gInN (neg : Bool) (d e : D) : Option D := match e with
  | .lst ds => if d.ok 49 && ds.all (fun z => z.ok 49) then some (.bl (if neg then !ds.any (fun z => z.eqv d) else ds.any fun z => z.eqv d)) else none
  | .tup ds => if d.ok 49 && ds.all (fun z => z.ok 49) then some (.bl (if neg then !ds.any (fun z => z.eqv d) else ds.any fun z => z.eqv d)) else none
  | .str z => match d with
    | .str y => match y.cps.toList with
      | [c] => some (.bl (if neg then !decide (c ∈ z.cps.toList) else decide (c ∈ z.cps.toList)))
      | _ => none
    | _ => none
  | _ => none
abbrev gIn := gInN false
abbrev gNotIn := gInN true
theorem ok_weak {d : D} (h : d.ok 49 = true) : d.ok 50 = true := by
  have mono : ∀ (d : D) (n : Nat), d.ok n = true → d.ok (n + 1) = true := by
    intro d
    exact D.rec (motive_1 := fun d => ∀ n : Nat, d.ok n = true → d.ok (n + 1) = true) (motive_2 := fun ds => ∀ n : Nat, D.oks ds n = true → D.oks ds (n + 1) = true)
      (fun _ _ => rfl) (fun _ _ _ => rfl) (fun _ _ _ => rfl) (fun x n h => by simpa [D.ok] using h) (fun ns n h => by simp [D.ok] at h ⊢; omega)
      (fun xs ih n h => by cases n with | zero => simp [D.ok] at h | succ n => simp only [D.ok] at h ⊢; exact ih n h)
      (fun xs ih n h => by cases n with | zero => simp [D.ok] at h | succ n => simp only [D.ok] at h ⊢; exact ih n h)
      (fun _ n h => by simp [D.ok] at h)
      (fun _ _ => rfl)
      (fun d ds ih1 ih2 n h => by
        have h' : d.ok n = true ∧ D.oks ds n = true := by simpa [D.oks] using h
        simp [D.oks, ih1 n h'.1, ih2 n h'.2]) d
  exact mono d 49 h
theorem any_toP (ds : List D) (d : D) : ((D.toPs ds).any fun z => PyData.eqv z d.toP) = ds.any fun z => z.eqv d := by
  rw [toPs_map, List.any_map]; rfl
theorem r2_inN {K : PySem.W.Frag} (neg : Bool) : R2ok K (rInA K neg) (gInN neg) := fun G H x y d e z Q l rx ry q k => by
  have fin : ∀ {ds : List D}, ds.all (fun z => z.ok 49) = true → PyData.canLayAll0 (D.toPs ds) = true := fun {ds} h => (oks_lay ds 49 (by rw [oks_all]; exact h)).1
  cases e <;> try (cases q; done)
  · rename_i w
    cases d <;> try (cases q; done)
    rename_i y'
    have q : (match y'.cps.toList with
      | [c] => some (D.bl (if neg then !decide (c ∈ w.cps.toList) else decide (c ∈ w.cps.toList)))
      | _ => none) = some z := q
    split at q
    · rename_i c hc
      cases q
      have : y' = ⟨#[c]⟩ := by
        cases y' with | mk cps => simp at hc; congr 1; exact Array.toList_inj.mp (by simpa using hc)
      subst this
      rw [rx.str_inv, ry.str_inv]
      exact .inr ⟨c, w, rfl, rfl, k _ G H (.refl l) (.bl _)⟩
    · cases q
  · rename_i ds
    have q : (if d.ok 49 && ds.all (fun z => z.ok 49) then some (D.bl (if neg then !ds.any (fun z => z.eqv d) else ds.any fun z => z.eqv d)) else none) = some z := q
    split at q
    · rename_i h
      cases q
      have h' : d.ok 49 = true ∧ ds.all (fun z => z.ok 49) = true := by simpa using h
      refine .inl ⟨d.toP, D.toPs ds, rx.dp l (ok_weak h'.1), .inl ?_, ok_shaped (ok_weak h'.1), fin h'.2, ?_⟩
      · have := ry.dp l (show (D.lst ds).ok 50 = true by rw [ok_lst]; exact h'.2)
        rwa [D.toP] at this
      · rw [any_toP]; exact k _ G H (.refl l) (.bl _)
    · cases q
  · rename_i ds
    have q : (if d.ok 49 && ds.all (fun z => z.ok 49) then some (D.bl (if neg then !ds.any (fun z => z.eqv d) else ds.any fun z => z.eqv d)) else none) = some z := q
    split at q
    · rename_i h
      cases q
      have h' : d.ok 49 = true ∧ ds.all (fun z => z.ok 49) = true := by simpa using h
      refine .inl ⟨d.toP, D.toPs ds, rx.dp l (ok_weak h'.1), .inr ?_, ok_shaped (ok_weak h'.1), fin h'.2, ?_⟩
      · have := ry.dp l (show (D.tup ds).ok 50 = true by rw [ok_tup]; exact h'.2)
        rwa [D.toP] at this
      · rw [any_toP]; exact k _ G H (.refl l) (.bl _)
    · cases q
theorem units65 {k : Nat} {A : Around} (hr : Room k A) : A.units + 65 < cLine := by have := hr.un; omega
theorem c_in {X : Cx} (hu : X.A.units + 65 < cLine) : CmpR X .In gIn := ⟨_, op_inA hu, r2_inN false⟩
theorem c_notIn {X : Cx} (hu : X.A.units + 65 < cLine) : CmpR X .NotIn gNotIn := ⟨_, op_notInA hu, r2_inN true⟩

/-! ## list(range(..)) -/
def dRng (lo hi : DE) : DL := fun ρ => match lo ρ, hi ρ with
  | some (.int a), some (.int b) => if -1000000000 ≤ a ∧ a ≤ 1000000000 ∧ -1000000000 ≤ b ∧ b ≤ 1000000000 ∧ (b - a).toNat ≤ 16777216 then some ((List.range (b - a).toNat).map fun i => .int (a + (i : Nat))) else none
  | _, _ => none

/-! ## own lists of lists -/
def compLL (tg : Tg) (ws : List Nat) (cond : DB) (elt : DL) (ρ : DEnv) : List Cell → Option (List (List D))
  | [] => some []
  | c :: cs => (bindT tg c (ρ.wipe ws)).bind fun ρ1 => (cond ρ1).bind fun b => if b = true then (elt ρ1).bind fun d => (compLL tg ws cond elt ρ cs).map fun ds => d :: ds else compLL tg ws cond elt ρ cs
def eCompLL (it : DI) (tg : Tg) (ws : List Nat) (cond : DB) (elt : DL) : DEnv → Option (List (List D)) := fun ρ => (it ρ).bind fun cs => (compLL tg ws cond elt ρ cs).bind fun ds => if szB ds.length then some ds else none
def TLok (K : PySem.W.Frag) (nn : Nat) (t : TE) (f : DEnv → Option (List (List D))) : Prop := ∀ ρ σ G H (Q : VK) xss, Ex G H → ER K nn ρ σ G H → f ρ = some xss →
  (∀ (p : Addr) (bs : List Addr) G' H', Up G H G' H' → H p = none → G' p = none → H' p = some (.lst (bs.map V.ref)) → Paired (fun b xs => ∃ vs, H' b = some (.lst vs) ∧ Reps K G' xs vs) bs xss → bs.Nodup → p ∉ bs →
    (∀ b ∈ bs, H b = none ∧ G' b = none) → Q (.ref p) H') → t σ H Q
theorem te_compLL {K : PySem.W.Frag} {nn : Nat} {wi : TI} {it : DI} {tt : TT} {cond : DB} {te : TE} {elt : DL} {tg : Tg} {ws : List Nat} (hi : TIh K nn wi it) (ht : TTok K nn tt cond) (he : TNok K nn te elt) (hs : ∀ i ∈ tg.slots, i < nn) (hw : ∀ i ∈ tg.slots, i ∈ ws) :
    TLok K nn (tLc wi (tgTG K tg) tt te ws) (eCompLL it tg ws cond elt) := fun ρ σ G H Q ds l r q k => by
  unfold eCompLL at q
  cases z : it ρ with
  | none => rw [z] at q; cases q
  | some cs =>
    rw [z] at q
    cases z2 : compLL tg ws cond elt ρ cs with
    | none => simp only [Option.bind_some, z2] at q; cases q
    | some out =>
      simp only [Option.bind_some, z2] at q
      split at q
      · rename_i hz
        cases q
        refine hi ρ σ G H _ cs l r z fun J G1 H1 u1 wk => ?_
        intro Dl hD
        have r1 := r.up u1
        let Inv : Nat → Hp → Prop := fun i H' => ∃ G' bs done rest, Up G1 H1 G' H' ∧ G' Dl = none ∧ H' Dl = some (.lst (bs.map V.ref)) ∧ Paired (fun b xs => ∃ vs, H' b = some (.lst vs) ∧ Reps K G' xs vs) bs done ∧ bs.Nodup ∧ Dl ∉ bs ∧
          (∀ b ∈ bs, H1 b = none ∧ G' b = none) ∧ ds = done ++ rest ∧ compLL tg ws cond elt ρ (cs.drop i) = some rest
        refine ⟨fun i m H' => m = cs.length - i ∧ i ≤ cs.length ∧ Inv i H', ⟨cs.length, by simp, Nat.zero_le _, G1, [], [], ds, .own u1.le hD, u1.le.free hD, upd_same, .nil, .nil, (by simp), (fun _ h => nomatch h), by simp, by simpa using z2⟩, ?_⟩
        rintro i m H' ⟨rfl, hi, G', bs, done, rest, u, gD, hd, rv, nd, nD, fr, e, cr⟩
        have w := wk i G' H' u.g u.h u.le
        have keep : ∀ {G2 H2 : Hp}, Ex G' G2 → Ex H' H2 → Paired (fun b xs => ∃ vs, H2 b = some (.lst vs) ∧ Reps K G2 xs vs) bs done := fun {G2 H2} g h => Paired.map2 rv fun b xs ⟨vs, a1, a2⟩ => ⟨vs, h _ _ a1, a2.mono g⟩
        have there : ∀ b ∈ bs, ∃ o, H' b = some o := fun b hb => by
          obtain ⟨j, hj, ej⟩ := List.mem_iff_getElem.mp hb
          have hl : bs.length = done.length := Paired.length rv
          obtain ⟨b', y1, vs, y2, _⟩ := paired_get rv (List.getElem?_eq_getElem (by omega : j < done.length))
          rw [List.getElem?_eq_getElem hj, ej] at y1
          cases y1
          exact ⟨_, y2⟩
        by_cases hlt : i < cs.length
        · right
          obtain ⟨go, yl⟩ := w.1 cs[i] (List.getElem?_eq_getElem hlt)
          refine ⟨go, fun H2 => Inv (i + 1) H2, fun H2 q => ⟨cs.length - (i + 1), by omega, rfl, hlt, q⟩, fun x H2 y => ?_⟩
          obtain ⟨G3, u3, cx⟩ := yl x H2 y
          rw [List.drop_eq_getElem_cons hlt] at cr
          unfold compLL at cr
          cases z3 : bindT tg cs[i] (ρ.wipe ws) with
          | none => rw [z3] at cr; cases cr
          | some ρ1 =>
            rw [z3] at cr
            refine tg_ok u3.le cx z3 fun σ2 st => ?_
            refine ⟨(st.wipe hw).trans wipe_wipe, ?_⟩
            have r2 : ER K nn ρ1 σ2 G3 H2 := st.er ((r1.up (u.trans u3)).wipe) cx hs z3
            cases z4 : cond ρ1 with
            | none => simp only [Option.bind_some, z4] at cr; cases cr
            | some b =>
              simp only [Option.bind_some, z4] at cr
              refine ht ρ1 σ2 G3 H2 _ b u3.le r2 z4 fun G4 H4 u4 => ?_
              have u5 := u3.trans u4
              cases b with
              | false =>
                rw [if_neg Bool.false_ne_true] at cr ⊢
                exact ⟨G4, bs, done, rest, u.trans u5, u5.new _ _ hd gD, u5.h _ _ hd, keep u5.g u5.h, nd, nD, fun b hb => ⟨(fr b hb).1, let ⟨o, ho⟩ := there b hb; u5.new _ _ ho (fr b hb).2⟩, e, cr⟩
              | true =>
                rw [if_pos rfl] at cr ⊢
                cases z5 : elt ρ1 with
                | none => rw [z5] at cr; cases cr
                | some d =>
                  rw [z5] at cr
                  refine he ρ1 σ2 G4 H4 _ d u4.le (r2.up u4) z5 fun p vs G6 H6 u6 np gp hp rp => ?_
                  have u7 := u5.trans u6
                  cases z6 : compLL tg ws cond elt ρ (cs.drop (i + 1)) with
                  | none => simp only [Option.bind_some, z6] at cr; cases cr
                  | some rest' =>
                    simp only [Option.bind_some, z6, Option.map_some] at cr
                    cases cr
                    have g6 : G6 Dl = none := u7.new _ _ hd gD
                    have h4D : H4 Dl = some (.lst (bs.map V.ref)) := u5.h _ _ hd
                    have pD : p ≠ Dl := fun e => by rw [e, h4D] at np; cases np
                    have pbs : p ∉ bs := fun hb => by
                      obtain ⟨o, ho⟩ := there p hb
                      have := u5.h _ _ ho
                      rw [np] at this; cases this
                    have hup : ∀ b, b ≠ Dl → ∀ o, H6 b = some o → (upd H6 Dl (.lst ((bs ++ [p]).map V.ref))) b = some o := fun b hb o ho => by rw [upd_ne hb]; exact ho
                    refine ⟨bs.map V.ref, u7.h _ _ hd, ?_, G6, bs ++ [p], done ++ [d], rest', ?_, g6, by rw [List.map_append]; exact upd_same, ?_, ?_, ?_, fun b hb => ?_, by rw [e]; simp, z6⟩
                    · have h1 : ds.length ≤ sizeLine := szB_le hz
                      have hl : bs.length = done.length := Paired.length rv
                      rw [List.length_map, hl]
                      rw [e, List.length_append, List.length_cons] at h1
                      omega
                    · exact ⟨(u.trans u7).g, (u.trans u7).h.updR hD, u7.le.updR g6, (u.trans u7).new⟩
                    · have app : ∀ {l1 l1' : List Addr} {l2 l2' : List (List D)} {R : Addr → List D → Prop}, Paired R l1 l2 → Paired R l1' l2' → Paired R (l1 ++ l1') (l2 ++ l2') := by
                        intro l1 l1' l2 l2' R h1 h2
                        induction h1 with
                        | nil => exact h2
                        | cons r t ih => exact .cons r ih
                      have hh : ∀ b ∈ bs, b ≠ Dl := fun b hb e => nD (e ▸ hb)
                      have k1 := keep u7.g u7.h
                      have k2 : Paired (fun b xs => ∃ vs, (upd H6 Dl (.lst (bs.map V.ref ++ [V.ref p]))) b = some (.lst vs) ∧ Reps K G6 xs vs) bs done := by
                        have gen : ∀ {l1 : List Addr} {l2 : List (List D)}, Paired (fun b xs => ∃ vs, H6 b = some (.lst vs) ∧ Reps K G6 xs vs) l1 l2 → (∀ b ∈ l1, b ≠ Dl) → Paired (fun b xs => ∃ vs, (upd H6 Dl (.lst (bs.map V.ref ++ [V.ref p]))) b = some (.lst vs) ∧ Reps K G6 xs vs) l1 l2 := by
                          intro l1 l2 h1
                          induction h1 with
                          | nil => exact fun _ => .nil
                          | cons r t ih =>
                            intro hh
                            obtain ⟨vs, y1, y2⟩ := r
                            exact .cons ⟨vs, by rw [upd_ne (hh _ List.mem_cons_self)]; exact y1, y2⟩ (ih fun b hb => hh b (List.mem_cons_of_mem _ hb))
                        exact gen k1 hh
                      exact app k2 (.cons ⟨vs, by rw [upd_ne pD]; exact hp, rp⟩ .nil)
                    · rw [List.nodup_append]
                      refine ⟨nd, by simp, fun a ha b hb => ?_⟩
                      rw [List.mem_singleton.mp hb]
                      exact fun e => pbs (e ▸ ha)
                    · simp [nD, Ne.symm pD]
                    · rcases List.mem_append.mp hb with hb | hb
                      · exact ⟨(fr b hb).1, let ⟨o, ho⟩ := there b hb; u7.new _ _ ho (fr b hb).2⟩
                      · rw [List.mem_singleton.mp hb]
                        exact ⟨(u.trans u5).h.free np, gp⟩
        · left
          have ei : i = cs.length := by omega
          subst ei
          refine ⟨w.2 rfl, ?_⟩
          rw [List.drop_length] at cr
          cases cr
          rw [List.append_nil] at e
          subst e
          exact k Dl bs G' H' (u1.trans u) (u1.h.free hD) gD hd rv nd nD fun b hb => ⟨u1.h.free (fr b hb).1, (fr b hb).2⟩
      · cases q
def sOwnLL (i : Nat) (f : DEnv → Option (List (List D))) : DS := fun ρ => (f ρ).map fun xss => .nx (ρ.set i (.oll xss))
theorem ts_ownLL {K : PySem.W.Frag} {nn : Nat} {te : TE} {f : DEnv → Option (List (List D))} {i : Nat} (h : TLok K nn te f) (hl : i < nn) : TSok K nn (tAsg te (gName i)) (sOwnLL i f) := fun G0 H0 ρ σ G H E r s q k => by
  unfold sOwnLL at q
  cases z : f ρ with
  | none => rw [z] at q; cases q
  | some xss =>
    rw [z] at q; cases q
    refine h ρ σ G H _ xss s.up.le s.er z fun p bs G' H' u n1 n2 hp hb nd nD fr => ?_
    refine k _ G' H' ((s.step u).set hl ⟨p, bs, rfl, hp, hb⟩ (fun p' bs' e e' => ?_) fun j c' v' b hj h1 h2 f1 f2 => ?_) u.g
    · cases e
      have := refs_inj (lst_inj hp e')
      subst this
      exact ⟨⟨n2, s.up.h.free n1⟩, nd, nD, fun b hb => ⟨(fr b hb).2, s.up.h.free (fr b hb).1⟩⟩
    · obtain ⟨w, h3, h4⟩ := s.er.at_ j c' h1
      rw [h2] at h3; cases h3
      obtain ⟨o, ho⟩ := foot_there h4 (foot_up u.h h4 f2)
      rcases f1 with f1 | ⟨p', bs', f1, e', m⟩
      · cases f1; rw [n1] at ho; cases ho
      · cases f1
        have := refs_inj (lst_inj hp e')
        subst this
        rw [(fr b m).1] at ho; cases ho
section
variable {X : Cx} {i : Nat} {y : Str} {py spos pos : Pos} {elt tgE iter : Expr} {ifs : List Expr} {scope : Scope} {own : List (Str × Nat)} {it : DI} {cond : DB} {fe : DL}
theorem st_ownLL (i : Nat) (tg : Tg) (hc : X.calm = true) (hN : X.N.Nodup) (hi : ItH X tgE iter it) (ok : blkC X.N X.env.scope scope own = true)
    (hg : ∀ (s : Shared) (H : Hp) (C : Addr) (cl : List (Str × Addr)) (fp : List Addr), PG (X.blk s H scope (compEnvC scope cl C X.env) fp) tgE (tgTG X.K tg))
    (ht : ∀ (s : Shared) (H : Hp) (C : Addr) (cl : List (Str × Addr)) (fp : List Addr), PuTs (X.blk s H scope (compEnvC scope cl C X.env) fp) ifs cond)
    (he : ∀ (s : Shared) (H : Hp) (C : Addr) (cl : List (Str × Addr)) (fp : List Addr), NwE (X.blk s H scope (compEnvC scope cl C X.env) fp) elt fe)
    (hsl : ∀ i ∈ tg.slots, i < X.N.length) (hw : ∀ i ∈ tg.slots, i ∈ own.map (·.2)) (hy : X.N[i]? = some y := by rfl) (hyl : X.env.scope.names.lookup y = some .local := by rfl)
    (hsw : swapsWith (.ListComp elt [⟨tgE, iter, ifs, 0⟩] scope pos) (some (.Name y py)) spos.line X.env = pure true := by exact sw_true rfl rfl rfl (by decide +kernel)) (hs : ∀ x, foldedSetIterable iter X.env x = pure x := by intro _; rfl) :
    PuS X (.Assign [.Name y py] (.ListComp elt [⟨tgE, iter, ifs, 0⟩] scope pos) spos) (sOwnLL i (eCompLL it tg (own.map (·.2)) cond fe)) := by
  obtain ⟨wi, i1, i2⟩ := hi.ex
  refine ⟨_, ps_setLc (te := fun σ H Q => ∀ t, TNok X.K X.N.length t fe → t σ H Q) (tt := fun σ H Q => ∀ t, TTok X.K X.N.length t cond → t σ H Q) hc hN hy hyl hsw i1 (blkOk_by ok) hg (fun s H C cl fp => ?_) (fun s H C cl fp => ?_) hs, ts_ownLL (te_compLL i2 (fun ρ σ G H Q b l r q k t ok => ok ρ σ G H Q b l r q k) (fun ρ σ G H Q d l r q k t ok => ok ρ σ G H Q d l r q k) hsl hw) (List.getElem?_eq_some_iff.mp hy).1⟩
  · obtain ⟨t, a1, a2⟩ := (ht s H C cl fp).ex
    exact ⟨fun pins s' σ H' Q I h => a1.run pins s' σ H' Q I (h t a2)⟩
  · obtain ⟨t, a1, a2⟩ := (he s H C cl fp).ex
    exact ⟨fun pins s' σ H' Q I h => a1.run pins s' σ H' Q I (h t a2)⟩
end
/-- x[i][j] = e -/
def sSetLL (i : Nat) (f1 f2 fe : DE) : DS := fun ρ => match ρ i, fe ρ, f1 ρ, f2 ρ with
  | some (.oll xss), some d, some (.int k1), some (.int k2) => (ixN xss.length k1).bind fun j1 => (xss[j1]?).bind fun xs => (ixN xs.length k2).map fun j2 => .nx (ρ.set i (.oll (xss.set j1 (xs.set j2 d))))
  | _, _, _, _ => none
theorem paired_set {α β : Type} {R R' : α → β → Prop} {b : α} {y : β} : ∀ {l1 : List α} {l2 : List β} {j : Nat}, Paired R l1 l2 → l1.Nodup → l1[j]? = some b → R' b y → (∀ a x, a ∈ l1 → a ≠ b → R a x → R' a x) → Paired R' l1 (l2.set j y)
  | _, _, _, .nil, _, h, _, _ => by simp at h
  | a :: l1, x :: l2, 0, .cons r t, nd, h, hy, hk => by
    have e : a = b := by simpa using h
    subst e
    obtain ⟨h1, h2⟩ := List.nodup_cons.mp nd
    have gen : ∀ {l1 : List α} {l2 : List β}, Paired R l1 l2 → (∀ a' ∈ l1, a' ≠ a ∧ ∀ x, R a' x → R' a' x) → Paired R' l1 l2 := by
      intro l1 l2 t
      induction t with
      | nil => exact fun _ => .nil
      | cons r t ih => exact fun hh => .cons ((hh _ List.mem_cons_self).2 _ r) (ih fun a' ha => hh a' (List.mem_cons_of_mem _ ha))
    exact .cons hy (gen t fun a' ha => ⟨fun e => h1 (e ▸ ha), fun x => hk a' x (List.mem_cons_of_mem _ ha) fun e => h1 (e ▸ ha)⟩)
  | a :: l1, x :: l2, j + 1, .cons r t, nd, h, hy, hk => by
    obtain ⟨h1, h2⟩ := List.nodup_cons.mp nd
    have hm : b ∈ l1 := List.mem_of_getElem? (by simpa using h)
    exact .cons (hk a x List.mem_cons_self (fun e => h1 (e ▸ hm)) r) (paired_set t h2 (by simpa using h) hy fun a' x' ha => hk a' x' (List.mem_cons_of_mem _ ha))
section
variable {X : Cx} {e b1 b2 : Expr} {fe f1 f2 : DE} {pos : Pos}
theorem st_setLL (i : Nat) {x : Str} {xp ip sp : Pos} (he : PuE X e fe) (h1' : PuE X b1 f1) (h2' : PuE X b2 f2) (hN : X.N[i]? = some x := by rfl) (hv : Vis X.env.scope x := by first | exact Or.inl rfl | exact Or.inr (Or.inl rfl) | exact Or.inr (Or.inr rfl)) (hd : (x == ("__debug__" : Str)) = false := by decide)
    (hcd : (x == ("__classdict__" : Str)) = false := by decide) (hpl : PlainIx b1 := by exact fun _ _ => rfl) (hs : swapsWithSole [.Subscript (.Subscript (.Name x xp) b1 ip) b2 sp] e pos.line X.env = pure false := by rfl) (hw : swappedStores [.Subscript (.Subscript (.Name x xp) b1 ip) b2 sp] e X.env = pure none := by rfl)
    (ha1 : (assignEach [.Subscript (.Subscript (.Name x xp) b1 ip) b2 sp] X.env).map (·.2) = [assign (.Subscript (.Subscript (.Name x xp) b1 ip) b2 sp) X.env] := by rfl)
    (ha : ∀ v, assign (.Subscript (.Subscript (.Name x xp) b1 ip) b2 sp) X.env v = (do
      let ov ← holding [v] (eval (.Subscript (.Name x xp) b1 ip) X.env)
      let iv ← holding [v, ov] (eval b2 X.env)
      standAt sp
      holding [v, ov, iv] (setItem ov iv v)
      release [v, ov, iv] []) := by intro _; rfl) : PuS X (.Assign [.Subscript (.Subscript (.Name x xp) b1 ip) b2 sp] e pos) (sSetLL i f1 f2 fe) :=
  let ⟨_, a1, a2⟩ := he.ex; let ⟨_, c1, c2⟩ := h1'.ex; let ⟨_, d1, d2⟩ := h2'.ex; ⟨_, ps_asg a1 (pg_sub (pe_ix ix_list (pe_var hN hv hd hcd) c1 hpl) d1 set_list ha) hs hw ha1, fun G0 H0 ρ σ G H E r s q k => by
    unfold sSetLL at q
    split at q
    · rename_i xss d k1 k2 e1 e2 e3 e4
      cases z : ixN xss.length k1 with
      | none => rw [z] at q; cases q
      | some j1 =>
        cases z2 : xss[j1]? with
        | none => simp [z, z2] at q
        | some xs =>
          cases z3 : ixN xs.length k2 with
          | none => simp [z, z2, z3] at q
          | some j2 =>
            simp only [z, z2, z3, Option.bind_some, Option.map_some] at q
            cases q
            obtain ⟨v, h1, h2⟩ := s.er.at_ i _ e1
            refine a2 ρ σ G H _ d s.up.le s.er e2 fun w G1 H1 u1 rw1 => ?_
            refine ⟨_, h1, ?_⟩
            refine c2 ρ σ G1 H1 _ _ u1.le (s.er.up u1) e3 fun w2 G2 H2 u2 rw2 => ?_
            cases rw2
            have u12 := u1.trans u2
            obtain ⟨p, bs, rfl, hp, hb⟩ := h2.mono u12.g u12.h
            have hl : bs.length = xss.length := Paired.length hb
            obtain ⟨bb, y1, vs, y2, y3⟩ := paired_get hb z2
            refine ⟨p, bs.map V.ref, k1, .ref bb, rfl, rfl, .of hp, ?_, ?_⟩
            · unfold atI
              rw [List.length_map, hl, z]
              show (bs.map V.ref)[j1]? = _
              rw [List.getElem?_map, y1]; rfl
            · refine d2 ρ σ G2 H2 _ _ u2.le (s.er.up u12) e4 fun w3 G3 H3 u3 rw3 => ?_
              cases rw3
              have u := u12.trans u3
              have s' := s.step u
              have hp3 := u3.h _ _ hp
              obtain ⟨o1, o2, o3, o4⟩ := s'.own i _ _ e1 h1 p bs rfl hp3
              have hbm : bb ∈ bs := List.mem_of_getElem? y1
              have hg := o4 bb hbm
              have pb : p ≠ bb := fun e => o3 (e ▸ hbm)
              refine ⟨bb, vs, k2, j2, rfl, rfl, u3.h _ _ y2, by rw [← y3.length]; exact z3, ?_⟩
              refine k σ G3 _ (s'.write (s.er.lt e1) e1 h1 (.inr ⟨p, bs, rfl, hp3, hbm⟩) hg ⟨p, bs, rfl, by rw [upd_ne pb]; exact hp3, ?_⟩ (fun p' bs' ep e' => ?_) (fun b f => ?_) (fun _ _ _ _ _ _ => trivial)) u.g
              · exact paired_set hb o2 y1 ⟨_, upd_same, (y3.mono u3.g).set (rw1.mono (u2.trans u3).g) j2⟩ fun a x ha hne ⟨vs', a1, a2⟩ => ⟨vs', by rw [upd_ne hne]; exact u3.h _ _ a1, a2.mono u3.g⟩
              · cases ep
                rw [upd_ne pb] at e'
                have := refs_inj (lst_inj hp3 e')
                subst this
                exact ⟨o1, o2, o3, o4⟩
              · rcases f with f | ⟨p', bs', f, e', m⟩
                · exact .inl f
                · cases f
                  rw [upd_ne pb] at e'
                  exact .inr ⟨p, bs', rfl, e', m⟩
    · cases q⟩
end
section
variable {X : Cx}
/-- len of an own list of lists -/
def eLenLL (i : Nat) : DE := fun ρ => match ρ i with | some (.oll xss) => some (.int xss.length) | _ => none
theorem pu_lenLL (i : Nat) {x : Str} {p xp pos : Pos} (hm : X.mg "len" = none) (hN : X.N[i]? = some x := by rfl) (hv : Vis X.env.scope x := by first | exact Or.inl rfl | exact Or.inr (Or.inl rfl) | exact Or.inr (Or.inr rfl)) (hd : (x == ("__debug__" : Str)) = false := by decide)
    (hcd : (x == ("__classdict__" : Str)) = false := by decide) (hg : Gl X "len" := by rfl) (he : starEach [Expr.Name x xp] X.env = [(false, eval (Expr.Name x xp) X.env)] := by rfl) (hpl : (backTo pos (starEach [] X.env)).any (·.1) = false := by rfl) :
    PuE X (.Call (.Name "len" p) [.Name x xp] [] pos) (eLenLL i) :=
  ⟨_, pe_callB call_len_seq hg hm PySem.boot_len (pa_cons (pe_var hN hv hd hcd) pa_nil he) (by decide) (by decide) he hpl, fun ρ σ G H Q d l r q k => by
    unfold eLenLL at q
    cases z : ρ i with
    | none => rw [z] at q; cases q
    | some cc =>
      rw [z] at q
      cases cc <;> first | cases q | skip
      rename_i xss
      obtain ⟨v, h1, p, bs, rfl, hp, hb⟩ := r.at_ i _ z
      refine ⟨_, h1, p, bs.map V.ref, rfl, .inl (.of hp), ?_⟩
      rw [List.length_map, Paired.length hb]
      exact k _ G H (.refl l) (.int _)⟩
end
end PL

namespace PL
open PySem PySem.Spec PyProof.Rows L2

/-! ## comprehensions of two clauses -/
def compL2 (tg : Tg) (ws : List Nat) (it2 : DI) (tg2 : Tg) (ws2 : List Nat) (cond : DB) (elt : DE) (ρ : DEnv) : List Cell → Option (List D)
  | [] => some []
  | .p d :: cs => (bindT tg (.p d) (ρ.wipe ws)).bind fun ρ1 => (it2 ρ1).bind fun cs2 => (compL tg2 ws2 cond elt ρ1 cs2).bind fun ds => (compL2 tg ws it2 tg2 ws2 cond elt ρ cs).map fun es => ds ++ es
  | _ :: _ => none
def eComp2 (it : DI) (tg : Tg) (ws : List Nat) (it2 : DI) (tg2 : Tg) (ws2 : List Nat) (cond : DB) (elt : DE) : DL := fun ρ => (it ρ).bind fun cs => (compL2 tg ws it2 tg2 ws2 cond elt ρ cs).bind fun ds => if szB ds.length then some ds else none
theorem te_comp2 {K : PySem.W.Frag} {nn : Nat} {wi wi1 : TI} {it it2 : DI} {tt0 tt : TT} {cond : DB} {te : TE} {elt : DE} {tg tg2 : Tg} {ws ws2 : List Nat} (hi : TIh K nn wi it) (hi1 : TIg K nn wi1 it2) (ht0 : TTok K nn tt0 bYes) (ht : TTok K nn tt cond) (he : TEok K nn te elt)
    (hs : ∀ i ∈ tg.slots, i < nn) (hs2 : ∀ i ∈ tg2.slots, i < nn) (hw : ∀ i ∈ tg.slots, i ∈ ws) (hw2 : ∀ i ∈ tg2.slots, i ∈ ws2) :
    TNok K nn (tLc2 wi (tgTG K tg) tt0 wi1 (tgTG K tg2) tt te ws ws2) (eComp2 it tg ws it2 tg2 ws2 cond elt) := fun ρ σ G H Q ds l r q k => by
  unfold eComp2 at q
  cases z : it ρ with
  | none => rw [z] at q; cases q
  | some cs =>
    rw [z] at q
    cases z2 : compL2 tg ws it2 tg2 ws2 cond elt ρ cs with
    | none => simp only [Option.bind_some, z2] at q; cases q
    | some out =>
      simp only [Option.bind_some, z2] at q
      split at q
      · rename_i hz
        cases q
        refine hi ρ σ G H _ cs l r z fun J G1 H1 u1 wk => ?_
        intro Dl hD
        have r1 := r.up u1
        let Inv : Nat → Hp → Prop := fun i H' => ∃ G' vs done rest, Up G1 H1 G' H' ∧ G' Dl = none ∧ H' Dl = some (.lst vs) ∧ Reps K G' done vs ∧ ds = done ++ rest ∧ compL2 tg ws it2 tg2 ws2 cond elt ρ (cs.drop i) = some rest
        refine ⟨fun i m H' => m = cs.length - i ∧ i ≤ cs.length ∧ Inv i H', ⟨cs.length, by simp, Nat.zero_le _, G1, [], [], ds, .own u1.le hD, u1.le.free hD, upd_same, .nil, by simp, by simpa using z2⟩, ?_⟩
        rintro i m H' ⟨rfl, hi, G', vs, done, rest, u, gD, hd, rv, e, cr⟩
        have w := wk i G' H' u.g u.h u.le
        by_cases hlt : i < cs.length
        · right
          obtain ⟨go, yl⟩ := w.1 cs[i] (List.getElem?_eq_getElem hlt)
          refine ⟨go, fun H2 => Inv (i + 1) H2, fun H2 q => ⟨cs.length - (i + 1), by omega, rfl, hlt, q⟩, fun x H2 y => ?_⟩
          obtain ⟨G3, u3, cx⟩ := yl x H2 y
          rw [List.drop_eq_getElem_cons hlt] at cr
          cases hcell : cs[i] with
          | ol _ => rw [hcell] at cr; cases cr
          | oll _ => rw [hcell] at cr; cases cr
          | od _ => rw [hcell] at cr; cases cr
          | oi _ => rw [hcell] at cr; cases cr
          | p dc =>
          rw [hcell] at cr cx
          unfold compL2 at cr
          cases z3 : bindT tg (.p dc) (ρ.wipe ws) with
          | none => rw [z3] at cr; cases cr
          | some ρ1 =>
            rw [z3] at cr
            refine tg_ok u3.le cx z3 fun σ2 st => ?_
            refine ⟨(st.wipe hw).trans wipe_wipe, ?_⟩
            have er1 : ∀ G4 H4, Up G1 H1 G4 H4 → Ex G3 G4 → ER K nn ρ1 σ2 G4 H4 := fun G4 H4 u4 e34 => by
              have st' : StTo K G4 tg (.p dc) x (L2.wipe σ ws) σ2 := by
                cases st with
                | nm => exact .nm
                | tp a b => exact .tp (a.mono e34) b
              exact st'.er ((r1.up u4).wipe) (show Rep K G4 dc x from (show Rep K G3 dc x from cx).mono e34) hs z3
            have u13 : Up G1 H1 G3 H2 := u.trans u3
            refine ht0 ρ1 σ2 G3 H2 _ true u3.le (er1 _ _ u13 (.refl _)) rfl fun G4 H4 u4 => ?_
            rw [if_pos rfl]
            have u14 := u13.trans u4
            cases z4 : it2 ρ1 with
            | none => simp only [Option.bind_some, z4] at cr; cases cr
            | some cs2 =>
              simp only [Option.bind_some, z4] at cr
              refine hi1 ρ1 σ2 G4 H4 _ cs2 u4.le (er1 _ _ u14 u4.g) z4 fun J1 G5 H5 u5 wk1 => ?_
              have u15 := u14.trans u5
              cases z5 : compL tg2 ws2 cond elt ρ1 cs2 with
              | none => simp only [Option.bind_some, z5] at cr; cases cr
              | some d1 =>
                simp only [Option.bind_some, z5] at cr
                cases z6 : compL2 tg ws it2 tg2 ws2 cond elt ρ (cs.drop (i + 1)) with
                | none => rw [z6] at cr; cases cr
                | some restO =>
                  rw [z6] at cr
                  have cr : rest = d1 ++ restO := by cases cr; rfl
                  have u35 := (u3.trans u4).trans u5
                  let Inv1 : Nat → Hp → Prop := fun j H' => ∃ G' vs done rest1, Up G1 H1 G' H' ∧ Ex G5 G' ∧ G' Dl = none ∧ H' Dl = some (.lst vs) ∧ Reps K G' done vs ∧ ds = done ++ (rest1 ++ restO) ∧ compL tg2 ws2 cond elt ρ1 (cs2.drop j) = some rest1
                  refine ⟨fun j k H' => k = cs2.length - j ∧ j ≤ cs2.length ∧ Inv1 j H', ⟨cs2.length, by simp, Nat.zero_le _, G5, vs, done, d1, u15, .refl _, u35.new _ _ hd gD, u35.h _ _ hd, rv.mono u35.g, by rw [e, cr], by simpa using z5⟩, ?_⟩
                  rintro j kk H6 ⟨rfl, hj, G6, vs6, done6, rest6, u6, g56, gD6, hd6, rv6, e6, cr6⟩
                  have w1 := wk1 j G6 H6 g56 u6.le
                  by_cases hlt2 : j < cs2.length
                  · right
                    obtain ⟨go1, yl1⟩ := w1.1 cs2[j] (List.getElem?_eq_getElem hlt2)
                    refine ⟨go1, fun H2 => Inv1 (j + 1) H2, fun H2 q => ⟨cs2.length - (j + 1), by omega, rfl, hlt2, q⟩, fun x1 H7 y1 => ?_⟩
                    obtain ⟨G7, u7, cx1⟩ := yl1 x1 H7 y1
                    rw [List.drop_eq_getElem_cons hlt2] at cr6
                    unfold compL at cr6
                    cases z7 : bindT tg2 cs2[j] (ρ1.wipe ws2) with
                    | none => rw [z7] at cr6; cases cr6
                    | some ρ2 =>
                      rw [z7] at cr6
                      refine tg_ok u7.le cx1 z7 fun σ3 st1 => ?_
                      refine ⟨(st1.wipe hw2).trans wipe_wipe, ?_⟩
                      have e37 : Ex G3 G6 := (u4.g.trans u5.g).trans g56
                      have r2 : ER K nn ρ2 σ3 G7 H7 := st1.er ((er1 G7 H7 (u6.trans u7) (e37.trans u7.g)).wipe) cx1 hs2 z7
                      cases z8 : cond ρ2 with
                      | none => simp only [Option.bind_some, z8] at cr6; cases cr6
                      | some b =>
                        simp only [Option.bind_some, z8] at cr6
                        refine ht ρ2 σ3 G7 H7 _ b u7.le r2 z8 fun G8 H8 u8 => ?_
                        have u78 := u7.trans u8
                        cases b with
                        | false =>
                          rw [if_neg Bool.false_ne_true] at cr6 ⊢
                          exact ⟨G8, vs6, done6, rest6, u6.trans u78, g56.trans u78.g, u78.new _ _ hd6 gD6, u78.h _ _ hd6, rv6.mono u78.g, e6, cr6⟩
                        | true =>
                          rw [if_pos rfl] at cr6 ⊢
                          cases z9 : elt ρ2 with
                          | none => rw [z9] at cr6; cases cr6
                          | some d =>
                            rw [z9] at cr6
                            refine he ρ2 σ3 G8 H8 _ d u8.le (r2.up u8) z9 fun v G9 H9 u9 rv9 => ?_
                            have u79 := u78.trans u9
                            cases z10 : compL tg2 ws2 cond elt ρ1 (cs2.drop (j + 1)) with
                            | none => simp only [Option.bind_some, z10] at cr6; cases cr6
                            | some rest' =>
                              simp only [Option.bind_some, z10, Option.map_some] at cr6
                              cases cr6
                              have g9 : G9 Dl = none := u79.new _ _ hd6 gD6
                              refine ⟨vs6, u79.h _ _ hd6, ?_, G9, vs6 ++ [v], done6 ++ [d], rest', ?_, g56.trans u79.g, g9, upd_same, (rv6.mono u79.g).append (.cons rv9 .nil), by rw [e6]; simp, z10⟩
                              · have h1 : ds.length ≤ sizeLine := szB_le hz
                                rw [← rv6.length]
                                rw [e6, List.length_append, List.length_append, List.length_cons] at h1
                                omega
                              · exact ⟨(u6.trans u79).g, (u6.trans u79).h.updR hD, u79.le.updR g9, (u6.trans u79).new⟩
                  · left
                    have ej : j = cs2.length := by omega
                    subst ej
                    refine ⟨w1.2 rfl, ?_⟩
                    rw [List.drop_length] at cr6
                    cases cr6
                    exact ⟨G6, vs6, done6, restO, u6, gD6, hd6, rv6, by rw [e6]; rfl, z6⟩
        · left
          have ei : i = cs.length := by omega
          subst ei
          refine ⟨w.2 rfl, ?_⟩
          rw [List.drop_length] at cr
          cases cr
          rw [List.append_nil] at e
          subst e
          exact k Dl vs G' H' (u1.trans u) (u1.h.free hD) gD hd rv
      · cases q
section
variable {X : Cx} {elt tgE iter tgE2 iter2 : Expr} {ifs2 : List Expr} {scope : Scope} {own : List (Str × Nat)} {vs1 : List Nat} {pos : Pos} {it it2 : DI} {cond : DB} {fe : DE}
theorem nw_comp2 (tg tg2 : Tg) (hc : X.calm = true) (hN : X.N.Nodup) (hi : ItH X tgE iter it) (ok : blkC X.N X.env.scope scope own = true)
    (hg : ∀ (s : Shared) (H : Hp) (C : Addr) (cl : List (Str × Addr)) (fp : List Addr), PG (X.blk s H scope (compEnvC scope cl C X.env) fp) tgE (tgTG X.K tg))
    (hi2 : ∀ (s : Shared) (H : Hp) (C : Addr) (cl : List (Str × Addr)) (fp : List Addr), ItG (X.blk s H scope (compEnvC scope cl C X.env) fp) tgE2 iter2 it2)
    (hg2 : ∀ (s : Shared) (H : Hp) (C : Addr) (cl : List (Str × Addr)) (fp : List Addr), PG (X.blk s H scope (compEnvC scope cl C X.env) fp) tgE2 (tgTG X.K tg2))
    (ht : ∀ (s : Shared) (H : Hp) (C : Addr) (cl : List (Str × Addr)) (fp : List Addr), PuTs (X.blk s H scope (compEnvC scope cl C X.env) fp) ifs2 cond)
    (he : ∀ (s : Shared) (H : Hp) (C : Addr) (cl : List (Str × Addr)) (fp : List Addr), PuE (X.blk s H scope (compEnvC scope cl C X.env) fp) elt fe)
    (hsl : ∀ i ∈ tg.slots, i < X.N.length) (hsl2 : ∀ i ∈ tg2.slots, i < X.N.length) (hw : ∀ i ∈ tg.slots, i ∈ own.map (·.2)) (hw2 : ∀ i ∈ tg2.slots, i ∈ vs1) (hv : ∀ i ∈ vs1, i ∈ own.map (·.2)) (hs : ∀ x, foldedSetIterable iter X.env x = pure x := by intro _; rfl) (hs2 : ∀ env x, foldedSetIterable iter2 env x = pure x := by intro _ _; rfl) :
    NwE X (.ListComp elt [⟨tgE, iter, [], 0⟩, ⟨tgE2, iter2, ifs2, 0⟩] scope pos) (eComp2 it tg (own.map (·.2)) it2 tg2 vs1 cond fe) := by
  obtain ⟨wi, i1, i2⟩ := hi.ex
  refine ⟨tLc2 wi (tgTG X.K tg) (fun σ H Q => ∀ t, (∀ (s : Shared) (H : Hp) (C : Addr) (cl : List (Str × Addr)) (fp : List Addr), True) → TTok X.K X.N.length t bYes → t σ H Q) (fun σ H R => ∀ t, TIg X.K X.N.length t it2 → t σ H R) (tgTG X.K tg2)
    (fun σ H Q => ∀ t, (∀ (s : Shared) (H : Hp) (C : Addr) (cl : List (Str × Addr)) (fp : List Addr), True) → TTok X.K X.N.length t cond → t σ H Q) (fun σ H Q => ∀ t, TEok X.K X.N.length t fe → t σ H Q) (own.map (·.2)) vs1, ?_, ?_⟩
  · refine pe_lc2 hc hN i1 (blkOk_by ok) hv hg (fun s H C cl fp => ?_) (fun s H C cl fp => ?_) hg2 (fun s H C cl fp => ?_) (fun s H C cl fp => ?_) hs hs2
    · obtain ⟨t, a1, a2⟩ := (pts_no (X := X.blk s H scope (compEnvC scope cl C X.env) fp)).ex
      exact ⟨fun pins s' σ H' Q I h => a1.run pins s' σ H' Q I (h t (fun _ _ _ _ _ => trivial) a2)⟩
    · obtain ⟨t, a1, a2⟩ := (hi2 s H C cl fp).ex
      exact ⟨fun pins s' σ H' R I h => a1.run pins s' σ H' R I (h t a2)⟩
    · obtain ⟨t, a1, a2⟩ := (ht s H C cl fp).ex
      exact ⟨fun pins s' σ H' Q I h => a1.run pins s' σ H' Q I (h t (fun _ _ _ _ _ => trivial) a2)⟩
    · obtain ⟨t, a1, a2⟩ := (he s H C cl fp).ex
      exact ⟨fun pins s' σ H' Q I h => a1.run pins s' σ H' Q I (h t a2)⟩
  · exact te_comp2 i2 (fun ρ σ G H R cs l r q k t ok => ok ρ σ G H R cs l r q k) (fun ρ σ G H Q b l r q k t _ ok => ok ρ σ G H Q b l r q k) (fun ρ σ G H Q b l r q k t _ ok => ok ρ σ G H Q b l r q k) (fun ρ σ G H Q d l r q k t ok => ok ρ σ G H Q d l r q k) hsl hsl2 hw hw2
end
end PL

namespace PL
open PySem PySem.Spec PyProof.Rows L2

/-! ## set(xs) of a list of ints, with its table's order -/
abbrev obS (w : World) : Obj := { cls := .type "set", dict := none, data := .set #[] 0 (.fresh 0 0 (!w.params.followText "set-order")) }
abbrev hpS (w : World) (s : Shared) : Heap := s.heap.push (obS w)
section
variable {P : Program} {w : World} {A : Around} {E : Value → Shared → Prop} {s : Shared}
/-- what is true behind: the set stands behind all that was -/
def MadeS (w : World) (s : Shared) (ns : List Int) (h' : Heap) : Prop := ∃ c, c ≤ ns.length ∧ SetR w h' s.heap.objs.size (fun j => decide (j ∈ ns)) c ∧ ∀ b o, s.heap.get? b = some o → h'.get? b = some o
theorem set_of_list {l : Addr} {xs : Array Value} (ns : List Int) {Q : Value → Shared → Prop} (hA : A.handled = none) (hl : s.heap.IsList l xs) (hn : IntsAre xs.toList ns) (hb : ns.length + 1 < scanBound)
    (h : ∀ (h' : Heap) (tk : Nat), MadeS w s ns h' → Q (.ref s.heap.objs.size) { s with heap := h', toks := tk }) : wpAny (model P w) A (call (.type "set") [.ref l]) Q E s := by
  have lx : xs.size = ns.length := (Array.length_toList (xs := xs)).symm.trans (IntsAre.length hn)
  have ⟨mc, mt, m1⟩ := F.called_set.mro
  have m2 := F.called_set.made
  have m3 := F.called_set.sub
  have m4 := F.called_set.notType
  have m5 := F.called_set.canCreate
  have m6 := F.typeCall_set_1 (.ref l)
  have m7 := F.called_set.init.lookup
  have m8 := F.called_set.init.bind (.ref s.heap.objs.size)
  have g0 : (hpS w s).get? s.heap.objs.size = some (obS w) := Heap.get?_push_size _ rfl
  have ty : Shared.TypeIs { s with heap := hpS w s } (.ref s.heap.objs.size) "set" := ⟨_, g0, rfl⟩
  refine wpAny_call (codeAny_of_tree (show wpAny _ _ (callAny (.type "set") _) _ _ _ from wpAny_pure ⟨Code.quiet_builtin _ (by decide +kernel), codeAny_builtin F.entry_type_call ?_⟩))
  rw [Around.under_plain (weight_type_call_type "set" [.ref l] []) rfl]
  repeat (any_goals (first | assumption | wp_step))
  refine codeAny_mono (code_set_led1 (.ref l) (E := E) (Q₁ := fun v s₁ => v = .ref s.heap.objs.size ∧ s₁ = { s with heap := hpS w s }) ⟨rfl, rfl⟩) fun r s₁ hr => ?_
  rcases r with e | fl
  · exact hr
  cases fl <;> first | exact hr.elim | skip
  obtain ⟨rfl, rfl⟩ := hr
  repeat (any_goals (first | assumption | wp_step))
  refine codeAny_mono (codeAny_call_builtin (R := wants (fun r s₂ => r = .none ∧ ∃ h' tk, s₂ = { s with heap := h', toks := tk } ∧ MadeS w s ns h') E) F.called_set.init.plain F.entry_set_init (check_set_init_1 ty ?_)) fun r s₂ hr => ?_
  · -- the list is walked
    obtain ⟨⟨oc, od, odt, os⟩, ho, hcl, nl, hdt⟩ := hl
    obtain rfl : oc = _ := hcl
    obtain rfl : odt = _ := hdt
    have ho' : (hpS w s).get? l = some { cls := .type "list", dict := od, data := .seq xs nl, slots := os } := Heap.get?_push_of_some _ ho
    have f1 := F.sub_list_set
    have f2 := F.sub_list_frozenset
    have f3 : (Value.type "list" == Value.type "dict") = false := by decide
    have il : (hpS w s).IsList l xs := ⟨_, ho', rfl, nl, rfl⟩
    have sz : (hpS w s).objs.size = s.heap.objs.size + 1 := Heap.size_push ..
    have ll : l < s.heap.objs.size := Heap.lt_size ho
    have nI : l ≠ (hpS w s).objs.size := Nat.ne_of_lt (by rw [sz]; exact Nat.lt_succ_of_lt ll)
    have nS : s.heap.objs.size ∉ [(hpS w s).objs.size, l] := by
      intro z
      rcases List.mem_cons.mp z with z | z
      · exact absurd (z.trans sz) (Nat.ne_of_lt (Nat.lt_succ_self _))
      · exact absurd (List.mem_singleton.mp z) (Nat.ne_of_gt ll)
    have a4 : A.in1.in1.in1.handled = none := by simp [hA]
    have vals : ∀ (i : Nat) (v : Value), xs[i]? = some v → ∃ k t, ns[i]? = some k ∧ v = .int k t := fun i v hv => by
      have hi : i < ns.length := lx ▸ (Array.getElem?_eq_some_iff.mp hv).1
      have ⟨t, e⟩ := PyProof.Rows.IntsAre.int_at hn i v ((Array.getElem?_toList ..).trans hv)
      exact ⟨ns[i], t, List.getElem?_eq_getElem hi, by rw [e]; simp [hi]⟩
    unfold Builtin.«set.__init__» noKeywords Builtin.Frozenset.updateFrom
    generalize hPy : pyIter = PY
    wp_walk
    subst hPy
    refine wpAny_pyIter_list il (wpAny_bind (wpAny_runValue ?_))
    refine set_update_ints ((Walks.list a4 _ l nI xs).toS) s.heap.objs.size nS ns lx hb vals (xs.size - 0) 0 _ (by omega) (Nat.zero_le _) ⟨⟨_, Heap.get?_push_size _ rfl, rfl, rfl⟩, il.push _⟩ ⟨0, Nat.le_refl 0, setR_new_at (Heap.get?_push_of_some _ g0)⟩ ?_
    rintro ⟨h', gg, dd, tk, oo⟩ c mv hc R
    obtain rfl : gg = _ := mv.gens
    obtain rfl : dd = _ := mv.drawn
    obtain rfl : oo = _ := mv.os
    refine wpAny_pure (wpAny_pure ⟨rfl, h', tk, rfl, c, lx ▸ hc, R, fun b o e => ?_⟩)
    have hlt : b < s.heap.objs.size := Heap.lt_size e
    refine mv.heap b o (fun z => ?_) (Heap.get?_push_of_some _ (Heap.get?_push_of_some _ e))
    rcases List.mem_cons.mp z with z | z
    · exact absurd z (Nat.ne_of_lt hlt)
    · exact absurd ((List.mem_singleton.mp z).trans sz) (Nat.ne_of_lt (Nat.lt_succ_of_lt hlt))
  · rcases r with e | fl
    · exact hr
    cases fl <;> first | exact hr.elim | skip
    obtain ⟨rfl, h', tk, rfl, hm⟩ := hr
    repeat (any_goals (first | assumption | wp_step))
    exact h _ _ hm
end
end PL

namespace PL
open PySem PySem.Spec PyProof.Rows L2
/-- the members in rising order -/
def insI (k : Int) : List Int → List Int
  | [] => [k]
  | x :: xs => if k < x then k :: x :: xs else if k = x then x :: xs else x :: insI k xs
def sset (ns : List Int) : List Int := ns.foldr insI []
theorem insI_mem {k j : Int} : ∀ {xs : List Int}, j ∈ insI k xs ↔ j = k ∨ j ∈ xs
  | [] => by simp [insI]
  | x :: xs => by
    unfold insI
    split
    · simp
    · split
      · rename_i h; subst h; simp
      · rw [List.mem_cons, insI_mem, List.mem_cons]
        constructor
        · rintro (h | h | h) <;> simp [h]
        · rintro (h | h | h) <;> simp [h]
theorem insI_lt {k : Int} : ∀ {xs : List Int}, xs.Pairwise (· < ·) → (insI k xs).Pairwise (· < ·)
  | [], _ => by simp [insI]
  | x :: xs, h => by
    have ⟨h1, h2⟩ := List.pairwise_cons.mp h
    unfold insI
    split
    · rename_i hk
      exact List.pairwise_cons.mpr ⟨fun y hy => by
        rcases List.mem_cons.mp hy with rfl | hy
        · exact hk
        · exact Int.lt_trans hk (h1 y hy), h⟩
    · split
      · exact h
      · rename_i ha hb
        refine List.pairwise_cons.mpr ⟨fun y hy => ?_, insI_lt h2⟩
        rcases insI_mem.mp hy with rfl | hy
        · omega
        · exact h1 y hy
theorem sset_mem {ns : List Int} {j : Int} : j ∈ sset ns ↔ j ∈ ns := by
  unfold sset
  induction ns with
  | nil => simp
  | cons n ns ih => rw [List.foldr_cons, insI_mem, ih, List.mem_cons]
theorem sset_lt (ns : List Int) : (sset ns).Pairwise (· < ·) := by
  unfold sset
  induction ns with
  | nil => exact .nil
  | cons n ns ih => rw [List.foldr_cons]; exact insI_lt ih
theorem lt_unique : ∀ {xs ys : List Int}, xs.Pairwise (· < ·) → ys.Pairwise (· < ·) → (∀ k, k ∈ xs ↔ k ∈ ys) → xs = ys
  | [], [], _, _, _ => rfl
  | [], y :: ys, _, _, h => absurd ((h y).mpr List.mem_cons_self) (by simp)
  | x :: xs, [], _, _, h => absurd ((h x).mp List.mem_cons_self) (by simp)
  | x :: xs, y :: ys, hx, hy, h => by
    have ⟨x1, x2⟩ := List.pairwise_cons.mp hx
    have ⟨y1, y2⟩ := List.pairwise_cons.mp hy
    have e : x = y := by
      rcases List.mem_cons.mp ((h x).mp List.mem_cons_self) with e | e
      · exact e
      · rcases List.mem_cons.mp ((h y).mpr List.mem_cons_self) with e' | e'
        · exact e'.symm
        · exact absurd (x1 y e') (Int.lt_asymm (y1 x e))
    subst e
    rw [lt_unique x2 y2 fun k => ⟨fun hk => by
      rcases List.mem_cons.mp ((h k).mp (List.mem_cons_of_mem _ hk)) with e | e
      · subst e; exact absurd (x1 k hk) (Int.lt_irrefl k)
      · exact e, fun hk => by
      rcases List.mem_cons.mp ((h k).mpr (List.mem_cons_of_mem _ hk)) with e | e
      · subst e; exact absurd (y1 k hk) (Int.lt_irrefl k)
      · exact e⟩]
/-- sorted(set(xs)), fewer than 64 ints -/
def gSS (d : D) : Option (List D) := match d with
  | .lst xs => (intsD xs).bind fun ns => if ns.length < 64 then some ((sset ns).map .int) else none
  | _ => none
def dSortSet (f : DE) : DL := fun ρ => (f ρ).bind gSS
section
variable {X : Cx} {a : Expr} {fa : DE} {p p2 q pos : Pos}
theorem nw_sortset (hm : X.mg "sorted" = none) (hm2 : X.mg "set" = none) (hc : X.calm = true) (ha : RdE X a fa) (hg : Gl X "sorted" := by rfl) (hg2 : Gl X "set" := by rfl) (na : starEach [a] X.env = [(false, eval a X.env)] := by rfl) :
    NwE X (.Call (.Name "sorted" p) [.Call (.Name "set" p2) [a] [] q] [] pos) (dSortSet fa) := by
  obtain ⟨ta, a1, a2⟩ := ha.ex
  refine ⟨fun σ H Q => ta σ H fun x H1 => ∃ (l : Addr) (ns : List Int), x = .ref l ∧ SqL X.K H1 l (ns.map V.int) ∧ ns.length < 64 ∧ ∀ p0 o, H1 p0 = none → ∀ p, (upd H1 p0 o) p = none → Q (.ref p) (upd (upd H1 p0 o) p (.lst ((sset ns).map V.int))), ⟨fun pins s σ H Q I h => ?_⟩, fun ρ σ G H Q ds l r z k => ?_⟩
  · refine Call_ (ld_blt I hg hm boot_sorted ?_)
    refine PyProof.Rows.callWith_builtin1 (PyProof.Rows.args_cons ?_ rfl) rfl rfl
    refine Call_ (ld_blt I hg2 hm2 PyProof.Rows.boot_set ?_)
    refine PyProof.Rows.callWith_type1 (PyProof.Rows.args_cons (thn (a1.run pins s σ H _ I h) fun v s1 ⟨x, H1, I1, r1, q1⟩ => PyProof.Rows.args_nil ?_) na) na rfl
    obtain ⟨la, ns, rfl, hq, h64, q1⟩ := q1
    cases r1
    obtain ⟨its, r, pl, hz⟩ := I1.list hq
    refine set_of_list ns (I1.ok.hd hc) pl.isList (by simpa using r.ints) (by unfold scanBound; omega) fun h' tk ⟨c, hcn, R, k⟩ => ?_
    refine PyProof.Rows.args_nil ?_
    have I3 := I1.laid (t' := tk) k (Nat.le_refl _) (setO_new (P := X.prog) (H := upd H1 s1.heap.objs.size (SetO X.w s1.heap.objs.size _ c)) R)
    refine cr_sortedSet hc pins _ σ _ [.ref s1.heap.objs.size] _ Q I3 (.cons rfl .nil) ⟨_, _, c, rfl, upd_same, by omega, fun ns' p hs hm' hl hn => ?_⟩
    have e' : ns' = sset ns := lt_unique hs (sset_lt ns) fun k => by rw [hm' k, sset_mem]; simp
    subst e'
    exact q1 _ _ (I1.hok.fresh (Nat.le_refl _)) p hn
  · unfold dSortSet at z
    cases z1 : fa ρ with
    | none => rw [z1] at z; cases z
    | some d =>
      rw [z1] at z
      refine a2 ρ σ G H _ d l r z1 fun v G1 H1 u1 rv => ?_
      have z : gSS d = some ds := z
      match d, z with
      | .lst xs, z =>
      obtain ⟨la, vs, rfl, hp, rp⟩ := rv.lst_inv u1.le
      have z : ((intsD xs).bind fun ns => if ns.length < 64 then some ((sset ns).map D.int) else none) = some ds := z
      cases z2 : intsD xs with
      | none => rw [z2] at z; cases z
      | some ns =>
        rw [z2] at z
        have z : (if ns.length < 64 then some ((sset ns).map D.int) else none) = some ds := z
        split at z
        · rename_i h64
          cases z
          have e := intsD_eq z2
          subst e
          have e := rp.ints
          subst e
          refine ⟨la, ns, rfl, .of hp, h64, fun p0 o h0 p hp' => ?_⟩
          exact k p _ G1 _ (u1.trans ((Up.own u1.le h0).trans (.own (u1.le.trans (.new h0)) hp'))) (by
            cases e : H p with
            | none => rfl
            | some o' =>
              have := (Ex.new (o := o) h0) _ _ (u1.h _ _ e)
              rw [this] at hp'; cases hp') ((u1.le.trans (.new h0)).free hp') upd_same (Reps.ofInts (sset ns))
        · cases z
end
end PL

namespace PL
open PySem PySem.Spec PyProof.Rows L2

/-! ## {k: v, ..}[key], text keys -/
def pick3 (k1 k2 k3 : Str) (d1 d2 d3 : D) (k : D) : Option D := match k with
  | .str k => if k1 = k then some d1 else if k2 = k then some d2 else if k3 = k then some d3 else none
  | _ => none
def eDisp3 (k1 k2 k3 : Str) (f1 f2 f3 fk : DE) : DE := fun ρ => (f1 ρ).bind fun d1 => (f2 ρ).bind fun d2 => (f3 ρ).bind fun d3 => (fk ρ).bind fun k => pick3 k1 k2 k3 d1 d2 d3 k
theorem val3 (k1 k2 k3 k : Str) (v1 v2 v3 : V) (h12 : k1 ≠ k2) (h13 : k1 ≠ k3) (h23 : k2 ≠ k3) : valV (mergeK [] [(.inr k1, v1), (.inr k2, v2), (.inr k3, v3)]) (.inr k) = if k1 = k then some v1 else if k2 = k then some v2 else if k3 = k then some v3 else none := by
  have e1 : ¬ (Sum.inr k1 : Key) = .inr k2 := fun e => h12 (Sum.inr.inj e)
  have e2 : ¬ (Sum.inr k1 : Key) = .inr k3 := fun e => h13 (Sum.inr.inj e)
  have e3 : ¬ (Sum.inr k2 : Key) = .inr k3 := fun e => h23 (Sum.inr.inj e)
  have m : mergeK [] [(.inr k1, v1), (.inr k2, v2), (.inr k3, v3)] = [(.inr k1, v1), (.inr k2, v2), (.inr k3, v3)] := by
    simp [mergeK, putK, e1, e2, e3, h12, h13, h23]
  rw [m]
  by_cases c1 : k1 = k
  · subst c1; rw [if_pos rfl]; exact valV_pos rfl
  · rw [if_neg c1, valV_neg (by exact fun e => c1 (Sum.inr.inj e))]
    by_cases c2 : k2 = k
    · subst c2; rw [if_pos rfl]; exact valV_pos rfl
    · rw [if_neg c2, valV_neg (by exact fun e => c2 (Sum.inr.inj e))]
      by_cases c3 : k3 = k
      · subst c3; rw [if_pos rfl]; exact valV_pos rfl
      · rw [if_neg c3, valV_neg (by exact fun e => c3 (Sum.inr.inj e))]; rfl
section
variable {X : Cx} {e1 e2' e3 ek : Expr} {f1 f2 f3 fk : DE} {k1 k2 k3 : Str} {p1 p2 p3 q1 q2 q3 dp pos : Pos}
theorem pu_disp3 {j1 j2 j3 : Nat} (hu : X.A.units + 64 < cLine) (h1 : PuE X e1 f1) (h2 : PuE X e2' f2) (h3 : PuE X e3 f3) (hk : RdE X ek fk)
    (h12 : k1 ≠ k2 := by decide) (h13 : k1 ≠ k3 := by decide) (h23 : k2 ≠ k3 := by decide) (hs : NoSl ek := by intro _ _; rfl) :
    PuE X (.Subscript (.Dict [some (.Constant (.str k1) j1 p1), some (.Constant (.str k2) j2 p2), some (.Constant (.str k3) j3 p3)] [e1, e2', e3] dp) ek pos) (eDisp3 k1 k2 k3 f1 f2 f3 fk) := by
  obtain ⟨t1, a1, b1⟩ := h1.ex
  obtain ⟨t2, a2, b2⟩ := h2.ex
  obtain ⟨t3, a3, b3⟩ := h3.ex
  obtain ⟨tk, ak, bk⟩ := hk.ex
  refine ⟨_, pe_dget (by omega) (pe_disp (pps_cons pe_str a1 (pps_cons pe_str a2 (pps_cons pe_str a3 pps_nil))) rfl rfl (by simp) (by simp)) ak hs, fun ρ σ G H Q d l r q k => ?_⟩
  unfold eDisp3 at q
  cases z1 : f1 ρ with
  | none => rw [z1] at q; cases q
  | some d1 =>
  rw [z1] at q
  cases z2 : f2 ρ with
  | none => simp only [Option.bind_some, z2] at q; cases q
  | some d2 =>
  simp only [Option.bind_some, z2] at q
  cases z3 : f3 ρ with
  | none => rw [z3] at q; cases q
  | some d3 =>
  rw [z3] at q
  cases z4 : fk ρ with
  | none => simp only [Option.bind_some, z4] at q; cases q
  | some dk =>
  simp only [Option.bind_some, z4] at q
  intro p hp
  have u0 : Up G H G (upd H p (.dK [])) := .own l hp
  show t1 σ (upd H p (.dK [])) _
  refine b1 ρ σ G _ _ d1 u0.le (r.up u0) z1 fun v1 G1 H1 u1 rv1 => ?_
  show t2 σ H1 _
  refine b2 ρ σ G1 H1 _ d2 u1.le (r.up (u0.trans u1)) z2 fun v2 G2 H2 u2 rv2 => ?_
  show t3 σ H2 _
  refine b3 ρ σ G2 H2 _ d3 u2.le (r.up ((u0.trans u1).trans u2)) z3 fun v3 G3 H3 u3 rv3 => ?_
  have u03 := (u1.trans u2).trans u3
  have hp3 : H3 p = some (.dK []) := u03.h _ _ upd_same
  have gp3 : G3 p = none := u03.new _ _ upd_same (l.free hp)
  refine ⟨hp3, [(.inr k1, v1), (.inr k2, v2), (.inr k3, v3)], rfl, by simp, ?_⟩
  have u4 : Up G H G3 (upd H3 p (.dK (mergeK [] [(.inr k1, v1), (.inr k2, v2), (.inr k3, v3)]))) :=
    ⟨(u0.trans u03).g, (u0.trans u03).h.updR hp, u03.le.updR gp3, (u0.trans u03).new⟩
  refine bk ρ σ G3 _ _ dk u4.le (r.up u4) z4 fun y G5 H5 u5 ry => ?_
  have hp5 := u5.h _ _ (upd_same (H := H3) (a := p))
  have e : ∃ ks, dk = .str ks := by cases dk <;> first | exact ⟨_, rfl⟩ | cases q
  obtain ⟨ks, rfl⟩ := e
  have ey : y = .str ks := ry.str_inv
  subst ey
  have q : (if k1 = ks then some d1 else if k2 = ks then some d2 else if k3 = ks then some d3 else none) = some d := q
  have hv := val3 k1 k2 k3 ks v1 v2 v3 h12 h13 h23
  have fin : ∀ v, Rep X.K G5 d v → valV (mergeK [] [(.inr k1, v1), (.inr k2, v2), (.inr k3, v3)]) (.inr ks) = some v → ∃ a v, V.ref p = V.ref a ∧ DGet H5 a (.str ks) (some v) ∧ Q v H5 := fun v rv e =>
    ⟨p, v, rfl, .inl ⟨_, .inr ks, .inl hp5, rfl, e.symm⟩, k v G5 H5 (u4.trans u5) rv⟩
  by_cases c1 : k1 = ks
  · rw [if_pos c1] at q hv; cases q
    exact fin v1 (rv1.mono ((u2.trans u3).g.trans u5.g)) hv
  · rw [if_neg c1] at q hv
    by_cases c2 : k2 = ks
    · rw [if_pos c2] at q hv; cases q
      exact fin v2 (rv2.mono (u3.g.trans u5.g)) hv
    · rw [if_neg c2] at q hv
      by_cases c3 : k3 = ks
      · rw [if_pos c3] at q hv; cases q
        exact fin v3 (rv3.mono u5.g) hv
      · rw [if_neg c3] at q; cases q
end
end PL

namespace PL
open PySem PySem.Spec PyProof.Rows L2

/-! ## defs with one default, a text -/
structure FnD1 (P : Program) (w : World) (K : PySem.W.Frag) (mg : Str → Option Value) (base : Heap) (k : Nat) (x : Str) (F : List D → Option D) (z : Str) : Prop where
  ex : ∃ f fd ps, mg x = some (.ref f) ∧ PySem.W.keepIn K (.ref f) = true ∧ Binds K fd ps [] ∧ (∃ ds, Vals [V.str z] ds ∧ Binds K fd ps ds) ∧ FnOk P w K mg base CX0 k f fd ps (spF K F)
theorem FnD1.full {P : Program} {w : World} {K : PySem.W.Frag} {mg : Str → Option Value} {base : Heap} {k : Nat} {x : Str} {F : List D → Option D} {z : Str} (h : FnD1 P w K mg base k x F z) : FnD P w K mg base k x F :=
  let ⟨f, fd, ps, a, b, c, _, d⟩ := h.ex; ⟨f, fd, ps, a, b, c, d⟩
section
variable {P : Program} {w : World} {K : PySem.W.Frag} {mg : Str → Option Value} {base : Heap}
abbrev FunS (K : PySem.W.Frag) (x qual : Str) (st : Stmt) (z : Str) (f : Addr) (fd : FuncData) : Prop := FunD K x qual (defArgs st) (defBody st) (defScope st) [V.str z] [] f fd
theorem funS_mk {x qual z : Str} {st : Stmt} {f T : Addr} {oc tc : Value} {od an td : Option Addr} {osl tsl : Array (Option Value)} {kV doc pm cdv ct : Value} {tk : Tok} {tn : Nat} (l : K.lookup f = some ⟨oc, od, .func (PySem.W.fnOf x qual (defArgs st) (defBody st) (defScope st) (.ref T) kV doc pm an cdv ct), osl⟩)
    (lt : K.lookup T = some ⟨tc, td, .seq #[.str z tk] tn, tsl⟩) (c : PySem.W.codeIn K cdv qual = true) (k : PySem.W.keepIn K (.ref f) = true) : FunS K x qual st z f (PySem.W.fnOf x qual (defArgs st) (defBody st) (defScope st) (.ref T) kV doc pm an cdv ct) :=
  ⟨⟨oc, od, .ref T, kV, doc, pm, an, cdv, ct, osl, rfl, l, c, .inr ⟨by simp, T, _, [Value.str z tk], tn, rfl, lt, rfl, .cons ⟨tk, rfl⟩ .nil⟩, .inl rfl⟩, k⟩
theorem funS_all {x qual z : Str} {st : Stmt} {f : Addr} {fd : FuncData} {ps : List Str} (F : FunS K x qual st z f fd)
    (h : ∀ (T : Addr) (kV doc pm : Value) (an : Option Addr) (cdv ct : Value) (us its : List Value), us.length = ps.length → its.length = [V.str z].length →
      ∃ k, bindArgs (PySem.W.fnOf x qual (defArgs st) (defBody st) (defScope st) (.ref T) kV doc pm an cdv ct) ⟨us, []⟩ = seqItems? (.ref T) >>= k ∧ k (some its.toArray) = pure (ps.zip (us ++ its.drop 1))) : Binds K fd ps [] := by
  obtain ⟨ds, h1, h2⟩ := FunD.binds1 F (ps := ps) ps.length 1 (by simp) (by simp) h
  cases h1
  exact h2
theorem pureS_ok {x qual z : Str} {st : Stmt} {f : Addr} {fd : FuncData} {N ps : List Str} {k : Nat} {body : DS} (F : FunS K x qual st z f fd) (S : FnScope N ps (defScope st)) (hl : ps.length ≤ N.length)
    (hb : ∀ (cdv : Value) (A : Around) (outer : List Env) (s : Shared) (H : Hp) (E : XK), Room k (A.deeper (envOfC qual (defScope st) s.heap.objs.size f cdv)) →
      PuSs (cxOf CX0 P w K mg base N qual (defScope st) f cdv A outer s H E).nox (defBody st) body) : FnOk P w K mg base CX0 (k + 1) f fd ps (spF K (fnD ps.length body)) := by
  refine FunD.ok F S (fun vs H Q E h => ?_) (fun cdv A outer s H vs Q E hr h => ?_)
  · obtain ⟨G, ds, d, l, r, q, _⟩ := h
    unfold fnD at q
    split at q
    · rename_i e; rw [← e, r.length]
    · cases q
  · obtain ⟨G, ds, d, l, r, q, kq⟩ := h
    unfold fnD at q
    split at q
    · rename_i e
      obtain ⟨t, a1, a2⟩ := (hb cdv A outer s H E hr).ex
      refine ⟨t, a1.nox, ?_⟩
      cases z : body (env0 ds) with
      | none => rw [z] at q; cases q
      | some rr =>
        rw [z] at q
        have q : endD rr = some d := q
        refine a2 G H (env0 ds) (L2.start N vs) G H _ rr (start_sr l r (by rw [← r.length, e]; exact hl)) z ?_
        cases rr with
        | nx ρ' => cases q; exact fun σ' G' H' s' _ => kq _ G' H' s'.up .non
        | rt d' => cases q; exact fun v G' H' u rv => kq v G' H' u rv
        | bk _ => cases q
        | ct _ => cases q
    · cases q
end
def eCallD (F : List D → Option D) (dd : List D) (fs : DL) : DE := fun ρ => (fs ρ).bind fun ds => F (ds ++ dd)
section
variable {X : Cx} {x : Str} {p pos : Pos} {e : Expr} {es : List Expr} {fs : DL} {F : List D → Option D} {k : Nat} {z : Str}
theorem pu_callD1 {j : Nat} (B : FnD1 X.prog X.w X.K X.mg X.base j x F z) (hr : Room k X.A) (ha : PuA X (e :: es) fs) (hjk : j ≤ k := by decide) (hg : Gl X x := by rfl) (hdb : (x == ("__debug__" : Str)) = false := by decide)
    (he : starEach (e :: es) X.env = (false, eval e X.env) :: starEach es X.env := by rfl) (hpl : (backTo pos (starEach es X.env)).any (·.1) = false := by rfl) : PuE X (.Call (.Name x p) (e :: es) [] pos) (eCallD F [.str z] fs) :=
  let ⟨f, fd, ps, b1, b2, _, ⟨dsv, b3, b3'⟩, b4⟩ := B.ex; let ⟨_, a1, a2⟩ := ha.ex; ⟨_, pe_call b4 (hr.mono hjk) hg b1 b2 b3' b3 pass0 a1 hdb he hpl, fun ρ σ G H Q d l r q kk => by
    unfold eCallD at q
    cases z1 : fs ρ with
    | none => rw [z1] at q; cases q
    | some ds =>
      rw [z1] at q
      refine a2 ρ σ G H _ ds l r z1 fun vs G1 H1 u1 rvs => ?_
      show spF X.K F (vs ++ [V.str z]) H1 Q E0
      exact ⟨G1, ds ++ [.str z], d, u1.le, rvs.append (.cons (.str z) .nil), (show F (ds ++ [.str z]) = some d from q), fun v G2 H2 u2 rv => kk v G2 H2 (u1.trans u2) rv⟩⟩
end
end PL

namespace PL
open PySem PySem.Spec PyProof.Rows L2

/-! ## xs * k, xs.index(x), xs[::-1] -/
def gRep (d e : D) : Option D := match d, e with
  | .lst xs, .int k => if (-9223372036854775808 ≤ k ∧ k < 9223372036854775808) ∧ xs.length * k.toNat ≤ 16777216 then some (.lst (List.replicate k.toNat xs).flatten) else none
  | .tup xs, .int k => if (xs.length ≠ 0 ∧ xs.length ≤ 1000) ∧ 2 ≤ k ∧ k ≤ 1000 then some (.tup (List.replicate k.toNat xs).flatten) else none
  | _, _ => none
theorem Reps.rep {K : PySem.W.Frag} {G : Hp} {ds : List D} {vs : List V} (r : Reps K G ds vs) : ∀ n : Nat, Reps K G (List.replicate n ds).flatten (List.replicate n vs).flatten
  | 0 => .nil
  | n + 1 => by rw [List.replicate_succ, List.replicate_succ, List.flatten_cons, List.flatten_cons]; exact r.append (r.rep n)
theorem r2_rep {K : PySem.W.Frag} : R2ok K (fun x y H Q => rRep x y H Q ∨ rRepT K x y H Q) gRep := fun G H x y d e z Q l rx ry q k => by
  cases d <;> cases e <;> first | cases q | skip
  case lst.int a i =>
    obtain ⟨p, vs, rfl, hp, rp⟩ := rx.lst_inv l
    rw [ry.int_inv]
    simp only [gRep] at q
    split at q
    · rename_i hz; cases q
      refine .inl ⟨p, i, vs, rfl, rfl, hp, hz.1.1, hz.1.2, by rw [← rp.length]; exact Nat.le_trans hz.2 (by rw [sizeLine_eq]; decide), fun n hn => ?_⟩
      exact k _ _ _ (.pure l hn) (.lst upd_same ((rp.rep _).mono (.new (l.free hn))))
    · cases q
  case tup.int a i =>
    obtain ⟨p, vs, rfl, hp, rp⟩ := rx.tup_inv
    rw [ry.int_inv]
    simp only [gRep] at q
    split at q
    · rename_i hz; cases q
      refine .inr ⟨p, i, vs, rfl, rfl, .of (l _ _ hp), fun h0 => hz.1.1 (by rw [rp.length, h0]; rfl), hz.2.1, hz.2.2, by rw [← rp.length]; exact hz.1.2, fun n hn => ?_⟩
      exact k _ _ _ (.pure l hn) (.tup upd_same ((rp.rep _).mono (.new (l.free hn))))
    · cases q
/-- the first place of an equal one -/
def gIndex (d e : D) : Option D := match d with
  | .lst xs => if (D.lst xs).ok 50 && e.ok 50 then (xs.findIdx? fun z => z.eqv e).map fun j => .int (j : Nat) else none
  | _ => none
section
variable {X : Cx} {a b : Expr} {fa fb : DE} {pos ap : Pos}
theorem pu_rep (ha : RdE X a fa) (hb : RdE X b fb) : PuE X (.BinOp a .Mult b pos) (e2 gRep fa fb) := pu_bin (op_rep.or op_repT) r2_rep ha hb
theorem pu_index (hu : X.A.units + 65 < cLine) (ha : RdE X a fa) (hb : RdE X b fb) (hbase : attributeBase a "index" X.env (eval a X.env) = eval a X.env := by rfl)
    (hfew : ((backTo pos (starEach [b] X.env)).all (fun x => !x.1) && (backToKw pos (keywordEach [] X.env)).all (fun x => x.1.isSome) && decide (([b] : List Expr).length + ([] : List Keyword).length + (if ([] : List Keyword).isEmpty then 0 else 1) < 30)) = true := by rfl)
    (hline : (ap.endLine == pos.line) = true := by rfl) (hs : starEach [b] X.env = [(false, eval b X.env)] := by rfl) (hpl : (backTo pos (starEach [] X.env)).any (·.1) = false := by rfl) : PuE X (.Call (.Attribute a "index" ap) [b] [] pos) (e2 gIndex fa fb) := by
  obtain ⟨ta, a1, a2⟩ := ha.ex
  obtain ⟨tb, b1, b2⟩ := hb.ex
  refine ⟨_, pe_bm PySem.F.plainAttrs_list PySem.F.slot_list_index PySem.F.type_list_index (mt_indexD hu) a1 (pa_cons b1 pa_nil hs) hbase hfew hline hs hpl, fun ρ σ G H Q d l r q k => ?_⟩
  unfold e2 at q
  cases z1 : fa ρ with
  | none => rw [z1] at q; cases q
  | some x =>
  rw [z1] at q
  cases z2 : fb ρ with
  | none => simp only [Option.bind_some, z2] at q; cases q
  | some y =>
  simp only [Option.bind_some, z2] at q
  match x, q with
  | .lst xs, q =>
  refine a2 ρ σ G H _ _ l r z1 fun v G1 H1 u1 rv => ?_
  obtain ⟨p, vs, rfl, hp, rp⟩ := rv.lst_inv u1.le
  refine ⟨?_, ?_⟩
  · exact .inl ⟨rfl, _, .of hp⟩
  refine b2 ρ σ G1 H1 _ _ u1.le (r.up u1) z2 fun w G2 H2 u2 rw' => ?_
  simp only [gIndex] at q
  split at q
  · rename_i hok
    rw [Bool.and_eq_true] at hok
    cases z3 : xs.findIdx? fun z => z.eqv y with
    | none => rw [z3] at q; cases q
    | some j =>
      rw [z3] at q; cases q
      obtain ⟨hj, hjt, hjf⟩ := List.findIdx?_eq_some_iff_getElem.mp z3
      have rl : RepT X.K G2 H2 (.lst xs) (.ref p) := rv.mono u2.g u2.h
      refine ⟨p, w, y.toP, D.toPs xs, j, (xs[j]).toP, rfl, rfl, rl.dp u2.le hok.1, rw'.dp u2.le hok.2, ok_shaped hok.1, ok_shaped hok.2, ?_, hjt, fun m z' hm hz' => ?_, k _ G2 H2 (u1.trans u2) (.int _)⟩
      · rw [toPs_map, List.getElem?_map, List.getElem?_eq_getElem hj]; rfl
      · rw [toPs_map, List.getElem?_map, List.getElem?_eq_getElem (by omega : m < xs.length)] at hz'
        cases hz'
        have := hjf m hm
        simpa [D.eqv] using this
  · cases q
end
end PL

namespace PL
open PySem PySem.Spec PyProof.Rows L2

/-! ## list(range(..)), sorted(xs), xs[::-1] -/
theorem reps_rg {K : PySem.W.Frag} {G : Hp} (a b : Int) : Reps K G ((List.range (b - a).toNat).map fun i => D.int (a + (i : Nat))) (rgV a b) := by
  unfold rgV
  induction List.range (b - a).toNat with
  | nil => exact .nil
  | cons i l ih => exact .cons (.int _) ih
theorem dRng_some {ρ : DEnv} {fa fb : DE} {ds : List D} (q : dRng fa fb ρ = some ds) : ∃ a b : Int, fa ρ = some (.int a) ∧ fb ρ = some (.int b) ∧ RgOk a b ∧ ds = (List.range (b - a).toNat).map fun i => D.int (a + (i : Nat)) := by
  unfold dRng at q
  split at q
  · rename_i a b h1 h2
    split at q
    · rename_i h
      cases q
      exact ⟨a, b, h1, h2, ⟨by omega, by omega, by omega, by omega, by omega⟩, rfl⟩
    · cases q
  · cases q
section
variable {X : Cx} {a b : Expr} {fa fb : DE} {p p2 q pos : Pos}
theorem nw_range1 (hm : X.mg "list" = none) (hm2 : X.mg "range" = none) (ha : RdE X a fa) (hc : X.calm = true := by rfl) (hg : Gl X "list" := by rfl) (hg2 : Gl X "range" := by rfl) (na : starEach [a] X.env = [(false, eval a X.env)] := by rfl)
    (nr : starEach [Expr.Call (.Name "range" p2) [a] [] q] X.env = [(false, eval (Expr.Call (.Name "range" p2) [a] [] q) X.env)] := by rfl) : NwE X (.Call (.Name "list" p) [.Call (.Name "range" p2) [a] [] q] [] pos) (dRng (eC (.int 0)) fa) :=
  let ⟨_, a1, a2⟩ := ha.ex; ⟨_, pe_listRg hc hg hm (prg_1 hg2 hm2 a1 na) nr, fun ρ σ G H Q ds l r z k => by
    obtain ⟨i, j, h1, h2, ok, rfl⟩ := dRng_some z
    cases h1
    refine a2 ρ σ G H _ _ l r h2 fun v G1 H1 u1 rv => ?_
    rw [rv.int_inv]
    exact ⟨j, rfl, ok, fun n hn => k n _ G1 _ (u1.trans (.own u1.le hn)) (u1.h.free hn) (u1.le.free hn) upd_same (reps_rg 0 j)⟩⟩
theorem nw_range2 (hm : X.mg "list" = none) (hm2 : X.mg "range" = none) (ha : RdE X a fa) (hb : RdE X b fb) (hc : X.calm = true := by rfl) (hg : Gl X "list" := by rfl) (hg2 : Gl X "range" := by rfl) (na : starEach [a, b] X.env = (false, eval a X.env) :: starEach [b] X.env := by rfl) (nb : starEach [b] X.env = [(false, eval b X.env)] := by rfl)
    (hp : (backTo q (starEach [b] X.env)).any (·.1) = false := by rfl) (nr : starEach [Expr.Call (.Name "range" p2) [a, b] [] q] X.env = [(false, eval (Expr.Call (.Name "range" p2) [a, b] [] q) X.env)] := by rfl) :
    NwE X (.Call (.Name "list" p) [.Call (.Name "range" p2) [a, b] [] q] [] pos) (dRng fa fb) :=
  let ⟨_, a1, a2⟩ := ha.ex; let ⟨_, b1, b2⟩ := hb.ex; ⟨_, pe_listRg hc hg hm (prg_2 hg2 hm2 a1 b1 na nb hp) nr, fun ρ σ G H Q ds l r z k => by
    obtain ⟨i, j, h1, h2, ok, rfl⟩ := dRng_some z
    refine a2 ρ σ G H _ _ l r h1 fun v G1 H1 u1 rv => ?_
    refine b2 ρ σ G1 H1 _ _ u1.le (r.up u1) h2 fun w G2 H2 u2 rw' => ?_
    rw [rv.int_inv, rw'.int_inv]
    exact ⟨i, j, rfl, rfl, ok, fun n hn => k n _ G2 _ ((u1.trans u2).trans (.own u2.le hn)) ((u1.trans u2).h.free hn) (u2.le.free hn) upd_same (reps_rg i j)⟩⟩
end
/-- in rising order, equal ones kept -/
def insS (k : Int) : List Int → List Int
  | [] => [k]
  | x :: xs => if k ≤ x then k :: x :: xs else x :: insS k xs
def srt (ns : List Int) : List Int := ns.foldr insS []
theorem insS_perm (k : Int) : ∀ xs : List Int, (insS k xs).Perm (k :: xs)
  | [] => .refl _
  | x :: xs => by
    unfold insS
    split
    · exact .refl _
    · exact ((insS_perm k xs).cons x).trans (.swap k x xs)
theorem insS_le {k : Int} : ∀ {xs : List Int}, xs.Pairwise (· ≤ ·) → (insS k xs).Pairwise (· ≤ ·)
  | [], _ => by simp [insS]
  | x :: xs, h => by
    have ⟨h1, h2⟩ := List.pairwise_cons.mp h
    unfold insS
    split
    · rename_i hk
      exact List.pairwise_cons.mpr ⟨fun y hy => by
        rcases List.mem_cons.mp hy with rfl | hy
        · exact hk
        · exact Int.le_trans hk (h1 y hy), h⟩
    · rename_i hk
      refine List.pairwise_cons.mpr ⟨fun y hy => ?_, insS_le h2⟩
      rcases List.mem_cons.mp ((insS_perm k xs).mem_iff.mp hy) with rfl | hy
      · omega
      · exact h1 y hy
theorem srt_perm : ∀ ns : List Int, (srt ns).Perm ns
  | [] => .refl _
  | n :: ns => (insS_perm n (srt ns)).trans ((srt_perm ns).cons n)
theorem srt_le : ∀ ns : List Int, (srt ns).Pairwise (· ≤ ·)
  | [] => .nil
  | n :: ns => insS_le (srt_le ns)
theorem srt_unique : ∀ {xs ys : List Int}, xs.Pairwise (· ≤ ·) → ys.Pairwise (· ≤ ·) → xs.Perm ys → xs = ys
  | [], ys, _, _, p => by rw [List.Perm.nil_eq p]
  | x :: xs, [], _, _, p => absurd p.length_eq (by simp)
  | x :: xs, y :: ys, hx, hy, p => by
    have ⟨x1, x2⟩ := List.pairwise_cons.mp hx
    have ⟨y1, y2⟩ := List.pairwise_cons.mp hy
    have e : x = y := by
      have a : x ≤ y := by
        rcases List.mem_cons.mp (p.mem_iff.mpr List.mem_cons_self) with e | e
        · omega
        · exact x1 y e
      have b : y ≤ x := by
        rcases List.mem_cons.mp (p.mem_iff.mp List.mem_cons_self) with e | e
        · omega
        · exact y1 x e
      omega
    subst e
    rw [srt_unique x2 y2 (List.Perm.cons_inv p)]
def gSorted (ds : List D) : Option (List D) := match ds with
  | [.lst xs] => (intsD xs).map fun ns => (srt ns).map .int
  | _ => none
theorem b_sorted {X : Cx} : BltN X "sorted" (.builtin "sorted") gSorted := ⟨⟨_, cr_sortedI, fun G H vs ds z Q l rs q k => by
  match ds, q with
  | [.lst xs], q =>
    obtain ⟨v, rfl, rv⟩ := rs.one
    obtain ⟨p, us, rfl, hp, rp⟩ := rv.lst_inv l
    have q : ((intsD xs).map fun ns => (srt ns).map D.int) = some z := q
    cases e : intsD xs with
    | none => rw [e] at q; cases q
    | some ns =>
      rw [e] at q; cases q
      have := intsD_eq e
      subst this
      have := rp.ints
      subst this
      refine ⟨p, ns, rfl, .of hp, fun ns' n hpm hle hn => ?_⟩
      have : ns' = srt ns := srt_unique hle (srt_le ns) (hpm.trans (srt_perm ns).symm)
      subst this
      exact k n _ G _ (.own l hn) hn (l.free hn) upd_same (Reps.ofInts _)⟩, PyProof.Rows.boot_sorted⟩
/-- a list turned round -/
def eRevL (f : DE) : DE := fun ρ => (f ρ).bind fun d => match d with | .lst xs => some (.lst xs.reverse) | _ => none
theorem pu_revL {X : Cx} {e : Expr} {f : DE} {k : Nat} {p1 p2 p3 pos : Pos} (he : RdE X e f) : PuE X (.Subscript e (.Slice none none (some (.UnaryOp .USub (.Constant (.int 1) k p1) p2)) p3) pos) (eRevL f) :=
  let ⟨_, a1, a2⟩ := he.ex; ⟨_, pe_revL a1, fun ρ σ G H Q d l r q kk => by
    unfold eRevL at q
    cases z : f ρ with
    | none => rw [z] at q; cases q
    | some x =>
      rw [z] at q
      match x, q with
      | .lst xs, q =>
      cases q
      refine a2 ρ σ G H _ _ l r z fun v G1 H1 u1 rv => ?_
      obtain ⟨p, vs, rfl, hp, rp⟩ := rv.lst_inv u1.le
      exact ⟨p, vs, rfl, .of hp, fun n hn => kk _ _ _ (u1.trans (.pure u1.le hn)) (.lst upd_same ((Reps.reverse rp).mono (.new (u1.le.free hn))))⟩⟩
end PL

namespace PL
open PySem PySem.Spec PyProof.Rows L2 HT
/-! ## t[::-1], t a tuple -/
section
variable {prog : Program} {w : World} {A : Around} {E : Value → Shared → Prop} {s : Shared}
theorem adj_back (n : Nat) : Builtin.Slice.sliceAdjust none none (-1) (n : Int) = ((n : Int) - 1, -1) := by
  unfold Builtin.Slice.sliceAdjust
  simp
theorem places_back (n : Nat) : Builtin.Slice.slicePlaces ((n : Int) - 1) (-1) (-1) = n := by
  unfold Builtin.Slice.slicePlaces
  simp
  omega
theorem applied_back {sl : Addr} {u : Tok} {n : Nat} {Q : Int × Int × Nat → Shared → Prop} (hs : s.heap.IsSliceOf sl .none .none (.int (-1) u)) (h : Q ((n : Int) - 1, -1, n) s) : wpAny (model prog w) A (Builtin.Slice.sliceApplied (.ref sl) (pure (n : Int))) Q E s := by
  obtain ⟨os, hos, hcs, hds⟩ := id hs
  unfold Builtin.Slice.sliceApplied Builtin.Slice.sliceFields
  refine wpAny_bind (wpAny_bind (wpAny_field hos hds (x := .none) rfl (wpAny_bind (wpAny_field hos hds (x := .none) rfl (wpAny_bind (wpAny_field hos hds (x := .int (-1) u) rfl (wpAny_pure ?_)))))))
  refine wpAny_bind (slicePart_int ?_)
  show wpAny _ _ (if ((-1 : Int) == 0) = true then _ else _) _ _ s
  rw [if_neg (by decide)]
  refine wpAny_bind (slicePart_none (wpAny_bind (slicePart_none (wpAny_bind (wpAny_pure ?_)))))
  show wpAny _ _ (match Builtin.Slice.sliceAdjust none none (-1) (n : Int) with | (lo, hi) => pure (lo, (-1 : Int), Builtin.Slice.slicePlaces lo hi (-1))) _ _ s
  rw [adj_back]
  show wpAny _ _ (pure ((n : Int) - 1, (-1 : Int), Builtin.Slice.slicePlaces ((n : Int) - 1) (-1) (-1))) _ _ s
  rw [places_back]
  exact wpAny_pure h
theorem pick_back (xs : Array Value) : ((List.range xs.size).filterMap fun (m : Nat) => xs[((xs.size : Int) - 1 + (m : Int) * (-1)).toNat]?).toArray = xs.toList.reverse.toArray := by
  congr 1
  have main : ∀ k, k ≤ xs.size → (List.range k).filterMap (fun (m : Nat) => xs[((xs.size : Int) - 1 + (m : Int) * (-1)).toNat]?) = xs.toList.reverse.take k := by
    intro k
    induction k with
    | zero => intro _; rfl
    | succ k ih =>
      intro hk
      rw [List.range_succ, List.filterMap_append, ih (by omega), List.take_succ]
      congr 1
      have e : ((xs.size : Int) - 1 + (k : Int) * (-1)).toNat = xs.size - 1 - k := by omega
      rw [List.filterMap_cons, List.filterMap_nil, e, List.getElem?_reverse (by rw [Array.length_toList]; omega), Array.length_toList, Array.getElem?_toList]
      cases xs[xs.size - 1 - k]? <;> rfl
  rw [main xs.size (Nat.le_refl _), List.take_of_length_le (by rw [List.length_reverse, Array.length_toList]; exact Nat.le_refl _)]
theorem item_back {t sl : Addr} {items : Array Value} {u : Tok} {Q : Value → Shared → Prop} (ht : IsTup s.heap t items) (hs : s.heap.IsSliceOf sl .none .none (.int (-1) u))
    (h : Q (.ref s.heap.objs.size) { s with heap := s.heap.push { cls := .type "tuple", data := .seq items.toList.reverse.toArray } }) (hsz : items.size ≤ sizeLine) : wpAny (model prog w) A (getItem (.ref t) (.ref sl)) Q E s := by
  have fit : sizeOk (.seq items.toList.reverse.toArray) := by
    show items.toList.reverse.toArray.size ≤ sizeLine
    rw [List.size_toArray, List.length_reverse, Array.length_toList]; exact hsz
  have ⟨os, hos, hcs, hds⟩ := hs
  have ty : s.TypeIs (.ref sl) "slice" := ⟨os, hos, hcs⟩
  unfold getItem
  try with_reducible refine wpAny_holding ?_
  first | refine wpAny_bind (wpAny_pure ?_) | skip
  refine wpAny_bind (wpAny_sequenceKey ht.typeIs (by decide) (wpAny_bind (wpAny_callSpecial?_slot (name := Str.ofString "__getitem__") ht.typeIs PyProof.Rows.slot_tuple_getitem (wpAny_call_entry PyProof.Rows.slot_tuple_getitem ht.typeIs PyProof.Rows.entry_tuple_getitem ?_ (PyProof.Rows.args_tuple_getitem _ _)))))
  show wpAny _ _ (Builtin.Tuple.tupleItemsOf (.ref t) >>= _) _ _ s
  refine wpAny_bind (tupleItemsOf_ ht (wpAny_bind (wpAny_typeOf ty ?_)))
  rw [if_pos (by decide)]
  refine wpAny_bind (applied_back hs ?_)
  show wpAny _ _ (if (((items.size : Int) - 1) == 0 && (-1 : Int) == 1 && items.size == items.size) = true then _ else _) _ _ s
  rw [if_neg (by simp), pick_back]
  refine wpAny_bind (wpAny_newObj_type (wpAny_pure ?_) fit)
  exact ⟨_, rfl, wpAny_pure h⟩
end
section
variable {X : Cx} {e : Expr} {te : TE} {k : Nat} {p1 p2 p3 pos : Pos}
def tRevA (K : PySem.W.Frag) (te : TE) : TE := fun σ H Q => te σ H fun x H1 => ∃ a xs, x = .ref a ∧ ((SqL K H1 a xs ∧ ∀ p, H1 p = none → Q (.ref p) (upd H1 p (.lst xs.reverse))) ∨ (SqT K H1 a xs ∧ ∀ p, H1 p = none → Q (.ref p) (upd H1 p (.tup xs.reverse))))
theorem pe_revA (he : PE X e te) : PE X (.Subscript e (.Slice none none (some (.UnaryOp .USub (.Constant (.int 1) k p1) p2)) p3) pos) (tRevA X.K te) := ⟨fun pins s σ H Q I h => by
  have stp : PO X (some (.UnaryOp .USub (.Constant (.int 1) k p1) p2)) (tPart (tUn (rU fun i => .int (-i)) (tC (.int 1)))) := po_some (pe_un un_neg pe_int)
  refine Subscript_ (thn (he.run pins s σ H _ I h) fun v s1 ⟨x, H1, I1, rx, a, xs, ex, q⟩ => ?_)
  subst ex
  cases rx
  refine wpAny_Slice (thn (po_none.run pins s1 σ H1 (fun o H' => o = none ∧ H' = H1) I1 ⟨rfl, rfl⟩) fun u1 s2 ⟨o1, H2, I2, i1, eo1, eH2⟩ => thn (po_none.run pins s2 σ H2 (fun o H' => o = none ∧ H' = H2) I2 ⟨rfl, rfl⟩) fun u2 s3 ⟨o2, H3, I3, i2, eo2, eH3⟩ =>
    thn (stp.run pins s3 σ H3 (fun o H' => o = some (-1) ∧ H' = H3) I3 ⟨1, rfl, -1, rfl, rfl, rfl⟩) fun u3 s4 ⟨o3, H4, I4, i3, eo3, eH4⟩ => ?_)
  subst eo1 eo2 eo3 eH2 eH3 eH4
  cases i1
  cases i2
  obtain ⟨tk, rfl⟩ : ∃ tk, u3 = Value.int (-1) tk := by cases i3; exact ⟨_, rfl⟩
  have J := I4.kept (t' := s4.toks) (h' := s4.heap.push { cls := .type "slice", data := .fields #[.none, .none, .int (-1) tk] }) fun b ob z => Heap.get?_push_of_some _ z
  have sl : (s4.heap.push { cls := .type "slice", data := .fields #[.none, .none, .int (-1) tk] }).IsSliceOf s4.heap.objs.size .none .none (.int (-1) tk) := Heap.IsSliceOf.new _ _ _ _
  show wpAny (model X.prog X.w) X.A (subscriptTail e _ (.ref a) (.ref s4.heap.objs.size)) (EP X pins σ Q) X.xe { s4 with heap := s4.heap.push { cls := .type "slice", data := .fields #[.none, .none, .int (-1) tk] } }
  rcases q with ⟨hx, q⟩ | ⟨hx, q⟩
  · obtain ⟨us, rv, pl, hz⟩ := J.list hx
    have hlen := rv.length
    refine tail_any (ops := [.ref a, .ref s4.heap.objs.size]) pl.isList.typeIs PySem.slot_list_getitem.lookup (wpAny_getItem_list_slice pl.isList sl .none .none (.int _ _) (by decide) ?_ (by rw [List.size_toArray]; omega)) (by with_unfolding_all rfl)
    rw [PySem.W.krv_pick]
    have N := J.laid (a := _) (o := .lst xs.reverse) (t' := s4.toks) (h' := Heap.push _ { cls := .type "list", data := .seq us.reverse.toArray }) (fun b ob z => Heap.get?_push_of_some _ z) (Nat.le_refl _) ⟨by rw [List.length_reverse]; exact hz, _, 0, rv.reverse, Heap.get?_push_size _ rfl⟩
    exact ⟨.ref _, _, N, rfl, q _ (J.hok.fresh (Nat.le_refl _))⟩
  · obtain ⟨us, rv, pt, hz⟩ := J.tuple hx
    have hlen := rv.length
    refine tail_any (ops := [.ref a, .ref s4.heap.objs.size]) pt.typeIs PyProof.Rows.slot_tuple_getitem.lookup (item_back pt sl ?_ (by rw [List.size_toArray]; omega)) (by with_unfolding_all rfl)
    have N := J.laid (a := _) (o := .tup xs.reverse) (t' := s4.toks) (h' := Heap.push _ { cls := .type "tuple", data := .seq us.reverse.toArray }) (fun b ob z => Heap.get?_push_of_some _ z) (Nat.le_refl _) (show ObjOk X.prog X.w _ _ _ (.tup xs.reverse) from ⟨by rw [List.length_reverse]; exact hz, us.reverse, rv.reverse, IsTup.new _ _⟩)
    exact ⟨.ref _, _, N, rfl, q _ (J.hok.fresh (Nat.le_refl _))⟩⟩
end
/-- a list or a tuple turned round -/
def eRev (f : DE) : DE := fun ρ => (f ρ).bind fun d => match d with | .lst xs => some (.lst xs.reverse) | .tup xs => some (.tup xs.reverse) | _ => none
theorem pu_rev {X : Cx} {e : Expr} {f : DE} {k : Nat} {p1 p2 p3 pos : Pos} (he : RdE X e f) : PuE X (.Subscript e (.Slice none none (some (.UnaryOp .USub (.Constant (.int 1) k p1) p2)) p3) pos) (eRev f) :=
  let ⟨_, a1, a2⟩ := he.ex; ⟨_, pe_revA a1, fun ρ σ G H Q d l r q kk => by
    unfold eRev at q
    cases z : f ρ with
    | none => rw [z] at q; cases q
    | some x =>
      rw [z] at q
      match x, q with
      | .lst xs, q =>
        cases q
        refine a2 ρ σ G H _ _ l r z fun v G1 H1 u1 rv => ?_
        obtain ⟨p, vs, rfl, hp, rp⟩ := rv.lst_inv u1.le
        exact ⟨p, vs, rfl, .inl ⟨.of hp, fun n hn => kk _ _ _ (u1.trans (.pure u1.le hn)) (.lst upd_same ((Reps.reverse rp).mono (.new (u1.le.free hn))))⟩⟩
      | .tup xs, q =>
        cases q
        refine a2 ρ σ G H _ _ l r z fun v G1 H1 u1 rv => ?_
        obtain ⟨p, vs, rfl, hp, rp⟩ := rv.tup_inv
        exact ⟨p, vs, rfl, .inr ⟨.of (u1.le _ _ hp), fun n hn => kk _ _ _ (u1.trans (.pure u1.le hn)) (.tup upd_same ((Reps.reverse rp).mono (.new (u1.le.free hn))))⟩⟩⟩
end PL

namespace PL
open PySem PySem.Spec PyProof.Rows L2

/-! ## dicts whose keys are pairs of ints -/
def getK (kvs : List ((Int × Int) × Int)) (k : Int × Int) : Option Int := (kvs.find? fun p => decide (p.1 = k)).map (·.2)
def putD (kvs : List ((Int × Int) × Int)) (k : Int × Int) (v : Int) : List ((Int × Int) × Int) := if (kvs.any fun p => decide (p.1 = k)) = true then kvs.map (fun p => if p.1 = k then (p.1, v) else p) else kvs ++ [(k, v)]
def key2 (k : Int × Int) : List Key := [.inl k.1, .inl k.2]
theorem key2_inj {k l : Int × Int} : key2 k = key2 l ↔ k = l := by
  obtain ⟨a, b⟩ := k
  obtain ⟨c, d⟩ := l
  simp [key2]
theorem dK2_key (p : (Int × Int) × Int) : (dK2 p).1 = key2 p.1 := rfl
theorem val_get (kvs : List ((Int × Int) × Int)) (k : Int × Int) : valV (kvs.map dK2) (key2 k) = (getK kvs k).map V.int := by
  induction kvs with
  | nil => rfl
  | cons p kvs ih =>
    unfold getK at ih ⊢
    rw [List.map_cons, List.find?_cons]
    by_cases h : p.1 = k
    · rw [valV_pos (by rw [dK2_key, h]), decide_eq_true h]; rfl
    · rw [valV_neg (by rw [dK2_key]; exact fun e => h (key2_inj.mp e)), decide_eq_false h]; exact ih
theorem put_put (kvs : List ((Int × Int) × Int)) (k : Int × Int) (v : Int) : putK (kvs.map dK2) (key2 k) (V.int v) = (putD kvs k v).map dK2 := by
  unfold putK putD
  have e : ((kvs.map dK2).any fun kv => decide (kv.1 = key2 k)) = kvs.any fun p => decide (p.1 = k) := by
    rw [List.any_map]
    congr 1
    funext p
    show decide ((dK2 p).1 = key2 k) = _
    rw [dK2_key]
    exact decide_eq_decide.mpr key2_inj
  rw [e]
  split
  · rw [List.map_map, List.map_map]
    apply List.map_congr_left
    intro p _
    show (if (dK2 p).1 = key2 k then ((dK2 p).1, V.int v) else dK2 p) = dK2 (if p.1 = k then (p.1, v) else p)
    rw [dK2_key]
    by_cases h : p.1 = k
    · rw [if_pos (key2_inj.mpr h), if_pos h]; rfl
    · rw [if_neg fun e => h (key2_inj.mp e), if_neg h]
  · rw [List.map_append]; rfl
theorem rep_key {K : PySem.W.Frag} {G : Hp} {i j : Int} {v : V} (h : Rep K G (.tup [.int i, .int j]) v) : ∃ b, v = .ref b ∧ G b = some (.tup ((key2 (i, j)).map kV)) := by
  cases h with
  | tup hg r =>
    cases r with
    | cons a t =>
      cases t with
      | cons b t =>
        cases t
        cases a
        cases b
        exact ⟨_, rfl, hg⟩
def gDGet (d e : D) : Option D := match d, e with
  | .dct kvs, .tup [.int i, .int j] => (getK kvs (i, j)).map D.int
  | _, _ => none
def gDIn (e d : D) : Option D := match d, e with
  | .dct kvs, .tup [.int i, .int j] => some (.bl (getK kvs (i, j)).isSome)
  | _, _ => none
theorem gDGet_some {d e z : D} (q : gDGet d e = some z) : ∃ kvs i j v, d = .dct kvs ∧ e = .tup [.int i, .int j] ∧ getK kvs (i, j) = some v ∧ z = .int v := by
  unfold gDGet at q
  split at q
  · rename_i kvs i j
    cases h : getK kvs (i, j) with
    | none => rw [h] at q; cases q
    | some v => rw [h] at q; cases q; exact ⟨kvs, i, j, v, rfl, rfl, h, rfl⟩
  · cases q
theorem gDIn_some {d e z : D} (q : gDIn e d = some z) : ∃ kvs i j, d = .dct kvs ∧ e = .tup [.int i, .int j] ∧ z = .bl (getK kvs (i, j)).isSome := by
  unfold gDIn at q
  split at q
  · rename_i kvs i j
    cases q; exact ⟨kvs, i, j, rfl, rfl, rfl⟩
  · cases q
section
variable {X : Cx} {a b : Expr} {fa fb : DE} {pos : Pos}
theorem pu_dget (hu : X.A.units + 1 < cLine) (ha : RdE X a fa) (hb : PuE X b fb) (hs : NoSl b := by intro _ _; rfl) : PuE X (.Subscript a b pos) (e2 gDGet fa fb) :=
  let ⟨_, a1, a2⟩ := ha.ex; let ⟨_, b1, b2⟩ := hb.ex; ⟨_, pe_dget hu a1 b1 hs, fun ρ σ G H Q d l r q k => by
    unfold e2 at q
    cases z1 : fa ρ with
    | none => rw [z1] at q; cases q
    | some x =>
    rw [z1] at q
    cases z2 : fb ρ with
    | none => simp only [Option.bind_some, z2] at q; cases q
    | some y =>
    simp only [Option.bind_some, z2] at q
    obtain ⟨kvs, i, j, v, rfl, rfl, hv, rfl⟩ := gDGet_some q
    refine a2 ρ σ G H _ _ l r z1 fun u G1 H1 u1 ru => ?_
    refine b2 ρ σ G1 H1 _ _ u1.le (r.up u1) z2 fun w G2 H2 u2 rw' => ?_
    obtain ⟨p, rfl, hp⟩ := (ru.mono u2.g u2.h).dct_inv u2.le
    obtain ⟨c, rfl, hc⟩ := rep_key rw'
    exact ⟨p, .int v, rfl, .inr ⟨_, key2 (i, j), c, .inl hp, rfl, u2.le _ _ hc, by rw [val_get, hv]; rfl⟩, k _ G2 H2 (u1.trans u2) (.int v)⟩⟩
theorem te_din {K : PySem.W.Frag} {nn : Nat} {ta tb : TE} (a2 : TEok K nn ta fa) (b2 : TRok K nn tb fb) : TEok K nn (tDIn ta tb) (e2 gDIn fa fb) := fun ρ σ G H Q d l r q k => by
  unfold e2 at q
  cases z1 : fa ρ with
  | none => rw [z1] at q; cases q
  | some x =>
  rw [z1] at q
  cases z2 : fb ρ with
  | none => simp only [Option.bind_some, z2] at q; cases q
  | some y =>
  simp only [Option.bind_some, z2] at q
  obtain ⟨kvs, i, j, rfl, rfl, rfl⟩ := gDIn_some q
  refine a2 ρ σ G H _ _ l r z1 fun u G1 H1 u1 ru => ?_
  refine b2 ρ σ G1 H1 _ _ u1.le (r.up u1) z2 fun w G2 H2 u2 rw' => ?_
  obtain ⟨p, rfl, hp⟩ := rw'.dct_inv u2.le
  obtain ⟨c, rfl, hc⟩ := rep_key (ru.mono u2.g)
  exact ⟨p, (getK kvs (i, j)).map V.int, rfl, .inr ⟨_, key2 (i, j), c, .inl hp, rfl, u2.le _ _ hc, by rw [val_get]⟩, by
    have : ((getK kvs (i, j)).map V.int).isSome = (getK kvs (i, j)).isSome := by cases getK kvs (i, j) <;> rfl
    rw [this]
    exact k _ G2 H2 (u1.trans u2) (.bl _)⟩
theorem pu_din (hu : X.A.units + 1 < cLine) (ha : PuE X a fa) (hb : RdE X b fb) (hm : behindInMarks .In b = false := by rfl) : PuE X (.Compare a [.In] [b] pos) (e2 gDIn fa fb) :=
  let ⟨_, a1, a2⟩ := ha.ex; let ⟨_, b1, b2⟩ := hb.ex; ⟨_, pe_cmp (pc_din hu a1 b1) hm, te_din a2 b2⟩
theorem pt_dinU (hu : X.A.units + 1 < cLine) (ha : PuE X a fa) (hb : RdE X b fb) (hm : behindInMarks .In b = false := by rfl) : PuT X (.Compare a [.In] [b] pos) (tV (e2 gDIn fa fb)) :=
  let ⟨_, a1, a2⟩ := ha.ex; let ⟨_, b1, b2⟩ := hb.ex; ⟨_, pt_cmp (pc_din hu a1 b1) hm, tt_val (te_din a2 b2)⟩
/-- d.get(k, e) -/
def eDGetD (fd fk fe : DE) : DE := fun ρ => (fd ρ).bind fun d => (fk ρ).bind fun k => (fe ρ).bind fun e => match d, k, e with
  | .dct kvs, .tup [.int i, .int j], .int v => some (.int ((getK kvs (i, j)).getD v))
  | _, _, _ => none
end
section
variable {X : Cx} {o b c : Expr} {fd fk fe : DE} {pos ap : Pos}
theorem pu_dgetD (hu : X.A.units + 1 < cLine) (hd : RdE X o fd) (hk : PuE X b fk) (he : PuE X c fe) (m : M2 X o "get" ap b c pos := by exact ⟨rfl, rfl, rfl, rfl⟩) : PuE X (.Call (.Attribute o "get" ap) [b, c] [] pos) (eDGetD fd fk fe) :=
  let ⟨_, a1, a2⟩ := hd.ex; let ⟨_, b1, b2⟩ := hk.ex; let ⟨_, c1, c2⟩ := he.ex; ⟨_, pe_dget2 hu a1 b1 c1 m, fun ρ σ G H Q d l r q k => by
    unfold eDGetD at q
    cases z1 : fd ρ with
    | none => rw [z1] at q; cases q
    | some x =>
    rw [z1] at q
    cases z2 : fk ρ with
    | none => simp only [Option.bind_some, z2] at q; cases q
    | some y =>
    simp only [Option.bind_some, z2] at q
    cases z3 : fe ρ with
    | none => rw [z3] at q; cases q
    | some w =>
    rw [z3] at q
    simp only [Option.bind_some] at q
    split at q
    · rename_i kvs i j v
      cases q
      refine a2 ρ σ G H _ _ l r z1 fun u G1 H1 u1 ru => ?_
      obtain ⟨p, rfl, hp⟩ := ru.dct_inv u1.le
      refine ⟨p, rfl, .inr ⟨_, .inl hp⟩, ?_⟩
      refine b2 ρ σ G1 H1 _ _ u1.le (r.up u1) z2 fun y G2 H2 u2 ry => ?_
      refine c2 ρ σ G2 H2 _ _ u2.le (r.up (u1.trans u2)) z3 fun w G3 H3 u3 rw' => ?_
      cases rw'
      obtain ⟨c, rfl, hc⟩ := rep_key (ry.mono u3.g)
      have hp3 := (u2.trans u3).h _ _ hp
      refine ⟨(getK kvs (i, j)).map V.int, .inr ⟨_, key2 (i, j), c, .inl hp3, rfl, u3.le _ _ hc, by rw [val_get]⟩, ?_⟩
      have e : ((getK kvs (i, j)).map V.int).getD (.int v) = .int ((getK kvs (i, j)).getD v) := by cases getK kvs (i, j) <;> rfl
      rw [e]
      exact k _ G3 H3 ((u1.trans u2).trans u3) (.int _)
    · cases q⟩
end
/-! ### a dict of one's own -/
def sOwnD (i : Nat) : DS := fun ρ => some (.nx (ρ.set i (.od [])))
def sSetD (i : Nat) (fk fe : DE) : DS := fun ρ => match ρ i, fe ρ, fk ρ with
  | some (.od kvs), some (.int v), some (.tup [.int a, .int b]) => if szB (kvs.length + 1) then some (.nx (ρ.set i (.od (putD kvs (a, b) v)))) else none
  | _, _, _ => none
section
variable {X : Cx} {e b : Expr} {fe fb : DE} {pos : Pos}
theorem st_ownD (i : Nat) {x : Str} {dp pos' : Pos} (hN : X.N.Nodup) (hi : X.N[i]? = some x := by rfl) (hx : Loc X.env.scope x := by first | exact .inl rfl | exact .inr rfl) (hs : swapsWith (.Dict [] [] dp) (some (.Name x pos')) pos.line X.env = pure false := by rfl)
    (hf : X.fn x = true ∨ X.env.scope.names.lookup x = some .local := by first | exact .inl rfl | exact .inr rfl) : PuS X (.Assign [.Name x pos'] (.Dict [] [] dp) pos) (sOwnD i) :=
  ⟨_, ps_set hN hi hx pe_dnewT hs hf, fun G0 H0 ρ σ G H E r s q k => by
    cases q
    intro p hp
    refine k _ G _ ((s.step (.own s.up.le hp)).set (List.getElem?_eq_some_iff.mp hi).1 ⟨p, rfl, upd_same⟩ (fun a e => by cases e; exact ⟨s.up.le.free hp, s.up.h.free hp⟩) fun j c' v' b hj h1 h2 f1 f2 => ?_) (.refl _)
    cases f1
    obtain ⟨w, h3, h4⟩ := s.er.at_ j c' h1
    rw [h2] at h3; cases h3
    obtain ⟨o, ho⟩ := foot_there h4 (foot_up (Ex.new hp) h4 f2)
    rw [hp] at ho; cases ho⟩
theorem st_setD (hu : X.A.units + 1 < cLine) (i : Nat) {x : Str} {xp sp : Pos} (he : PuE X e fe) (hb : PuE X b fb) (hN : X.N[i]? = some x := by rfl) (hv : Vis X.env.scope x := by first | exact Or.inl rfl | exact Or.inr (Or.inl rfl) | exact Or.inr (Or.inr rfl)) (hd : (x == ("__debug__" : Str)) = false := by decide)
    (hcd : (x == ("__classdict__" : Str)) = false := by decide) (hs : swapsWith e (some (.Subscript (.Name x xp) b sp)) pos.line X.env = pure false := by rfl) : PuS X (.Assign [.Subscript (.Name x xp) b sp] e pos) (sSetD i fb fe) :=
  let ⟨_, a1, a2⟩ := he.ex; let ⟨_, b1, b2⟩ := hb.ex; ⟨_, ps_dput hu (pe_var hN hv hd hcd) b1 a1 hs, fun G0 H0 ρ σ G H E r s q k => by
    unfold sSetD at q
    split at q
    · rename_i kvs v ka kb e1 e2 e3
      split at q
      · rename_i hz
        cases q
        obtain ⟨w0, h1, h2⟩ := s.er.at_ i _ e1
        obtain ⟨p, rfl, hp⟩ := id h2
        refine a2 ρ σ G H _ _ s.up.le s.er e2 fun w G1 H1 u1 rw1 => ?_
        refine ⟨_, h1, ?_⟩
        refine b2 ρ σ G1 H1 _ _ u1.le (s.er.up u1) e3 fun w2 G2 H2 u2 rw2 => ?_
        cases rw1
        obtain ⟨c, rfl, hc⟩ := rep_key rw2
        have u := u1.trans u2
        have s' := s.step u
        have hg := s'.own i _ _ e1 h1 p rfl
        refine ⟨p, _, rfl, .inr ⟨_, key2 (ka, kb), c, u.h _ _ hp, rfl, u2.le _ _ hc, ?_, rfl⟩, ?_⟩
        · have := szB_le hz
          rw [List.length_map]; omega
        · rw [put_put]
          exact k σ G2 _ (s'.write (s.er.lt e1) e1 h1 rfl hg ⟨p, rfl, upd_same⟩ (fun a ea => by cases ea; exact hg) (fun b f => f) (fun _ _ _ _ _ _ => trivial)) u.g
      · cases q
    · cases q⟩
end
end PL

namespace PL
open PySem PySem.Spec PyProof.Rows L2
/-! ## a, b = [..], x and a, b = [..], [..], lists of one's own -/
def sParOP (i j : Nat) (fa : DL) (fb : DE) : DS := fun ρ => (fa ρ).bind fun ds => (fb ρ).map fun e => .nx ((ρ.set i (.ol ds)).set j (.p e))
def sParOO (i j : Nat) (fa fb : DL) : DS := fun ρ => (fa ρ).bind fun ds => (fb ρ).map fun es => .nx ((ρ.set i (.ol ds)).set j (.ol es))
section
variable {X : Cx} {a b : Expr} {fl gl : DL} {fb : DE} {pos : Pos}
theorem SR.newL {K : PySem.W.Frag} {nn : Nat} {G0 H0 G H G' H' : Hp} {ρ : DEnv} {σ : L2.St} {i : Nat} {p : Addr} {vs : List V} {ds : List D} (s : SR K nn G0 H0 ρ σ G H) (hi : i < nn) (u : Up G H G' H') (n1 : H p = none) (n2 : G' p = none) (hp : H' p = some (.lst vs)) (rv : Reps K G' ds vs) :
    SR K nn G0 H0 (ρ.set i (.ol ds)) (σ.set i (some (.ref p))) G' H' :=
  (s.step u).set hi ⟨p, vs, rfl, hp, rv⟩ (fun a e => by cases e; exact ⟨n2, s.up.h.free n1⟩) fun j c' v' b hj h1 h2 f1 f2 => by
    cases f1
    obtain ⟨w, h3, h4⟩ := s.er.at_ j c' h1
    rw [h2] at h3; cases h3
    obtain ⟨o, ho⟩ := foot_there h4 (foot_up u.h h4 f2)
    rw [n1] at ho; cases ho
theorem st_parOP (i j : Nat) {x y : Str} {px py pt : Pos} {kt k2 pt2} (ha : NwE X a fl) (hb : PuE X b fb) (hc : X.calm = true) (hN : X.N.Nodup) (hi : X.N[i]? = some x := by rfl) (hj : X.N[j]? = some y := by rfl) (hij : i ≠ j := by decide)
    (hx : X.env.scope.names.lookup x = some .local := by rfl) (hy : X.env.scope.names.lookup y = some .local := by rfl)
    (hw : swappedStores [.Tuple [.Name x px, .Name y py] kt pt] (.Tuple [a, b] k2 pt2) X.env = pure (some [x, y]) := by rfl)
    (hs : swapsWithSole [.Tuple [.Name x px, .Name y py] kt pt] (.Tuple [a, b] k2 pt2) pos.line X.env = pure false := by rfl)
    (hs1 : starEach (a :: [b]) X.env = (false, eval a X.env) :: starEach [b] X.env := by rfl) (hs2 : starEach (b :: []) X.env = (false, eval b X.env) :: starEach [] X.env := by rfl) :
    PuS X (.Assign [.Tuple [.Name x px, .Name y py] kt pt] (.Tuple [a, b] k2 pt2) pos) (sParOP i j fl fb) :=
  let ⟨_, a1, a2⟩ := ha.ex; let ⟨_, b1, b2⟩ := hb.ex; ⟨_, ps_par hc hN hi hj hij hx hy (pa_cons a1 (pa_cons b1 pa_nil hs2) hs1) hw hs, fun G0 H0 ρ σ G H E r s q k => by
    unfold sParOP at q
    cases z : fl ρ with
    | none => rw [z] at q; cases q
    | some ds =>
      rw [z] at q
      cases z2 : fb ρ with
      | none => rw [z2] at q; cases q
      | some d2 =>
        rw [z2] at q; cases q
        refine a2 ρ σ G H _ ds s.up.le s.er z fun p vs G1 H1 u1 n1 n2 hp rv => ?_
        refine b2 ρ σ G1 H1 _ d2 u1.le (s.er.up u1) z2 fun w G2 H2 u2 rw' => ?_
        have n3 : G2 p = none := u2.new _ _ hp n2
        exact ⟨_, _, rfl, k _ G2 H2 ((s.newL (List.getElem?_eq_some_iff.mp hi).1 (u1.trans u2) n1 n3 (u2.h _ _ hp) (rv.mono u2.g)).setP (List.getElem?_eq_some_iff.mp hj).1 rw') (u1.trans u2).g⟩⟩
theorem st_parOO (i j : Nat) {x y : Str} {px py pt : Pos} {kt k2 pt2} (ha : NwE X a fl) (hb : NwE X b gl) (hc : X.calm = true) (hN : X.N.Nodup) (hi : X.N[i]? = some x := by rfl) (hj : X.N[j]? = some y := by rfl) (hij : i ≠ j := by decide)
    (hx : X.env.scope.names.lookup x = some .local := by rfl) (hy : X.env.scope.names.lookup y = some .local := by rfl)
    (hw : swappedStores [.Tuple [.Name x px, .Name y py] kt pt] (.Tuple [a, b] k2 pt2) X.env = pure (some [x, y]) := by rfl)
    (hs : swapsWithSole [.Tuple [.Name x px, .Name y py] kt pt] (.Tuple [a, b] k2 pt2) pos.line X.env = pure false := by rfl)
    (hs1 : starEach (a :: [b]) X.env = (false, eval a X.env) :: starEach [b] X.env := by rfl) (hs2 : starEach (b :: []) X.env = (false, eval b X.env) :: starEach [] X.env := by rfl) :
    PuS X (.Assign [.Tuple [.Name x px, .Name y py] kt pt] (.Tuple [a, b] k2 pt2) pos) (sParOO i j fl gl) :=
  let ⟨_, a1, a2⟩ := ha.ex; let ⟨_, b1, b2⟩ := hb.ex; ⟨_, ps_par hc hN hi hj hij hx hy (pa_cons a1 (pa_cons b1 pa_nil hs2) hs1) hw hs, fun G0 H0 ρ σ G H E r s q k => by
    unfold sParOO at q
    cases z : fl ρ with
    | none => rw [z] at q; cases q
    | some ds =>
      rw [z] at q
      cases z2 : gl ρ with
      | none => rw [z2] at q; cases q
      | some es =>
        rw [z2] at q; cases q
        refine a2 ρ σ G H _ ds s.up.le s.er z fun p vs G1 H1 u1 n1 n2 hp rv => ?_
        refine b2 ρ σ G1 H1 _ es u1.le (s.er.up u1) z2 fun p2 ws G2 H2 u2 m1 m2 hp2 rv2 => ?_
        have s1 := s.newL (List.getElem?_eq_some_iff.mp hi).1 u1 n1 n2 hp rv
        exact ⟨_, _, rfl, k _ G2 H2 (s1.newL (List.getElem?_eq_some_iff.mp hj).1 u2 m1 m2 hp2 rv2) (u1.trans u2).g⟩⟩
end
end PL

namespace PL
open PySem PySem.Spec PyProof.Rows L2

/-! ## reading the combinators: plain -/
def Wp (f : DS) (ρ : DEnv) (N : DEnv → Prop) (R : D → Prop) : Prop := ∃ r, f ρ = some r ∧ match r with | .nx ρ' => N ρ' | .rt d => R d | _ => False
section
variable {f g : DS} {ρ : DEnv} {N M : DEnv → Prop} {R : D → Prop} {fe : DE} {d : D}
theorem Wp.mono (h : Wp f ρ M R) (k : ∀ ρ', M ρ' → N ρ') : Wp f ρ N R := by
  obtain ⟨r, h1, h2⟩ := h
  refine ⟨r, h1, ?_⟩
  cases r with
  | nx ρ' => exact k _ h2
  | rt d => exact h2
  | bk _ => exact h2
  | ct _ => exact h2
theorem Wp.mono2 {R' : D → Prop} (h : Wp f ρ M R') (k : ∀ ρ', M ρ' → N ρ') (k2 : ∀ d, R' d → R d) : Wp f ρ N R := by
  obtain ⟨r, h1, h2⟩ := h
  refine ⟨r, h1, ?_⟩
  cases r with
  | nx ρ' => exact k _ h2
  | rt d => exact k2 _ h2
  | bk _ => exact h2
  | ct _ => exact h2
theorem wp_seq (h : Wp f ρ (fun ρ' => Wp g ρ' N R) R) : Wp (sSeq f g) ρ N R := by
  obtain ⟨r, h1, h2⟩ := h
  unfold Wp sSeq
  rw [h1]
  cases r with
  | nx ρ' => exact h2
  | rt d => exact ⟨_, rfl, h2⟩
  | bk _ => exact h2.elim
  | ct _ => exact h2.elim
theorem wp_skip (h : N ρ) : Wp sSkip ρ N R := ⟨_, rfl, h⟩
theorem wp_asg {i : Nat} (h : fe ρ = some d) (k : N (ρ.set i (.p d))) : Wp (sAsg (.nm i) fe) ρ N R := ⟨.nx (ρ.set i (.p d)), by unfold sAsg; rw [h]; rfl, k⟩
theorem wp_asgT {is : List Nat} {ds : List D} {ρ' : DEnv} (h : fe ρ = some (.tup ds)) (hs : setAll is ds ρ = some ρ') (k : N ρ') : Wp (sAsg (.tp is) fe) ρ N R := ⟨.nx ρ', by
  unfold sAsg; rw [h]
  show (bindT (.tp is) (.p (.tup ds)) ρ).map DRes.nx = _
  show (setAll is ds ρ).map DRes.nx = _
  rw [hs]; rfl, k⟩
theorem wp_par {i j : Nat} {fa fb : DE} {d e : D} (h1 : fa ρ = some d) (h2 : fb ρ = some e) (k : N ((ρ.set i (.p d)).set j (.p e))) : Wp (sPar i j fa fb) ρ N R := ⟨.nx _, by unfold sPar; rw [h1]; simp [h2], k⟩
theorem wp_ret (h : fe ρ = some d) (k : R d) : Wp (sRet fe) ρ N R := ⟨.rt d, by unfold sRet; rw [h]; rfl, k⟩
theorem wp_drop (h : fe ρ = some d) (k : N ρ) : Wp (sDrop fe) ρ N R := ⟨.nx ρ, by unfold sDrop; rw [h]; rfl, k⟩
theorem wp_if {c : DB} {b : Bool} (h : c ρ = some b) (k1 : b = true → Wp f ρ N R) (k2 : b = false → Wp g ρ N R) : Wp (sIf c f g) ρ N R := by
  cases b with
  | true => obtain ⟨r, h1, h2⟩ := k1 rfl; exact ⟨r, by unfold sIf; rw [h]; exact h1, h2⟩
  | false => obtain ⟨r, h1, h2⟩ := k2 rfl; exact ⟨r, by unfold sIf; rw [h]; exact h1, h2⟩
theorem wp_ifT {c : DB} (h : c ρ = some true) (k : Wp f ρ N R) : Wp (sIf c f g) ρ N R := wp_if h (fun _ => k) (fun e => by cases e)
theorem wp_ifF {c : DB} (h : c ρ = some false) (k : Wp g ρ N R) : Wp (sIf c f g) ρ N R := wp_if h (fun e => by cases e) (fun _ => k)
theorem wp_pre {i : Nat} (h : Wp f (freeze i ρ) N R) : Wp (sPre i f) ρ N R := h
theorem wp_own {i : Nat} {fl : DL} {ds : List D} (h : fl ρ = some ds) (k : N (ρ.set i (.ol ds))) : Wp (sOwn i fl) ρ N R := ⟨.nx _, by unfold sOwn; rw [h]; rfl, k⟩
theorem wp_ownLL {i : Nat} {fl : DEnv → Option (List (List D))} {ds : List (List D)} (h : fl ρ = some ds) (k : N (ρ.set i (.oll ds))) : Wp (sOwnLL i fl) ρ N R := ⟨.nx _, by unfold sOwnLL; rw [h]; rfl, k⟩
theorem szB_of {n : Nat} (h : n ≤ 16777216) : szB n = true := decide_eq_true h
theorem wp_app {i : Nat} {xs : List D} (h1 : ρ i = some (.ol xs)) (h2 : fe ρ = some d) (h3 : xs.length < 16777216) (k : N (ρ.set i (.ol (xs ++ [d])))) : Wp (sApp i fe) ρ N R := ⟨.nx _, by
  unfold sApp
  rw [h1, h2]
  show (if szB (xs.length + 1) = true then _ else _) = _
  rw [if_pos (szB_of (by omega))], k⟩
theorem wp_setLL {i : Nat} {f1 f2 : DE} {xss : List (List D)} {xs : List D} {k1 k2 : Nat} (h1 : ρ i = some (.oll xss)) (he : fe ρ = some d) (hf1 : f1 ρ = some (.int k1)) (hf2 : f2 ρ = some (.int k2)) (hx : xss[k1]? = some xs) (hk : k2 < xs.length)
    (k : N (ρ.set i (.oll (xss.set k1 (xs.set k2 d))))) : Wp (sSetLL i f1 f2 fe) ρ N R := ⟨.nx _, by
  unfold sSetLL
  rw [h1, he, hf1, hf2]
  have hl := (List.getElem?_eq_some_iff.mp hx).1
  have e1 : ixN xss.length (k1 : Int) = some k1 := by unfold ixN; rw [if_pos (by omega), if_pos (by omega)]; simp
  have e2 : ixN xs.length (k2 : Int) = some k2 := by unfold ixN; rw [if_pos (by omega), if_pos (by omega)]; simp
  simp only [e1, hx, e2, Option.bind_some, Option.map_some], k⟩
/-- a def's answer -/
theorem fn_of_wp {n : Nat} {b : DS} {ds : List D} (hl : ds.length = n) (h : Wp b (env0 ds) (fun _ => R .non) R) : ∃ d, fnD n b ds = some d ∧ R d := by
  obtain ⟨r, h1, h2⟩ := h
  unfold fnD
  rw [if_pos hl, h1]
  cases r with
  | nx ρ' => exact ⟨_, rfl, h2⟩
  | rt d => exact ⟨_, rfl, h2⟩
  | bk _ => exact h2.elim
  | ct _ => exact h2.elim
theorem fn_eq {n : Nat} {b : DS} {ds : List D} {d : D} (hl : ds.length = n) (h : Wp b (env0 ds) (fun _ => D.non = d) (fun e => e = d)) : fnD n b ds = some d := by
  obtain ⟨e, h1, rfl⟩ := fn_of_wp (R := fun e => e = d) hl h
  exact h1

/-! ### loops -/
theorem wp_forC {it : DI} {tg : Tg} {body : DS} (ds : List D) (h : it ρ = some (ds.map .p)) (I : Nat → DEnv → Prop) (h0 : I 0 ρ)
    (hs : ∀ k d ρ, ds[k]? = some d → I k ρ → ∃ ρ1, bindT tg (.p d) ρ = some ρ1 ∧ Wp body ρ1 (I (k + 1)) R) (hd : ∀ ρ, I ds.length ρ → N ρ) : Wp (sFor it tg body) ρ N R := by
  have main : ∀ (n k : Nat) (ρ : DEnv), n + k = ds.length → I k ρ → ∃ r, forL tg body ((ds.drop k).map .p) ρ = some r ∧ match r with | .nx ρ' => N ρ' | .rt d => R d | _ => False := by
    intro n
    induction n with
    | zero =>
      intro k ρ e hI
      have : k = ds.length := by omega
      subst this
      rw [List.drop_length]
      exact ⟨_, rfl, hd ρ hI⟩
    | succ n ih =>
      intro k ρ e hI
      have hk : k < ds.length := by omega
      rw [List.drop_eq_getElem_cons hk, List.map_cons]
      obtain ⟨ρ1, b1, r, b2, b3⟩ := hs k _ ρ (List.getElem?_eq_getElem hk) hI
      unfold forL
      rw [b1]
      simp only [Option.bind_some, b2]
      cases r with
      | nx ρ' => exact ih (k + 1) ρ' (by omega) b3
      | rt d => exact ⟨_, rfl, b3⟩
      | bk _ => exact b3.elim
      | ct _ => exact b3.elim
  obtain ⟨r, h1, h2⟩ := main ds.length 0 ρ (by omega) h0
  rw [List.drop_zero] at h1
  exact ⟨r, by unfold sFor; rw [h]; exact h1, h2⟩
theorem rng_eval {lo hi : DE} (a b : Nat) (ha : lo ρ = some (.int a)) (hb : hi ρ = some (.int b)) (h1 : a ≤ 1000000000) (h2 : b ≤ 1000000000) : iRng lo hi ρ = some (((List.range (b - a)).map fun i => D.int ((a + i : Nat) : Int)).map .p) := by
  unfold iRng
  rw [ha, hb]
  show (if _ then _ else _) = _
  rw [if_pos ⟨by omega, by omega, by omega, by omega⟩]
  unfold rngCells
  have e : ((b : Int) - (a : Int)).toNat = b - a := by omega
  rw [e, List.map_map]
  rfl
theorem wp_forN {lo hi : DE} {j : Nat} {body : DS} (a b : Nat) (ha : lo ρ = some (.int a)) (hb : hi ρ = some (.int b)) (h1 : a ≤ 1000000000) (h2 : b ≤ 1000000000) (I : Nat → DEnv → Prop) (h0 : I a ρ)
    (hs : ∀ k ρ, a ≤ k → k < b → I k ρ → Wp body (ρ.set j (.p (.int (k : Nat)))) (I (k + 1)) R) (hd : ∀ ρ, I (a + (b - a)) ρ → N ρ) : Wp (sFor (iRng lo hi) (.nm j) body) ρ N R := by
  refine wp_forC _ (rng_eval a b ha hb h1 h2) (fun k ρ => I (a + k) ρ) h0 (fun k d ρ e hI => ?_) (fun ρ hI => hd ρ (by simpa using hI))
  rw [List.getElem?_map] at e
  by_cases hk : k < b - a
  · rw [List.getElem?_range hk] at e
    cases e
    exact ⟨_, rfl, hs (a + k) ρ (by omega) (by omega) hI⟩
  · rw [List.getElem?_eq_none (by simp; omega)] at e; cases e
theorem seq_lst {xs : List D} (h : fe ρ = some (.lst xs)) : iOf asS fe ρ = some (xs.map .p) := by unfold iOf; rw [h]; rfl
theorem seq_tup {xs : List D} (h : fe ρ = some (.tup xs)) : iOf asS fe ρ = some (xs.map .p) := by unfold iOf; rw [h]; rfl
theorem seqL_lst {xs : List D} (h : fe ρ = some (.lst xs)) : iOf asL fe ρ = some (xs.map .p) := by unfold iOf; rw [h]; rfl
/-! ### comprehensions -/
theorem ev_comp {α : Type} {it : DI} {tg : Tg} {ws : List Nat} {cond : DB} {elt : DE} (xs : List α) (f : α → D) (c : α → Bool) (g : α → D) (h : it ρ = some ((xs.map f).map .p))
    (hs : ∀ x ∈ xs, ∃ ρ1, bindT tg (.p (f x)) (ρ.wipe ws) = some ρ1 ∧ cond ρ1 = some (c x) ∧ (c x = true → elt ρ1 = some (g x))) (hl : xs.length ≤ 16777216) : eComp it tg ws cond elt ρ = some ((xs.filter c).map g) := by
  have main : ∀ l : List α, (∀ x ∈ l, x ∈ xs) → compL tg ws cond elt ρ ((l.map f).map .p) = some ((l.filter c).map g) := by
    intro l
    induction l with
    | nil => intro _; rfl
    | cons x l ih =>
      intro hm
      obtain ⟨ρ1, b1, b2, b3⟩ := hs x (hm x List.mem_cons_self)
      rw [List.map_cons, List.map_cons]
      unfold compL
      have ih' := ih fun y hy => hm y (List.mem_cons_of_mem _ hy)
      rw [b1]
      simp only [Option.bind_some, b2, ih']
      cases hc : c x with
      | true => rw [List.filter_cons_of_pos hc, if_pos rfl, b3 hc]; rfl
      | false => rw [List.filter_cons_of_neg (by rw [hc]; decide), if_neg (by decide)]
  unfold eComp
  rw [h]
  simp only [Option.bind_some, main xs fun _ h => h]
  rw [if_pos (szB_of _)]
  rw [List.length_map]
  exact Nat.le_trans (List.length_filter_le _ _) hl
theorem ev_compY {α : Type} {it : DI} {tg : Tg} {ws : List Nat} {elt : DE} (xs : List α) (f : α → D) (g : α → D) (h : it ρ = some ((xs.map f).map .p))
    (hs : ∀ x ∈ xs, ∃ ρ1, bindT tg (.p (f x)) (ρ.wipe ws) = some ρ1 ∧ elt ρ1 = some (g x)) (hl : xs.length ≤ 16777216) : eComp it tg ws bYes elt ρ = some (xs.map g) := by
  have := ev_comp (cond := bYes) xs f (fun _ => true) g h (fun x hx => let ⟨ρ1, a, b⟩ := hs x hx; ⟨ρ1, a, rfl, fun _ => b⟩) hl
  rw [this]
  congr 2
  rw [List.filter_eq_self]
  intro a _; rfl
theorem ev_new {fl : DL} {ds : List D} (h : fl ρ = some ds) : eNew fl ρ = some (.lst ds) := by unfold eNew; rw [h]; rfl
theorem ev_rng {lo hi : DE} (a b : Nat) (ha : lo ρ = some (.int a)) (hb : hi ρ = some (.int b)) (h1 : a ≤ 1000000000) (h2 : b ≤ 1000000000) : iRng lo hi ρ = some (((List.range (b - a)).map fun i => D.int ((a + i : Nat) : Int)).map .p) := rng_eval a b ha hb h1 h2
end
theorem atI_at {α : Type} {xs : List α} {i : Nat} (h : i < xs.length) : atI xs (i : Int) = some xs[i] := atI_nat (List.getElem?_eq_getElem h)
theorem eqv_int (i j : Int) : D.eqv (.int i) (.int j) = decide (i = j) := by
  show PyData.eqv (.int i) (.int j) = _
  simp [PyData.eqv]; by_cases h : i = j <;> simp [h]
end PL

namespace PL
open PySem PySem.Spec PyProof.Rows L2

/-! ## data of the laws, and evaluation by rules -/
def ofI (l : List Int) : D := .lst (l.map .int)
def ofR (l : List Int) : D := .tup (l.map .int)
def ofT (t : List (List Int)) : D := .tup (t.map ofR)
def ofLL (t : List (List Int)) : D := .lst (t.map ofI)
def gi (l : List Int) (i : Int) : Int := l.getD i.toNat 0
def row (t : List (List Int)) (i : Int) : List Int := t.getD i.toNat []
abbrev en (t : List (List Int)) (i j : Int) : Int := gi (row t i) j
theorem getD_get {α : Type} (l : List α) (d : α) {i : Nat} (h : i < l.length) : l.getD i d = l[i] := by simp [List.getD, h]
def Rect (t : List (List Int)) (m w : Nat) : Prop := t.length = m ∧ ∀ r ∈ t, r.length = w
theorem len_row {t : List (List Int)} {m w : Nat} {i : Int} (h : Rect t m w) (hi : 0 ≤ i ∧ i < m) : (row t i).length = w := by
  unfold row
  have : i.toNat < t.length := by have := h.1; omega
  rw [getD_get _ _ this]
  exact h.2 _ (List.getElem_mem _)
theorem mem_row {t : List (List Int)} {i : Int} (hi : 0 ≤ i ∧ i < t.length) : row t i ∈ t := by
  unfold row
  have : i.toNat < t.length := by omega
  rw [getD_get _ _ this]
  exact List.getElem_mem _
section
variable {ρ : DEnv} {a b c : DE} {x y z d : D} {g : D → D → Option D} {i j : Int} {fl gl : DL} {ds es : List D} {p q : Bool} {t u : DB}
theorem ev_pv {i : Nat} (h : ρ i = some (.p d)) : ePv i ρ = some d := by unfold ePv; rw [h]
theorem ev_rv {i : Nat} (h : ρ i = some (.p d)) : eRv i ρ = some d := by unfold eRv; rw [h]
theorem ev_rvo {i : Nat} (h : ρ i = some (.ol ds)) : eRv i ρ = some (.lst ds) := by unfold eRv; rw [h]
theorem ev_c : eC d ρ = some d := rfl
theorem ev_e2 (h1 : a ρ = some x) (h2 : b ρ = some y) (h3 : g x y = some z) : e2 g a b ρ = some z := by unfold e2; rw [h1]; show (b ρ).bind _ = _; rw [h2]; exact h3
theorem ev_e1 {g : D → Option D} (h1 : a ρ = some x) (h3 : g x = some z) : e1 g a ρ = some z := by unfold e1; rw [h1]; exact h3
theorem ev_nil : dNil ρ = some [] := rfl
theorem ev_cons (h1 : a ρ = some x) (h2 : fl ρ = some ds) : dCons a fl ρ = some (x :: ds) := by unfold dCons; rw [h1]; show (fl ρ).map _ = _; rw [h2]; rfl
theorem ev_tup (h : fl ρ = some ds) (h2 : szB ds.length = true) : eTup fl ρ = some (.tup ds) := by unfold eTup; rw [h]; show (if _ then _ else _) = _; rw [if_pos h2]
theorem ev_sz (h : fl ρ = some ds) (h2 : szB ds.length = true) : dSz fl ρ = some ds := by unfold dSz; rw [h]; show (if _ then _ else _) = _; rw [if_pos h2]
theorem ev_blt {g : List D → Option D} (h : fl ρ = some ds) (h2 : g ds = some z) : eBlt g fl ρ = some z := by unfold eBlt; rw [h]; exact h2
theorem ev_dblt {g : List D → Option (List D)} (h : fl ρ = some ds) (h2 : g ds = some es) : dBlt g fl ρ = some es := by unfold dBlt; rw [h]; exact h2
theorem ev_call {F : List D → Option D} (h : fl ρ = some ds) (h2 : F ds = some z) : eCall F fl ρ = some z := by unfold eCall; rw [h]; exact h2
theorem ev_tV (h : a ρ = some (.bl p)) : tV a ρ = some p := by unfold tV; rw [h]; rfl
theorem ev_bNot (h : t ρ = some p) : bNot t ρ = some (!p) := by unfold bNot; rw [h]; rfl
theorem ev_bAnd (h : t ρ = some p) (h2 : u ρ = some q) : bAnd t u ρ = some (p && q) := by unfold bAnd; rw [h]; cases p <;> simp [h2]
theorem ev_bOr (h : t ρ = some p) (h2 : u ρ = some q) : bOr t u ρ = some (p || q) := by unfold bOr; rw [h]; cases p <;> simp [h2]
theorem ev_bAndF (h : t ρ = some false) : bAnd t u ρ = some false := by unfold bAnd; rw [h]; rfl
theorem ev_bOrT (h : t ρ = some true) : bOr t u ρ = some true := by unfold bOr; rw [h]; rfl
theorem ev_bAnd' (h : t ρ = some p) (h2 : p = true → u ρ = some q) : bAnd t u ρ = some (p && q) := by unfold bAnd; rw [h]; cases p <;> simp [h2]
theorem ev_bOr' (h : t ρ = some p) (h2 : p = false → u ρ = some q) : bOr t u ρ = some (p || q) := by unfold bOr; rw [h]; cases p <;> simp [h2]
theorem ev_eAnd (h : a ρ = some (.bl p)) (h2 : b ρ = some (.bl q)) : eAnd a b ρ = some (.bl (p && q)) := by unfold eAnd; rw [h]; cases p <;> simp [h2]
theorem ev_eOr (h : a ρ = some (.bl p)) (h2 : b ρ = some (.bl q)) : eOr a b ρ = some (.bl (p || q)) := by unfold eOr; rw [h]; cases p <;> simp [h2]
theorem ev_eAnd' (h : a ρ = some (.bl p)) (h2 : p = true → b ρ = some (.bl q)) : eAnd a b ρ = some (.bl (p && q)) := by unfold eAnd; rw [h]; cases p <;> simp [h2]
theorem ev_eOr' (h : a ρ = some (.bl p)) (h2 : p = false → b ρ = some (.bl q)) : eOr a b ρ = some (.bl (p || q)) := by unfold eOr; rw [h]; cases p <;> simp [h2]
theorem ev_eNot (h : a ρ = some (.bl p)) : eNot a ρ = some (.bl (!p)) := by unfold eNot; rw [h]; rfl
theorem ev_eNeg (h : a ρ = some (.int i)) : eNeg a ρ = some (.int (-i)) := by unfold eNeg; rw [h]; rfl
theorem ev_if (h : t ρ = some p) (h1 : p = true → a ρ = some x) (h2 : p = false → b ρ = some y) : eIf t a b ρ = some (if p = true then x else y) := by unfold eIf; rw [h]; cases p <;> simp [h1, h2]
theorem ev_ifI (h : t ρ = some p) (h1 : p = true → a ρ = some (.int i)) (h2 : p = false → b ρ = some (.int j)) : eIf t a b ρ = some (.int (if p = true then i else j)) := by rw [ev_if h h1 h2]; cases p <;> rfl
theorem ev_ifT (h : t ρ = some true) (h1 : a ρ = some x) : eIf t a b ρ = some x := by unfold eIf; rw [h]; exact h1
theorem ev_ifF (h : t ρ = some false) (h1 : b ρ = some x) : eIf t a b ρ = some x := by unfold eIf; rw [h]; exact h1
theorem ev_chain {k : Int} (h1 : a ρ = some (.int i)) (h2 : b ρ = some (.int j)) (h3 : c ρ = some (.int k)) : eChain gLe gLe a b c ρ = some (.bl (decide (i ≤ j) && decide (j ≤ k))) := by
  unfold eChain; rw [h1, h2, h3]
  show (match D.bl (decide (i ≤ j)) with | .bl true => _ | .bl false => _ | _ => _) = _
  cases decide (i ≤ j) <;> rfl
theorem ev_newI {l : List Int} (h : fl ρ = some (l.map .int)) : eNew fl ρ = some (ofI l) := ev_new h
/-- arithmetic -/
theorem g_mulL (h : i.natAbs < 18446744073709551616) : gMul (.int i) (.int j) = some (.int (i * j)) := by
  show (if mulB i j = true then _ else _) = _
  rw [if_pos]; unfold mulB; simp [h]
theorem g_mulR (h : j.natAbs < 18446744073709551616) : gMul (.int i) (.int j) = some (.int (i * j)) := by
  show (if mulB i j = true then _ else _) = _
  rw [if_pos]; unfold mulB; simp [h]
theorem g_mul (h : mulB i j = true) : gMul (.int i) (.int j) = some (.int (i * j)) := if_pos h
theorem mulB_l (h : i.natAbs < 18446744073709551616) : mulB i j = true := by unfold mulB; simp [h]
theorem mulB_r (h : j.natAbs < 18446744073709551616) : mulB i j = true := by unfold mulB; simp [h]
theorem g_div (h : 0 < j ∧ j < 4294967296) : gDiv (.int i) (.int j) = some (.int (i / j)) := if_pos h
theorem g_mod (h : 0 < j) : gMod (.int i) (.int j) = some (.int (i % j)) := if_pos h
theorem g_pow (h : 0 ≤ j ∧ j ≤ 1000 ∧ i.natAbs < 1000) : gPow (.int i) (.int j) = some (.int (i ^ j.toNat)) := if_pos h
theorem g_eqI : gEq (.int i) (.int j) = some (.bl (decide (i = j))) := by show some (D.bl (D.eqv _ _)) = _; rw [eqv_int]
theorem g_neI : gNe (.int i) (.int j) = some (.bl (!decide (i = j))) := by show some (D.bl (!D.eqv _ _)) = _; rw [eqv_int]
theorem eqv_bl {p q : Bool} : D.eqv (.bl p) (.bl q) = decide (p = q) := by cases p <;> cases q <;> rfl
theorem g_eqB : gEq (.bl p) (.bl q) = some (.bl (decide (p = q))) := by show some (D.bl (D.eqv _ _)) = _; rw [eqv_bl]
theorem g_neB : gNe (.bl p) (.bl q) = some (.bl (!decide (p = q))) := by show some (D.bl (!D.eqv _ _)) = _; rw [eqv_bl]
/-- of the shapes -/
theorem at_map {α : Type} {f : α → D} {l : List α} {e : α} (h : 0 ≤ i ∧ i < l.length) : atI (l.map f) i = some (f (l.getD i.toNat e)) := by
  have h2 : i.toNat < l.length := by omega
  have : i = ((i.toNat : Nat) : Int) := by omega
  rw [this, atI_at (by simpa using h2), List.getElem_map]
  simp only [Int.toNat_natCast]
  rw [getD_get _ _ h2]
theorem g_ixI {l : List Int} (h : 0 ≤ i ∧ i < l.length) : gIx (ofI l) (.int i) = some (.int (gi l i)) := at_map h
theorem g_ixR {l : List Int} (h : 0 ≤ i ∧ i < l.length) : gIx (ofR l) (.int i) = some (.int (gi l i)) := at_map h
theorem g_ixT {l : List (List Int)} (h : 0 ≤ i ∧ i < l.length) : gIx (ofT l) (.int i) = some (ofR (row l i)) := at_map h
theorem g_ixLL {l : List (List Int)} (h : 0 ≤ i ∧ i < l.length) : gIx (ofLL l) (.int i) = some (ofI (row l i)) := at_map h
theorem g_ixS {ns : List Int} (h : 0 ≤ i ∧ i < ns.length) : gIx (.scr ns) (.int i) = some (.int (gi ns i)) := by
  have h2 : i.toNat < ns.length := by omega
  have : i = ((i.toNat : Nat) : Int) := by omega
  show (atI ns i).map D.int = _
  rw [this, atI_at h2]
  unfold gi
  simp only [Int.toNat_natCast]
  rw [getD_get _ _ h2]; rfl
theorem g_lenI {l : List Int} : b1 gLen [ofI l] = some (.int l.length) := by show some (D.int ((l.map D.int).length : Nat)) = _; rw [List.length_map]
theorem g_lenR {l : List Int} : b1 gLen [ofR l] = some (.int l.length) := by show some (D.int ((l.map D.int).length : Nat)) = _; rw [List.length_map]
theorem g_lenT {l : List (List Int)} : b1 gLen [ofT l] = some (.int l.length) := by show some (D.int ((l.map ofR).length : Nat)) = _; rw [List.length_map]
theorem g_lenLL {l : List (List Int)} : b1 gLen [ofLL l] = some (.int l.length) := by show some (D.int ((l.map ofI).length : Nat)) = _; rw [List.length_map]
theorem g_sumI {l : List Int} : b1 gSum [ofI l] = some (.int l.sum) := by show (intsD (l.map .int)).map _ = _; rw [intsD_map]; rfl
def mn (l : List Int) : Int := match l with | [] => 0 | n :: ns => ns.foldl min n
def mx (l : List Int) : Int := match l with | [] => 0 | n :: ns => ns.foldl max n
theorem minL_mn {l : List Int} (h : l ≠ []) : minL l = some (mn l) := by cases l with | nil => exact absurd rfl h | cons a l => rfl
theorem maxL_mx {l : List Int} (h : l ≠ []) : maxL l = some (mx l) := by cases l with | nil => exact absurd rfl h | cons a l => rfl
theorem g_minI {l : List Int} (h : l ≠ []) : gMin [ofI l] = some (.int (mn l)) := by show (intsD (l.map .int)).bind _ = _; rw [intsD_map]; show (minL l).map _ = _; rw [minL_mn h]; rfl
theorem g_minR {l : List Int} (h : l ≠ []) : gMin [ofR l] = some (.int (mn l)) := by show (intsD (l.map .int)).bind _ = _; rw [intsD_map]; show (minL l).map _ = _; rw [minL_mn h]; rfl
theorem g_maxI {l : List Int} (h : l ≠ []) : gMax [ofI l] = some (.int (mx l)) := by show (intsD (l.map .int)).bind _ = _; rw [intsD_map]; show (maxL l).map _ = _; rw [maxL_mx h]; rfl
theorem g_maxR {l : List Int} (h : l ≠ []) : gMax [ofR l] = some (.int (mx l)) := by show (intsD (l.map .int)).bind _ = _; rw [intsD_map]; show (maxL l).map _ = _; rw [maxL_mx h]; rfl
theorem g_tupI {l : List Int} : b1 gTuple [ofI l] = some (ofR l) := rfl
theorem g_tupR {l : List Int} : b1 gTuple [ofR l] = some (ofR l) := rfl
theorem g_abs : b1 gAbs [.int i] = some (.int (if i < 0 then -i else i)) := rfl
/-- walks -/
theorem it_I {l : List Int} (h : a ρ = some (ofI l)) : iOf asS a ρ = some ((l.map .int).map .p) := seq_lst h
theorem it_R {l : List Int} (h : a ρ = some (ofR l)) : iOf asS a ρ = some ((l.map .int).map .p) := seq_tup h
theorem it_T {l : List (List Int)} (h : a ρ = some (ofT l)) : iOf asS a ρ = some ((l.map ofR).map .p) := seq_tup h
theorem it_LL {l : List (List Int)} (h : a ρ = some (ofLL l)) : iOf asS a ρ = some ((l.map ofI).map .p) := seq_lst h
end
theorem zip2D_map {α β : Type} (f : α → D) (g : β → D) (as : List α) (bs : List β) : zip2D (as.map f) (bs.map g) = ((as.zip bs).map fun p => D.tup [f p.1, g p.2]).map .p := by
  induction as generalizing bs with
  | nil => rfl
  | cons a as ih => cases bs with | nil => rfl | cons b bs => simp only [List.map_cons, zip2D, List.zip_cons_cons, ih]
theorem zip3D_map {α β γ : Type} (f : α → D) (g : β → D) (h : γ → D) (as : List α) (bs : List β) (cs : List γ) : zip3D (as.map f) (bs.map g) (cs.map h) = ((as.zip (bs.zip cs)).map fun p => D.tup [f p.1, g p.2.1, h p.2.2]).map .p := by
  induction as generalizing bs cs with
  | nil => rfl
  | cons a as ih => cases bs with | nil => rfl | cons b bs => cases cs with | nil => rfl | cons c cs => simp only [List.map_cons, zip3D, List.zip_cons_cons, ih]
theorem it_z2 {ρ : DEnv} {a b : DE} {x y : D} {b1 b2 : Bool} {α β : Type} {f : α → D} {g : β → D} {as : List α} {bs : List β} (h1 : a ρ = some x) (h2 : b ρ = some y) (q1 : seqD x = some (b1, as.map f)) (q2 : seqD y = some (b2, bs.map g)) :
    iZ2 a b ρ = some (((as.zip bs).map fun p => D.tup [f p.1, g p.2]).map .p) := by
  unfold iZ2; rw [h1, h2]
  show (seqD x).bind _ = _
  rw [q1]; show (seqD y).map _ = _; rw [q2, Option.map_some, zip2D_map]
theorem sq_I {l : List Int} : seqD (ofI l) = some (true, l.map .int) := rfl
theorem sq_R {l : List Int} : seqD (ofR l) = some (false, l.map .int) := rfl
theorem sq_T {l : List (List Int)} : seqD (ofT l) = some (false, l.map ofR) := rfl
theorem sq_LL {l : List (List Int)} : seqD (ofLL l) = some (true, l.map ofI) := rfl
end PL
namespace PL
open PySem PySem.Spec PyProof.Rows L2
def ofTl (t : List (List Int)) : D := .lst (t.map ofR)
theorem g_tupT {l : List (List Int)} : b1 gTuple [ofTl l] = some (ofT l) := rfl
section
variable {ρ : DEnv} {a b c : DE} {it : DI} {ws : List Nat} {elt : DE} {cond : DB} {α : Type}
theorem new_comp {β : Type} (emb : β → D) (xs : List α) (f : α → D) (h : α → β) {j : Nat} (hit : it ρ = some ((xs.map f).map .p)) (hl : xs.length ≤ 16777216) (hs : ∀ x ∈ xs, elt ((ρ.wipe ws).set j (.p (f x))) = some (emb (h x))) :
    eNew (eComp it (.nm j) ws bYes elt) ρ = some (.lst ((xs.map h).map emb)) := by
  rw [List.map_map]
  exact ev_new (ev_compY xs f (fun x => emb (h x)) hit (fun x hx => ⟨_, rfl, hs x hx⟩) hl)
theorem new_comp2 {β : Type} (emb : β → D) (xs : List α) (f1 f2 : α → D) (h : α → β) {j1 j2 : Nat} (hit : it ρ = some ((xs.map fun x => D.tup [f1 x, f2 x]).map .p)) (hl : xs.length ≤ 16777216) (hs : ∀ x ∈ xs, elt (((ρ.wipe ws).set j1 (.p (f1 x))).set j2 (.p (f2 x))) = some (emb (h x))) :
    eNew (eComp it (.tp [j1, j2]) ws bYes elt) ρ = some (.lst ((xs.map h).map emb)) := by
  rw [List.map_map]
  exact ev_new (ev_compY xs _ (fun x => emb (h x)) hit (fun x hx => ⟨_, rfl, hs x hx⟩) hl)
theorem new_comp3 {β : Type} (emb : β → D) (xs : List α) (f1 f2 f3 : α → D) (h : α → β) {j1 j2 j3 : Nat} (hit : it ρ = some ((xs.map fun x => D.tup [f1 x, f2 x, f3 x]).map .p)) (hl : xs.length ≤ 16777216) (hs : ∀ x ∈ xs, elt ((((ρ.wipe ws).set j1 (.p (f1 x))).set j2 (.p (f2 x))).set j3 (.p (f3 x))) = some (emb (h x))) :
    eNew (eComp it (.tp [j1, j2, j3]) ws bYes elt) ρ = some (.lst ((xs.map h).map emb)) := by
  rw [List.map_map]
  exact ev_new (ev_compY xs _ (fun x => emb (h x)) hit (fun x hx => ⟨_, rfl, hs x hx⟩) hl)
theorem new_compF {β : Type} (emb : β → D) (xs : List α) (f : α → D) (h : α → β) (p : α → Bool) {j : Nat} (hit : it ρ = some ((xs.map f).map .p)) (hl : xs.length ≤ 16777216) (hc : ∀ x ∈ xs, cond ((ρ.wipe ws).set j (.p (f x))) = some (p x)) (hs : ∀ x ∈ xs, p x = true → elt ((ρ.wipe ws).set j (.p (f x))) = some (emb (h x))) :
    eNew (eComp it (.nm j) ws cond elt) ρ = some (.lst (((xs.filter p).map h).map emb)) := by
  rw [List.map_map]
  exact ev_new (ev_comp xs f p (fun x => emb (h x)) hit (fun x hx => ⟨_, rfl, hc x hx, hs x hx⟩) hl)
theorem new_comp2F {β : Type} (emb : β → D) (xs : List α) (f1 f2 : α → D) (h : α → β) (p : α → Bool) {j1 j2 : Nat} (hit : it ρ = some ((xs.map fun x => D.tup [f1 x, f2 x]).map .p)) (hl : xs.length ≤ 16777216) (hc : ∀ x ∈ xs, cond (((ρ.wipe ws).set j1 (.p (f1 x))).set j2 (.p (f2 x))) = some (p x))
    (hs : ∀ x ∈ xs, p x = true → elt (((ρ.wipe ws).set j1 (.p (f1 x))).set j2 (.p (f2 x))) = some (emb (h x))) :
    eNew (eComp it (.tp [j1, j2]) ws cond elt) ρ = some (.lst (((xs.filter p).map h).map emb)) := by
  rw [List.map_map]
  exact ev_new (ev_comp xs _ p (fun x => emb (h x)) hit (fun x hx => ⟨_, rfl, hc x hx, hs x hx⟩) hl)
theorem new_comp3F {β : Type} (emb : β → D) (xs : List α) (f1 f2 f3 : α → D) (h : α → β) (p : α → Bool) {j1 j2 j3 : Nat} (hit : it ρ = some ((xs.map fun x => D.tup [f1 x, f2 x, f3 x]).map .p)) (hl : xs.length ≤ 16777216) (hc : ∀ x ∈ xs, cond ((((ρ.wipe ws).set j1 (.p (f1 x))).set j2 (.p (f2 x))).set j3 (.p (f3 x))) = some (p x))
    (hs : ∀ x ∈ xs, p x = true → elt ((((ρ.wipe ws).set j1 (.p (f1 x))).set j2 (.p (f2 x))).set j3 (.p (f3 x))) = some (emb (h x))) :
    eNew (eComp it (.tp [j1, j2, j3]) ws cond elt) ρ = some (.lst (((xs.filter p).map h).map emb)) := by
  rw [List.map_map]
  exact ev_new (ev_comp xs _ p (fun x => emb (h x)) hit (fun x hx => ⟨_, rfl, hc x hx, hs x hx⟩) hl)
theorem new_compN {β : Type} (emb : β → D) {lo hi : DE} (n : Nat) (h : Nat → β) {j : Nat} (h1 : lo ρ = some (.int 0)) (h2 : hi ρ = some (.int n)) (hl : n ≤ 16777216) (hs : ∀ k, k < n → elt ((ρ.wipe ws).set j (.p (.int (k : Nat)))) = some (emb (h k))) :
    eNew (eComp (iRng lo hi) (.nm j) ws bYes elt) ρ = some (.lst (((List.range n).map h).map emb)) := by
  have := rng_eval 0 n h1 h2 (by omega) (by omega)
  rw [Nat.sub_zero] at this
  refine new_comp emb (List.range n) _ h this (by rw [List.length_range]; exact hl) (fun k hk => ?_)
  have := hs k (List.mem_range.mp hk)
  rw [Nat.zero_add]
  exact this
theorem ev_tupOf {l : List D} (h : a ρ = some (.lst l)) : eBlt (b1 gTuple) (dCons a dNil) ρ = some (.tup l) := ev_blt (ev_cons h ev_nil) rfl
end
theorem gi_map {f : Int → Int} {l : List Int} {i : Int} (h : 0 ≤ i ∧ i < l.length) : gi (l.map f) i = f (gi l i) := by
  unfold gi
  rw [getD_get _ _ (by rw [List.length_map]; omega), getD_get _ _ (by omega), List.getElem_map]
theorem gi_rng {f : Nat → Int} {n : Nat} {i : Int} (h : 0 ≤ i ∧ i < n) : gi ((List.range n).map f) i = f i.toNat := by
  unfold gi
  rw [getD_get _ _ (by rw [List.length_map, List.length_range]; omega), List.getElem_map, List.getElem_range]
theorem row_map {α : Type} {f : α → List Int} {l : List α} {i : Int} (h : 0 ≤ i ∧ i < l.length) : row (l.map f) i = f (l[i.toNat]'(by omega)) := by
  unfold row
  rw [getD_get _ _ (by rw [List.length_map]; omega), List.getElem_map]
theorem mem_gi {l : List Int} {i : Int} (h : 0 ≤ i ∧ i < l.length) : gi l i ∈ l := by
  unfold gi
  rw [getD_get _ _ (by omega)]
  exact List.getElem_mem _
theorem ext_gi {l m : List Int} (h : l.length = m.length) (k : ∀ i : Int, 0 ≤ i → i < l.length → gi l i = gi m i) : l = m := by
  apply List.ext_getElem h
  intro i h1 h2
  have := k i (by omega) (by omega)
  unfold gi at this
  rw [getD_get _ _ (by simpa using h1), getD_get _ _ (by simpa using h2)] at this
  simpa using this
theorem ext_rect {s t : List (List Int)} {m w : Nat} (hs : Rect s m w) (ht : Rect t m w) (k : ∀ i j : Int, 0 ≤ i → i < m → 0 ≤ j → j < w → en s i j = en t i j) : s = t := by
  apply List.ext_getElem (hs.1.trans ht.1.symm)
  intro i h1 h2
  have hi : (i : Int) < m := by have := hs.1; omega
  have e1 : s[i] = row s i := by unfold row; rw [getD_get _ _ (by simpa using h1)]; simp
  have e2 : t[i] = row t i := by unfold row; rw [getD_get _ _ (by simpa using h2)]; simp
  rw [e1, e2]
  have l1 := len_row hs (i := i) ⟨by omega, hi⟩
  have l2 := len_row ht (i := i) ⟨by omega, hi⟩
  apply ext_gi (l1.trans l2.symm)
  intro j h3 h4
  exact k i j (by omega) hi h3 (by omega)
/-- rounded sums -/
def mkT (u : Int) (R C : List Int) : List (List Int) := R.map fun r => C.map fun c => (r + c) / u
theorem mkT_rect {u : Int} {R C : List Int} : Rect (mkT u R C) R.length C.length := ⟨by unfold mkT; rw [List.length_map], fun r h => by
  unfold mkT at h
  obtain ⟨x, _, rfl⟩ := List.mem_map.mp h
  rw [List.length_map]⟩
theorem mkT_en {u : Int} {R C : List Int} {i j : Int} (hi : 0 ≤ i ∧ i < R.length) (hj : 0 ≤ j ∧ j < C.length) : en (mkT u R C) i j = (gi R i + gi C j) / u := by
  unfold en mkT
  rw [row_map hi, gi_map hj]
  unfold gi
  rw [getD_get R _ (by omega)]
end PL
namespace PL
open PySem PySem.Spec PyProof.Rows L2
def cutI {α : Type} (xs : List α) (lo hi : Option Int) : List α := (xs.drop (HT.sIx xs.length 0 lo)).take (HT.sIx xs.length xs.length hi - HT.sIx xs.length 0 lo)
theorem cutD_map {α : Type} (f : α → D) (l : List α) (lo hi : Option Int) : cutD (l.map f) lo hi = (cutI l lo hi).map f := by
  unfold cutD cutI; rw [List.length_map, ← List.map_drop, ← List.map_take]
theorem cutI_sub {α : Type} {l : List α} {lo hi : Option Int} {x : α} (h : x ∈ cutI l lo hi) : x ∈ l := List.mem_of_mem_drop (List.mem_of_mem_take h)
theorem cutI_len {α : Type} {l : List α} {i j : Nat} (h : i ≤ j) (hj : j ≤ l.length) : (cutI l (some (i : Int)) (some (j : Int))).length = j - i := by
  unfold cutI
  rw [HT.sIx_nat, HT.sIx_nat, List.length_take, List.length_drop]
  omega
theorem cutI_from {α : Type} {l : List α} {i : Nat} : cutI l (some (i : Int)) none = l.drop i := by
  unfold cutI
  rw [HT.sIx_nat, HT.sIx_none]
  by_cases h : i ≤ l.length
  · rw [Nat.min_eq_left h]
    exact List.take_of_length_le (by rw [List.length_drop]; exact Nat.le_refl _)
  · rw [Nat.min_eq_right (by omega), List.drop_eq_nil_of_le (Nat.le_refl _), List.drop_eq_nil_of_le (by omega : l.length ≤ i), List.take_nil]
theorem cutI_to {α : Type} {l : List α} {j : Nat} : cutI l none (some (j : Int)) = l.take j := by
  unfold cutI
  rw [HT.sIx_nat, HT.sIx_none, List.drop_zero, Nat.sub_zero]
  by_cases h : j ≤ l.length
  · rw [Nat.min_eq_left h]
  · rw [Nat.min_eq_right (by omega), List.take_of_length_le (Nat.le_refl _), List.take_of_length_le (by omega)]
section
variable {ρ : DEnv} {a b c : DE} {lo hi : DO} {o1 o2 : Option Int} {i : Int}
theorem ev_oSome (h : a ρ = some (.int i)) : oSome a ρ = some (some i) := by unfold oSome; rw [h]; rfl
theorem ev_oNo : oNo ρ = some none := rfl
theorem ev_cutI {l : List Int} (h : a ρ = some (ofI l)) (h1 : lo ρ = some o1) (h2 : hi ρ = some o2) : eCut a lo hi ρ = some (ofI (cutI l o1 o2)) := by
  unfold eCut; rw [h, h1, h2]
  show some (D.lst (cutD (l.map .int) o1 o2)) = _
  rw [cutD_map]; rfl
theorem ev_cutR {l : List Int} (h : a ρ = some (ofR l)) (h1 : lo ρ = some o1) (h2 : hi ρ = some o2) : eCut a lo hi ρ = some (ofR (cutI l o1 o2)) := by
  unfold eCut; rw [h, h1, h2]
  show some (D.tup (cutD (l.map .int) o1 o2)) = _
  rw [cutD_map]; rfl
theorem ev_cutT {l : List (List Int)} (h : a ρ = some (ofT l)) (h1 : lo ρ = some o1) (h2 : hi ρ = some o2) : eCut a lo hi ρ = some (ofT (cutI l o1 o2)) := by
  unfold eCut; rw [h, h1, h2]
  show some (D.tup (cutD (l.map ofR) o1 o2)) = _
  rw [cutD_map]; rfl
theorem ev_cut {l : List D} (h : a ρ = some (.lst l)) (h1 : lo ρ = some o1) (h2 : hi ρ = some o2) : eCut a lo hi ρ = some (.lst (cutD l o1 o2)) := by
  unfold eCut; rw [h, h1, h2]; rfl
end
end PL
namespace PL
open PySem PySem.Spec PyProof.Rows L2
/-- equality of data of one shape -/
def Faith {α : Type} [DecidableEq α] (f : α → D) : Prop := ∀ x y : α, D.eqv (f x) (f y) = decide (x = y)
theorem eqvAll_faith {α : Type} [DecidableEq α] {f : α → D} (hf : Faith f) : ∀ xs ys : List α, PyData.eqvAll (D.toPs (xs.map f)) (D.toPs (ys.map f)) = decide (xs = ys)
  | [], [] => rfl
  | [], _ :: _ => rfl
  | _ :: _, [] => rfl
  | x :: xs, y :: ys => by
    have h := hf x y
    unfold D.eqv at h
    rw [List.map_cons, List.map_cons, D.toPs, D.toPs, PyData.eqvAll, eqvAll_faith hf xs ys, h]
    by_cases h1 : x = y <;> by_cases h2 : xs = ys <;> simp [h1, h2]
theorem faith_lst {α : Type} [DecidableEq α] {f : α → D} (hf : Faith f) : Faith fun xs : List α => D.lst (xs.map f) := fun xs ys => by
  show PyData.eqv (.list _) (.list _) = _
  rw [PyData.eqv, eqvAll_faith hf]
theorem faith_tup {α : Type} [DecidableEq α] {f : α → D} (hf : Faith f) : Faith fun xs : List α => D.tup (xs.map f) := fun xs ys => by
  show PyData.eqv (.tuple _) (.tuple _) = _
  rw [PyData.eqv, eqvAll_faith hf]
theorem faith_int : Faith D.int := eqv_int
theorem faith_I : Faith ofI := faith_lst faith_int
theorem faith_R : Faith ofR := faith_tup faith_int
theorem faith_T : Faith ofT := faith_tup faith_R
theorem faith_Tl : Faith ofTl := faith_lst faith_R
def OkN {α : Type} (f : α → D) (n : Nat) : Prop := ∀ x : α, (f x).ok n = true
theorem okn_lst {α : Type} {f : α → D} {n : Nat} (h : OkN f n) : OkN (fun xs : List α => D.lst (xs.map f)) (n + 1) := fun xs => by
  rw [ok_lst, List.all_map, List.all_eq_true]; exact fun x _ => h x
theorem okn_tup {α : Type} {f : α → D} {n : Nat} (h : OkN f n) : OkN (fun xs : List α => D.tup (xs.map f)) (n + 1) := fun xs => by
  rw [ok_tup, List.all_map, List.all_eq_true]; exact fun x _ => h x
theorem okn_int {n : Nat} : OkN D.int n := fun x => by cases n <;> rfl
theorem okn_I {n : Nat} : OkN ofI (n + 1) := okn_lst okn_int
theorem okn_R {n : Nat} : OkN ofR (n + 1) := okn_tup okn_int
theorem okn_T {n : Nat} : OkN ofT (n + 2) := okn_tup okn_R
theorem okn_Tl {n : Nat} : OkN ofTl (n + 2) := okn_lst okn_R
theorem g_eqF {α : Type} [DecidableEq α] {f : α → D} (hf : Faith f) (ho : OkN f 50) (x y : α) : gEq (f x) (f y) = some (.bl (decide (x = y))) := by unfold gEq; rw [ho x, ho y, hf x y]; rfl
theorem g_neF {α : Type} [DecidableEq α] {f : α → D} (hf : Faith f) (ho : OkN f 50) (x y : α) : gNe (f x) (f y) = some (.bl (!decide (x = y))) := by unfold gNe; rw [ho x, ho y, hf x y]; rfl
theorem g_eqR {x y : List Int} : gEq (ofR x) (ofR y) = some (.bl (decide (x = y))) := g_eqF faith_R okn_R x y
theorem g_eqT {x y : List (List Int)} : gEq (ofT x) (ofT y) = some (.bl (decide (x = y))) := g_eqF faith_T okn_T x y
theorem g_neT {x y : List (List Int)} : gNe (ofT x) (ofT y) = some (.bl (!decide (x = y))) := g_neF faith_T okn_T x y
theorem g_eqL {x y : List Int} : gEq (ofI x) (ofI y) = some (.bl (decide (x = y))) := g_eqF faith_I okn_I x y
theorem g_neL {x y : List Int} : gNe (ofI x) (ofI y) = some (.bl (!decide (x = y))) := g_neF faith_I okn_I x y
theorem g_inF {α : Type} [DecidableEq α] {f : α → D} (hf : Faith f) (ho : OkN f 49) (neg : Bool) (x : α) (ys : List α) : gInN neg (f x) (.lst (ys.map f)) = some (.bl (if neg then !decide (x ∈ ys) else decide (x ∈ ys))) := by
  have e : ((ys.map f).any fun z => z.eqv (f x)) = decide (x ∈ ys) := by
    induction ys with
    | nil => rfl
    | cons y ys ih =>
      rw [List.map_cons, List.any_cons, ih, hf y x]
      by_cases h1 : y = x <;> by_cases h2 : x ∈ ys <;> simp [h1, h2]
      exact fun h => h1 h.symm
  unfold gInN
  simp only [e]
  rw [if_pos]
  rw [ho x, List.all_map, Bool.true_and, List.all_eq_true]
  exact fun y _ => ho y
end PL
namespace PL
open PySem PySem.Spec PyProof.Rows L2
/-! ### own lists of lists -/
def llC (t : List (List Int)) : Cell := .oll (t.map fun r => r.map D.int)
def setT (t : List (List Int)) (a b v : Int) : List (List Int) := t.set a.toNat ((row t a).set b.toNat v)
theorem gi_set {l : List Int} {b v j : Int} (hb : 0 ≤ b ∧ b < l.length) (hj : 0 ≤ j ∧ j < l.length) : gi (l.set b.toNat v) j = if j = b then v else gi l j := by
  unfold gi
  rw [getD_get _ _ (by rw [List.length_set]; omega), List.getElem_set]
  by_cases h : j = b
  · rw [if_pos (by omega), if_pos h]
  · rw [if_neg (by omega), if_neg h, getD_get _ _ (by omega)]
theorem row_set {t : List (List Int)} {a i : Int} {r : List Int} (ha : 0 ≤ a ∧ a < t.length) (hi : 0 ≤ i ∧ i < t.length) : row (t.set a.toNat r) i = if i = a then r else row t i := by
  unfold row
  rw [getD_get _ _ (by rw [List.length_set]; omega), List.getElem_set]
  by_cases h : i = a
  · rw [if_pos (by omega), if_pos h]
  · rw [if_neg (by omega), if_neg h, getD_get _ _ (by omega)]
theorem rect_setT {t : List (List Int)} {m w : Nat} {a b v : Int} (h : Rect t m w) (ha : 0 ≤ a ∧ a < m) : Rect (setT t a b v) m w := ⟨by unfold setT; rw [List.length_set]; exact h.1, fun r hr => by
  unfold setT at hr
  rcases List.mem_or_eq_of_mem_set hr with hr | rfl
  · exact h.2 r hr
  · rw [List.length_set]; exact len_row h ha⟩
theorem en_setT {t : List (List Int)} {m w : Nat} {a b v i j : Int} (h : Rect t m w) (ha : 0 ≤ a ∧ a < m) (hb : 0 ≤ b ∧ b < w) (hi : 0 ≤ i ∧ i < m) (hj : 0 ≤ j ∧ j < w) : en (setT t a b v) i j = if i = a ∧ j = b then v else en t i j := by
  have e1 := h.1
  have e2 := len_row h ha
  unfold en setT
  rw [row_set (by omega) (by omega)]
  by_cases h1 : i = a
  · subst h1
    rw [if_pos rfl, gi_set (by omega) (by omega)]
    by_cases h2 : j = b
    · rw [if_pos h2, if_pos ⟨rfl, h2⟩]
    · rw [if_neg h2, if_neg fun h => h2 h.2]
  · rw [if_neg h1, if_neg fun h => h1 h.1]
section
variable {ρ : DEnv} {i : Nat} {fb fe f1 f2 : DE} {t : List (List Int)} {k a b v : Int}
theorem ev_lenLL (h : ρ i = some (llC t)) : eLenLL i ρ = some (.int t.length) := by unfold eLenLL; rw [h]; show some (D.int ((t.map fun r => r.map D.int).length : Nat)) = _; rw [List.length_map]
theorem ev_ixLL (h : ρ i = some (llC t)) (hb : fb ρ = some (.int k)) (hk : 0 ≤ k ∧ k < t.length) : eIxLL i fb ρ = some (ofI (row t k)) := by
  unfold eIxLL; rw [h, hb]
  show (atI (t.map fun r => r.map D.int) k).map D.lst = _
  have h2 : k.toNat < t.length := by omega
  have : k = ((k.toNat : Nat) : Int) := by omega
  rw [this, atI_at (by simpa using h2), List.getElem_map]
  unfold row
  simp only [Int.toNat_natCast]
  rw [getD_get _ _ h2]; rfl
theorem wp_setT {N : DEnv → Prop} {R : D → Prop} {m w : Nat} (h1 : ρ i = some (llC t)) (he : fe ρ = some (.int v)) (hf1 : f1 ρ = some (.int a)) (hf2 : f2 ρ = some (.int b)) (ht : Rect t m w) (ha : 0 ≤ a ∧ a < m) (hb : 0 ≤ b ∧ b < w) (k : N (ρ.set i (llC (setT t a b v)))) : Wp (sSetLL i f1 f2 fe) ρ N R := by
  have e1 := ht.1
  have e2 := len_row ht ha
  refine wp_setLL (k1 := a.toNat) (k2 := b.toNat) (xs := (row t a).map D.int) h1 he (by rw [hf1]; congr 2; omega) (by rw [hf2]; congr 2; omega) ?_ (by rw [List.length_map, e2]; omega) ?_
  · rw [List.getElem?_map, List.getElem?_eq_getElem (by omega : a.toNat < t.length)]
    unfold row
    rw [getD_get _ _ (by omega : a.toNat < t.length)]; rfl
  · have : llC (setT t a b v) = .oll ((t.map fun r => r.map D.int).set a.toNat (((row t a).map D.int).set b.toNat (.int v))) := by
      unfold llC setT; rw [List.map_set, List.map_set]
    rw [← this]; exact k
theorem own_LL {fa : DE} {j : Nat} {ws : List Nat} (h : fa ρ = some (ofT t)) (hl : t.length ≤ 16777216) : eCompLL (iOf asS fa) (.nm j) ws bYes (dBlt gList (dCons (eRv j) dNil)) ρ = some (t.map fun r => r.map D.int) := by
  have main : ∀ l : List (List Int), compLL (.nm j) ws bYes (dBlt gList (dCons (eRv j) dNil)) ρ ((l.map ofR).map .p) = some (l.map fun r => r.map D.int) := by
    intro l
    induction l with
    | nil => rfl
    | cons x l ih =>
      rw [List.map_cons, List.map_cons]
      unfold compLL
      show (some ((ρ.wipe ws).set j (.p (ofR x)))).bind _ = _
      rw [Option.bind_some, show bYes ((ρ.wipe ws).set j (.p (ofR x))) = some true from rfl, Option.bind_some, if_pos rfl, ev_dblt (ds := [ofR x]) (es := x.map D.int) (ev_cons (ev_rv (by unfold DEnv.set; rw [if_pos rfl])) ev_nil) rfl, Option.bind_some, ih]
      rfl
  unfold eCompLL
  rw [it_T h, Option.bind_some, main, Option.bind_some, if_pos]
  rw [List.length_map]; exact szB_of hl
theorem it_ll (h : ρ i = some (llC t)) : iLL i ρ = some (t.map fun r => .ol (r.map D.int)) := by unfold iLL; rw [h]; show some ((t.map fun r => r.map D.int).map Cell.ol) = _; rw [List.map_map]; rfl
theorem new_comp_ll {β : Type} (emb : β → D) (h : List Int → β) {it : DI} {j : Nat} {ws : List Nat} {elt : DE} (hit : it ρ = some (t.map fun r => .ol (r.map D.int))) (hl : t.length ≤ 16777216) (hs : ∀ r ∈ t, elt ((ρ.wipe ws).set j (.ol (r.map D.int))) = some (emb (h r))) :
    eNew (eComp it (.nm j) ws bYes elt) ρ = some (.lst ((t.map h).map emb)) := by
  have main : ∀ l : List (List Int), (∀ x ∈ l, x ∈ t) → compL (.nm j) ws bYes elt ρ (l.map fun r => .ol (r.map D.int)) = some ((l.map h).map emb) := by
    intro l
    induction l with
    | nil => intro _; rfl
    | cons x l ih =>
      intro hm
      rw [List.map_cons]
      unfold compL
      show (some ((ρ.wipe ws).set j (.ol (x.map D.int)))).bind _ = _
      rw [Option.bind_some, show bYes ((ρ.wipe ws).set j (.ol (x.map D.int))) = some true from rfl, Option.bind_some, if_pos rfl, hs x (hm x List.mem_cons_self), Option.bind_some, ih fun y hy => hm y (List.mem_cons_of_mem _ hy)]
      rfl
  refine ev_new ?_
  unfold eComp
  rw [hit, Option.bind_some, main t fun _ h => h, Option.bind_some, if_pos]
  rw [List.length_map, List.length_map]; exact szB_of hl
end
end PL

local macro_rules | `(tactic| walk_at "lk") => `(tactic| first | rfl | assumption)
local macro_rules | `(tactic| walk_at "g") => `(tactic| first | (with_reducible exact PL.g_lenI) | (with_reducible exact PL.g_lenR) | (with_reducible exact PL.g_lenT) | (with_reducible exact PL.g_lenLL) | (with_reducible exact PL.g_sumI) | (with_reducible exact PL.g_abs) | (with_reducible exact PL.g_tupI) | (with_reducible exact PL.g_tupR) | (with_reducible exact PL.g_tupT) | (with_reducible exact PL.g_eqI) | (with_reducible exact PL.g_neI) | (with_reducible exact PL.g_eqB) | (with_reducible exact PL.g_neB) | (with_reducible refine PL.g_ixI ?_) | (with_reducible refine PL.g_ixR ?_) | (with_reducible refine PL.g_ixT ?_) | (with_reducible refine PL.g_ixLL ?_) | (with_reducible refine PL.g_ixS ?_) | (with_reducible refine PL.g_minI ?_) | (with_reducible refine PL.g_minR ?_) | (with_reducible refine PL.g_maxI ?_) | (with_reducible refine PL.g_maxR ?_) | (with_reducible refine PL.g_div ?_) | (with_reducible refine PL.g_mod ?_) | (with_reducible refine PL.g_pow ?_) | (with_reducible refine PL.g_mulL (by (first | decide | omega))) | (with_reducible refine PL.g_mulR (by (first | decide | omega))) | (with_reducible refine PL.g_mul ?_) | (show (_ : Option _) = some _; rfl) | (show PL.szB _ = true; rfl))
local macro_rules | `(tactic| walk_at "ev1") => `(tactic| first | (with_reducible exact PL.ev_c) | (with_reducible exact PL.ev_nil) | ((with_reducible apply PL.ev_pv) <;> walk_at "lk") | ((with_reducible apply PL.ev_rv) <;> walk_at "lk") | ((with_reducible apply PL.ev_rvo) <;> walk_at "lk") | (with_reducible apply PL.ev_e2) | (with_reducible apply PL.ev_e1) | (with_reducible apply PL.ev_cons) | (with_reducible apply PL.ev_tup) | (with_reducible apply PL.ev_sz) | (with_reducible apply PL.ev_blt) | (with_reducible apply PL.ev_dblt) | (with_reducible apply PL.ev_call) | (with_reducible apply PL.ev_tV) | (with_reducible apply PL.ev_bNot) | (with_reducible apply PL.ev_bAnd) | (with_reducible apply PL.ev_bOr) | (with_reducible apply PL.ev_eAnd) | (with_reducible apply PL.ev_eOr) | (with_reducible apply PL.ev_eNot) | (with_reducible apply PL.ev_eNeg) | (with_reducible apply PL.ev_ifI) | (with_reducible apply PL.ev_chain) | (with_reducible apply PL.ev_oSome) | ((with_reducible apply PL.ev_lenLL) <;> walk_at "lk") | (with_reducible apply PL.ev_ixLL) | (with_reducible exact PL.ev_oNo))
local macro_rules | `(tactic| walk_at "ev") => `(tactic| repeat' first | walk_at "ev1" | walk_at "g" | (show (_ : PL.DEnv) _ = some _; first | rfl | assumption) | (intro hc; (first | (replace hc := of_decide_eq_true hc) | (replace hc := of_decide_eq_false hc) | skip)))
local macro_rules | `(tactic| walk_at "evo") => `(tactic| (walk_at "ev"; all_goals (first | omega | decide | skip)))
local macro_rules | `(tactic| walk_at "rc") => `(tactic| (refine ⟨?_, ?_⟩ <;> first | omega | (rw [PL.len_row (by assumption) (by omega)]; omega)))
local macro_rules | `(tactic| walk_at "evr") => `(tactic| (walk_at "ev"; all_goals (first | omega | decide | walk_at "rc" | skip)))

namespace PL
open PySem PySem.Spec PyProof.Rows L2
def b_law_cell : DS :=
 (sSeq (sIf (tV (e2 gLt (eRv 1) (eBlt (b1 gLen) (dCons (eRv 0) dNil))))
 (sRet (e2 gIx (eRv 0) (eRv 1)))
 sSkip)
 (sSeq (sIf (tV (e2 gEq (eBlt (b1 gLen) (dCons (eRv 0) dNil)) (eC (.int 0))))
 (sRet (e2 gAdd (e2 gMul (eC (.int 7919)) (eRv 1)) (eC (.int 101))))
 sSkip)
 (sRet (e2 gAdd (e2 gMod (e2 gIx (eRv 0) (e2 gMod (eRv 1) (eBlt (b1 gLen) (dCons (eRv 0) dNil)))) (eC (.int 1000003))) (e2 gMul (eC (.int 7919)) (eRv 1))))))
def f_law_cell : List D → Option D := fnD 2 b_law_cell
def b_law_digits : DS :=
 (sSeq (sAsg (.nm 4) (eTup (dCons (eC (.int 2147483647)) (dCons (eC (.int 2147483629)) (dCons (eC (.int 2147483587)) (dCons (eC (.int 2147483579)) (dCons (eC (.int 2147483563)) (dCons (eC (.int 2147483549)) (dCons (eC (.int 2147483543)) (dCons (eC (.int 2147483497)) dNil))))))))))
 (sSeq (sAsg (.nm 5) (eCall f_law_cell (dCons (ePv 0) (dCons (ePv 1) dNil))))
 (sSeq (sAsg (.nm 6) (eIf (tV (e2 gGe (eRv 5) (e2 gPow (eC (.int 10)) (eC (.int 18))))) (ePv 5) (eC (.int 0))))
 (sSeq (sOwn 7 (dSz dNil))
 (sSeq (sFor (iRng (eC (.int 0)) (eRv 2)) (.nm 8)
 (sSeq (sAsg (.nm 9) (e2 gMul (e2 gMod (eRv 5) (e2 gIx (eRv 4) (e2 gMod (eRv 8) (eC (.int 8))))) (e2 gAdd (eC (.int 48271)) (e2 gMul (e2 gMul (eC (.int 2)) (eRv 8)) (eRv 8)))))
 (sSeq (sAsg (.nm 9) (e2 gAdd (e2 gAdd (eRv 9) (e2 gMul (e2 gMul (eC (.int 7919)) (e2 gAdd (eRv 8) (eC (.int 1)))) (e2 gAdd (eRv 8) (eC (.int 1))))) (e2 gMul (eC (.int 104729)) (eRv 1))))
 (sSeq (sAsg (.nm 9) (e2 gMod (eRv 9) (e2 gIx (eRv 4) (e2 gMod (e2 gAdd (e2 gMul (eC (.int 3)) (eRv 8)) (eRv 1)) (eC (.int 8))))))
 (sSeq (sAsg (.nm 9) (e2 gMod (e2 gMul (e2 gMul (eRv 9) (eRv 9)) (eRv 9)) (e2 gIx (eRv 4) (e2 gMod (e2 gAdd (eRv 8) (eC (.int 5))) (eC (.int 8))))))
 (sSeq (sIf (tV (e2 gGt (eRv 6) (eC (.int 0))))
 (sAsg (.nm 9) (ePv 6))
 sSkip)
 (sSeq (sApp 7 (e2 gMod (eRv 9) (eRv 3)))
 (sAsg (.nm 6) (e2 gDiv (eRv 6) (eRv 3))))))))))
 (sPre 7 (sRet (ePv 7))))))))
def f_law_digits : List D → Option D := fnD 4 b_law_digits
def b_law_hidden : DS :=
 (sSeq (sParOP 3 4 (dSz dNil) (eC (.int 0)))
 (sSeq (sFor (iOf asS (ePv 0)) (.nm 5)
 (sSeq (sOwn 6 (dSz dNil))
 (sSeq (sFor (iOf asS (ePv 5)) (.nm 7)
 (sSeq (sApp 6 (eIf (tV (e2 gEq (e2 gMod (e2 gIx (eRv 1) (e2 gMod (eRv 4) (eBlt (b1 gLen) (dCons (eRv 1) dNil)))) (eRv 2)) (eC (.int 0)))) (eC .non) (ePv 7)))
 (sAsg (.nm 4) (e2 gAdd (eRv 4) (eC (.int 1))))))
 (sApp 3 (eBlt (b1 gTuple) (dCons (eRv 6) dNil))))))
 (sRet (eBlt (b1 gTuple) (dCons (eRv 3) dNil)))))
def f_law_hidden : List D → Option D := fnD 3 b_law_hidden
def b_law_squares : DS :=
 (sSeq (sOwn 1 (dSz dNil))
 (sSeq (sFor (iRng (eC (.int 0)) (eBlt (b1 gLen) (dCons (eRv 0) dNil))) (.nm 2)
 (sFor (iRng (e2 gAdd (eRv 2) (eC (.int 1))) (eBlt (b1 gLen) (dCons (eRv 0) dNil))) (.nm 3)
 (sFor (iRng (eC (.int 0)) (eBlt (b1 gLen) (dCons (e2 gIx (eRv 0) (eC (.int 0))) dNil))) (.nm 4)
 (sFor (iRng (e2 gAdd (eRv 4) (eC (.int 1))) (eBlt (b1 gLen) (dCons (e2 gIx (eRv 0) (eC (.int 0))) dNil))) (.nm 5)
 (sSeq (sAsg (.nm 6) (e2 gAdd (e2 gIx (e2 gIx (eRv 0) (eRv 2)) (eRv 4)) (e2 gIx (e2 gIx (eRv 0) (eRv 3)) (eRv 5))))
 (sSeq (sAsg (.nm 7) (e2 gAdd (e2 gIx (e2 gIx (eRv 0) (eRv 2)) (eRv 5)) (e2 gIx (e2 gIx (eRv 0) (eRv 3)) (eRv 4))))
 (sIf (bOr (tV (e2 gGt (e2 gSub (eRv 6) (eRv 7)) (eC (.int 1)))) (tV (e2 gGt (e2 gSub (eRv 7) (eRv 6)) (eC (.int 1)))))
 (sApp 1 (eTup (dCons (ePv 2) (dCons (ePv 3) (dCons (ePv 4) (dCons (ePv 5) dNil))))))
 sSkip)))))))
 (sPre 1 (sRet (ePv 1)))))
def f_law_squares : List D → Option D := fnD 1 b_law_squares
def b_law_right : DS :=
 (sSeq (sIf (bOr (bNot (tV (e1 (gIs .ttuple) (eRv 1)))) (bOr (tV (e2 gNe (eBlt (b1 gLen) (dCons (eRv 1) dNil)) (eBlt (b1 gLen) (dCons (eRv 0) dNil)))) (tV (e2 gNe (eCall f_law_squares (dCons (ePv 1) dNil)) (eNew (dSz dNil))))))
 (sRet (eC (.bl false)))
 sSkip)
 (sSeq (sFor (iZ2 (ePv 0) (ePv 1)) (.tp [2, 3])
 (sSeq (sIf (bOr (bNot (tV (e1 (gIs .ttuple) (eRv 3)))) (tV (e2 gNe (eBlt (b1 gLen) (dCons (eRv 3) dNil)) (eBlt (b1 gLen) (dCons (eRv 2) dNil)))))
 (sRet (eC (.bl false)))
 sSkip)
 (sSeq (sIf (tV (e2 gNe (eNew (eComp (iZ2 (ePv 2) (ePv 3)) (.tp [4, 5]) [4, 5] (bAnd (tV (e2 (gIsN true) (eRv 4) (eC .non))) (tV (e2 gNe (eRv 4) (eRv 5)))) (eC (.int 1)))) (eNew (dSz dNil))))
 (sRet (eC (.bl false)))
 sSkip)
 (sIf (tV (e2 gNe (eNew (eComp (iOf asS (ePv 3)) (.nm 5) [5] (bOr (bNot (tV (e1 (gIs .tint) (eRv 5)))) (tV (e1 (gIs .tbool) (eRv 5)))) (ePv 5))) (eNew (dSz dNil))))
 (sRet (eC (.bl false)))
 sSkip))))
 (sRet (eC (.bl true)))))
def f_law_right : List D → Option D := fnD 2 b_law_right
def b_law_rings : DS :=
 (sSeq (sPar 1 2 (eBlt (b1 gLen) (dCons (eRv 0) dNil)) (eBlt (b1 gLen) (dCons (e2 gIx (eRv 0) (eC (.int 0))) dNil)))
 (sSeq (sOwnD 3)
 (sSeq (sFor (iRng (eC (.int 0)) (eRv 1)) (.nm 4)
 (sFor (iRng (eC (.int 0)) (eRv 1)) (.nm 6)
 (sSeq (sOwn 7 (dSz dNil))
 (sSeq (sFor (iRng (eC (.int 0)) (eRv 2)) (.nm 8)
 (sIf (bAnd (tV (e2 (gIsN true) (e2 gIx (e2 gIx (eRv 0) (eRv 4)) (eRv 8)) (eC .non))) (tV (e2 (gIsN true) (e2 gIx (e2 gIx (eRv 0) (eRv 6)) (eRv 8)) (eC .non))))
 (sApp 7 (e2 gSub (e2 gSub (e2 gIx (e2 gIx (eRv 0) (eRv 4)) (eRv 8)) (e2 gIx (e2 gIx (eRv 0) (eRv 6)) (eRv 8))) (eC (.int 1))))
 sSkip))
 (sIf (tV (e2 gNe (eRv 7) (eNew (dSz dNil))))
 (sSetD 3 (eTup (dCons (ePv 4) (dCons (ePv 6) dNil))) (eBlt gMax (dCons (eRv 7) dNil)))
 sSkip)))))
 (sSeq (sFor (iRng (eC (.int 0)) (eRv 1)) (.nm 5)
 (sFor (iRng (eC (.int 0)) (eRv 1)) (.nm 4)
 (sFor (iRng (eC (.int 0)) (eRv 1)) (.nm 6)
 (sIf (bAnd (tV (e2 gDIn (eTup (dCons (ePv 4) (dCons (ePv 5) dNil))) (eRv 3))) (tV (e2 gDIn (eTup (dCons (ePv 5) (dCons (ePv 6) dNil))) (eRv 3))))
 (sSeq (sAsg (.nm 9) (e2 gAdd (e2 gDGet (eRv 3) (eTup (dCons (ePv 4) (dCons (ePv 5) dNil)))) (e2 gDGet (eRv 3) (eTup (dCons (ePv 5) (dCons (ePv 6) dNil))))))
 (sSetD 3 (eTup (dCons (ePv 4) (dCons (ePv 6) dNil))) (eBlt gMax (dCons (eRv 9) (dCons (eDGetD (eRv 3) (eTup (dCons (ePv 4) (dCons (ePv 6) dNil))) (ePv 9)) dNil)))))
 sSkip))))
 (sRet (e2 gEq (eNew (eComp (iRng (eC (.int 0)) (eRv 1)) (.nm 4) [4] (tV (e2 gGe (eDGetD (eRv 3) (eTup (dCons (ePv 4) (dCons (ePv 4) dNil))) (e2 gSub (eC (.int 0)) (eC (.int 1)))) (eC (.int 0)))) (ePv 4))) (eNew (dSz dNil))))))))
def f_law_rings : List D → Option D := fnD 1 b_law_rings
def b_law_same_bool : DS :=
 (sRet (eAnd (e1 (gIs .tbool) (eRv 0)) (e2 gEq (eRv 0) (eRv 1))))
def f_law_same_bool : List D → Option D := fnD 2 b_law_same_bool
def b_law_spoilt : DS :=
 (sSeq (sOwnLL 2 (eCompLL (iOf asS (ePv 0)) (.nm 4) [4] bYes (dBlt gList (dCons (eRv 4) dNil))))
 (sSeq (sFor (iRng (eC (.int 0)) (e2 gAdd (eC (.int 1)) (e2 gMod (e2 gIx (eRv 1) (eC (.int 0))) (eC (.int 2))))) (.nm 3)
 (sSeq (sAsg (.nm 4) (e2 gMod (e2 gIx (eRv 1) (e2 gAdd (eC (.int 1)) (eRv 3))) (eLenLL 2)))
 (sSeq (sAsg (.nm 5) (e2 gMod (e2 gIx (eRv 1) (e2 gAdd (eC (.int 3)) (eRv 3))) (eBlt (b1 gLen) (dCons (eIxLL 2 (eC (.int 0))) dNil))))
 (sSetLL 2 (ePv 4) (ePv 5) (e2 gAdd (e2 gIx (eIxLL 2 (eRv 4)) (eRv 5)) (e2 gIx (eNew (dSz (dCons (eC (.int 1)) (dCons (e2 gSub (eC (.int 0)) (eC (.int 1))) (dCons (eC (.int 2)) (dCons (e2 gSub (eC (.int 0)) (eC (.int 2))) (dCons (eC (.int 3)) dNil))))))) (e2 gMod (e2 gIx (eRv 1) (e2 gAdd (eC (.int 5)) (eRv 3))) (eC (.int 5)))))))))
 (sRet (eBlt (b1 gTuple) (dCons (eNew (eComp (iLL 2) (.nm 4) [4] bYes (eBlt (b1 gTuple) (dCons (eRv 4) dNil)))) dNil)))))
def f_law_spoilt : List D → Option D := fnD 2 b_law_spoilt
def b_law_table : DS :=
 (sSeq (sAsg (.nm 3) (e2 gAdd (eC (.int 1)) (e2 gMod (e2 gIx (eRv 0) (eC (.int 0))) (eC (.int 7)))))
 (sSeq (sAsg (.nm 4) (eNew (eComp (iRng (eC (.int 0)) (eRv 2)) (.nm 6) [6] bYes (e2 gMod (e2 gIx (eRv 0) (e2 gAdd (eC (.int 1)) (eRv 6))) (eC (.int 300))))))
 (sSeq (sAsg (.nm 5) (eNew (eComp (iRng (eC (.int 0)) (eRv 1)) (.nm 6) [6] bYes (e2 gSub (e2 gMod (e2 gIx (eRv 0) (e2 gAdd (eC (.int 7)) (eRv 6))) (eC (.int 400))) (eC (.int 100))))))
 (sSeq (sIf (tV (e2 gEq (e2 gMod (e2 gIx (eRv 0) (eC (.int 13))) (eC (.int 3))) (eC (.int 0))))
 (sAsg (.nm 4) (eNew (eComp (iOf asS (eCut (eRv 0) (oSome (eC (.int 1))) (oSome (e2 gAdd (eC (.int 1)) (eRv 2))))) (.nm 7) [7] bYes (e2 gAdd (e2 gIx (eRv 4) (eC (.int 0))) (e2 gMod (eRv 7) (eC (.int 5)))))))
 sSkip)
 (sRet (eBlt (b1 gTuple) (dCons (eNew (eComp (iOf asS (ePv 5)) (.nm 8) [8] bYes (eBlt (b1 gTuple) (dCons (eNew (eComp (iOf asS (ePv 4)) (.nm 9) [9] bYes (e2 gDiv (e2 gAdd (eRv 8) (eRv 9)) (eRv 3)))) dNil)))) dNil)))))))
def f_law_table : List D → Option D := fnD 3 b_law_table
def b_bounds : DS :=
 (sSeq (sPar 1 2 (eBlt (b1 gLen) (dCons (eRv 0) dNil)) (eBlt (b1 gLen) (dCons (e2 gIx (eRv 0) (eC (.int 0))) dNil)))
 (sSeq (sPar 3 4 (e2 gAdd (e2 gAdd (eRv 1) (eRv 2)) (eC (.int 1))) (eNew (dRng (eC (.int 0)) (e2 gAdd (eRv 1) (eRv 2)))))
 (sSeq (sOwnD 5)
 (sSeq (sFor (iOf asS (ePv 4)) (.nm 6)
 (sSetD 5 (eTup (dCons (ePv 6) (dCons (ePv 6) dNil))) (eC (.int 0))))
 (sSeq (sFor (iRng (eC (.int 0)) (eRv 1)) (.nm 7)
 (sFor (iRng (eC (.int 0)) (eRv 2)) (.nm 9)
 (sSeq (sAsg (.nm 10) (e2 gIx (e2 gIx (eRv 0) (eRv 7)) (eRv 9)))
 (sIf (tV (e2 (gIsN true) (eRv 10) (eC .non)))
 (sSeq (sSetD 5 (eTup (dCons (ePv 7) (dCons (e2 gAdd (eRv 1) (eRv 9)) dNil))) (e2 gMul (eNeg (ePv 10)) (eRv 3)))
 (sSetD 5 (eTup (dCons (e2 gAdd (eRv 1) (eRv 9)) (dCons (ePv 7) dNil))) (e2 gSub (e2 gMul (e2 gAdd (eRv 10) (eC (.int 1))) (eRv 3)) (eC (.int 1)))))
 sSkip))))
 (sSeq (sFor (iOf asS (ePv 4)) (.nm 8)
 (sFor (iOf asS (ePv 4)) (.nm 6)
 (sFor (iOf asS (ePv 4)) (.nm 11)
 (sIf (bAnd (tV (e2 gDIn (eTup (dCons (ePv 6) (dCons (ePv 8) dNil))) (eRv 5))) (tV (e2 gDIn (eTup (dCons (ePv 8) (dCons (ePv 11) dNil))) (eRv 5))))
 (sSeq (sAsg (.nm 12) (e2 gAdd (e2 gDGet (eRv 5) (eTup (dCons (ePv 6) (dCons (ePv 8) dNil)))) (e2 gDGet (eRv 5) (eTup (dCons (ePv 8) (dCons (ePv 11) dNil))))))
 (sIf (tV (e2 gLt (eRv 12) (eDGetD (eRv 5) (eTup (dCons (ePv 6) (dCons (ePv 11) dNil))) (e2 gAdd (eRv 12) (eC (.int 1))))))
 (sSetD 5 (eTup (dCons (ePv 6) (dCons (ePv 11) dNil))) (ePv 12))
 sSkip))
 sSkip))))
 (sPre 5 (sRet (eIf (tV (eBlt (b1 gAll) (dCons (eNew (eComp (iOf asS (ePv 4)) (.nm 6) [6] bYes (e2 gEq (e2 gDGet (eRv 5) (eTup (dCons (ePv 6) (dCons (ePv 6) dNil)))) (eC (.int 0))))) dNil))) (ePv 5) (eC .non))))))))))
def f_bounds : List D → Option D := fnD 1 b_bounds
def b_entry_range : DS :=
 (sSeq (sAsg (.nm 3) (eCall f_bounds (dCons (ePv 0) dNil)))
 (sSeq (sIf (tV (e2 (gIsN false) (eRv 3) (eC .non)))
 (sRet (eC .non))
 sSkip)
 (sSeq (sPar 4 5 (e2 gAdd (e2 gAdd (eBlt (b1 gLen) (dCons (eRv 0) dNil)) (eBlt (b1 gLen) (dCons (e2 gIx (eRv 0) (eC (.int 0))) dNil))) (eC (.int 1))) (e2 gAdd (eBlt (b1 gLen) (dCons (eRv 0) dNil)) (eRv 2)))
 (sSeq (sAsg (.tp [6, 7]) (eTup (dCons (eC .non) (dCons (eC .non) dNil))))
 (sSeq (sIf (tV (e2 gDIn (eTup (dCons (ePv 1) (dCons (ePv 5) dNil))) (eRv 3)))
 (sAsg (.nm 6) (e2 gDiv (eNeg (e2 gDGet (eRv 3) (eTup (dCons (ePv 1) (dCons (ePv 5) dNil))))) (eRv 4)))
 sSkip)
 (sSeq (sIf (tV (e2 gDIn (eTup (dCons (ePv 5) (dCons (ePv 1) dNil))) (eRv 3)))
 (sAsg (.nm 7) (e2 gDiv (e2 gDGet (eRv 3) (eTup (dCons (ePv 5) (dCons (ePv 1) dNil)))) (eRv 4)))
 sSkip)
 (sRet (eTup (dCons (ePv 6) (dCons (ePv 7) dNil))))))))))
def f_entry_range : List D → Option D := fnD 3 b_entry_range
def b_filled : DS :=
 (sSeq (sIf (tV (e2 (gIsN false) (eCall f_bounds (dCons (ePv 0) dNil)) (eC .non)))
 (sRet (eC .non))
 sSkip)
 (sSeq (sOwnLL 1 (eCompLL (iOf asS (ePv 0)) (.nm 2) [2] bYes (dBlt gList (dCons (eRv 2) dNil))))
 (sSeq (sFor (iRng (eC (.int 0)) (eLenLL 1)) (.nm 2)
 (sFor (iRng (eC (.int 0)) (eBlt (b1 gLen) (dCons (eIxLL 1 (eC (.int 0))) dNil))) (.nm 3)
 (sIf (tV (e2 (gIsN false) (e2 gIx (eIxLL 1 (eRv 2)) (eRv 3)) (eC .non)))
 (sSeq (sAsg (.nm 4) (eBlt (b1 gTuple) (dCons (eNew (eComp (iLL 1) (.nm 7) [7] bYes (eBlt (b1 gTuple) (dCons (eRv 7) dNil)))) dNil)))
 (sSeq (sAsg (.tp [5, 6]) (eCall f_entry_range (dCons (ePv 4) (dCons (ePv 2) (dCons (ePv 3) dNil)))))
 (sSetLL 1 (ePv 2) (ePv 3) (eIf (tV (e2 (gIsN true) (eRv 5) (eC .non))) (ePv 5) (eIf (tV (e2 (gIsN true) (eRv 6) (eC .non))) (ePv 6) (eC (.int 0)))))))
 sSkip)))
 (sRet (eBlt (b1 gTuple) (dCons (eNew (eComp (iLL 1) (.nm 7) [7] bYes (eBlt (b1 gTuple) (dCons (eRv 7) dNil)))) dNil))))))
def f_filled : List D → Option D := fnD 1 b_filled
def b_fits : DS :=
 (sRet (e2 (gIsN true) (eCall f_bounds (dCons (ePv 0) dNil)) (eC .non)))
def f_fits : List D → Option D := fnD 1 b_fits
def b_law_k07 : DS :=
 (sSeq (sFor (iRng (eC (.int 0)) (eC (.int 8))) (.nm 1)
 (sSeq (sAsg (.nm 2) (eCall f_law_digits (dCons (ePv 0) (dCons (ePv 1) (dCons (eC (.int 60)) (dCons (eC (.int 27720)) dNil))))))
 (sSeq (sAsg (.nm 3) (eCall f_law_table (dCons (ePv 2) (dCons (e2 gAdd (eC (.int 1)) (e2 gMod (e2 gIx (eRv 2) (eC (.int 50))) (eC (.int 6)))) (dCons (e2 gAdd (eC (.int 1)) (e2 gMod (e2 gIx (eRv 2) (eC (.int 51))) (eC (.int 6)))) dNil)))))
 (sSeq (sFor (iRng (eC (.int 0)) (eC (.int 3))) (.nm 4)
 (sSeq (sAsg (.nm 5) (eIf (tV (e2 gEq (eRv 4) (eC (.int 0)))) (ePv 3) (eCall f_law_spoilt (dCons (ePv 3) (dCons (eCut (eRv 2) (oSome (e2 gAdd (eC (.int 14)) (e2 gMul (eC (.int 8)) (eRv 4)))) oNo) dNil)))))
 (sSeq (sAsg (.nm 6) (eCall f_law_hidden (dCons (ePv 5) (dCons (eCut (eRv 2) (oSome (e2 gAdd (eC (.int 30)) (eRv 4))) (oSome (eC (.int 50)))) (dCons (e2 gAdd (eC (.int 2)) (eRv 4)) dNil)))))
 (sSeq (sPar 7 8 (eCall f_law_rings (dCons (ePv 6) dNil)) (eCall f_filled (dCons (ePv 6) dNil)))
 (sSeq (sIf (bOr (bNot (tV (eCall f_law_same_bool (dCons (eCall f_fits (dCons (ePv 6) dNil)) (dCons (ePv 7) dNil))))) (tV (e2 gEq (e2 (gIsN false) (eRv 8) (eC .non)) (eRv 7))))
 (sRet (eC (.bl false)))
 sSkip)
 (sSeq (sIf (bAnd (tV (e2 (gIsN true) (eRv 8) (eC .non))) (bNot (tV (eCall f_law_right (dCons (ePv 6) (dCons (ePv 8) dNil))))))
 (sRet (eC (.bl false)))
 sSkip)
 (sIf (bAnd (tV (e2 gEq (eRv 4) (eC (.int 0)))) (bNot (tV (ePv 7))))
 (sRet (eC (.bl false)))
 sSkip)))))))
 (sIf (bOr (tV (e2 gNe (eCall f_filled (dCons (ePv 3) dNil)) (eRv 3))) (tV (e2 (gIsB true) (eCall f_fits (dCons (ePv 3) dNil)) (eC (.bl true)))))
 (sRet (eC (.bl false)))
 sSkip)))))
 (sSeq (sIf (bOr (tV (e2 (gIsB true) (eCall f_fits (dCons (eTup (dCons (eTup (dCons (eC (.int 5)) (dCons (eC (.int 0)) (dCons (eC .non) dNil)))) (dCons (eTup (dCons (eC .non) (dCons (eC (.int 0)) (dCons (eC (.int 0)) dNil)))) (dCons (eTup (dCons (eC (.int 3)) (dCons (eC .non) (dCons (eC (.int 0)) dNil)))) dNil)))) dNil)) (eC (.bl true)))) (tV (e2 (gIsN true) (eCall f_filled (dCons (eTup (dCons (eTup (dCons (eC (.int 1)) (dCons (eC (.int 2)) dNil))) (dCons (eTup (dCons (eC (.int 3)) (dCons (eC (.int 6)) dNil))) dNil))) dNil)) (eC .non))))
 (sRet (eC (.bl false)))
 sSkip)
 (sRet (eAnd (e2 (gIsB false) (eCall f_fits (dCons (eTup (dCons (eTup (dCons (eC (.int 5)) (dCons (eC (.int 0)) (dCons (eC .non) dNil)))) (dCons (eTup (dCons (eC .non) (dCons (eC (.int 0)) (dCons (eC (.int 0)) dNil)))) (dCons (eTup (dCons (eC (.int 2)) (dCons (eC .non) (dCons (eC (.int 0)) dNil)))) dNil)))) dNil)) (eC (.bl false))) (e2 (gIsB false) (eCall f_fits (dCons (eTup (dCons (eTup (dCons (eC .non) (dCons (eC .non) dNil))) (dCons (eTup (dCons (eC .non) (dCons (eC .non) dNil))) dNil))) dNil)) (eC (.bl true)))))))
def f_law_k07 : List D → Option D := fnD 1 b_law_k07

end PL

namespace PL
/-! ## the numbers of a real table: plain -/
def cr (t : List (List Int)) (i j a b : Int) : Int := en t i a + en t j b - en t i b - en t j a
def RealT (t : List (List Int)) (m w : Nat) : Prop := ∀ i j a b : Int, 0 ≤ i → i < j → j < m → 0 ≤ a → a < b → b < w → -1 ≤ cr t i j a b ∧ cr t i j a b ≤ 1
theorem real_all {t : List (List Int)} {m w : Nat} (h : RealT t m w) {i j a b : Int} (hi : 0 ≤ i ∧ i < m) (hj : 0 ≤ j ∧ j < m) (ha : 0 ≤ a ∧ a < w) (hb : 0 ≤ b ∧ b < w) : -1 ≤ cr t i j a b ∧ cr t i j a b ≤ 1 := by
  have k := h i j a b
  have k1 := h j i a b
  have k2 := h i j b a
  have k3 := h j i b a
  unfold cr at *
  rcases Int.lt_trichotomy i j with h1 | h1 | h1
  · rcases Int.lt_trichotomy a b with h2 | h2 | h2
    · exact k hi.1 h1 hj.2 ha.1 h2 hb.2
    · subst h2; omega
    · have := k2 hi.1 h1 hj.2 hb.1 h2 ha.2; omega
  · subst h1; omega
  · rcases Int.lt_trichotomy a b with h2 | h2 | h2
    · have := k1 hj.1 h1 hi.2 ha.1 h2 hb.2; omega
    · subst h2; omega
    · have := k3 hj.1 h1 hi.2 hb.1 h2 ha.2; omega
theorem div4 {u A B C E : Int} (hu : 0 < u) (h : A + B = C + E) : -1 ≤ A / u + B / u - C / u - E / u ∧ A / u + B / u - C / u - E / u ≤ 1 := by
  have h1 := Int.mul_ediv_add_emod A u
  have h2 := Int.mul_ediv_add_emod B u
  have h3 := Int.mul_ediv_add_emod C u
  have h4 := Int.mul_ediv_add_emod E u
  have a1 := Int.emod_nonneg A (Int.ne_of_gt hu)
  have a2 := Int.emod_nonneg B (Int.ne_of_gt hu)
  have a3 := Int.emod_nonneg C (Int.ne_of_gt hu)
  have a4 := Int.emod_nonneg E (Int.ne_of_gt hu)
  have b1 := Int.emod_lt_of_pos A hu
  have b2 := Int.emod_lt_of_pos B hu
  have b3 := Int.emod_lt_of_pos C hu
  have b4 := Int.emod_lt_of_pos E hu
  have e : u * (A / u + B / u - C / u - E / u) = u * (A / u) + u * (B / u) - u * (C / u) - u * (E / u) := by rw [Int.mul_sub, Int.mul_sub, Int.mul_add]
  have l1 : u * (A / u + B / u - C / u - E / u) < u * 2 := by omega
  have l2 : u * (-2) < u * (A / u + B / u - C / u - E / u) := by omega
  have := Int.lt_of_mul_lt_mul_left l1 (Int.le_of_lt hu)
  have := Int.lt_of_mul_lt_mul_left l2 (Int.le_of_lt hu)
  omega
theorem mkT_real {u : Int} {R C : List Int} (hu : 0 < u) : RealT (mkT u R C) R.length C.length := by
  intro i j a b h1 h2 h3 h4 h5 h6
  unfold cr
  rw [mkT_en ⟨h1, by omega⟩ ⟨h4, by omega⟩, mkT_en ⟨by omega, h3⟩ ⟨by omega, h6⟩, mkT_en ⟨h1, by omega⟩ ⟨by omega, h6⟩, mkT_en ⟨by omega, h3⟩ ⟨h4, by omega⟩]
  exact div4 hu (by omega)
theorem fmin_le' : ∀ (l : List Int) (a : Int), l.foldl min a ≤ a ∧ ∀ x ∈ l, l.foldl min a ≤ x
  | [], a => ⟨Int.le_refl _, by simp⟩
  | b :: l, a => by
    obtain ⟨h1, h2⟩ := fmin_le' l (min a b)
    rw [List.foldl_cons]
    refine ⟨by omega, fun x hx => ?_⟩
    rcases List.mem_cons.mp hx with rfl | hx
    · omega
    · exact h2 x hx
theorem fmin_mem' : ∀ (l : List Int) (a : Int), l.foldl min a = a ∨ l.foldl min a ∈ l
  | [], a => .inl rfl
  | b :: l, a => by
    rw [List.foldl_cons]
    rcases fmin_mem' l (min a b) with h | h
    · rw [h]
      by_cases hab : a ≤ b
      · left; omega
      · right; rw [show min a b = b by omega]; exact List.mem_cons_self
    · exact .inr (List.mem_cons_of_mem _ h)
theorem mn_le {l : List Int} {x : Int} (h : x ∈ l) : mn l ≤ x := by
  cases l with
  | nil => cases h
  | cons a l =>
    rcases List.mem_cons.mp h with rfl | h
    · exact (fmin_le' l x).1
    · exact (fmin_le' l a).2 x h
theorem mn_mem {l : List Int} (h : l ≠ []) : mn l ∈ l := by
  cases l with
  | nil => exact absurd rfl h
  | cons a l =>
    show l.foldl min a ∈ _
    rcases fmin_mem' l a with h | h
    · rw [h]; exact List.mem_cons_self
    · exact List.mem_cons_of_mem _ h
theorem mem_ix {l : List Int} {x : Int} (h : x ∈ l) : ∃ i : Int, 0 ≤ i ∧ i < l.length ∧ gi l i = x := by
  obtain ⟨i, h1, h2⟩ := List.mem_iff_getElem.mp h
  refine ⟨i, by omega, by omega, ?_⟩
  unfold gi
  rw [getD_get _ _ (by simpa using h1)]
  simpa using h2
theorem gi_zip {a b : List Int} {f : Int × Int → Int} {i : Int} (ha : 0 ≤ i ∧ i < a.length) (hb : i < b.length) : gi ((a.zip b).map f) i = f (gi a i, gi b i) := by
  unfold gi
  rw [getD_get _ _ (by rw [List.length_map, List.length_zip]; omega), List.getElem_map, List.getElem_zip, getD_get _ _ (by omega), getD_get _ _ (by omega)]
theorem mem_zip_ix {a b : List Int} {p : Int × Int} (h : p ∈ a.zip b) : ∃ i : Int, 0 ≤ i ∧ i < a.length ∧ i < b.length ∧ p = (gi a i, gi b i) := by
  obtain ⟨i, h1, h2⟩ := List.mem_iff_getElem.mp h
  rw [List.length_zip] at h1
  refine ⟨i, by omega, by omega, by omega, ?_⟩
  rw [List.getElem_zip] at h2
  unfold gi
  rw [getD_get _ _ (by simp; omega), getD_get _ _ (by simp; omega)]
  simp only [Int.toNat_natCast]
  exact h2.symm
theorem zip_mem_ix {a b : List Int} {i : Int} (h0 : 0 ≤ i) (h1 : i < a.length) (h2 : i < b.length) : (gi a i, gi b i) ∈ a.zip b := by
  unfold gi
  rw [getD_get _ _ (by omega), getD_get _ _ (by omega)]
  rw [List.mem_iff_getElem]
  exact ⟨i.toNat, by rw [List.length_zip]; omega, by rw [List.getElem_zip]⟩
theorem sum_le {α : Type} {f g : α → Int} : ∀ {l : List α}, (∀ x ∈ l, f x ≤ g x) → (l.map f).sum ≤ (l.map g).sum
  | [], _ => Int.le_refl _
  | a :: l, h => by
    rw [List.map_cons, List.map_cons, List.sum_cons, List.sum_cons]
    have h1 := h a List.mem_cons_self
    have h2 := sum_le fun x hx => h x (List.mem_cons_of_mem _ hx)
    omega
theorem sum_lt {α : Type} {f g : α → Int} {y : α} : ∀ {l : List α}, (∀ x ∈ l, f x ≤ g x) → y ∈ l → f y < g y → (l.map f).sum < (l.map g).sum
  | a :: l, h, hy, hl => by
    rw [List.map_cons, List.map_cons, List.sum_cons, List.sum_cons]
    have h1 := h a List.mem_cons_self
    have h2 := sum_le fun x hx => h x (List.mem_cons_of_mem _ hx)
    rcases List.mem_cons.mp hy with rfl | hy
    · omega
    · have := sum_lt (fun x hx => h x (List.mem_cons_of_mem _ hx)) hy hl
      omega
theorem sum_const {α : Type} (c : Int) : ∀ l : List α, (l.map fun _ => c).sum = c * l.length
  | [] => by simp
  | a :: l => by rw [List.map_cons, List.sum_cons, sum_const c l, List.length_cons, Int.natCast_add, Int.mul_add]; simp; omega
/-- steps of a row above the first one -/
def stp (t : List (List Int)) (r : List Int) : List Int := (r.zip (row t 0)).map fun p => p.1 - p.2
def rsd (s : List Int) : List Int := s.map fun x => x - mn s
def cnt (t : List (List Int)) (w : Nat) : List Int := (List.range w).map fun (j : Nat) => (((t.map (stp t)).map rsd).map fun s => gi s (j : Int)).sum
def cols (t : List (List Int)) (w : Nat) (u : Int) : List Int := ((row t 0).zip (cnt t w)).map fun p => p.1 * u + p.2
def high (c : List Int) (e : List Int) : List Int := ((c.zip e).filter fun p => decide (0 < p.2)).map fun p => p.1
def rowN (u : Int) (c : List Int) (p : List Int × List Int) : Int := mn p.1 * u + (if (!decide (high c p.2 = [])) = true then u - mn (high c p.2) else 0)
def rowsN (t : List (List Int)) (w : Nat) (u : Int) : List Int := ((t.map (stp t)).zip ((t.map (stp t)).map rsd)).map (rowN u (cnt t w))
section
variable {t : List (List Int)} {m w : Nat}
theorem stp_len (ht : Rect t m w) (hm : 1 ≤ m) {r : List Int} (hr : r ∈ t) : (stp t r).length = w := by
  unfold stp
  rw [List.length_map, List.length_zip, ht.2 r hr, len_row ht (by omega)]; omega
theorem stp_gi (ht : Rect t m w) (hm : 1 ≤ m) {r : List Int} (hr : r ∈ t) {j : Int} (hj : 0 ≤ j ∧ j < w) : gi (stp t r) j = gi r j - en t 0 j := by
  unfold stp
  have := ht.2 r hr
  have := len_row ht (i := 0) (by omega)
  rw [gi_zip (by omega) (by omega)]
theorem rsd_gi {s : List Int} {j : Int} (hj : 0 ≤ j ∧ j < s.length) : gi (rsd s) j = gi s j - mn s := gi_map hj
theorem rsd_len {s : List Int} : (rsd s).length = s.length := List.length_map _
/-- raised by 0 or 1 -/
theorem rsd_01 (ht : Rect t m w) (hm : 1 ≤ m) (hw : 1 ≤ w) (hR : RealT t m w) {i : Int} (hi : 0 ≤ i ∧ i < m) {j : Int} (hj : 0 ≤ j ∧ j < w) : 0 ≤ gi (rsd (stp t (row t i))) j ∧ gi (rsd (stp t (row t i))) j ≤ 1 := by
  have hr : row t i ∈ t := mem_row ⟨hi.1, by have := ht.1; omega⟩
  have hl := stp_len ht hm hr
  rw [rsd_gi (by omega)]
  have h1 : mn (stp t (row t i)) ≤ gi (stp t (row t i)) j := mn_le (mem_gi (by omega))
  obtain ⟨k, k0, k1, k2⟩ := mem_ix (mn_mem (l := stp t (row t i)) (by intro h; rw [h] at hl; simp at hl; omega))
  rw [← k2] at h1 ⊢
  rw [stp_gi ht hm hr hj, stp_gi ht hm hr (by omega)] at *
  have := real_all hR hi (j := 0) (by omega) hj (b := k) (by omega)
  unfold cr en at *
  omega
theorem cnt_gi (t : List (List Int)) {w : Nat} {j : Int} (hj : 0 ≤ j ∧ j < w) : gi (cnt t w) j = (t.map fun r => gi (rsd (stp t r)) j).sum := by
  unfold cnt
  rw [gi_rng hj, List.map_map, List.map_map]
  have e : ((j.toNat : Nat) : Int) = j := Int.toNat_of_nonneg hj.1
  show (t.map ((fun s => gi s ((j.toNat : Nat) : Int)) ∘ rsd ∘ stp t)).sum = _
  rw [e]; rfl
theorem cnt_len (t : List (List Int)) (w : Nat) : (cnt t w).length = w := by unfold cnt; rw [List.length_map, List.length_range]
theorem cnt_bd (ht : Rect t m w) (hm : 1 ≤ m) (hw : 1 ≤ w) (hR : RealT t m w) {j : Int} (hj : 0 ≤ j ∧ j < w) : 0 ≤ gi (cnt t w) j ∧ gi (cnt t w) j ≤ m := by
  rw [cnt_gi t hj]
  have h1 : ∀ r ∈ t, 0 ≤ gi (rsd (stp t r)) j ∧ gi (rsd (stp t r)) j ≤ 1 := by
    intro r hr
    obtain ⟨i, h1, h2⟩ := List.mem_iff_getElem.mp hr
    have : r = row t i := by unfold row; rw [getD_get _ _ (by simpa using h1)]; simpa using h2.symm
    rw [this]
    exact rsd_01 ht hm hw hR ⟨by omega, by have := ht.1; omega⟩ hj
  have a := sum_le (f := fun _ => (0 : Int)) (g := fun r => gi (rsd (stp t r)) j) fun r hr => (h1 r hr).1
  have b := sum_le (f := fun r => gi (rsd (stp t r)) j) (g := fun _ => (1 : Int)) fun r hr => (h1 r hr).2
  rw [sum_const] at a b
  have := ht.1
  omega
/-- raised alone in one row: counted more -/
theorem cnt_lt (ht : Rect t m w) (hm : 1 ≤ m) (hw : 1 ≤ w) (hR : RealT t m w) {i : Int} (hi : 0 ≤ i ∧ i < m) {j k : Int} (hj : 0 ≤ j ∧ j < w) (hk : 0 ≤ k ∧ k < w) (e0 : gi (rsd (stp t (row t i))) j = 0) (e1 : gi (rsd (stp t (row t i))) k = 1) : gi (cnt t w) j < gi (cnt t w) k := by
  rw [cnt_gi t hj, cnt_gi t hk]
  have hri : row t i ∈ t := mem_row ⟨hi.1, by have := ht.1; omega⟩
  refine sum_lt (y := row t i) (fun r hr => ?_) hri (by omega)
  obtain ⟨i', h1, h2⟩ := List.mem_iff_getElem.mp hr
  have hi' : 0 ≤ (i' : Int) ∧ (i' : Int) < m := ⟨by omega, by have := ht.1; omega⟩
  have : r = row t i' := by unfold row; rw [getD_get _ _ (by simpa using h1)]; simpa using h2.symm
  subst this
  have b1 := rsd_01 ht hm hw hR hi' hj
  have b2 := rsd_01 ht hm hw hR hi' hk
  have l1 := stp_len ht hm hri
  have l2 := stp_len ht hm hr
  rw [rsd_gi (by omega), stp_gi ht hm hri (by omega)] at e0 e1
  rw [rsd_gi (by omega), stp_gi ht hm hr (by omega)] at b1 b2 ⊢
  rw [rsd_gi (by omega), stp_gi ht hm hr (by omega)]
  have := real_all hR hi hi' hj hk
  unfold cr en at *
  omega
theorem rowsN_len (t : List (List Int)) (w : Nat) (u : Int) : (rowsN t w u).length = t.length := by
  unfold rowsN
  rw [List.length_map, List.length_zip, List.length_map, List.length_map, List.length_map]; omega
theorem cols_len (ht : Rect t m w) (hm : 1 ≤ m) (u : Int) : (cols t w u).length = w := by
  unfold cols
  rw [List.length_map, List.length_zip, cnt_len, len_row ht (by omega)]; omega
theorem rowsN_gi (ht : Rect t m w) (u : Int) {i : Int} (hi : 0 ≤ i ∧ i < m) : gi (rowsN t w u) i = rowN u (cnt t w) (stp t (row t i), rsd (stp t (row t i))) := by
  have := ht.1
  have hl := rowsN_len t w u
  unfold rowsN gi row at *
  rw [getD_get _ _ (by omega), getD_get _ _ (by omega), List.getElem_map, List.getElem_zip, List.getElem_map, List.getElem_map, List.getElem_map]
theorem cols_gi (ht : Rect t m w) (hm : 1 ≤ m) (u : Int) {j : Int} (hj : 0 ≤ j ∧ j < w) : gi (cols t w u) j = en t 0 j * u + gi (cnt t w) j := by
  unfold cols
  rw [gi_zip (by rw [len_row ht (by omega)]; omega) (by rw [cnt_len]; omega)]
theorem made_iff (ht : Rect t m w) (hm : 1 ≤ m) (hw : 1 ≤ w) : mkT (m + 1) (rowsN t w (m + 1)) (cols t w (m + 1)) = t ↔ RealT t m w := by
  have l1 := rowsN_len t w (m + 1)
  have l2 := cols_len ht hm (m + 1)
  have l0 := ht.1
  constructor
  · intro h
    have := mkT_real (u := m + 1) (R := rowsN t w (m + 1)) (C := cols t w (m + 1)) (by omega)
    rw [h, l1, l2, l0] at this
    exact this
  · intro hR
    have hrec := mkT_rect (u := m + 1) (R := rowsN t w (m + 1)) (C := cols t w (m + 1))
    rw [l1, l2, l0] at hrec
    refine ext_rect hrec ht fun i j i0 i1 j0 j1 => ?_
    rw [mkT_en (by omega) (by omega), rowsN_gi ht _ ⟨i0, i1⟩, cols_gi ht hm _ ⟨j0, j1⟩]
    have hri : row t i ∈ t := mem_row ⟨i0, by omega⟩
    have ls := stp_len ht hm hri
    have lc := cnt_len t w
    have cb := cnt_bd ht hm hw hR ⟨j0, j1⟩
    have e01 := rsd_01 ht hm hw hR ⟨i0, i1⟩ ⟨j0, j1⟩
    have hen : en t i j = en t 0 j + mn (stp t (row t i)) + gi (rsd (stp t (row t i))) j := by
      rw [rsd_gi (by omega), stp_gi ht hm hri ⟨j0, j1⟩]; unfold en; omega
    rw [hen]
    unfold rowN
    dsimp only
    generalize hs : stp t (row t i) = s at *
    have key : ∀ x : Int, 0 ≤ x → (x < m + 1 → gi (rsd s) j = 0) → (m + 1 ≤ x → gi (rsd s) j = 1) → x < 2 * (m + 1) → (mn s * (↑m + 1) + (x - gi (cnt t w) j) + (en t 0 j * (↑m + 1) + gi (cnt t w) j)) / (↑m + 1) = en t 0 j + mn s + gi (rsd s) j := by
      intro x x0 h1 h2 h3
      have e : mn s * (↑m + 1) + (x - gi (cnt t w) j) + (en t 0 j * (↑m + 1) + gi (cnt t w) j) = x + (↑m + 1) * (mn s + en t 0 j) := by
        generalize (m : Int) + 1 = M
        rw [Int.mul_comm (mn s) M, Int.mul_comm (en t 0 j) M, Int.mul_add]; omega
      rw [e, Int.add_mul_ediv_left _ _ (by omega)]
      by_cases hx : x < m + 1
      · rw [h1 hx, Int.ediv_eq_zero_of_lt x0 hx]; omega
      · have : x / (↑m + 1) = 1 := by
          have : x = (x - (m + 1)) + (m + 1) * 1 := by omega
          rw [this, Int.add_mul_ediv_left _ _ (by omega), Int.ediv_eq_zero_of_lt (by omega) (by omega)]; rfl
        rw [this, h2 (by omega)]; omega
    have lrs : (rsd s).length = w := rsd_len.trans ls
    have inH : ∀ k : Int, 0 ≤ k → k < w → 0 < gi (rsd s) k → gi (cnt t w) k ∈ high (cnt t w) (rsd s) := by
      intro k k0 k1 hk
      unfold high
      refine List.mem_map.mpr ⟨(gi (cnt t w) k, gi (rsd s) k), List.mem_filter.mpr ⟨zip_mem_ix k0 (by omega) (by omega), by simpa using hk⟩, rfl⟩
    have ofH : ∀ x ∈ high (cnt t w) (rsd s), ∃ k : Int, 0 ≤ k ∧ k < w ∧ gi (rsd s) k = 1 ∧ x = gi (cnt t w) k := by
      intro x hx
      unfold high at hx
      obtain ⟨p, hp, rfl⟩ := List.mem_map.mp hx
      obtain ⟨hp, hq⟩ := List.mem_filter.mp hp
      obtain ⟨k, k0, k1, k2, rfl⟩ := mem_zip_ix hp
      have hq := of_decide_eq_true hq
      have := rsd_01 ht hm hw hR ⟨i0, i1⟩ (j := k) ⟨k0, by omega⟩
      rw [hs] at this
      dsimp only at hq
      exact ⟨k, k0, by omega, by omega, rfl⟩
    by_cases hH : high (cnt t w) (rsd s) = []
    · have z : gi (rsd s) j = 0 := by
        by_cases hz : 0 < gi (rsd s) j
        · have := inH j j0 j1 hz
          rw [hH] at this; cases this
        · omega
      rw [if_neg (by simp [hH])]
      have := key (gi (cnt t w) j) cb.1 (fun _ => z) (by omega) (by omega)
      rw [Int.sub_self] at this
      exact this
    · rw [if_pos (by simp [hH])]
      obtain ⟨k, k0, k1, k2, k3⟩ := ofH _ (mn_mem hH)
      have ck := cnt_bd ht hm hw hR ⟨k0, k1⟩
      have := key (m + 1 - mn (high (cnt t w) (rsd s)) + gi (cnt t w) j) (by omega) ?_ ?_ (by omega)
      · rw [show (m : Int) + 1 - mn (high (cnt t w) (rsd s)) + gi (cnt t w) j - gi (cnt t w) j = m + 1 - mn (high (cnt t w) (rsd s)) by omega] at this
        exact this
      · intro hx
        by_cases hz : 0 < gi (rsd s) j
        · have := mn_le (inH j j0 j1 hz); omega
        · omega
      · intro hx
        by_cases hz : gi (rsd s) j = 0
        · have := cnt_lt ht hm hw hR ⟨i0, i1⟩ ⟨j0, j1⟩ ⟨k0, k1⟩ (by rw [hs]; exact hz) (by rw [hs]; exact k2)
          omega
        · omega
end
end PL

namespace PL
open PySem PySem.Spec PyProof.Rows L2
/-! ## more evaluation rules -/
section
variable {ρ : DEnv} {it it2 : DI} {tg tg2 : Tg} {ws ws2 : List Nat} {cond : DB} {elt a : DE} {α β : Type}
theorem ev_compL (xs : List α) (f : α → D) (c : α → Bool) (g : α → D) (hs : ∀ x ∈ xs, ∃ ρ1, bindT tg (.p (f x)) (ρ.wipe ws) = some ρ1 ∧ cond ρ1 = some (c x) ∧ (c x = true → elt ρ1 = some (g x))) :
    compL tg ws cond elt ρ ((xs.map f).map .p) = some ((xs.filter c).map g) := by
  induction xs with
  | nil => rfl
  | cons x l ih =>
    obtain ⟨ρ1, b1, b2, b3⟩ := hs x List.mem_cons_self
    rw [List.map_cons, List.map_cons]
    unfold compL
    have ih' := ih fun y hy => hs y (List.mem_cons_of_mem _ hy)
    rw [b1]
    simp only [Option.bind_some, b2, ih']
    cases hc : c x with
    | true => rw [List.filter_cons_of_pos hc, if_pos rfl, b3 hc]; rfl
    | false => rw [List.filter_cons_of_neg (by rw [hc]; decide), if_neg (by decide)]
theorem ev_comp2 (xs : List α) (f : α → D) (ys : α → List β) (g : β → D) (c : α → β → Bool) (h : α → β → D) (hit : it ρ = some ((xs.map f).map .p))
    (hs : ∀ x ∈ xs, ∃ ρ1, bindT tg (.p (f x)) (ρ.wipe ws) = some ρ1 ∧ it2 ρ1 = some (((ys x).map g).map .p) ∧ ∀ y ∈ ys x, ∃ ρ2, bindT tg2 (.p (g y)) (ρ1.wipe ws2) = some ρ2 ∧ cond ρ2 = some (c x y) ∧ (c x y = true → elt ρ2 = some (h x y)))
    (hl : (xs.flatMap fun x => ((ys x).filter (c x)).map (h x)).length ≤ 16777216) : eComp2 it tg ws it2 tg2 ws2 cond elt ρ = some (xs.flatMap fun x => ((ys x).filter (c x)).map (h x)) := by
  have main : ∀ l : List α, (∀ x ∈ l, x ∈ xs) → compL2 tg ws it2 tg2 ws2 cond elt ρ ((l.map f).map .p) = some (l.flatMap fun x => ((ys x).filter (c x)).map (h x)) := by
    intro l
    induction l with
    | nil => intro _; rfl
    | cons x l ih =>
      intro hm
      obtain ⟨ρ1, b1, b2, b3⟩ := hs x (hm x List.mem_cons_self)
      rw [List.map_cons, List.map_cons]
      unfold compL2
      rw [b1]
      simp only [Option.bind_some, b2, ev_compL (ys x) g (c x) (h x) b3, ih fun y hy => hm y (List.mem_cons_of_mem _ hy), Option.map_some, List.flatMap_cons]
  unfold eComp2
  rw [hit, Option.bind_some, main xs fun _ h => h, Option.bind_some, if_pos (szB_of hl)]
theorem flatMap_len {γ : Type} (f : α → List γ) (k : Nat) : ∀ xs : List α, (∀ x ∈ xs, (f x).length ≤ k) → (xs.flatMap f).length ≤ xs.length * k
  | [], _ => by simp
  | x :: xs, h => by
    rw [List.flatMap_cons, List.length_append, List.length_cons, Nat.add_mul]
    have h1 := h x List.mem_cons_self
    have h2 := flatMap_len f k xs fun y hy => h y (List.mem_cons_of_mem _ hy)
    omega
theorem g_all (bs : List Bool) : b1 gAll [.lst (bs.map .bl)] = some (.bl (bs.all id)) := by
  show (blsD (bs.map .bl)).map _ = _
  rw [blsD_map]; rfl
theorem ev_sortset {l : List Int} (h : a ρ = some (ofI l)) (hl : l.length < 64) : eNew (dSortSet a) ρ = some (ofI (sset l)) := by
  refine ev_new ?_
  unfold dSortSet
  rw [h]
  show (intsD (l.map .int)).bind _ = _
  rw [intsD_map]
  show (if l.length < 64 then _ else _) = _
  rw [if_pos hl]
theorem ev_callD {F : List D → Option D} {dd ds : List D} {fl : DL} {z : D} (h : fl ρ = some ds) (h2 : F (ds ++ dd) = some z) : eCallD F dd fl ρ = some z := by unfold eCallD; rw [h]; exact h2
theorem ev_disp3 {k1 k2 k3 k : Str} {f1 f2 f3 fk : DE} {d1 d2 d3 d : D} (h1 : f1 ρ = some d1) (h2 : f2 ρ = some d2) (h3 : f3 ρ = some d3) (hk : fk ρ = some (.str k)) (h : pick3 k1 k2 k3 d1 d2 d3 (.str k) = some d) : eDisp3 k1 k2 k3 f1 f2 f3 fk ρ = some d := by
  unfold eDisp3; rw [h1, h2, h3, hk]; exact h
end
theorem sset_const {w : Int} : ∀ {l : List Int}, l ≠ [] → (∀ x ∈ l, x = w) → sset l = [w] := fun {l} h0 h => by
  refine lt_unique (sset_lt l) (by simp) fun k => ?_
  rw [sset_mem, List.mem_singleton]
  constructor
  · exact h k
  · rintro rfl
    cases l with
    | nil => exact absurd rfl h0
    | cons a l => rw [h a List.mem_cons_self]; exact List.mem_cons_self
theorem eqv_str (a b : Str) : D.eqv (.str a) (.str b) = decide (a = b) := by
  show PyData.eqv (.str a) (.str b) = _
  simp only [PyData.eqv]
  by_cases h : a = b <;> simp [h]
theorem g_eqS {a b : Str} (ha : PyData.strOk a = true) (hb : PyData.strOk b = true) : gEq (.str a) (.str b) = some (.bl (decide (a = b))) := by
  unfold gEq
  rw [show (D.str a).ok 50 = true from ha, show (D.str b).ok 50 = true from hb, eqv_str]; rfl
theorem g_neS {a b : Str} (ha : PyData.strOk a = true) (hb : PyData.strOk b = true) : gNe (.str a) (.str b) = some (.bl (!decide (a = b))) := by
  unfold gNe
  rw [show (D.str a).ok 50 = true from ha, show (D.str b).ok 50 = true from hb, eqv_str]; rfl
end PL
namespace PL
open PySem PySem.Spec PyProof.Rows L2
theorem it_z3 {ρ : DEnv} {a b c : DE} {x y z : D} {b1 b2 b3 : Bool} {α β γ : Type} {f : α → D} {g : β → D} {h : γ → D} {as : List α} {bs : List β} {cs : List γ} (h1 : a ρ = some x) (h2 : b ρ = some y) (h3 : c ρ = some z) (q1 : seqD x = some (b1, as.map f)) (q2 : seqD y = some (b2, bs.map g)) (q3 : seqD z = some (b3, cs.map h)) :
    iZ3 a b c ρ = some (((as.zip (bs.zip cs)).map fun p => D.tup [f p.1, g p.2.1, h p.2.2]).map .p) := by
  unfold iZ3; rw [h1, h2, h3]
  show (seqD x).bind _ = _
  rw [q1]; show (seqD y).bind _ = _; rw [q2]; show (seqD z).map _ = _; rw [q3, Option.map_some, zip3D_map]
theorem g_repI {n : Nat} (k : Int) (hn : n ≤ 16777216) : gRep (.lst [.int k]) (.int n) = some (ofI (List.replicate n k)) := by
  have e : (List.replicate (n : Int).toNat [D.int k]).flatten = (List.replicate n k).map .int := by
    rw [Int.toNat_natCast]
    clear hn
    induction n with
    | zero => rfl
    | succ n ih => rw [List.replicate_succ, List.flatten_cons, ih, List.replicate_succ, List.map_cons]; rfl
  simp only [gRep]
  rw [if_pos ⟨⟨by omega, by omega⟩, by simp only [List.length_singleton, Int.toNat_natCast]; omega⟩, e]
  rfl
/-- filtered ranges -/
theorem new_compNF {ρ : DEnv} {ws : List Nat} {elt : DE} {cond : DB} {β : Type} (emb : β → D) {lo hi : DE} (n : Nat) (h : Nat → β) (p : Nat → Bool) {j : Nat} (h1 : lo ρ = some (.int 0)) (h2 : hi ρ = some (.int n)) (hl : n ≤ 16777216) (hc : ∀ k, k < n → cond ((ρ.wipe ws).set j (.p (.int (k : Nat)))) = some (p k))
    (hs : ∀ k, k < n → p k = true → elt ((ρ.wipe ws).set j (.p (.int (k : Nat)))) = some (emb (h k))) : eNew (eComp (iRng lo hi) (.nm j) ws cond elt) ρ = some (.lst ((((List.range n).filter p).map h).map emb)) := by
  have := rng_eval 0 n h1 h2 (by omega) (by omega)
  rw [Nat.sub_zero] at this
  refine new_compF emb (List.range n) _ h p this (by rw [List.length_range]; exact hl) (fun k hk => ?_) (fun k hk hp => ?_)
  · have := hc k (List.mem_range.mp hk)
    rw [Nat.zero_add]
    exact this
  · have := hs k (List.mem_range.mp hk) hp
    rw [Nat.zero_add]
    exact this
end PL

namespace PL
/-! ## levels of columns: plain -/
theorem nodup_lt : ∀ (n : Nat) (l : List Int), l.Nodup → (∀ x ∈ l, 0 ≤ x ∧ x < n) → l.length ≤ n
  | 0, [], _, _ => Nat.le_refl _
  | 0, x :: l, _, h => by have := h x List.mem_cons_self; omega
  | n + 1, l, hn, h => by
    have h1 := nodup_lt n (l.erase (n : Int)) (hn.erase _) fun x hx => by
      have := h x (List.mem_of_mem_erase hx)
      have hne : x ≠ (n : Int) := fun e => by
        subst e
        exact (List.Nodup.not_mem_erase hn) hx
      omega
    have := List.length_erase (l := l) (a := (n : Int))
    split at this <;> omega
theorem lt_nodup {l : List Int} (h : l.Pairwise (· < ·)) : l.Nodup := h.imp fun h => Int.ne_of_lt h
/-- the place in a rising list -/
def pos (l : List Int) (x : Int) : Int := (l.findIdx fun y => decide (y = x) : Nat)
theorem pos_bd {l : List Int} {x : Int} (h : x ∈ l) : 0 ≤ pos l x ∧ pos l x < l.length := by
  unfold pos
  have := List.findIdx_lt_length_of_exists (xs := l) (p := fun y => decide (y = x)) ⟨x, h, by simp⟩
  omega
theorem pos_gi {l : List Int} {x : Int} (h : x ∈ l) : gi l (pos l x) = x := by
  have hb := List.findIdx_lt_length_of_exists (xs := l) (p := fun y => decide (y = x)) ⟨x, h, by simp⟩
  have := List.findIdx_getElem (w := hb)
  unfold gi pos
  rw [getD_get _ _ (by simpa using hb)]
  simpa using this
theorem gi_lt {l : List Int} (h : l.Pairwise (· < ·)) {i j : Int} (i0 : 0 ≤ i) (hij : i < j) (hj : j < l.length) : gi l i < gi l j := by
  unfold gi
  rw [getD_get _ _ (by omega), getD_get _ _ (by omega)]
  exact List.pairwise_iff_getElem.mp h _ _ (by omega) (by omega) (by omega)
theorem pos_lt {l : List Int} (h : l.Pairwise (· < ·)) {x y : Int} (hx : x ∈ l) (hy : y ∈ l) : pos l x < pos l y ↔ x < y := by
  have bx := pos_bd hx
  have by' := pos_bd hy
  have gx := pos_gi hx
  have gy := pos_gi hy
  constructor
  · intro hlt
    have := gi_lt h bx.1 hlt by'.2
    omega
  · intro hlt
    rcases Int.lt_trichotomy (pos l x) (pos l y) with h1 | h1 | h1
    · exact h1
    · rw [h1, gy] at gx; omega
    · have := gi_lt h by'.1 h1 bx.2
      omega
theorem pos_of_gi {l : List Int} (h : l.Pairwise (· < ·)) {i : Int} (hi : 0 ≤ i ∧ i < l.length) : pos l (gi l i) = i := by
  have hm := mem_gi hi
  have b := pos_bd hm
  have g := pos_gi hm
  rcases Int.lt_trichotomy (pos l (gi l i)) i with h1 | h1 | h1
  · have := gi_lt h b.1 h1 hi.2; omega
  · exact h1
  · have := gi_lt h hi.1 h1 b.2; omega
/-- ranks -/
def kinds (t : List (List Int)) (w : Nat) : List Int := sset (cnt t w)
def rk (t : List (List Int)) (w : Nat) : List Int := (cnt t w).map (pos (kinds t w))
def un (t : List (List Int)) (w : Nat) : Nat := (kinds t w).length
theorem kinds_mem {t : List (List Int)} {w : Nat} {j : Int} (hj : 0 ≤ j ∧ j < w) : gi (cnt t w) j ∈ kinds t w := sset_mem.mpr (mem_gi (by rw [cnt_len]; exact hj))
theorem rk_len (t : List (List Int)) (w : Nat) : (rk t w).length = w := by unfold rk; rw [List.length_map, cnt_len]
theorem rk_gi {t : List (List Int)} {w : Nat} {j : Int} (hj : 0 ≤ j ∧ j < w) : gi (rk t w) j = pos (kinds t w) (gi (cnt t w) j) := gi_map (by rw [cnt_len]; exact hj)
theorem rk_bd {t : List (List Int)} {w : Nat} {j : Int} (hj : 0 ≤ j ∧ j < w) : 0 ≤ gi (rk t w) j ∧ gi (rk t w) j < un t w := by rw [rk_gi hj]; exact pos_bd (kinds_mem hj)
theorem rk_lt {t : List (List Int)} {w : Nat} {j k : Int} (hj : 0 ≤ j ∧ j < w) (hk : 0 ≤ k ∧ k < w) : gi (rk t w) j < gi (rk t w) k ↔ gi (cnt t w) j < gi (cnt t w) k := by
  rw [rk_gi hj, rk_gi hk]; exact pos_lt (sset_lt _) (kinds_mem hj) (kinds_mem hk)
/-- each rank is some column's -/
theorem rk_onto {t : List (List Int)} {w : Nat} {v : Int} (hv : 0 ≤ v ∧ v < un t w) : ∃ j : Int, 0 ≤ j ∧ j < w ∧ gi (rk t w) j = v := by
  have hm : gi (kinds t w) v ∈ cnt t w := sset_mem.mp (mem_gi hv)
  obtain ⟨j, j0, j1, j2⟩ := mem_ix hm
  rw [cnt_len] at j1
  exact ⟨j, j0, j1, by rw [rk_gi ⟨j0, j1⟩, j2]; exact pos_of_gi (sset_lt (cnt t w)) hv⟩
theorem sset_len (l : List Int) : (sset l).length ≤ l.length := by
  unfold sset
  induction l with
  | nil => exact Nat.le_refl _
  | cons a l ih =>
    rw [List.foldr_cons, List.length_cons]
    have : ∀ (k : Int) (xs : List Int), (insI k xs).length ≤ xs.length + 1 := by
      intro k xs
      induction xs with
      | nil => simp [insI]
      | cons x xs ih =>
        unfold insI
        split
        · simp
        · split
          · simp
          · simp only [List.length_cons]; omega
    exact Nat.le_trans (this _ _) (Nat.succ_le_succ ih)
theorem un_le_w (t : List (List Int)) (w : Nat) : un t w ≤ w := by
  have := sset_len (cnt t w)
  rw [cnt_len] at this; exact this
theorem un_pos {t : List (List Int)} {w : Nat} (hw : 1 ≤ w) : 1 ≤ un t w := by
  have := (rk_bd (t := t) (w := w) (j := 0) (by omega))
  omega
theorem foldl_max_le : ∀ (l : List Int) (a : Int), a ≤ l.foldl max a ∧ ∀ x ∈ l, x ≤ l.foldl max a
  | [], a => ⟨Int.le_refl _, by simp⟩
  | b :: l, a => by
    obtain ⟨h1, h2⟩ := foldl_max_le l (max a b)
    rw [List.foldl_cons]
    refine ⟨by omega, fun x hx => ?_⟩
    rcases List.mem_cons.mp hx with rfl | hx
    · omega
    · exact h2 x hx
theorem foldl_max_in : ∀ (l : List Int) (a : Int), l.foldl max a = a ∨ l.foldl max a ∈ l
  | [], a => .inl rfl
  | b :: l, a => by
    rw [List.foldl_cons]
    rcases foldl_max_in l (max a b) with h | h
    · rw [h]
      by_cases hab : b ≤ a
      · left; omega
      · right; rw [show max a b = b by omega]; exact List.mem_cons_self
    · exact .inr (List.mem_cons_of_mem _ h)
theorem le_mx {l : List Int} {x : Int} (h : x ∈ l) : x ≤ mx l := by
  cases l with
  | nil => exact absurd h (by simp)
  | cons a l =>
    rcases List.mem_cons.mp h with e | h
    · rw [e]; exact (foldl_max_le l a).1
    · exact (foldl_max_le l a).2 x h
theorem mx_mem {l : List Int} (h : l ≠ []) : mx l ∈ l := by
  cases l with
  | nil => exact absurd rfl h
  | cons a l =>
    show l.foldl max a ∈ _
    rcases foldl_max_in l a with h | h
    · rw [h]; exact List.mem_cons_self
    · exact List.mem_cons_of_mem _ h
theorem mx_rk {t : List (List Int)} {w : Nat} (hw : 1 ≤ w) : mx (rk t w) + 1 = un t w := by
  have hp := un_pos (t := t) hw
  have hne : rk t w ≠ [] := by intro h; have := rk_len t w; rw [h] at this; simp at this; omega
  obtain ⟨j, j0, j1, j2⟩ := rk_onto (t := t) (w := w) (v := un t w - 1) (by omega)
  have h1 := le_mx (mem_gi (l := rk t w) (i := j) (by rw [rk_len]; omega))
  obtain ⟨k, k0, k1, k2⟩ := mem_ix (mx_mem hne)
  rw [rk_len] at k1
  have h2 := rk_bd (t := t) (w := w) (j := k) ⟨k0, k1⟩
  omega
section
variable {t : List (List Int)} {m w : Nat}
theorem cnt_bd' (ht : Rect t m w) (hm : 1 ≤ m) (hw : 1 ≤ w) (hR : RealT t m w) {j : Int} (hj : 0 ≤ j ∧ j < w) : 0 ≤ gi (cnt t w) j ∧ gi (cnt t w) j < m := by
  refine ⟨(cnt_bd ht hm hw hR hj).1, ?_⟩
  rw [cnt_gi t hj]
  have h0 : row t 0 ∈ t := mem_row ⟨by omega, by have := ht.1; omega⟩
  have e0 : ∀ j : Int, 0 ≤ j → j < w → gi (stp t (row t 0)) j = 0 := fun j a b => by rw [stp_gi ht hm h0 ⟨a, b⟩]; unfold en; omega
  have hl := stp_len ht hm h0
  have e1 : gi (rsd (stp t (row t 0))) j = 0 := by
    rw [rsd_gi (by omega), e0 j hj.1 hj.2]
    obtain ⟨k, k0, k1, k2⟩ := mem_ix (mn_mem (l := stp t (row t 0)) (by intro h; rw [h] at hl; simp at hl; omega))
    rw [← k2, e0 k k0 (by omega)]; rfl
  have h1 : ∀ r ∈ t, gi (rsd (stp t r)) j ≤ 1 := by
    intro r hr
    obtain ⟨i, h1, h2⟩ := List.mem_iff_getElem.mp hr
    have : r = row t i := by unfold row; rw [getD_get _ _ (by simpa using h1)]; simpa using h2.symm
    rw [this]
    exact (rsd_01 ht hm hw hR ⟨by omega, by have := ht.1; omega⟩ hj).2
  have b := sum_lt (f := fun r => gi (rsd (stp t r)) j) (g := fun _ => (1 : Int)) h1 h0 (by show gi (rsd (stp t (row t 0))) j < 1; omega)
  rw [sum_const] at b
  have := ht.1
  omega
theorem un_le_m (ht : Rect t m w) (hm : 1 ≤ m) (hw : 1 ≤ w) (hR : RealT t m w) : un t w ≤ m := by
  refine nodup_lt m (kinds t w) (lt_nodup (sset_lt _)) fun x hx => ?_
  obtain ⟨j, j0, j1, j2⟩ := mem_ix (sset_mem.mp hx)
  rw [cnt_len] at j1
  rw [← j2]; exact cnt_bd' ht hm hw hR ⟨j0, j1⟩
/-! ### numbers from levels -/
def colL (t : List (List Int)) (L : List Int) (u : Int) : List Int := ((row t 0).zip L).map fun p => p.1 * u + p.2
theorem colL_gi {L : List Int} {u j : Int} (h0 : (row t 0).length = w) (hL : L.length = w) (hj : 0 ≤ j ∧ j < w) : gi (colL t L u) j = en t 0 j * u + gi L j := gi_zip (by omega) (by omega)
theorem colL_len {L : List Int} {u : Int} (h0 : (row t 0).length = w) (hL : L.length = w) : (colL t L u).length = w := by unfold colL; rw [List.length_map, List.length_zip]; omega
/-- raised columns by their levels -/
def highL (t : List (List Int)) (L : List Int) (r : List Int) : List Int := ((L.zip (r.zip (row t 0))).filter fun p => decide (mn (stp t r) < p.2.1 - p.2.2)).map fun p => p.1
def rowL (t : List (List Int)) (L : List Int) (u : Int) (r : List Int) : Int := mn (stp t r) * u + (if (!decide (highL t L r = [])) = true then u - mn (highL t L r) else 0)
theorem zip3_ix {a b c : List Int} {p : Int × Int × Int} (h : p ∈ a.zip (b.zip c)) : ∃ i : Int, 0 ≤ i ∧ i < a.length ∧ i < b.length ∧ i < c.length ∧ p = (gi a i, gi b i, gi c i) := by
  obtain ⟨i, h1, h2⟩ := List.mem_iff_getElem.mp h
  rw [List.length_zip, List.length_zip] at h1
  refine ⟨i, by omega, by omega, by omega, by omega, ?_⟩
  rw [List.getElem_zip, List.getElem_zip] at h2
  unfold gi
  rw [getD_get _ _ (by simp; omega), getD_get _ _ (by simp; omega), getD_get _ _ (by simp; omega)]
  simp only [Int.toNat_natCast]
  exact h2.symm
theorem zip3_mem {a b c : List Int} {i : Int} (h0 : 0 ≤ i) (h1 : i < a.length) (h2 : i < b.length) (h3 : i < c.length) : (gi a i, gi b i, gi c i) ∈ a.zip (b.zip c) := by
  unfold gi
  rw [getD_get _ _ (by omega), getD_get _ _ (by omega), getD_get _ _ (by omega)]
  rw [List.mem_iff_getElem]
  exact ⟨i.toNat, by rw [List.length_zip, List.length_zip]; omega, by rw [List.getElem_zip, List.getElem_zip]⟩
theorem made_lv (ht : Rect t m w) (hm : 1 ≤ m) (hw : 1 ≤ w) (hR : RealT t m w) {L : List Int} {u : Int} (hu : 0 < u) (hL : L.length = w) (hb : ∀ j : Int, 0 ≤ j → j < w → 0 ≤ gi L j ∧ gi L j < u)
    (hlt : ∀ j k : Int, 0 ≤ j → j < w → 0 ≤ k → k < w → gi (cnt t w) j < gi (cnt t w) k → gi L j < gi L k) : mkT u (t.map (rowL t L u)) (colL t L u) = t := by
  have l0 := ht.1
  have r0 := len_row ht (i := 0) (by omega)
  have l2 := colL_len (L := L) (u := u) r0 hL
  have hrec := mkT_rect (u := u) (R := t.map (rowL t L u)) (C := colL t L u)
  rw [l2, List.length_map, l0] at hrec
  refine ext_rect hrec ht fun i j i0 i1 j0 j1 => ?_
  have hgr : gi (t.map (rowL t L u)) i = rowL t L u (row t i) := by
    unfold gi row
    rw [getD_get _ _ (by rw [List.length_map]; omega), getD_get _ _ (by omega), List.getElem_map]
  rw [mkT_en ⟨i0, by rw [List.length_map]; omega⟩ (by omega), hgr, colL_gi r0 hL ⟨j0, j1⟩]
  have hri : row t i ∈ t := mem_row ⟨i0, by omega⟩
  have lr := ht.2 _ hri
  have ls := stp_len ht hm hri
  have cb := hb j j0 j1
  have e01 := rsd_01 ht hm hw hR ⟨i0, i1⟩ ⟨j0, j1⟩
  have hrs : ∀ k : Int, 0 ≤ k → k < w → gi (rsd (stp t (row t i))) k = en t i k - en t 0 k - mn (stp t (row t i)) := fun k a b => by rw [rsd_gi (by omega), stp_gi ht hm hri ⟨a, b⟩]
  have hen : en t i j = en t 0 j + mn (stp t (row t i)) + gi (rsd (stp t (row t i))) j := by rw [hrs j j0 j1]; omega
  rw [hen]
  unfold rowL
  have key : ∀ x : Int, 0 ≤ x → (x < u → gi (rsd (stp t (row t i))) j = 0) → (u ≤ x → gi (rsd (stp t (row t i))) j = 1) → x < 2 * u → (mn (stp t (row t i)) * u + (x - gi L j) + (en t 0 j * u + gi L j)) / u = en t 0 j + mn (stp t (row t i)) + gi (rsd (stp t (row t i))) j := by
    intro x x0 h1 h2 h3
    have e : mn (stp t (row t i)) * u + (x - gi L j) + (en t 0 j * u + gi L j) = x + u * (mn (stp t (row t i)) + en t 0 j) := by
      rw [Int.mul_comm (mn (stp t (row t i))) u, Int.mul_comm (en t 0 j) u, Int.mul_add]; omega
    rw [e, Int.add_mul_ediv_left _ _ (by omega)]
    by_cases hx : x < u
    · rw [h1 hx, Int.ediv_eq_zero_of_lt x0 hx]; omega
    · have : x / u = 1 := by
        have : x = (x - u) + u * 1 := by omega
        rw [this, Int.add_mul_ediv_left _ _ (by omega), Int.ediv_eq_zero_of_lt (by omega) (by omega)]; rfl
      rw [this, h2 (by omega)]; omega
  have inH : ∀ k : Int, 0 ≤ k → k < w → 0 < gi (rsd (stp t (row t i))) k → gi L k ∈ highL t L (row t i) := by
    intro k k0 k1 hk
    rw [hrs k k0 k1] at hk
    refine List.mem_map.mpr ⟨(gi L k, gi (row t i) k, gi (row t 0) k), List.mem_filter.mpr ⟨zip3_mem k0 (by omega) (by omega) (by omega), ?_⟩, rfl⟩
    refine decide_eq_true ?_
    show mn (stp t (row t i)) < gi (row t i) k - gi (row t 0) k
    unfold en at hk
    omega
  have ofH : ∀ x ∈ highL t L (row t i), ∃ k : Int, 0 ≤ k ∧ k < w ∧ gi (rsd (stp t (row t i))) k = 1 ∧ x = gi L k := by
    intro x hx
    obtain ⟨p, hp, rfl⟩ := List.mem_map.mp hx
    obtain ⟨hp, hq⟩ := List.mem_filter.mp hp
    obtain ⟨k, k0, k1, k2, k3, rfl⟩ := zip3_ix hp
    have hq := of_decide_eq_true hq
    have := rsd_01 ht hm hw hR ⟨i0, i1⟩ (j := k) ⟨k0, by omega⟩
    have e := hrs k k0 (by omega)
    dsimp only at hq
    unfold en at e
    exact ⟨k, k0, by omega, by omega, rfl⟩
  by_cases hH : highL t L (row t i) = []
  · have z : gi (rsd (stp t (row t i))) j = 0 := by
      by_cases hz : 0 < gi (rsd (stp t (row t i))) j
      · have := inH j j0 j1 hz
        rw [hH] at this; cases this
      · omega
    rw [if_neg (by simp [hH])]
    have := key (gi L j) cb.1 (fun _ => z) (by omega) (by omega)
    rw [Int.sub_self] at this
    exact this
  · rw [if_pos (by simp [hH])]
    obtain ⟨k, k0, k1, k2, k3⟩ := ofH _ (mn_mem hH)
    have ck := hb k k0 k1
    have := key (u - mn (highL t L (row t i)) + gi L j) (by omega) ?_ ?_ (by omega)
    · rw [show u - mn (highL t L (row t i)) + gi L j - gi L j = u - mn (highL t L (row t i)) by omega] at this
      exact this
    · intro hx
      by_cases hz : 0 < gi (rsd (stp t (row t i))) j
      · have := mn_le (inH j j0 j1 hz); omega
      · omega
    · intro hx
      by_cases hz : gi (rsd (stp t (row t i))) j = 0
      · have := hlt j k j0 j1 k0 k1 (cnt_lt ht hm hw hR ⟨i0, i1⟩ ⟨j0, j1⟩ ⟨k0, k1⟩ hz k2)
        omega
      · omega
/-- columns with the same part are alike in all rows: as many parts as kinds -/
theorem un_le_parts (ht : Rect t m w) (hm : 1 ≤ m) (hw : 1 ≤ w) {u : Nat} {X P : List Int} (hu : 0 < u) (hX : X.length = m) (hP : P.length = w) (hb : ∀ j : Int, 0 ≤ j → j < w → 0 ≤ gi P j ∧ gi P j < u) (h : mkT u X (colL t P u) = t) : un t w ≤ u := by
  have r0 := len_row ht (i := 0) (by omega)
  have l0 := ht.1
  have same : ∀ j k : Int, 0 ≤ j → j < w → 0 ≤ k → k < w → gi P j = gi P k → gi (cnt t w) j = gi (cnt t w) k := by
    intro j k j0 j1 k0 k1 e
    have hen : ∀ i : Int, 0 ≤ i → i < m → en t i j - en t 0 j = en t i k - en t 0 k := by
      intro i i0 i1
      have lc := colL_len (t := t) (L := P) (u := u) r0 hP
      have a := mkT_en (u := u) (R := X) (C := colL t P u) (i := i) (j := j) (by omega) (by omega)
      have b := mkT_en (u := u) (R := X) (C := colL t P u) (i := i) (j := k) (by omega) (by omega)
      rw [h, colL_gi r0 hP ⟨j0, j1⟩] at a
      rw [h, colL_gi r0 hP ⟨k0, k1⟩] at b
      have e1 : gi X i + (en t 0 j * ↑u + gi P j) = (gi X i + gi P j) + ↑u * en t 0 j := by rw [Int.mul_comm (en t 0 j)]; omega
      have e2 : gi X i + (en t 0 k * ↑u + gi P k) = (gi X i + gi P j) + ↑u * en t 0 k := by rw [Int.mul_comm (en t 0 k), e]; omega
      rw [e1, Int.add_mul_ediv_left _ _ (by omega)] at a
      rw [e2, Int.add_mul_ediv_left _ _ (by omega)] at b
      omega
    rw [cnt_gi t ⟨j0, j1⟩, cnt_gi t ⟨k0, k1⟩]
    congr 1
    apply List.map_congr_left
    intro r hr
    obtain ⟨i, h1, h2⟩ := List.mem_iff_getElem.mp hr
    have hri : r = row t i := by unfold row; rw [getD_get _ _ (by simpa using h1)]; simpa using h2.symm
    subst hri
    have ls := stp_len ht hm hr
    rw [rsd_gi (by omega), rsd_gi (by omega), stp_gi ht hm hr ⟨j0, j1⟩, stp_gi ht hm hr ⟨k0, k1⟩]
    have := hen i (by omega) (by omega)
    unfold en at *
    omega
  -- a column of each kind
  have hch : ∀ v : Int, ∃ j : Int, v ∈ kinds t w → 0 ≤ j ∧ j < w ∧ gi (cnt t w) j = v := fun v => by
    by_cases hv : v ∈ kinds t w
    · obtain ⟨j, j0, j1, j2⟩ := mem_ix (sset_mem.mp hv)
      rw [cnt_len] at j1
      exact ⟨j, fun _ => ⟨j0, j1, j2⟩⟩
    · exact ⟨0, fun h => absurd h hv⟩
  obtain ⟨f, hf⟩ := Classical.axiomOfChoice hch
  have hl : ((kinds t w).map fun v => gi P (f v)).length ≤ u := by
    refine nodup_lt u _ ?_ fun x hx => ?_
    · refine List.pairwise_map.mpr ((lt_nodup (sset_lt (cnt t w))).imp_of_mem fun {a b} ha hb' hab e => hab ?_)
      obtain ⟨a0, a1, a2⟩ := hf a ha
      obtain ⟨b0, b1, b2⟩ := hf b hb'
      rw [← a2, ← b2]
      exact same _ _ a0 a1 b0 b1 e
    · obtain ⟨v, hv, rfl⟩ := List.mem_map.mp hx
      obtain ⟨a0, a1, -⟩ := hf v hv
      exact hb _ a0 a1
  rw [List.length_map] at hl
  exact hl
end
end PL

namespace PL
/-! ## least ways: plain -/
abbrev Ways := Nat → Nat → Option Int
def LeO (a : Option Int) (v : Int) : Prop := ∃ x, a = some x ∧ x ≤ v
def stepW (f : Ways) (k : Nat) : Ways := fun i j => match f i k, f k j with
  | some a, some b => match f i j with | some c => some (if a + b < c then a + b else c) | none => some (a + b)
  | _, _ => f i j
def Tri (f : Ways) (k : Nat) : Prop := ∀ i j m, m < k → ∀ a b, f i m = some a → f m j = some b → LeO (f i j) (a + b)
theorem step_le {f : Ways} {k i j : Nat} {c : Int} (h : f i j = some c) : LeO (stepW f k i j) c := by
  unfold stepW
  split
  · rw [h]
    exact ⟨_, rfl, by split <;> omega⟩
  · exact ⟨c, h, Int.le_refl _⟩
theorem step_via {f : Ways} {k i j : Nat} {a b : Int} (h1 : f i k = some a) (h2 : f k j = some b) : LeO (stepW f k i j) (a + b) := by
  unfold stepW
  rw [h1, h2]
  cases f i j with
  | none => exact ⟨_, rfl, Int.le_refl _⟩
  | some c => exact ⟨_, rfl, by split <;> omega⟩
theorem step_cases {f : Ways} {k i j : Nat} {v : Int} (h : stepW f k i j = some v) : f i j = some v ∨ ∃ a b, f i k = some a ∧ f k j = some b ∧ v = a + b := by
  unfold stepW at h
  split at h
  · rename_i a b h1 h2
    cases e : f i j with
    | none => rw [e] at h; cases h; exact .inr ⟨a, b, h1, h2, rfl⟩
    | some c =>
      rw [e] at h
      have h : some (if a + b < c then a + b else c) = some v := h
      cases h
      split
      · exact .inr ⟨a, b, h1, h2, rfl⟩
      · exact .inl rfl
  · exact .inl h
theorem LeO.trans {a : Option Int} {v w : Int} (h : LeO a v) (k : v ≤ w) : LeO a w := let ⟨x, e, l⟩ := h; ⟨x, e, Int.le_trans l k⟩
theorem tri_step {f : Ways} {k : Nat} (hk : ∀ v, f k k = some v → 0 ≤ v) (h : Tri f k) : Tri (stepW f k) (k + 1) := by
  intro i j m hm a b h1 h2
  have viaK : ∀ {x y : Int}, f i k = some x → f k j = some y → x + y ≤ a + b → LeO (stepW f k i j) (a + b) := fun hx hy hl => (step_via hx hy).trans hl
  by_cases e : m = k
  · subst e
    have g1 : LeO (f i m) a := by
      rcases step_cases h1 with h | ⟨x, y, hx, hy, rfl⟩
      · exact ⟨a, h, Int.le_refl _⟩
      · have := hk _ hy; exact ⟨x, hx, by omega⟩
    have g2 : LeO (f m j) b := by
      rcases step_cases h2 with h | ⟨x, y, hx, hy, rfl⟩
      · exact ⟨b, h, Int.le_refl _⟩
      · have := hk _ hx; exact ⟨y, hy, by omega⟩
    obtain ⟨x, hx, lx⟩ := g1
    obtain ⟨y, hy, ly⟩ := g2
    exact viaK hx hy (by omega)
  · have hm : m < k := by omega
    rcases step_cases h1 with p1 | ⟨x1, y1, p1, q1, rfl⟩
    · rcases step_cases h2 with p2 | ⟨x2, y2, p2, q2, rfl⟩
      · obtain ⟨c, hc, lc⟩ := h i j m hm a b p1 p2
        exact (step_le hc).trans lc
      · obtain ⟨c, hc, lc⟩ := h i k m hm a x2 p1 p2
        exact viaK hc q2 (by omega)
    · rcases step_cases h2 with p2 | ⟨x2, y2, p2, q2, rfl⟩
      · obtain ⟨c, hc, lc⟩ := h k j m hm y1 b q1 p2
        exact viaK p1 hc (by omega)
      · obtain ⟨c, hc, lc⟩ := h k k m hm y1 x2 q1 p2
        have := hk _ hc
        exact viaK p1 q2 (by omega)
/-- between bounds -/
theorem between (L U : List Int) (h : ∀ l ∈ L, ∀ u ∈ U, l ≤ u) : ∃ x, (∀ l ∈ L, l ≤ x) ∧ ∀ u ∈ U, x ≤ u := by
  by_cases hL : L = []
  · subst hL
    exact ⟨mn U, by simp, fun u hu => mn_le hu⟩
  · exact ⟨mx L, fun l hl => le_mx hl, fun u hu => h _ (mx_mem hL) u hu⟩
/-- numbers for the nodes of a list, as the ways ask -/
def Feas (f : Ways) (ns : List Nat) (p : Nat → Int) : Prop := ∀ i ∈ ns, ∀ j ∈ ns, ∀ v, f i j = some v → p j - p i ≤ v
theorem feas_more {f : Ways} {n : Nat} (tri : Tri f n) (diag : ∀ i, i < n → ∀ v, f i i = some v → 0 ≤ v) {ns : List Nat} {p : Nat → Int} (hn : ∀ i ∈ ns, i < n) (h : Feas f ns p) {k : Nat} (hk : k < n) (hkn : k ∉ ns) : ∃ q, Feas f (k :: ns) q ∧ ∀ i ∈ ns, q i = p i := by
  obtain ⟨x, x1, x2⟩ := between (ns.filterMap fun i => (f k i).map fun v => p i - v) (ns.filterMap fun i => (f i k).map fun v => p i + v) (by
    intro l hl u hu
    obtain ⟨i, hi, hi2⟩ := List.mem_filterMap.mp hl
    obtain ⟨j, hj, hj2⟩ := List.mem_filterMap.mp hu
    obtain ⟨v, hv, rfl⟩ := Option.map_eq_some_iff.mp hi2
    obtain ⟨w, hw, rfl⟩ := Option.map_eq_some_iff.mp hj2
    obtain ⟨c, hc, lc⟩ := tri j i k hk w v hw hv
    have := h j hj i hi c hc
    omega)
  refine ⟨fun i => if i = k then x else p i, fun i hi j hj v hv => ?_, fun i hi => by
    have : i ≠ k := fun e => hkn (e ▸ hi)
    simp [this]⟩
  dsimp only
  by_cases ei : i = k
  · by_cases ej : j = k
    · subst ei; subst ej
      have := diag _ hk _ hv
      omega
    · have hj' : j ∈ ns := (List.mem_cons.mp hj).resolve_left ej
      rw [if_pos ei, if_neg ej]
      subst ei
      have := x1 (p j - v) (List.mem_filterMap.mpr ⟨j, hj', by rw [hv]; rfl⟩)
      omega
  · have hi' : i ∈ ns := (List.mem_cons.mp hi).resolve_left ei
    by_cases ej : j = k
    · rw [if_neg ei, if_pos ej]
      subst ej
      have := x2 (p i + v) (List.mem_filterMap.mpr ⟨i, hi', by rw [hv]; rfl⟩)
      omega
    · have hj' : j ∈ ns := (List.mem_cons.mp hj).resolve_left ej
      rw [if_neg ei, if_neg ej]
      exact h i hi' j hj' v hv
theorem feas_all {f : Ways} {n : Nat} (tri : Tri f n) (diag : ∀ i, i < n → ∀ v, f i i = some v → 0 ≤ v) {ns : List Nat} {p : Nat → Int} (hn : ∀ i ∈ ns, i < n) (h : Feas f ns p) : ∃ q : Nat → Int, (∀ i, i < n → ∀ j, j < n → ∀ v, f i j = some v → q j - q i ≤ v) ∧ ∀ i ∈ ns, q i = p i := by
  have main : ∀ k, k ≤ n → ∃ (ms : List Nat) (q : Nat → Int), Feas f ms q ∧ (∀ i ∈ ms, i < n) ∧ (∀ i, i < k → i ∈ ms) ∧ (∀ i ∈ ns, i ∈ ms ∧ q i = p i) := by
    intro k
    induction k with
    | zero => exact fun _ => ⟨ns, p, h, hn, fun i hi => absurd hi (by omega), fun i hi => ⟨hi, rfl⟩⟩
    | succ k ih =>
      intro hk
      obtain ⟨ms, q, a, b, c, d⟩ := ih (by omega)
      by_cases hm : k ∈ ms
      · refine ⟨ms, q, a, b, fun i hi => ?_, d⟩
        by_cases e : i = k
        · rw [e]; exact hm
        · exact c i (by omega)
      · obtain ⟨r, r1, r2⟩ := feas_more tri diag b a (by omega : k < n) hm
        refine ⟨k :: ms, r, r1, fun i hi => ?_, fun i hi => ?_, fun i hi => ⟨List.mem_cons_of_mem _ (d i hi).1, (r2 i (d i hi).1).trans (d i hi).2⟩⟩
        · rcases List.mem_cons.mp hi with rfl | hi
          · omega
          · exact b i hi
        · by_cases e : i = k
          · rw [e]; exact List.mem_cons_self
          · exact List.mem_cons_of_mem _ (c i (by omega))
  obtain ⟨ms, q, a, b, c, d⟩ := main n (Nat.le_refl _)
  exact ⟨q, fun i hi j hj v hv => a i (c i hi) j (c j hj) v hv, fun i hi => (d i hi).2⟩

/-! ### in place -/
def updW (f : Ways) (k i j : Nat) : Ways := fun a b => if a = i ∧ b = j then stepW f k i j else f a b
def BadW (n : Nat) (f : Ways) : Prop := ∃ i v, i < n ∧ f i i = some v ∧ v < 0
def Dom (n : Nat) (f : Ways) : Prop := ∀ i j v, f i j = some v → i < n ∧ j < n
/-- numbers for the edges -/
def Pot (f : Ways) (p : Nat → Int) : Prop := ∀ i j v, f i j = some v → p j - p i ≤ v
def Sound (E g : Ways) : Prop := ∀ Q : Nat → Nat → Int → Prop, (∀ i j k a b, Q i k a → Q k j b → Q i j (a + b)) → (∀ i j v, E i j = some v → Q i j v) → ∀ i j v, g i j = some v → Q i j v
theorem Sound.pot {E g : Ways} (h : Sound E g) (p : Nat → Int) (hp : Pot E p) : Pot g p := h (fun i j v => p j - p i ≤ v) (fun i j k a b h1 h2 => by omega) hp
def LeE (E g : Ways) : Prop := ∀ i j v, E i j = some v → LeO (g i j) v
def PInv (n : Nat) (f0 : Ways) (k a b : Nat) (g : Ways) : Prop := BadW n g ∨ (¬ BadW n f0 ∧ ∀ i j, g i j = if i < n ∧ j < n ∧ (i < a ∨ (i = a ∧ j < b)) then stepW f0 k i j else f0 i j)
def FW (n : Nat) (E : Ways) (k a b : Nat) (g : Ways) : Prop := Dom n g ∧ Sound E g ∧ LeE E g ∧ ∃ f0, Dom n f0 ∧ (BadW n f0 ∨ Tri f0 k) ∧ PInv n f0 k a b g
theorem step_left {f : Ways} {k i : Nat} (hk : ∀ v, f k k = some v → 0 ≤ v) : stepW f k i k = f i k := by
  unfold stepW
  cases h1 : f i k with
  | none => rfl
  | some a =>
    cases h2 : f k k with
    | none => rfl
    | some b =>
      have := hk _ h2
      show some (if a + b < a then a + b else a) = some a
      rw [if_neg (by omega)]
theorem step_right {f : Ways} {k j : Nat} (hk : ∀ v, f k k = some v → 0 ≤ v) : stepW f k k j = f k j := by
  unfold stepW
  cases h2 : f k k with
  | none => rfl
  | some b =>
    have := hk _ h2
    cases h1 : f k j with
    | none => rfl
    | some a =>
      show some (if b + a < a then b + a else a) = some a
      rw [if_neg (by omega)]
theorem step_dom {n : Nat} {f : Ways} (hd : Dom n f) {k i j : Nat} {v : Int} (h : stepW f k i j = some v) : i < n ∧ j < n := by
  rcases step_cases h with h | ⟨a, b, h1, h2, _⟩
  · exact hd _ _ _ h
  · exact ⟨(hd _ _ _ h1).1, (hd _ _ _ h2).2⟩
theorem upd_le {f : Ways} {k i j a b : Nat} {c : Int} (h : f a b = some c) : LeO (updW f k i j a b) c := by
  unfold updW
  split
  · rename_i e; rw [e.1, e.2] at h; exact step_le h
  · exact ⟨c, h, Int.le_refl _⟩
theorem upd_cases {f : Ways} {k i j a b : Nat} {v : Int} (h : updW f k i j a b = some v) : f a b = some v ∨ (a = i ∧ b = j ∧ ∃ x y, f i k = some x ∧ f k j = some y ∧ v = x + y) := by
  unfold updW at h
  split at h
  · rename_i e
    rcases step_cases h with h | h
    · exact .inl (by rw [e.1, e.2]; exact h)
    · exact .inr ⟨e.1, e.2, h⟩
  · exact .inl h
theorem upd_bad {n : Nat} {f : Ways} {k i j : Nat} (h : BadW n f) : BadW n (updW f k i j) := by
  obtain ⟨a, v, ha, hv, hl⟩ := h
  obtain ⟨w, hw, lw⟩ := upd_le (k := k) (i := i) (j := j) hv
  exact ⟨a, w, ha, hw, by omega⟩
theorem not_bad {n : Nat} {f : Ways} (h : ¬ BadW n f) (i : Nat) (hi : i < n) (v : Int) (hv : f i i = some v) : 0 ≤ v := by
  rcases Int.lt_or_le v 0 with hl | hl
  · exact absurd ⟨i, v, hi, hv, hl⟩ h
  · exact hl
theorem fw_start {n : Nat} {E : Ways} (h : Dom n E) : FW n E 0 0 0 E := ⟨h, fun _ _ h => h, fun _ _ v h => ⟨v, h, Int.le_refl _⟩, E, h, .inr (fun _ _ _ hm => absurd hm (by omega)), by
  by_cases hb : BadW n E
  · exact .inl hb
  · exact .inr ⟨hb, fun i j => by rw [if_neg (by omega)]⟩⟩
theorem fw_step {n : Nat} {E g : Ways} {k a b : Nat} (hk : k < n) (ha : a < n) (hb : b < n) (h : FW n E k a b g) : FW n E k a (b + 1) (updW g k a b) := by
  obtain ⟨h1, h2, h3, f0, h4, h5, h6⟩ := h
  refine ⟨fun i j v hv => ?_, fun Q hQ hp i j v hv => ?_, fun i j v hv => ?_, f0, h4, h5, ?_⟩
  · rcases upd_cases hv with hv | ⟨rfl, rfl, _⟩
    · exact h1 _ _ _ hv
    · exact ⟨ha, hb⟩
  · rcases upd_cases hv with hv | ⟨rfl, rfl, x, y, hx, hy, rfl⟩
    · exact h2 Q hQ hp _ _ _ hv
    · exact hQ _ _ _ _ _ (h2 Q hQ hp _ _ _ hx) (h2 Q hQ hp _ _ _ hy)
  · obtain ⟨w, hw, lw⟩ := h3 i j v hv
    exact (upd_le hw).trans lw
  · rcases h6 with h6 | ⟨hn, h6⟩
    · exact .inl (upd_bad h6)
    · refine .inr ⟨hn, fun i j => ?_⟩
      have hkk := not_bad hn k hk
      have e1 : g a k = f0 a k := by
        rw [h6]; split
        · exact step_left hkk
        · rfl
      have e2 : g k b = f0 k b := by
        rw [h6]; split
        · exact step_right hkk
        · rfl
      have e3 : g a b = f0 a b := by rw [h6, if_neg (by omega)]
      have e4 : stepW g k a b = stepW f0 k a b := by unfold stepW; rw [e1, e2, e3]
      unfold updW
      by_cases e : i = a ∧ j = b
      · obtain ⟨rfl, rfl⟩ := e
        rw [if_pos ⟨rfl, rfl⟩, if_pos ⟨ha, hb, .inr ⟨rfl, by omega⟩⟩, e4]
      · rw [if_neg e, h6]
        by_cases c : i < n ∧ j < n ∧ (i < a ∨ (i = a ∧ j < b))
        · rw [if_pos c, if_pos ⟨c.1, c.2.1, by omega⟩]
        · rw [if_neg c, if_neg (by omega)]
theorem fw_row {n : Nat} {E g : Ways} {k a : Nat} (h : FW n E k a n g) : FW n E k (a + 1) 0 g := by
  obtain ⟨h1, h2, h3, f0, h4, h5, h6⟩ := h
  refine ⟨h1, h2, h3, f0, h4, h5, h6.imp id fun ⟨hn, h6⟩ => ⟨hn, fun i j => ?_⟩⟩
  rw [h6]
  by_cases c : i < n ∧ j < n ∧ (i < a ∨ (i = a ∧ j < n))
  · rw [if_pos c, if_pos (by omega)]
  · rw [if_neg c, if_neg (by omega)]
theorem fw_phase {n : Nat} {E g : Ways} {k : Nat} (hk : k < n) (h : FW n E k n 0 g) : FW n E (k + 1) 0 0 g := by
  obtain ⟨h1, h2, h3, f0, h4, h5, h6⟩ := h
  refine ⟨h1, h2, h3, g, h1, ?_, ?_⟩
  · rcases h6 with h6 | ⟨hn, h6⟩
    · exact .inl h6
    · have e : g = stepW f0 k := by
        funext i j
        rw [h6]
        by_cases c : i < n ∧ j < n
        · rw [if_pos ⟨c.1, c.2, .inl c.1⟩]
        · rw [if_neg (by omega)]
          cases hf : f0 i j with
          | some v => exact absurd (h4 _ _ _ hf) c
          | none =>
            cases hs : stepW f0 k i j with
            | none => rfl
            | some v => exact absurd (step_dom h4 hs) c
      rw [e]
      exact .inr (tri_step (not_bad hn k hk) (h5.resolve_left hn))
  · by_cases hb : BadW n g
    · exact .inl hb
    · exact .inr ⟨hb, fun i j => by rw [if_neg (by omega)]⟩
structure Done (n : Nat) (E g : Ways) : Prop where
  dom : Dom n g
  sound : Sound E g
  le : LeE E g
  tri : BadW n g ∨ Tri g n
theorem fw_done {n : Nat} {E g : Ways} (h : FW n E n 0 0 g) : Done n E g := by
  obtain ⟨h1, h2, h3, f0, h4, h5, h6⟩ := h
  refine ⟨h1, h2, h3, ?_⟩
  rcases h6 with h6 | ⟨hn, h6⟩
  · exact .inl h6
  · have e : g = f0 := by funext i j; rw [h6, if_neg (by omega)]
    rw [e]
    exact h5
theorem Done.pot_no {n : Nat} {E g : Ways} (h : Done n E g) {p : Nat → Int} (hp : Pot E p) : ¬ BadW n g := fun ⟨i, v, hi, hv, hl⟩ => by
  have := h.sound.pot p hp _ _ _ hv
  omega
theorem Done.pot_of {n : Nat} {E g : Ways} (h : Done n E g) {q : Nat → Int} (hq : ∀ i, i < n → ∀ j, j < n → ∀ v, g i j = some v → q j - q i ≤ v) : Pot E q := fun i j v hv => by
  obtain ⟨w, hw, lw⟩ := h.le _ _ _ hv
  have hd := h.dom _ _ _ hw
  have := hq i hd.1 j hd.2 w hw
  omega
theorem Done.pot {n : Nat} {E g : Ways} (h : Done n E g) (hb : ¬ BadW n g) : ∃ p, Pot E p := by
  obtain ⟨q, hq, _⟩ := feas_all (ns := []) (p := fun _ => 0) (h.tri.resolve_left hb) (not_bad hb) (by simp) (fun i hi => by cases hi)
  exact ⟨q, h.pot_of hq⟩
theorem Done.pair {n : Nat} {E g : Ways} (h : Done n E g) (hb : ¬ BadW n g) {i j : Nat} (hi : i < n) (hj : j < n) (hij : i ≠ j) {x : Int} (h1 : ∀ v, g i j = some v → x ≤ v) (h2 : ∀ v, g j i = some v → -v ≤ x) : ∃ p, Pot E p ∧ p j - p i = x := by
  have hji : j ≠ i := fun e => hij e.symm
  obtain ⟨q, hq, hp⟩ := feas_all (ns := [i, j]) (p := fun k => if k = j then x else 0) (h.tri.resolve_left hb) (not_bad hb) (fun k hk => by
    rcases List.mem_cons.mp hk with rfl | hk
    · exact hi
    · rw [List.mem_singleton.mp hk]; exact hj) (fun a ha b hb' v hv => by
    rcases List.mem_cons.mp ha with rfl | ha
    · rcases List.mem_cons.mp hb' with rfl | hb'
      · have := not_bad hb _ hi _ hv; dsimp only; rw [if_neg hij]; omega
      · obtain rfl := List.mem_singleton.mp hb'
        have := h1 _ hv; dsimp only; rw [if_neg hij, if_pos rfl]; omega
    · obtain rfl := List.mem_singleton.mp ha
      rcases List.mem_cons.mp hb' with rfl | hb'
      · have := h2 _ hv; dsimp only; rw [if_neg hij, if_pos rfl]; omega
      · obtain rfl := List.mem_singleton.mp hb'
        have := not_bad hb _ hj _ hv; dsimp only; rw [if_pos rfl]; omega)
  refine ⟨q, h.pot_of hq, ?_⟩
  rw [hp i (by simp), hp j (by simp)]
  rw [if_neg hij, if_pos rfl]; omega
/-- whether two nodes hang together: numbers that can be moved apart -/
theorem Done.none_of_free {n : Nat} {E g : Ways} (h : Done n E g) {i j : Nat} (hf : ∀ t : Int, ∃ p, Pot E p ∧ t ≤ p j - p i) : g i j = none := by
  cases e : g i j with
  | none => rfl
  | some v =>
    obtain ⟨p, hp, hl⟩ := hf (v + 1)
    have := h.sound.pot p hp _ _ _ e
    omega
end PL

namespace PL
/-! ## tables with gaps: numbers and fillings -/
abbrev Gap := Nat → Nat → Option Int
def edF (F : Gap) (m w : Nat) : Ways := fun i j =>
  if i = j then (if i < m + w then some 0 else none)
  else if i < m ∧ m ≤ j ∧ j < m + w then (F i (j - m)).map fun e => -e * ((m + w + 1 : Nat) : Int)
  else if j < m ∧ m ≤ i ∧ i < m + w then (F j (i - m)).map fun e => (e + 1) * ((m + w + 1 : Nat) : Int) - 1
  else none
def Fill (F : Gap) (m w : Nat) (t : List (List Int)) : Prop := Rect t m w ∧ RealT t m w ∧ ∀ i j : Nat, i < m → j < w → ∀ v, F i j = some v → en t i j = v
theorem edF_dom (F : Gap) (m w : Nat) : Dom (m + w) (edF F m w) := fun i j v h => by
  unfold edF at h
  split at h
  · rename_i e
    split at h
    · omega
    · cases h
  · split at h
    · omega
    · split at h
      · omega
      · cases h
theorem edF_diag {F : Gap} {m w i : Nat} (h : i < m + w) : edF F m w i i = some 0 := by unfold edF; rw [if_pos rfl, if_pos h]
theorem edF_out {F : Gap} {m w i j : Nat} (hi : i < m) (hj : j < w) : edF F m w i (m + j) = (F i j).map fun e => -e * ((m + w + 1 : Nat) : Int) := by
  unfold edF; rw [if_neg (by omega), if_pos (by omega), show m + j - m = j by omega]
theorem edF_back {F : Gap} {m w i j : Nat} (hi : i < m) (hj : j < w) : edF F m w (m + j) i = (F i j).map fun e => (e + 1) * ((m + w + 1 : Nat) : Int) - 1 := by
  unfold edF; rw [if_neg (by omega), if_neg (by omega), if_pos (by omega), show m + j - m = j by omega]
theorem edF_cases {F : Gap} {m w i j : Nat} {v : Int} (h : edF F m w i j = some v) : (i = j ∧ v = 0) ∨ (∃ c e, i < m ∧ c < w ∧ j = m + c ∧ F i c = some e ∧ v = -e * ((m + w + 1 : Nat) : Int)) ∨ (∃ c e, j < m ∧ c < w ∧ i = m + c ∧ F j c = some e ∧ v = (e + 1) * ((m + w + 1 : Nat) : Int) - 1) := by
  unfold edF at h
  split at h
  · rename_i e
    split at h
    · cases h; exact .inl ⟨e, rfl⟩
    · cases h
  · split at h
    · rename_i _ c
      obtain ⟨e, h1, h2⟩ := Option.map_eq_some_iff.mp h
      exact .inr (.inl ⟨j - m, e, c.1, by omega, by omega, h1, h2.symm⟩)
    · split at h
      · rename_i _ _ c
        obtain ⟨e, h1, h2⟩ := Option.map_eq_some_iff.mp h
        exact .inr (.inr ⟨i - m, e, c.1, by omega, by omega, h1, h2.symm⟩)
      · cases h
theorem pot_iff {F : Gap} {m w : Nat} {p : Nat → Int} : Pot (edF F m w) p ↔ ∀ i j : Nat, i < m → j < w → ∀ v, F i j = some v → (p i - p (m + j)) / ((m + w + 1 : Nat) : Int) = v := by
  have hu : (0 : Int) < ((m + w + 1 : Nat) : Int) := by omega
  constructor
  · intro h i j hi hj v hv
    have h1 := h i (m + j) (-v * ((m + w + 1 : Nat) : Int)) (by rw [edF_out hi hj, hv]; rfl)
    have h2 := h (m + j) i ((v + 1) * ((m + w + 1 : Nat) : Int) - 1) (by rw [edF_back hi hj, hv]; rfl)
    generalize ((m + w + 1 : Nat) : Int) = u at *
    apply Int.le_antisymm
    · have : (p i - p (m + j)) / u < v + 1 := (Int.ediv_lt_iff_lt_mul hu).mpr (by omega)
      omega
    · refine (Int.le_ediv_iff_mul_le hu).mpr ?_
      rw [Int.neg_mul] at h1
      omega
  · intro h i j v hv
    rcases edF_cases hv with ⟨rfl, rfl⟩ | ⟨c, e, hi, hc, rfl, hF, rfl⟩ | ⟨c, e, hj, hc, rfl, hF, rfl⟩
    · omega
    · have := h i c hi hc e hF
      generalize ((m + w + 1 : Nat) : Int) = u at *
      have := (Int.le_ediv_iff_mul_le hu).mp (Int.le_of_eq this.symm)
      rw [Int.neg_mul]
      omega
    · have := h j c hj hc e hF
      generalize ((m + w + 1 : Nat) : Int) = u at *
      have := (Int.ediv_lt_iff_lt_mul hu).mp (show (p j - p (m + c)) / u < e + 1 by omega)
      omega
theorem pot_fill {F : Gap} {m w : Nat} {p : Nat → Int} (h : Pot (edF F m w) p) : ∃ t, Fill F m w t ∧ ∀ i j : Nat, i < m → j < w → en t i j = (p i - p (m + j)) / ((m + w + 1 : Nat) : Int) := by
  have hu : (0 : Int) < ((m + w + 1 : Nat) : Int) := by omega
  have h := pot_iff.mp h
  generalize ((m + w + 1 : Nat) : Int) = u at *
  have l1 : ((List.range m).map fun i => p i).length = m := by rw [List.length_map, List.length_range]
  have l2 : ((List.range w).map fun j => -p (m + j)).length = w := by rw [List.length_map, List.length_range]
  have hen : ∀ i j : Nat, i < m → j < w → en (mkT u ((List.range m).map fun i => p i) ((List.range w).map fun j => -p (m + j))) i j = (p i - p (m + j)) / u := by
    intro i j hi hj
    rw [mkT_en (by rw [l1]; omega) (by rw [l2]; omega), gi_rng (by omega), gi_rng (by omega)]
    simp only [Int.toNat_natCast]
    rfl
  refine ⟨mkT u ((List.range m).map fun i => p i) ((List.range w).map fun j => -p (m + j)), ⟨?_, ?_, fun i j hi hj v hv => (hen i j hi hj).trans (h i j hi hj v hv)⟩, hen⟩
  · have := mkT_rect (u := u) (R := (List.range m).map fun i => p i) (C := (List.range w).map fun j => -p (m + j))
    rwa [l1, l2] at this
  · have := mkT_real (u := u) (R := (List.range m).map fun i => p i) (C := (List.range w).map fun j => -p (m + j)) hu
    rwa [l1, l2] at this
theorem real_nums {m w : Nat} (hm : 1 ≤ m) (hw : 1 ≤ w) {t : List (List Int)} (ht : Rect t m w) (hR : RealT t m w) : ∃ p : Nat → Int, ∀ i j : Nat, i < m → j < w → en t i j = (p i - p (m + j)) / ((m + w + 1 : Nat) : Int) := by
  have hu : (0 : Int) < ((m + w + 1 : Nat) : Int) := by omega
  have hun := un_le_w t w
  have hmk := made_lv ht hm hw hR (L := rk t w) (u := ((m + w + 1 : Nat) : Int)) hu (rk_len t w) (fun j h0 h1 => by have := rk_bd (t := t) ⟨h0, h1⟩; omega) (fun j k j0 j1 k0 k1 h => (rk_lt ⟨j0, j1⟩ ⟨k0, k1⟩).mpr h)
  refine ⟨fun k => if k < m then gi (t.map (rowL t (rk t w) ((m + w + 1 : Nat) : Int))) k else -gi (colL t (rk t w) ((m + w + 1 : Nat) : Int)) (k - m : Nat), fun i j hi hj => ?_⟩
  have e := mkT_en (u := ((m + w + 1 : Nat) : Int)) (R := t.map (rowL t (rk t w) ((m + w + 1 : Nat) : Int))) (C := colL t (rk t w) ((m + w + 1 : Nat) : Int)) (i := i) (j := j) (by rw [List.length_map, ht.1]; omega) (by rw [colL_len (len_row ht (i := 0) (by omega)) (rk_len t w)]; omega)
  rw [hmk] at e
  rw [e]
  dsimp only
  rw [if_pos hi, if_neg (by omega), show m + j - m = j by omega]
  congr 1
  omega
theorem fill_pot {F : Gap} {m w : Nat} (hm : 1 ≤ m) (hw : 1 ≤ w) {t : List (List Int)} (h : Fill F m w t) : ∃ p : Nat → Int, Pot (edF F m w) p ∧ ∀ i j : Nat, i < m → j < w → en t i j = (p i - p (m + j)) / ((m + w + 1 : Nat) : Int) := by
  obtain ⟨p, hp⟩ := real_nums hm hw h.1 h.2.1
  exact ⟨p, pot_iff.mpr fun i j hi hj v hv => (hp i j hi hj).symm.trans (h.2.2 i j hi hj v hv), hp⟩
section
variable {F : Gap} {m w : Nat} {g : Ways}
theorem good_iff (hm : 1 ≤ m) (hw : 1 ≤ w) (h : Done (m + w) (edF F m w) g) : ¬ BadW (m + w) g ↔ ∃ t, Fill F m w t := by
  constructor
  · intro hb
    obtain ⟨p, hp⟩ := h.pot hb
    obtain ⟨t, ht, _⟩ := pot_fill hp
    exact ⟨t, ht⟩
  · rintro ⟨t, ht⟩
    obtain ⟨p, hp, _⟩ := fill_pot hm hw ht
    exact h.pot_no hp
theorem can_iff (hm : 1 ≤ m) (hw : 1 ≤ w) (h : Done (m + w) (edF F m w) g) (hb : ¬ BadW (m + w) g) {r c : Nat} (hr : r < m) (hc : c < w) (v : Int) : (∃ t, Fill F m w t ∧ en t r c = v) ↔ (∀ x, g r (m + c) = some x → -x / ((m + w + 1 : Nat) : Int) ≤ v) ∧ (∀ x, g (m + c) r = some x → v ≤ x / ((m + w + 1 : Nat) : Int)) := by
  have hu : (0 : Int) < ((m + w + 1 : Nat) : Int) := by omega
  constructor
  · rintro ⟨t, ht, rfl⟩
    obtain ⟨p, hp, he⟩ := fill_pot hm hw ht
    rw [he r c hr hc]
    refine ⟨fun x hx => Int.ediv_le_ediv hu ?_, fun x hx => Int.ediv_le_ediv hu ?_⟩
    · have := h.sound.pot p hp _ _ _ hx; omega
    · have := h.sound.pot p hp _ _ _ hx; omega
  · rintro ⟨h1, h2⟩
    have key : ∃ x0 : Int, x0 / ((m + w + 1 : Nat) : Int) = v ∧ (∀ x, g r (m + c) = some x → -x ≤ x0) ∧ (∀ x, g (m + c) r = some x → x0 ≤ x) := by
      generalize ((m + w + 1 : Nat) : Int) = u at *
      have ev : v * u / u = v := Int.mul_ediv_cancel _ (by omega)
      have hup : ∀ x, g (m + c) r = some x → v * u ≤ x := fun x hx => (Int.le_ediv_iff_mul_le hu).mp (h2 x hx)
      cases e1 : g r (m + c) with
      | none => exact ⟨v * u, ev, ⟨fun x hx => (by cases hx), hup⟩⟩
      | some x =>
        have hx := h1 x e1
        by_cases hl : v * u ≤ -x
        · refine ⟨-x, Int.le_antisymm hx ((Int.le_ediv_iff_mul_le hu).mpr hl), fun y hy => by cases hy; exact Int.le_refl _, fun y hy => ?_⟩
          obtain ⟨z, hz, lz⟩ := (h.tri.resolve_left hb) r r (m + c) (by omega) x y e1 hy
          have := not_bad hb r (by omega) z hz
          omega
        · exact ⟨v * u, ev, fun y hy => by cases hy; omega, hup⟩
    obtain ⟨x0, hx0, k1, k2⟩ := key
    obtain ⟨p, hp, hd⟩ := h.pair hb (i := r) (j := m + c) (x := -x0) (by omega) (by omega) (by omega) (fun y hy => by have := k1 y hy; omega) (fun y hy => by have := k2 y hy; omega)
    obtain ⟨t, ht, he⟩ := pot_fill hp
    refine ⟨t, ht, ?_⟩
    rw [he r c hr hc, ← hx0]
    congr 1
    omega
end
def setF (F : Gap) (a b : Nat) (v : Option Int) : Gap := fun i j => if i = a ∧ j = b then v else F i j
theorem fill_set {F : Gap} {m w a b : Nat} {v : Int} {t : List (List Int)} (ha : a < m) (hb : b < w) : Fill (setF F a b (some v)) m w t ↔ Fill (setF F a b none) m w t ∧ en t a b = v := by
  constructor
  · rintro ⟨h1, h2, h3⟩
    refine ⟨⟨h1, h2, fun i j hi hj x hx => ?_⟩, h3 a b ha hb v (by unfold setF; rw [if_pos ⟨rfl, rfl⟩])⟩
    unfold setF at hx h3
    split at hx
    · cases hx
    · rename_i hn; exact h3 i j hi hj x (by rw [if_neg hn]; exact hx)
  · rintro ⟨⟨h1, h2, h3⟩, h4⟩
    refine ⟨h1, h2, fun i j hi hj x hx => ?_⟩
    unfold setF at hx h3
    split at hx
    · rename_i e; cases hx; rw [e.1, e.2]; exact h4
    · rename_i hn; exact h3 i j hi hj x (by rw [if_neg hn]; exact hx)
theorem setF_self {F : Gap} {a b : Nat} (h : F a b = v) : setF F a b v = F := by
  funext i j
  unfold setF
  split
  · rename_i e; rw [e.1, e.2, h]
  · rfl
theorem edF_congr {F G : Gap} {m w : Nat} (h : ∀ i j, i < m → j < w → F i j = G i j) : edF F m w = edF G m w := by
  funext i j
  unfold edF
  split
  · rfl
  · split
    · rename_i c; rw [h i (j - m) c.1 (by omega)]
    · split
      · rename_i c; rw [h j (i - m) c.1 (by omega)]
      · rfl
theorem fill_congr {F G : Gap} {m w : Nat} {t : List (List Int)} (h : ∀ i j, i < m → j < w → F i j = G i j) (hf : Fill F m w t) : Fill G m w t := ⟨hf.1, hf.2.1, fun i j hi hj v hv => hf.2.2 i j hi hj v (by rw [h i j hi hj]; exact hv)⟩
end PL

namespace PL
/-! ## rings of known entries -/
def waysL (F : Gap) (i j c : Nat) : List Int := (List.range c).filterMap fun k => match F i k, F j k with | some a, some b => some (a - b - 1) | _, _ => none
def ringE (F : Gap) (m w : Nat) : Ways := fun i j => if i < m ∧ j < m then (if waysL F i j w = [] then none else some (-(mx (waysL F i j w)))) else none
theorem ways_mem {F : Gap} {i j c : Nat} {x : Int} : x ∈ waysL F i j c ↔ ∃ k a b, k < c ∧ F i k = some a ∧ F j k = some b ∧ x = a - b - 1 := by
  unfold waysL
  rw [List.mem_filterMap]
  constructor
  · rintro ⟨k, hk, h⟩
    split at h
    · rename_i a b h1 h2
      cases h
      exact ⟨k, a, b, List.mem_range.mp hk, h1, h2, rfl⟩
    · cases h
  · rintro ⟨k, a, b, hk, h1, h2, rfl⟩
    exact ⟨k, List.mem_range.mpr hk, by rw [h1, h2]⟩
theorem ring_dom (F : Gap) (m w : Nat) : Dom m (ringE F m w) := fun i j v h => by
  unfold ringE at h
  split at h
  · assumption
  · cases h
theorem ring_some {F : Gap} {m w i j : Nat} {v : Int} (h : ringE F m w i j = some v) : i < m ∧ j < m ∧ ∃ k a b, k < w ∧ F i k = some a ∧ F j k = some b ∧ v = b - a + 1 := by
  unfold ringE at h
  split at h
  · rename_i hij
    split at h
    · cases h
    · rename_i hn
      cases h
      obtain ⟨k, a, b, hk, h1, h2, e⟩ := ways_mem.mp (mx_mem hn)
      exact ⟨hij.1, hij.2, k, a, b, hk, h1, h2, by omega⟩
  · cases h
theorem ring_le {F : Gap} {m w i j k : Nat} {a b : Int} (hi : i < m) (hj : j < m) (hk : k < w) (h1 : F i k = some a) (h2 : F j k = some b) : LeO (ringE F m w i j) (b - a + 1) := by
  have hx : a - b - 1 ∈ waysL F i j w := ways_mem.mpr ⟨k, a, b, hk, h1, h2, rfl⟩
  refine ⟨-(mx (waysL F i j w)), ?_, ?_⟩
  · unfold ringE
    rw [if_pos ⟨hi, hj⟩, if_neg (fun e => by rw [e] at hx; cases hx)]
  · have := le_mx hx
    omega
/-- numbers, strictly: in parts of a unit -/
def PotS (f : Ways) (u : Int) (p : Nat → Int) : Prop := ∀ i j v, f i j = some v → p j - p i < u * v
def FeasS (f : Ways) (u : Int) (ns : List Nat) (p : Nat → Int) : Prop := ∀ i ∈ ns, ∀ j ∈ ns, ∀ v, f i j = some v → p j - p i < u * v
def Pos (n : Nat) (g : Ways) : Prop := ∀ i, i < n → ∀ v, g i i = some v → 1 ≤ v
theorem feasS_more {f : Ways} {n : Nat} (tri : Tri f n) (diag : Pos n f) {ns : List Nat} {p : Nat → Int} {u : Int} (hu : 0 < u) (hn : ∀ i ∈ ns, i < n) (h : FeasS f u ns p) {k : Nat} (hk : k < n) (hkn : k ∉ ns) : ∃ q, FeasS f (2 * u) (k :: ns) q := by
  obtain ⟨x, x1, x2⟩ := between (ns.filterMap fun i => (f k i).map fun v => 2 * p i - 2 * (u * v) + 1) (ns.filterMap fun i => (f i k).map fun v => 2 * p i + 2 * (u * v) - 1) (by
    intro l hl r hr
    obtain ⟨i, hi, hi2⟩ := List.mem_filterMap.mp hl
    obtain ⟨j, hj, hj2⟩ := List.mem_filterMap.mp hr
    obtain ⟨v, hv, rfl⟩ := Option.map_eq_some_iff.mp hi2
    obtain ⟨w, hw, rfl⟩ := Option.map_eq_some_iff.mp hj2
    obtain ⟨c, hc, lc⟩ := tri j i k hk w v hw hv
    have h1 := h j hj i hi c hc
    have h2 : u * c ≤ u * (w + v) := Int.mul_le_mul_of_nonneg_left lc (by omega)
    rw [Int.mul_add] at h2
    omega)
  refine ⟨fun i => if i = k then x else 2 * p i, fun i hi j hj v hv => ?_⟩
  dsimp only
  rw [Int.mul_assoc]
  by_cases ei : i = k
  · by_cases ej : j = k
    · subst ei; subst ej
      have h1 := diag _ hk _ hv
      have h2 : 0 < u * v := Int.mul_pos hu (by omega)
      omega
    · have hj' : j ∈ ns := (List.mem_cons.mp hj).resolve_left ej
      rw [if_pos ei, if_neg ej]
      subst ei
      have := x1 (2 * p j - 2 * (u * v) + 1) (List.mem_filterMap.mpr ⟨j, hj', by rw [hv]; rfl⟩)
      omega
  · have hi' : i ∈ ns := (List.mem_cons.mp hi).resolve_left ei
    by_cases ej : j = k
    · rw [if_neg ei, if_pos ej]
      subst ej
      have := x2 (2 * p i + 2 * (u * v) - 1) (List.mem_filterMap.mpr ⟨i, hi', by rw [hv]; rfl⟩)
      omega
    · have hj' : j ∈ ns := (List.mem_cons.mp hj).resolve_left ej
      rw [if_neg ei, if_neg ej]
      have := h i hi' j hj' v hv
      omega
theorem feasS_all {f : Ways} {n : Nat} (tri : Tri f n) (diag : Pos n f) : ∃ (u : Int) (q : Nat → Int), 0 < u ∧ ∀ i, i < n → ∀ j, j < n → ∀ v, f i j = some v → q j - q i < u * v := by
  have main : ∀ k, k ≤ n → ∃ (u : Int) (ms : List Nat) (q : Nat → Int), 0 < u ∧ FeasS f u ms q ∧ (∀ i ∈ ms, i < n) ∧ (∀ i, i < k → i ∈ ms) := by
    intro k
    induction k with
    | zero => exact fun _ => ⟨1, [], fun _ => 0, by omega, fun i hi => (by cases hi), fun i hi => (by cases hi), fun i hi => absurd hi (by omega)⟩
    | succ k ih =>
      intro hk
      obtain ⟨u, ms, q, hu, a, b, c⟩ := ih (by omega)
      by_cases hm : k ∈ ms
      · refine ⟨u, ms, q, hu, a, b, fun i hi => ?_⟩
        by_cases e : i = k
        · rw [e]; exact hm
        · exact c i (by omega)
      · obtain ⟨r, r1⟩ := feasS_more tri diag hu b a (by omega : k < n) hm
        refine ⟨2 * u, k :: ms, r, by omega, r1, fun i hi => ?_, fun i hi => ?_⟩
        · rcases List.mem_cons.mp hi with rfl | hi
          · omega
          · exact b i hi
        · by_cases e : i = k
          · rw [e]; exact List.mem_cons_self
          · exact List.mem_cons_of_mem _ (c i (by omega))
  obtain ⟨u, ms, q, hu, a, b, c⟩ := main n (Nat.le_refl _)
  exact ⟨u, q, hu, fun i hi j hj v hv => a i (c i hi) j (c j hj) v hv⟩
/-- rings are right exactly if there is a filling -/
theorem ring_iff {F : Gap} {m w : Nat} {g : Ways} (hm : 1 ≤ m) (hw : 1 ≤ w) (h : Done m (ringE F m w) g) : Pos m g ↔ ∃ t, Fill F m w t := by
  constructor
  · intro hp
    have hb : ¬ BadW m g := fun ⟨i, v, hi, hv, hl⟩ => by have := hp i hi v hv; omega
    obtain ⟨u, p, hu, hq⟩ := feasS_all (h.tri.resolve_left hb) hp
    have hcol : ∀ c, c < w → ∃ y : Int, ∀ r, r < m → ∀ a, F r c = some a → a * u ≤ p r + y ∧ p r + y ≤ a * u + u - 1 := by
      intro c hc
      obtain ⟨y, y1, y2⟩ := between ((List.range m).filterMap fun r => (F r c).map fun a => a * u - p r) ((List.range m).filterMap fun r => (F r c).map fun a => a * u + u - 1 - p r) (by
        intro l hl x hx
        obtain ⟨i, hi, hi2⟩ := List.mem_filterMap.mp hl
        obtain ⟨j, hj, hj2⟩ := List.mem_filterMap.mp hx
        obtain ⟨a, ha, rfl⟩ := Option.map_eq_some_iff.mp hi2
        obtain ⟨b, hb', rfl⟩ := Option.map_eq_some_iff.mp hj2
        have hi := List.mem_range.mp hi
        have hj := List.mem_range.mp hj
        obtain ⟨v, hv, lv⟩ := ring_le hi hj hc ha hb'
        obtain ⟨z, hz, lz⟩ := h.le _ _ _ hv
        have k1 := hq i hi j hj z hz
        have k2 : u * z ≤ u * (b - a + 1) := Int.mul_le_mul_of_nonneg_left (by omega) (by omega)
        rw [Int.mul_add, Int.mul_sub, Int.mul_one, Int.mul_comm u b, Int.mul_comm u a] at k2
        omega)
      refine ⟨y, fun r hr a ha => ?_⟩
      have k1 := y1 (a * u - p r) (List.mem_filterMap.mpr ⟨r, List.mem_range.mpr hr, by rw [ha]; rfl⟩)
      have k2 := y2 (a * u + u - 1 - p r) (List.mem_filterMap.mpr ⟨r, List.mem_range.mpr hr, by rw [ha]; rfl⟩)
      omega
    obtain ⟨y, hy⟩ : ∃ y : Nat → Int, ∀ c, c < w → ∀ r, r < m → ∀ a, F r c = some a → a * u ≤ p r + y c ∧ p r + y c ≤ a * u + u - 1 :=
      ⟨fun c => if hc : c < w then Classical.choose (hcol c hc) else 0, fun c hc => by
        dsimp only
        rw [dif_pos hc]
        exact Classical.choose_spec (hcol c hc)⟩
    have l1 : ((List.range m).map fun i => p i).length = m := by rw [List.length_map, List.length_range]
    have l2 : ((List.range w).map fun j => y j).length = w := by rw [List.length_map, List.length_range]
    refine ⟨mkT u ((List.range m).map fun i => p i) ((List.range w).map fun j => y j), ?_, ?_, fun i j hi hj v hv => ?_⟩
    · have := mkT_rect (u := u) (R := (List.range m).map fun i => p i) (C := (List.range w).map fun j => y j)
      rwa [l1, l2] at this
    · have := mkT_real (u := u) (R := (List.range m).map fun i => p i) (C := (List.range w).map fun j => y j) hu
      rwa [l1, l2] at this
    · rw [mkT_en (by rw [l1]; omega) (by rw [l2]; omega), gi_rng (by omega), gi_rng (by omega)]
      simp only [Int.toNat_natCast]
      have := hy j hj i hi v hv
      apply Int.le_antisymm
      · have : (p i + y j) / u < v + 1 := (Int.ediv_lt_iff_lt_mul hu).mpr (by rw [Int.add_mul, Int.one_mul]; omega)
        omega
      · exact (Int.le_ediv_iff_mul_le hu).mpr this.1
  · rintro ⟨t, ht⟩ i hi v hv
    obtain ⟨p, hp⟩ := real_nums hm hw ht.1 ht.2.1
    have hu : (0 : Int) < ((m + w + 1 : Nat) : Int) := by omega
    generalize ((m + w + 1 : Nat) : Int) = u at *
    have := h.sound (fun i j v => p j - p i < u * v) (fun i j k a b h1 h2 => by rw [Int.mul_add]; omega) (fun i j v hv => by
      obtain ⟨hi, hj, k, a, b, hk, ha, hb, rfl⟩ := ring_some hv
      have e1 := (hp i k hi hk).symm.trans (ht.2.2 i k hi hk a ha)
      have e2 := (hp j k hj hk).symm.trans (ht.2.2 j k hj hk b hb)
      have k1 := (Int.ediv_lt_iff_lt_mul hu).mp (show (p j - p (m + k)) / u < b + 1 by omega)
      have k2 := (Int.le_ediv_iff_mul_le hu).mp (Int.le_of_eq e1.symm)
      rw [Int.add_mul, Int.one_mul] at k1
      rw [Int.mul_add, Int.mul_sub, Int.mul_one, Int.mul_comm u b, Int.mul_comm u a]
      omega) i i v hv
    have h0 : 0 < u * v := by omega
    rcases Int.lt_or_le v 1 with hl | hl
    · exfalso
      have : u * v ≤ u * 0 := Int.mul_le_mul_of_nonneg_left (by omega) (by omega)
      omega
    · exact hl
end PL

namespace PL
open PySem PySem.Spec PyProof.Rows L2
/-! ## tables with gaps, dicts: reading -/
def oi (o : Option Int) : D := match o with | none => .non | some v => .int v
def ofPR (r : List (Option Int)) : D := .tup (r.map oi)
def ofP (P : List (List (Option Int))) : D := .tup (P.map ofPR)
def pe (P : List (List (Option Int))) : Gap := fun i j => (P.getD i []).getD j none
def RectP (P : List (List (Option Int))) (m w : Nat) : Prop := P.length = m ∧ ∀ r ∈ P, r.length = w
theorem len_rowP {P : List (List (Option Int))} {m w i : Nat} (h : RectP P m w) (hi : i < m) : (P.getD i []).length = w := by
  rw [getD_get _ _ (by rw [h.1]; exact hi)]
  exact h.2 _ (List.getElem_mem _)
theorem atN_map {α : Type} {f : α → D} {l : List α} {e : α} {i : Nat} (h : i < l.length) : atI (l.map f) (i : Int) = some (f (l.getD i e)) := by
  rw [atI_at (by simpa using h), List.getElem_map, getD_get _ _ h]
theorem g_lenP {P : List (List (Option Int))} : b1 gLen [ofP P] = some (.int P.length) := by show some (D.int ((P.map ofPR).length : Nat)) = _; rw [List.length_map]
theorem g_lenPR {r : List (Option Int)} : b1 gLen [ofPR r] = some (.int r.length) := by show some (D.int ((r.map oi).length : Nat)) = _; rw [List.length_map]
theorem g_ixP {P : List (List (Option Int))} {i : Nat} (h : i < P.length) : gIx (ofP P) (.int i) = some (ofPR (P.getD i [])) := atN_map h
theorem g_ixPR {r : List (Option Int)} {j : Nat} (h : j < r.length) : gIx (ofPR r) (.int j) = some (oi (r.getD j none)) := atN_map h
section
variable {ρ : DEnv} {a b c fi fj : DE} {P : List (List (Option Int))} {m w : Nat}
theorem ev_pe {i j : Nat} (hP : RectP P m w) (hi : i < m) (hj : j < w) (h0 : a ρ = some (ofP P)) (h1 : fi ρ = some (.int i)) (h2 : fj ρ = some (.int j)) : e2 gIx (e2 gIx a fi) fj ρ = some (oi (pe P i j)) :=
  ev_e2 (ev_e2 h0 h1 (g_ixP (by rw [hP.1]; exact hi))) h2 (g_ixPR (by rw [len_rowP hP hi]; exact hj))
theorem g_isN {neg : Bool} {o : Option Int} : gIsN neg (oi o) .non = some (.bl (if neg then o.isSome else o.isNone)) := by cases o <;> cases neg <;> rfl
/-! dicts -/
def wd (kvs : List ((Int × Int) × Int)) : Ways := fun i j => getK kvs ((i : Int), (j : Int))
theorem getK_put (d : List ((Int × Int) × Int)) (k : Int × Int) (v : Int) (l : Int × Int) : getK (putD d k v) l = if l = k then some v else getK d l := by
  have hmap : ∀ d : List ((Int × Int) × Int), getK (d.map fun p => if p.1 = k then (p.1, v) else p) l = if l = k then (if (d.any fun p => decide (p.1 = k)) = true then some v else none) else getK d l := by
    intro d
    induction d with
    | nil => by_cases e : l = k <;> simp [getK, e]
    | cons p d ih =>
      unfold getK at ih ⊢
      rw [List.map_cons, List.find?_cons, List.find?_cons, List.any_cons]
      by_cases h : p.1 = k
      · by_cases e : l = k
        · subst e; simp [h]
        · have h2 : ¬ p.1 = l := fun q => e (q.symm.trans h)
          have : ¬ k = l := fun q => e q.symm
          simp only [h, if_pos, this, decide_false, e, if_false]
          rw [ih, if_neg e]
      · rw [if_neg h]
        by_cases e : l = k
        · subst e
          have : ¬ p.1 = l := h
          simp only [this, decide_false, if_true, Bool.false_or]
          rw [ih, if_pos rfl]
        · rw [if_neg e]
          by_cases h3 : p.1 = l
          · simp [h3]
          · simp only [h3, decide_false]
            rw [ih, if_neg e]
  unfold putD
  split
  · rename_i h
    rw [hmap, h]
    simp
  · rename_i h
    have hk : getK d k = none := by
      unfold getK
      rw [Option.map_eq_none_iff, List.find?_eq_none]
      intro p hp hq
      exact h (List.any_eq_true.mpr ⟨p, hp, hq⟩)
    by_cases e : l = k
    · subst e
      rw [if_pos rfl]
      unfold getK at hk ⊢
      rw [Option.map_eq_none_iff] at hk
      rw [List.find?_append, hk]
      simp
    · rw [if_neg e]
      unfold getK
      rw [List.find?_append]
      have : ¬ k = l := fun q => e q.symm
      simp [this]
theorem wd_put (d : List ((Int × Int) × Int)) (a b : Nat) (v : Int) : wd (putD d ((a : Int), (b : Int)) v) = fun i j => if i = a ∧ j = b then some v else wd d i j := by
  funext i j
  unfold wd
  rw [getK_put]
  by_cases h : i = a ∧ j = b
  · rw [if_pos h, if_pos (by rw [h.1, h.2])]
  · rw [if_neg h, if_neg fun e => h (by
      have := Prod.mk.inj e
      omega)]
theorem put_len (d : List ((Int × Int) × Int)) (k : Int × Int) (v : Int) : (putD d k v).length ≤ d.length + 1 := by
  unfold putD
  split
  · rw [List.length_map]; omega
  · rw [List.length_append]; exact Nat.le_refl _
theorem ev_rvd {i : Nat} {kvs : List ((Int × Int) × Int)} (h : ρ i = some (.od kvs)) : eRv i ρ = some (.dct kvs) := by unfold eRv; rw [h]
theorem g_din {kvs : List ((Int × Int) × Int)} {i j : Int} : gDIn (.tup [.int i, .int j]) (.dct kvs) = some (.bl (getK kvs (i, j)).isSome) := rfl
theorem g_dget {kvs : List ((Int × Int) × Int)} {i j v : Int} (h : getK kvs (i, j) = some v) : gDGet (.dct kvs) (.tup [.int i, .int j]) = some (.int v) := by
  show (getK kvs (i, j)).map D.int = _
  rw [h]; rfl
theorem ev_dgetD {kvs : List ((Int × Int) × Int)} {i j v : Int} (h1 : a ρ = some (.dct kvs)) (h2 : b ρ = some (.tup [.int i, .int j])) (h3 : c ρ = some (.int v)) : eDGetD a b c ρ = some (.int ((getK kvs (i, j)).getD v)) := by
  unfold eDGetD; rw [h1, h2, h3]; rfl
theorem ev_k2 {i j : Int} (h1 : a ρ = some (.int i)) (h2 : b ρ = some (.int j)) : eTup (dCons a (dCons b dNil)) ρ = some (.tup [.int i, .int j]) := ev_tup (ev_cons h1 (ev_cons h2 ev_nil)) rfl
variable {N : DEnv → Prop} {R : D → Prop} {f : DS}
theorem wp_ownD {i : Nat} (k : N (ρ.set i (.od []))) : Wp (sOwnD i) ρ N R := ⟨_, rfl, k⟩
theorem wp_setD {i : Nat} {fk fe : DE} {kvs : List ((Int × Int) × Int)} {x y v : Int} (h1 : ρ i = some (.od kvs)) (h2 : fk ρ = some (.tup [.int x, .int y])) (h3 : fe ρ = some (.int v)) (hl : kvs.length < 16777216) (k : N (ρ.set i (.od (putD kvs (x, y) v)))) : Wp (sSetD i fk fe) ρ N R := ⟨.nx (ρ.set i (.od (putD kvs (x, y) v))), by
  unfold sSetD
  rw [h1, h2, h3]
  show (if szB (kvs.length + 1) = true then _ else _) = _
  rw [if_pos (szB_of (by omega))], k⟩
theorem wp_forL {it : DI} {j : Nat} {body : DS} (n : Nat) (h : it ρ = some (((List.range n).map fun i => D.int (i : Nat)).map .p)) (I : Nat → DEnv → Prop) (h0 : I 0 ρ)
    (hs : ∀ k ρ, k < n → I k ρ → Wp body (ρ.set j (.p (.int (k : Nat)))) (I (k + 1)) R) (hd : ∀ ρ, I n ρ → N ρ) : Wp (sFor it (.nm j) body) ρ N R := by
  refine wp_forC _ h I h0 (fun k d ρ e hI => ?_) (fun ρ hI => hd ρ (by simpa using hI))
  rw [List.getElem?_map] at e
  by_cases hk : k < n
  · rw [List.getElem?_range hk] at e
    cases e
    exact ⟨_, rfl, hs k ρ hk hI⟩
  · rw [List.getElem?_eq_none (by simp; omega)] at e; cases e
def nodesD (n : Nat) : D := .lst ((List.range n).map fun i => D.int (i : Nat))
theorem it_nodes {n : Nat} (h : a ρ = some (nodesD n)) : iOf asS a ρ = some (((List.range n).map fun i => D.int (i : Nat)).map .p) := seq_lst h
theorem ev_nodes {n : Nat} (h : a ρ = some (.int n)) (hn : n ≤ 1000000) : eNew (dRng (eC (.int 0)) a) ρ = some (nodesD n) := by
  refine ev_new (ds := (List.range n).map fun i => D.int (i : Nat)) ?_
  unfold dRng
  rw [h]
  show (if _ then _ else _) = _
  rw [if_pos (by omega)]
  have : ((n : Int) - 0).toNat = n := by omega
  rw [this]
  congr 1
  apply List.map_congr_left
  intro i _
  rw [Int.zero_add]
end
end PL
namespace PL
open PySem PySem.Spec PyProof.Rows L2
/-! own lists of lists with gaps -/
def llP (Q : List (List (Option Int))) : Cell := .oll (Q.map fun r => r.map oi)
def setP (Q : List (List (Option Int))) (a b : Nat) (v : Int) : List (List (Option Int)) := Q.set a ((Q.getD a []).set b (some v))
theorem rect_setP {Q : List (List (Option Int))} {m w a b : Nat} {v : Int} (h : RectP Q m w) (ha : a < m) : RectP (setP Q a b v) m w := ⟨by unfold setP; rw [List.length_set]; exact h.1, fun r hr => by
  unfold setP at hr
  rcases List.mem_or_eq_of_mem_set hr with hr | rfl
  · exact h.2 r hr
  · rw [List.length_set]; exact len_rowP h ha⟩
theorem pe_setP {Q : List (List (Option Int))} {m w a b i j : Nat} {v : Int} (h : RectP Q m w) (ha : a < m) (hb : b < w) (hi : i < m) (hj : j < w) : pe (setP Q a b v) i j = setF (pe Q) a b (some v) i j := by
  have hl := h.1
  have l2 := len_rowP h ha
  unfold pe setF setP
  rw [getD_get (Q.set a ((Q.getD a []).set b (some v))) [] (by rw [List.length_set]; omega), List.getElem_set]
  by_cases e : a = i
  · subst e
    rw [if_pos rfl, getD_get ((Q.getD a []).set b (some v)) none (by rw [List.length_set]; omega), List.getElem_set]
    by_cases e2 : b = j
    · subst e2; rw [if_pos rfl, if_pos ⟨rfl, rfl⟩]
    · rw [if_neg e2, if_neg (fun q => e2 q.2.symm)]
      exact (getD_get (Q.getD a []) none (by omega)).symm
  · rw [if_neg e, if_neg (fun q => e q.1.symm), ← getD_get Q [] (by omega)]
section
variable {ρ : DEnv} {i : Nat} {fb fe f1 f2 : DE} {Q : List (List (Option Int))} {m w : Nat}
theorem ev_lenLLP (h : ρ i = some (llP Q)) : eLenLL i ρ = some (.int Q.length) := by unfold eLenLL; rw [h]; show some (D.int ((Q.map fun r => r.map oi).length : Nat)) = _; rw [List.length_map]
theorem ev_ixLLP {k : Nat} (h : ρ i = some (llP Q)) (hb : fb ρ = some (.int k)) (hk : k < Q.length) : eIxLL i fb ρ = some (.lst ((Q.getD k []).map oi)) := by
  unfold eIxLL; rw [h, hb]
  show (atI (Q.map fun r => r.map oi) (k : Int)).map D.lst = _
  rw [atI_at (by simpa using hk), List.getElem_map, getD_get _ _ hk]; rfl
theorem wp_setP {N : DEnv → Prop} {R : D → Prop} {a b : Nat} {v : Int} (h1 : ρ i = some (llP Q)) (he : fe ρ = some (.int v)) (hf1 : f1 ρ = some (.int a)) (hf2 : f2 ρ = some (.int b)) (ht : RectP Q m w) (ha : a < m) (hb : b < w) (k : N (ρ.set i (llP (setP Q a b v)))) : Wp (sSetLL i f1 f2 fe) ρ N R := by
  have e1 := ht.1
  have e2 := len_rowP ht ha
  refine wp_setLL (k1 := a) (k2 := b) (xs := (Q.getD a []).map oi) h1 he hf1 hf2 ?_ (by rw [List.length_map, e2]; omega) ?_
  · rw [List.getElem?_map, List.getElem?_eq_getElem (by omega : a < Q.length), getD_get _ _ (by omega : a < Q.length)]; rfl
  · have : llP (setP Q a b v) = .oll ((Q.map fun r => r.map oi).set a (((Q.getD a []).map oi).set b (.int v))) := by
      unfold llP setP; rw [List.map_set, List.map_set]; rfl
    rw [← this]; exact k
theorem own_LLP {fa : DE} {j : Nat} {ws : List Nat} (h : fa ρ = some (ofP Q)) (hl : Q.length ≤ 16777216) : eCompLL (iOf asS fa) (.nm j) ws bYes (dBlt gList (dCons (eRv j) dNil)) ρ = some (Q.map fun r => r.map oi) := by
  have main : ∀ l : List (List (Option Int)), compLL (.nm j) ws bYes (dBlt gList (dCons (eRv j) dNil)) ρ ((l.map ofPR).map .p) = some (l.map fun r => r.map oi) := by
    intro l
    induction l with
    | nil => rfl
    | cons x l ih =>
      rw [List.map_cons, List.map_cons]
      unfold compLL
      show (some ((ρ.wipe ws).set j (.p (ofPR x)))).bind _ = _
      rw [Option.bind_some, show bYes ((ρ.wipe ws).set j (.p (ofPR x))) = some true from rfl, Option.bind_some, if_pos rfl, ev_dblt (ds := [ofPR x]) (es := x.map oi) (ev_cons (ev_rv (by unfold DEnv.set; rw [if_pos rfl])) ev_nil) rfl, Option.bind_some, ih]
      rfl
  unfold eCompLL
  rw [show iOf asS fa ρ = some ((Q.map ofPR).map .p) from seq_tup h, Option.bind_some, main, Option.bind_some, if_pos]
  rw [List.length_map]; exact szB_of hl
theorem tup_LLP {j : Nat} {ws : List Nat} (h : ρ i = some (llP Q)) (hl : Q.length ≤ 16777216) : eBlt (b1 gTuple) (dCons (eNew (eComp (iLL i) (.nm j) ws bYes (eBlt (b1 gTuple) (dCons (eRv j) dNil)))) dNil) ρ = some (ofP Q) := by
  have main : ∀ l : List (List (Option Int)), compL (.nm j) ws bYes (eBlt (b1 gTuple) (dCons (eRv j) dNil)) ρ (l.map fun r => .ol (r.map oi)) = some (l.map ofPR) := by
    intro l
    induction l with
    | nil => rfl
    | cons x l ih =>
      rw [List.map_cons]
      unfold compL
      show (some ((ρ.wipe ws).set j (.ol (x.map oi)))).bind _ = _
      rw [Option.bind_some, show bYes ((ρ.wipe ws).set j (.ol (x.map oi))) = some true from rfl, Option.bind_some, if_pos rfl, ev_tupOf (l := x.map oi) (ev_rvo (by unfold DEnv.set; rw [if_pos rfl])), Option.bind_some, ih]
      rfl
  refine ev_tupOf (l := Q.map ofPR) (ev_new ?_)
  unfold eComp
  have : iLL i ρ = some (Q.map fun r => .ol (r.map oi)) := by unfold iLL; rw [h]; show some ((Q.map fun r => r.map oi).map Cell.ol) = _; rw [List.map_map]; rfl
  rw [this, Option.bind_some, main, Option.bind_some, if_pos]
  rw [List.length_map]; exact szB_of hl
end
/-! full tables -/
def toP (t : List (List Int)) : List (List (Option Int)) := t.map fun r => r.map some
theorem ofP_toP (t : List (List Int)) : ofP (toP t) = ofT t := by
  unfold ofP toP ofT
  rw [List.map_map]
  congr 1
  apply List.map_congr_left
  intro r _
  show ofPR (r.map some) = ofR r
  unfold ofPR ofR
  rw [List.map_map]; rfl
theorem rect_toP {t : List (List Int)} {m w : Nat} (h : Rect t m w) : RectP (toP t) m w := ⟨by unfold toP; rw [List.length_map]; exact h.1, fun r hr => by
  obtain ⟨x, hx, rfl⟩ := List.mem_map.mp hr
  rw [List.length_map]; exact h.2 x hx⟩
theorem pe_toP {t : List (List Int)} {m w i j : Nat} (h : Rect t m w) (hi : i < m) (hj : j < w) : pe (toP t) i j = some (en t i j) := by
  have hl := h.1
  have lr := len_row h (i := i) (by omega)
  unfold pe toP
  rw [getD_get (t.map fun r => r.map some) [] (by rw [List.length_map]; omega), List.getElem_map]
  have e : t[i]'(by omega) = row t i := by unfold row; rw [getD_get _ _ (by simp only [Int.toNat_natCast]; omega)]; simp
  rw [e, getD_get ((row t i).map some) none (by rw [List.length_map]; omega), List.getElem_map]
  unfold en gi
  rw [getD_get (row t i) 0 (by simp only [Int.toNat_natCast]; omega)]
  simp
theorem ext_P {P Q : List (List (Option Int))} {m w : Nat} (hP : RectP P m w) (hQ : RectP Q m w) (h : ∀ i j, i < m → j < w → pe P i j = pe Q i j) : P = Q := by
  have h1 := hP.1
  have h2 := hQ.1
  apply List.ext_getElem (h1.trans h2.symm)
  intro i a1 a2
  have e1 := len_rowP hP (i := i) (by omega)
  have e2 := len_rowP hQ (i := i) (by omega)
  have k := h i
  unfold pe at k
  rw [getD_get _ _ a1] at e1 k
  rw [getD_get _ _ a2] at e2 k
  apply List.ext_getElem (e1.trans e2.symm)
  intro j b1 b2
  have := k j (by omega) (by omega)
  rwa [getD_get _ _ b1, getD_get _ _ b2] at this
theorem fill_self {t : List (List Int)} {m w : Nat} (ht : Rect t m w) (hR : RealT t m w) : Fill (pe (toP t)) m w t := ⟨ht, hR, fun i j hi hj v hv => by
  rw [pe_toP ht hi hj] at hv; cases hv; rfl⟩
theorem fill_full {t s : List (List Int)} {m w : Nat} (ht : Rect t m w) (h : Fill (pe (toP t)) m w s) : s = t := by
  refine ext_rect h.1 ht fun i j i0 i1 j0 j1 => ?_
  have := h.2.2 i.toNat j.toNat (by omega) (by omega) (en t i.toNat j.toNat) (pe_toP ht (by omega) (by omega))
  rwa [Int.toNat_of_nonneg i0, Int.toNat_of_nonneg j0] at this
end PL

namespace PL
open PySem PySem.Spec PyProof.Rows L2
/-! ## one entry another one; ends of ranges -/
def withP (Q : List (List (Option Int))) (a b : Nat) (v : Option Int) : List (List (Option Int)) := Q.set a ((Q.getD a []).set b v)
theorem rect_withP {Q : List (List (Option Int))} {m w a b : Nat} {v : Option Int} (h : RectP Q m w) (ha : a < m) : RectP (withP Q a b v) m w := ⟨by unfold withP; rw [List.length_set]; exact h.1, fun r hr => by
  unfold withP at hr
  rcases List.mem_or_eq_of_mem_set hr with hr | rfl
  · exact h.2 r hr
  · rw [List.length_set]; exact len_rowP h ha⟩
theorem pe_withP {Q : List (List (Option Int))} {m w a b i j : Nat} {v : Option Int} (h : RectP Q m w) (ha : a < m) (hb : b < w) (hi : i < m) (hj : j < w) : pe (withP Q a b v) i j = setF (pe Q) a b v i j := by
  have hl := h.1
  have l2 := len_rowP h ha
  unfold pe setF withP
  rw [getD_get (Q.set a ((Q.getD a []).set b v)) [] (by rw [List.length_set]; omega), List.getElem_set]
  by_cases e : a = i
  · subst e
    rw [if_pos rfl, getD_get ((Q.getD a []).set b v) none (by rw [List.length_set]; omega), List.getElem_set]
    by_cases e2 : b = j
    · subst e2; rw [if_pos rfl, if_pos ⟨rfl, rfl⟩]
    · rw [if_neg e2, if_neg (fun q => e2 q.2.symm)]
      exact (getD_get (Q.getD a []) none (by omega)).symm
  · rw [if_neg e, if_neg (fun q => e q.1.symm), ← getD_get Q [] (by omega)]
theorem eqv_oi (x y : Option Int) : D.eqv (oi x) (oi y) = decide (x = y) := by
  cases x with
  | none => cases y with | none => rfl | some b => rfl
  | some a => cases y with
    | none => rfl
    | some b => refine (eqv_int a b).trans ?_; simp
theorem faith_oi : Faith oi := eqv_oi
theorem okn_oi {n : Nat} : OkN oi n := fun x => by cases x <;> cases n <;> rfl
theorem faith_PR : Faith ofPR := faith_tup faith_oi
theorem okn_PR {n : Nat} : OkN ofPR (n + 1) := okn_tup okn_oi
theorem faith_P : Faith ofP := faith_tup faith_PR
theorem okn_P {n : Nat} : OkN ofP (n + 2) := okn_tup okn_PR
def pr2 (a b : Option Int) : D := .tup [oi a, oi b]
theorem g_ne2 {a b c d : Option Int} : gNe (pr2 a b) (pr2 c d) = some (.bl (!decide (a = c ∧ b = d))) := by
  refine (g_neF faith_PR okn_PR [a, b] [c, d]).trans ?_
  simp
theorem g_eq2 {a b c d : Option Int} : gEq (pr2 a b) (pr2 c d) = some (.bl (decide (a = c ∧ b = d))) := by
  refine (g_eqF faith_PR okn_PR [a, b] [c, d]).trans ?_
  simp
section
variable {ρ : DEnv} {a b c : DE} {lo hi : DO} {o1 o2 : Option Int} {N : DEnv → Prop} {R : D → Prop}
theorem ev_cutPR {l : List (Option Int)} (h : a ρ = some (ofPR l)) (h1 : lo ρ = some o1) (h2 : hi ρ = some o2) : eCut a lo hi ρ = some (ofPR (cutI l o1 o2)) := by
  unfold eCut; rw [h, h1, h2]
  show some (D.tup (cutD (l.map oi) o1 o2)) = _
  rw [cutD_map]; rfl
theorem ev_cutP {l : List (List (Option Int))} (h : a ρ = some (ofP l)) (h1 : lo ρ = some o1) (h2 : hi ρ = some o2) : eCut a lo hi ρ = some (ofP (cutI l o1 o2)) := by
  unfold eCut; rw [h, h1, h2]
  show some (D.tup (cutD (l.map ofPR) o1 o2)) = _
  rw [cutD_map]; rfl
theorem g_addT {α : Type} (f : α → D) {x y : List α} (h : x.length + y.length ≤ 16777216) : gAdd (.tup (x.map f)) (.tup (y.map f)) = some (.tup ((x ++ y).map f)) := by
  show (if szB ((x.map f).length + (y.map f).length) = true then _ else _) = _
  rw [if_pos (szB_of (by rw [List.length_map, List.length_map]; exact h)), List.map_append]
theorem g_addL {α : Type} (f : α → D) {x y : List α} (h : x.length + y.length ≤ 16777216) : gAdd (.lst (x.map f)) (.lst (y.map f)) = some (.lst ((x ++ y).map f)) := by
  show (if szB ((x.map f).length + (y.map f).length) = true then _ else _) = _
  rw [if_pos (szB_of (by rw [List.length_map, List.length_map]; exact h)), List.map_append]
theorem wp_forI {lo hi : DE} {j : Nat} {body : DS} (a b : Int) (ha : lo ρ = some (.int a)) (hb : hi ρ = some (.int b)) (h1 : -1000000000 ≤ a ∧ a ≤ 1000000000) (h2 : -1000000000 ≤ b ∧ b ≤ 1000000000) (I : DEnv → Prop) (h0 : I ρ)
    (hs : ∀ (k : Int) ρ, a ≤ k → k < b → I ρ → Wp body (ρ.set j (.p (.int k))) I R) (hd : ∀ ρ, I ρ → N ρ) : Wp (sFor (iRng lo hi) (.nm j) body) ρ N R := by
  refine wp_forC ((List.range (b - a).toNat).map fun i => D.int (a + (i : Nat))) ?_ (fun _ => I) h0 (fun k d ρ e hI => ?_) hd
  · unfold iRng
    rw [ha, hb]
    show (if _ then _ else _) = _
    rw [if_pos ⟨h1.1, h1.2, h2.1, h2.2⟩]
    unfold rngCells
    rw [List.map_map]; rfl
  · rw [List.getElem?_map] at e
    by_cases hk : k < (b - a).toNat
    · rw [List.getElem?_range hk] at e
      cases e
      exact ⟨_, rfl, hs _ ρ (by omega) (by omega) hI⟩
    · rw [List.getElem?_eq_none (by simp; omega)] at e; cases e
end
theorem ends {lo hi : Option Int} {A B v0 : Int} (h : ∀ v, ((∀ x, lo = some x → x ≤ v) ∧ (∀ x, hi = some x → v ≤ x)) ↔ A ≤ v ∧ v ≤ B) (h0 : A ≤ v0 ∧ v0 ≤ B) : lo = some A ∧ hi = some B := by
  have k0 := (h v0).mpr h0
  constructor
  · cases hl : lo with
    | none =>
      have := (h (A - 1)).mp ⟨fun x hx => (by rw [hl] at hx; cases hx), fun x hx => (by have := k0.2 x hx; omega)⟩
      omega
    | some a =>
      have h1 := k0.1 a hl
      have h2 := (h a).mp ⟨fun x hx => (by rw [hl] at hx; cases hx; omega), fun x hx => (by have := k0.2 x hx; omega)⟩
      have h3 := ((h A).mpr ⟨Int.le_refl _, by omega⟩).1 a hl
      congr 1; omega
  · cases hl : hi with
    | none =>
      have := (h (B + 1)).mp ⟨fun x hx => (by have := k0.1 x hx; omega), fun x hx => (by rw [hl] at hx; cases hx)⟩
      omega
    | some a =>
      have h1 := k0.2 a hl
      have h2 := (h a).mp ⟨fun x hx => (by have := k0.1 x hx; omega), fun x hx => (by rw [hl] at hx; cases hx; omega)⟩
      have h3 := ((h B).mpr ⟨by omega, Int.le_refl _⟩).2 a hl
      congr 1; omega
theorem ends_free {lo hi : Option Int} (h : ∀ v, (∀ x, lo = some x → x ≤ v) ∧ (∀ x, hi = some x → v ≤ x)) : lo = none ∧ hi = none := by
  constructor
  · cases hl : lo with
    | none => rfl
    | some a => have := (h (a - 1)).1 a hl; omega
  · cases hl : hi with
    | none => rfl
    | some a => have := (h (a + 1)).2 a hl; omega
/-- one entry of a real table another one -/
theorem real_set {t : List (List Int)} {m w : Nat} (ht : Rect t m w) (hR : RealT t m w) {r c v : Int} (hr : 0 ≤ r ∧ r < m) (hc : 0 ≤ c ∧ c < w) :
    RealT (setT t r c v) m w ↔ ∀ i j : Int, 0 ≤ i → i < m → 0 ≤ j → j < w → i ≠ r → j ≠ c → -1 ≤ v - (en t r j + en t i c - en t i j) ∧ v - (en t r j + en t i c - en t i j) ≤ 1 := by
  have hen : ∀ i j : Int, 0 ≤ i → i < m → 0 ≤ j → j < w → en (setT t r c v) i j = if i = r ∧ j = c then v else en t i j := fun i j i0 i1 j0 j1 => en_setT ht hr hc ⟨i0, i1⟩ ⟨j0, j1⟩
  constructor
  · intro h i j i0 i1 j0 j1 hir hjc
    have := real_all h (i := r) (j := i) (a := c) (b := j) hr ⟨i0, i1⟩ hc ⟨j0, j1⟩
    unfold cr at this
    rw [hen r c hr.1 hr.2 hc.1 hc.2, hen i j i0 i1 j0 j1, hen r j hr.1 hr.2 j0 j1, hen i c i0 i1 hc.1 hc.2, if_pos ⟨rfl, rfl⟩, if_neg (fun e => hir e.1), if_neg (fun e => hjc e.2), if_neg (fun e => hir e.1)] at this
    omega
  · intro h i j a b i0 ij jm a0 ab bw
    have o := hR i j a b i0 ij jm a0 ab bw
    unfold cr at o ⊢
    rw [hen i a i0 (by omega) a0 (by omega), hen j b (by omega) jm (by omega) bw, hen i b i0 (by omega) (by omega) bw, hen j a (by omega) jm a0 (by omega)]
    by_cases c1 : i = r
    · subst c1
      by_cases c2 : a = c
      · subst c2
        have := h j b (by omega) jm (by omega) bw (by omega) (by omega)
        rw [if_pos ⟨rfl, rfl⟩, if_neg (by omega), if_neg (by omega), if_neg (by omega)]
        omega
      · by_cases c3 : b = c
        · subst c3
          have := h j a (by omega) jm (by omega) (by omega) (by omega) (by omega)
          rw [if_neg (by omega), if_neg (by omega), if_pos ⟨rfl, rfl⟩, if_neg (by omega)]
          omega
        · rw [if_neg (by omega), if_neg (by omega), if_neg (by omega), if_neg (by omega)]
          exact o
    · by_cases c1 : j = r
      · subst c1
        by_cases c2 : a = c
        · subst c2
          have := h i b (by omega) (by omega) (by omega) bw (by omega) (by omega)
          rw [if_neg (by omega), if_neg (by omega), if_neg (by omega), if_pos ⟨rfl, rfl⟩]
          omega
        · by_cases c3 : b = c
          · subst c3
            have := h i a (by omega) (by omega) (by omega) (by omega) (by omega) (by omega)
            rw [if_neg (by omega), if_pos ⟨rfl, rfl⟩, if_neg (by omega), if_neg (by omega)]
            omega
          · rw [if_neg (by omega), if_neg (by omega), if_neg (by omega), if_neg (by omega)]
            exact o
      · rw [if_neg (by omega), if_neg (by omega), if_neg (by omega), if_neg (by omega)]
        exact o
theorem with_toP {t : List (List Int)} {m w r c : Nat} {v : Int} (ht : Rect t m w) (hr : r < m) (hc : c < w) : withP (toP t) r c (some v) = toP (setT t r c v) := by
  refine ext_P (rect_withP (rect_toP ht) hr) (rect_toP (rect_setT ht (by omega))) fun i j hi hj => ?_
  rw [pe_withP (rect_toP ht) hr hc hi hj, pe_toP (rect_setT ht (by omega)) hi hj, en_setT ht (by omega) (by omega) (by omega) (by omega)]
  unfold setF
  by_cases e : i = r ∧ j = c
  · rw [if_pos e, if_pos (by omega)]
  · rw [if_neg e, if_neg (by omega), pe_toP ht hi hj]
/-- fillings of a table with one gap -/
theorem fill_gap {t s : List (List Int)} {m w r c : Nat} (ht : Rect t m w) (hr : r < m) (hc : c < w) : Fill (pe (withP (toP t) r c none)) m w s ↔ s = setT t r c (en s r c) ∧ RealT s m w ∧ Rect s m w := by
  constructor
  · intro h
    refine ⟨?_, h.2.1, h.1⟩
    refine ext_rect h.1 (rect_setT ht (by omega)) fun i j i0 i1 j0 j1 => ?_
    rw [en_setT ht (by omega) (by omega) ⟨i0, i1⟩ ⟨j0, j1⟩]
    by_cases e : i = r ∧ j = c
    · rw [if_pos e, e.1, e.2]
    · rw [if_neg e]
      have k := h.2.2 i.toNat j.toNat (by omega) (by omega) (en t i j) (by
        rw [pe_withP (rect_toP ht) hr hc (by omega) (by omega)]
        unfold setF
        rw [if_neg (by omega), pe_toP ht (by omega) (by omega), Int.toNat_of_nonneg i0, Int.toNat_of_nonneg j0])
      rwa [Int.toNat_of_nonneg i0, Int.toNat_of_nonneg j0] at k
  · rintro ⟨h1, h2, h3⟩
    refine ⟨h3, h2, fun i j hi hj v hv => ?_⟩
    rw [pe_withP (rect_toP ht) hr hc hi hj] at hv
    unfold setF at hv
    split at hv
    · cases hv
    · rename_i e
      rw [pe_toP ht hi hj] at hv
      cases hv
      rw [h1, en_setT ht (by omega) (by omega) (by omega) (by omega), if_neg (by omega)]
theorem can_gap {t : List (List Int)} {m w r c : Nat} {v : Int} (ht : Rect t m w) (hr : r < m) (hc : c < w) : (∃ s, Fill (pe (withP (toP t) r c none)) m w s ∧ en s r c = v) ↔ RealT (setT t r c v) m w := by
  constructor
  · rintro ⟨s, hs, rfl⟩
    obtain ⟨h1, h2, -⟩ := (fill_gap ht hr hc).mp hs
    rw [← h1]; exact h2
  · intro h
    have e : en (setT t r c v) r c = v := by rw [en_setT ht (by omega) (by omega) (by omega) (by omega), if_pos ⟨rfl, rfl⟩]
    exact ⟨setT t r c v, (fill_gap ht hr hc).mpr ⟨by rw [e], h, rect_setT ht (by omega)⟩, e⟩
end PL

namespace PL
open PySem PySem.Spec PyProof.Rows L2
theorem cell_spec (ns : List Int) (k : Nat) : ∃ i : Int, f_law_cell [.scr ns, .int k] = some (.int i) := by
  suffices h : ∃ d, f_law_cell [.scr ns, .int k] = some d ∧ ∃ i : Int, d = .int i by
    obtain ⟨d, h1, i, rfl⟩ := h
    exact ⟨i, h1⟩
  refine fn_of_wp rfl ?_
  unfold b_law_cell
  apply wp_seq
  refine wp_if (by walk_at "ev") (fun hb => ?_) (fun hb => ?_)
  · have hb := of_decide_eq_true hb
    refine wp_ret (by walk_at "evo") ?_
    exact ⟨_, rfl⟩
  · apply wp_skip
    apply wp_seq
    refine wp_if (by walk_at "ev") (fun hb => ?_) (fun hb => ?_)
    · refine wp_ret (by walk_at "ev") ?_
      exact ⟨_, rfl⟩
    · apply wp_skip
      have hb := of_decide_eq_false hb
      have h0 := Int.emod_nonneg (k : Int) hb
      have h1 := Int.emod_lt_of_pos (k : Int) (by omega : (0 : Int) < ns.length)
      refine wp_ret (by walk_at "evo") ?_
      exact ⟨_, rfl⟩
theorem digits_spec (ns : List Int) (k n : Nat) (base : Int) (hn : n ≤ 1000) (hb : 0 < base ∧ base < 4294967296) : ∃ ds : List Int, f_law_digits [.scr ns, .int k, .int n, .int base] = some (ofI ds) ∧ ds.length = n ∧ ∀ d ∈ ds, 0 ≤ d ∧ d < base := by
  obtain ⟨c, hc⟩ := cell_spec ns k
  suffices h : ∃ d, f_law_digits [.scr ns, .int k, .int n, .int base] = some d ∧ ∃ ds : List Int, d = ofI ds ∧ ds.length = n ∧ ∀ d ∈ ds, 0 ≤ d ∧ d < base by
    obtain ⟨d, h1, i, rfl, h3⟩ := h
    exact ⟨i, h1, h3⟩
  obtain ⟨P, hP⟩ : ∃ P : List Int, P = [2147483647, 2147483629, 2147483587, 2147483579, 2147483563, 2147483549, 2147483543, 2147483497] := ⟨_, rfl⟩
  have hP8 : P.length = 8 := by rw [hP]; rfl
  have prim : ∀ i : Int, 0 < gi P (i % 8) ∧ gi P (i % 8) < 2147483648 := by
    intro i
    have h0 := Int.emod_nonneg i (by decide : (8 : Int) ≠ 0)
    have h1 := Int.emod_lt_of_pos i (by decide : (0 : Int) < 8)
    generalize i % 8 = j at *
    have : j = 0 ∨ j = 1 ∨ j = 2 ∨ j = 3 ∨ j = 4 ∨ j = 5 ∨ j = 6 ∨ j = 7 := by omega
    rw [hP]
    rcases this with rfl | rfl | rfl | rfl | rfl | rfl | rfl | rfl <;> decide
  refine fn_of_wp rfl ?_
  unfold b_law_digits
  apply wp_seq
  refine wp_asg (d := ofR P) (by rw [hP]; rfl) ?_
  apply wp_seq
  refine wp_asg (by walk_at "ev"; exact hc) ?_
  apply wp_seq
  refine wp_asg (by walk_at "evo") ?_
  apply wp_seq
  refine wp_own (ds := []) rfl ?_
  apply wp_seq
  have hr : 0 ≤ (if decide ((10 : Int) ^ (18 : Int).toNat ≤ c) = true then c else 0) := by
    split
    · rename_i h; have h := of_decide_eq_true h
      exact Int.le_trans (by decide) h
    · decide
  refine wp_forN 0 n (by walk_at "ev") (by walk_at "ev") (by omega) (by omega) (fun t ρ => ∃ (ds : List Int) (r : Int), ρ 1 = some (.p (.int k)) ∧ ρ 3 = some (.p (.int base)) ∧ ρ 4 = some (.p (ofR P)) ∧
    ρ 5 = some (.p (.int c)) ∧ ρ 6 = some (.p (.int r)) ∧ 0 ≤ r ∧ ρ 7 = some (.ol (ds.map .int)) ∧ ds.length = t ∧ ∀ d ∈ ds, 0 ≤ d ∧ d < base) ?_ ?_ ?_
  · exact ⟨[], _, rfl, rfl, rfl, rfl, rfl, hr, rfl, rfl, by simp⟩
  · rintro t ρ - ht ⟨ds, r, h1, h3, h4, h5, h6, hr, h7, hl, hd⟩
    have htt : (t : Int) * t ≤ 1000 * 1000 := Int.mul_le_mul (by omega) (by omega) (by omega) (by omega)
    have htt0 : 0 ≤ (t : Int) * t := Int.mul_nonneg (by omega) (by omega)
    have e2t : 2 * (t : Int) * t = 2 * (t * t) := Int.mul_assoc _ _ _
    have p1 := prim t
    apply wp_seq
    refine wp_asg (by walk_at "evo") ?_
    apply wp_seq
    refine wp_asg (by walk_at "evo") ?_
    apply wp_seq
    have p2 := prim (3 * t + k)
    refine wp_asg (by walk_at "evo") ?_
    have q1 := Int.emod_nonneg (c % gi P (↑t % 8) * (48271 + 2 * ↑t * ↑t) + 7919 * (↑t + 1) * (↑t + 1) + 104729 * ↑k) (Int.ne_of_gt p2.1)
    have q2 := Int.emod_lt_of_pos (c % gi P (↑t % 8) * (48271 + 2 * ↑t * ↑t) + 7919 * (↑t + 1) * (↑t + 1) + 104729 * ↑k) p2.1
    generalize (c % gi P (↑t % 8) * (48271 + 2 * ↑t * ↑t) + 7919 * (↑t + 1) * (↑t + 1) + 104729 * ↑k) % gi P ((3 * ↑t + ↑k) % 8) = mix at q1 q2 ⊢
    have p3 := prim (t + 5)
    apply wp_seq
    refine wp_asg (by walk_at "evo") ?_
    generalize mix * mix * mix % gi P ((↑t + 5) % 8) = mix
    apply wp_seq
    refine Wp.mono (M := fun ρ' => ∃ m : Int, ρ' 1 = some (.p (.int k)) ∧ ρ' 3 = some (.p (.int base)) ∧ ρ' 4 = some (.p (ofR P)) ∧ ρ' 5 = some (.p (.int c)) ∧ ρ' 6 = some (.p (.int r)) ∧ ρ' 7 = some (.ol (ds.map .int)) ∧ ρ' 9 = some (.p (.int m))) ?_ ?_
    · refine wp_if (by walk_at "ev") (fun hb => ?_) (fun hb => ?_)
      · refine wp_asg (by walk_at "ev") ?_
        exact ⟨r, h1, h3, h4, h5, h6, h7, rfl⟩
      · apply wp_skip
        exact ⟨mix, h1, h3, h4, h5, h6, h7, rfl⟩
    · rintro ρ' ⟨m, h1, h3, h4, h5, h6, h7, h9⟩
      apply wp_seq
      refine wp_app h7 (by walk_at "evo") (by rw [List.length_map]; omega) ?_
      refine wp_asg (by walk_at "evo") ?_
      refine ⟨ds ++ [m % base], r / base, h1, h3, h4, h5, rfl, Int.ediv_nonneg hr (by omega), ?_, by rw [List.length_append, hl]; rfl, ?_⟩
      · rw [List.map_append]; rfl
      · intro d hd'
        rcases List.mem_append.mp hd' with h | h
        · exact hd d h
        · rw [List.mem_singleton] at h; subst h
          exact ⟨Int.emod_nonneg _ (by omega), Int.emod_lt_of_pos _ hb.1⟩
  · rintro ρ ⟨ds, r, h1, h3, h4, h5, h6, hr, h7, hl, hd⟩
    refine wp_pre ?_
    have : freeze 7 ρ = ρ.set 7 (.p (ofI ds)) := by unfold freeze; rw [h7]; rfl
    rw [this]
    refine wp_ret (by walk_at "ev") ?_
    exact ⟨ds, rfl, by omega, hd⟩
end PL

namespace PL
open PySem PySem.Spec PyProof.Rows L2
theorem table_spec (ds : List Int) (m w : Nat) (hd : 14 ≤ ds.length) (hm : 1 ≤ m ∧ m ≤ 6) (hw : 1 ≤ w ∧ w ≤ 6) : ∃ (u : Int) (R C : List Int), f_law_table [ofI ds, .int m, .int w] = some (ofT (mkT u R C)) ∧ (0 < u ∧ u ≤ 7) ∧ R.length = m ∧ C.length = w ∧
    (∀ r ∈ R, -100 ≤ r ∧ r < 300) ∧ ∀ c ∈ C, 0 ≤ c ∧ c < 304 := by
  suffices h : ∃ d, f_law_table [ofI ds, .int m, .int w] = some d ∧ ∃ (u : Int) (R C : List Int), d = ofT (mkT u R C) ∧ (0 < u ∧ u ≤ 7) ∧ R.length = m ∧ C.length = w ∧
    (∀ r ∈ R, -100 ≤ r ∧ r < 300) ∧ ∀ c ∈ C, 0 ≤ c ∧ c < 304 by
    obtain ⟨d, h1, u, R, C, rfl, h3⟩ := h
    exact ⟨u, R, C, h1, h3⟩
  refine fn_of_wp rfl ?_
  unfold b_law_table
  apply wp_seq
  refine wp_asg (by walk_at "evo") ?_
  apply wp_seq
  refine wp_asg (d := ofI ((List.range w).map fun (k : Nat) => gi ds (1 + k) % 300)) (new_compN .int w _ (by walk_at "ev") (by walk_at "ev") (by omega) (fun k hk => by walk_at "evo")) ?_
  apply wp_seq
  refine wp_asg (d := ofI ((List.range m).map fun (k : Nat) => gi ds (7 + k) % 400 - 100)) (new_compN .int m _ (by walk_at "ev") (by walk_at "ev") (by omega) (fun k hk => by walk_at "evo")) ?_
  generalize hu : 1 + gi ds 0 % 7 = u
  have hu1 : 0 < u ∧ u ≤ 7 := by omega
  generalize hC : (List.range w).map (fun (k : Nat) => gi ds (1 + k) % 300) = C
  have hC1 : C.length = w := by rw [← hC]; simp
  have hC2 : ∀ c ∈ C, 0 ≤ c ∧ c < 300 := by
    intro c hc
    rw [← hC] at hc
    obtain ⟨k, _, rfl⟩ := List.mem_map.mp hc
    omega
  generalize hR : (List.range m).map (fun (k : Nat) => gi ds (7 + k) % 400 - 100) = R
  have hR1 : R.length = m := by rw [← hR]; simp
  have hR2 : ∀ c ∈ R, -100 ≤ c ∧ c < 300 := by
    intro c hc
    rw [← hR] at hc
    obtain ⟨k, _, rfl⟩ := List.mem_map.mp hc
    omega
  apply wp_seq
  refine Wp.mono (M := fun ρ => ∃ C : List Int, C.length = w ∧ (∀ c ∈ C, 0 ≤ c ∧ c < 304) ∧ ρ 3 = some (.p (.int u)) ∧ ρ 4 = some (.p (ofI C)) ∧ ρ 5 = some (.p (ofI R))) ?_ ?_
  · refine wp_if (by walk_at "evo") (fun hb => ?_) (fun hb => ?_)
    · refine wp_asg (d := ofI ((cutI ds (some 1) (some (1 + w))).map fun x => gi C 0 + x % 5)) (new_comp .int _ _ _ (it_I (ev_cutI (by walk_at "evo") (by walk_at "evo") (by walk_at "evo"))) ?_ (fun x hx => by walk_at "evo")) ?_
      · have := cutI_len (l := ds) (i := 1) (j := 1 + w) (by omega) (by omega)
        rw [Int.natCast_add] at this
        exact Nat.le_trans (Nat.le_of_eq this) (by omega)
      · refine ⟨_, ?_, ?_, rfl, rfl, rfl⟩
        · have := cutI_len (l := ds) (i := 1) (j := 1 + w) (by omega) (by omega)
          rw [Int.natCast_add] at this
          rw [List.length_map]
          exact this.trans (by omega)
        · intro c hc
          obtain ⟨x, _, rfl⟩ := List.mem_map.mp hc
          have := hC2 _ (mem_gi (l := C) (i := 0) (by omega))
          omega
    · apply wp_skip
      exact ⟨C, hC1, fun c hc => ⟨(hC2 c hc).1, by have := (hC2 c hc).2; omega⟩, rfl, rfl, rfl⟩
  · rintro ρ ⟨C, hC1, hC2, h3, h4, h5⟩
    refine wp_ret (d := ofT (mkT u R C)) (ev_tupOf (new_comp ofR R _ _ (it_I (by walk_at "ev")) (by omega) (fun r hr => ev_tupOf (new_comp .int C _ _ (it_I (by walk_at "ev")) (by omega) (fun c hc => by walk_at "evo"))))) ?_
    exact ⟨u, R, C, rfl, hu1, hR1, hC1, hR2, hC2⟩
end PL

namespace PL
open PySem PySem.Spec PyProof.Rows L2
def quad (q : Int × Int × Int × Int) : D := .tup [.int q.1, .int q.2.1, .int q.2.2.1, .int q.2.2.2]
def Sq (m w : Nat) (q : Int × Int × Int × Int) : Prop := 0 ≤ q.1 ∧ q.1 < q.2.1 ∧ q.2.1 < m ∧ 0 ≤ q.2.2.1 ∧ q.2.2.1 < q.2.2.2 ∧ q.2.2.2 < w
def Bad (t : List (List Int)) (q : Int × Int × Int × Int) : Prop := ¬ (-1 ≤ cr t q.1 q.2.1 q.2.2.1 q.2.2.2 ∧ cr t q.1 q.2.1 q.2.2.1 q.2.2.2 ≤ 1)
end PL

namespace PL
open PySem PySem.Spec PyProof.Rows L2
theorem squares_spec {t : List (List Int)} {m w : Nat} (ht : Rect t m w) (hm : 1 ≤ m ∧ m ≤ 6) (hw : 1 ≤ w ∧ w ≤ 6) : ∃ qs : List (Int × Int × Int × Int), f_law_squares [ofT t] = some (.lst (qs.map quad)) ∧ ∀ q, q ∈ qs ↔ Sq m w q ∧ Bad t q := by
  suffices h : ∃ d, f_law_squares [ofT t] = some d ∧ ∃ qs : List (Int × Int × Int × Int), d = .lst (qs.map quad) ∧ ∀ q, q ∈ qs ↔ Sq m w q ∧ Bad t q by
    obtain ⟨d, h1, i, rfl, h3⟩ := h
    exact ⟨i, h1, h3⟩
  have hl := ht.1
  have hr0 := len_row ht (i := 0) (by omega)
  refine fn_of_wp rfl ?_
  unfold b_law_squares
  apply wp_seq
  refine wp_own (ds := []) rfl ?_
  apply wp_seq
  refine wp_forN 0 m (by walk_at "ev") (by rw [← hl]; walk_at "ev") (by omega) (by omega) (fun i ρ => ρ 0 = some (.p (ofT t)) ∧ ∃ qs : List (Int × Int × Int × Int), ρ 1 = some (.ol (qs.map quad)) ∧ qs.length ≤ i * 216 ∧ ∀ q, q ∈ qs ↔ Sq m w q ∧ Bad t q ∧ q.1 < i) ⟨rfl, [], rfl, by simp, fun q => ⟨fun h => by simp at h, fun h => absurd h.1.1 (by omega)⟩⟩ ?_ ?_
  · rintro i ρ - hi ⟨h0, qs, h1, hn, hI⟩
    refine wp_forN (i + 1) m (by walk_at "ev") (by rw [← hl]; walk_at "ev") (by omega) (by omega) (fun j ρ => ρ 0 = some (.p (ofT t)) ∧ ρ 2 = some (.p (.int i)) ∧ ∃ qs : List (Int × Int × Int × Int), ρ 1 = some (.ol (qs.map quad)) ∧ qs.length ≤ i * 216 + j * 36 ∧ ∀ q, q ∈ qs ↔ Sq m w q ∧ Bad t q ∧ (q.1 < i ∨ q.1 = i ∧ q.2.1 < j)) ⟨h0, rfl, qs, h1, by omega, fun q => (hI q).trans ⟨fun h => ⟨h.1, h.2.1, .inl h.2.2⟩, fun h => ⟨h.1, h.2.1, ?_⟩⟩⟩ ?_ ?_
    · have := h.1.2.1; omega
    · rintro j ρ hij hj ⟨h0, h2, qs, h1, hn, hI⟩
      refine wp_forN 0 w (by walk_at "ev") (by rw [← hr0]; walk_at "evr") (by omega) (by omega) (fun a ρ => ρ 0 = some (.p (ofT t)) ∧ ρ 2 = some (.p (.int i)) ∧ ρ 3 = some (.p (.int j)) ∧ ∃ qs : List (Int × Int × Int × Int), ρ 1 = some (.ol (qs.map quad)) ∧ qs.length ≤ i * 216 + j * 36 + a * 6 ∧ ∀ q, q ∈ qs ↔ Sq m w q ∧ Bad t q ∧ (q.1 < i ∨ q.1 = i ∧ (q.2.1 < j ∨ q.2.1 = j ∧ q.2.2.1 < a))) ⟨h0, h2, rfl, qs, h1, by omega, fun q => (hI q).trans ⟨fun h => ⟨h.1, h.2.1, ?_⟩, fun h => ⟨h.1, h.2.1, ?_⟩⟩⟩ ?_ ?_
      · have := h.2.2; omega
      · have := h.2.2; have := h.1.2.2.2.1; omega
      · rintro a ρ - ha ⟨h0, h2, h3, qs, h1, hn, hI⟩
        refine wp_forN (a + 1) w (by walk_at "ev") (by rw [← hr0]; walk_at "evr") (by omega) (by omega) (fun b ρ => ρ 0 = some (.p (ofT t)) ∧ ρ 2 = some (.p (.int i)) ∧ ρ 3 = some (.p (.int j)) ∧ ρ 4 = some (.p (.int a)) ∧ ∃ qs : List (Int × Int × Int × Int), ρ 1 = some (.ol (qs.map quad)) ∧ qs.length ≤ i * 216 + j * 36 + a * 6 + b ∧ ∀ q, q ∈ qs ↔ Sq m w q ∧ Bad t q ∧ (q.1 < i ∨ q.1 = i ∧ (q.2.1 < j ∨ q.2.1 = j ∧ (q.2.2.1 < a ∨ q.2.2.1 = a ∧ q.2.2.2 < b)))) ⟨h0, h2, h3, rfl, qs, h1, by omega, fun q => (hI q).trans ⟨fun h => ⟨h.1, h.2.1, ?_⟩, fun h => ⟨h.1, h.2.1, ?_⟩⟩⟩ ?_ ?_
        · have := h.2.2; omega
        · have := h.2.2; have := h.1.2.2.2.2.1; omega
        · rintro b ρ hab hb ⟨h0, h2, h3, h4, qs, h1, hn, hI⟩
          apply wp_seq
          refine wp_asg (by walk_at "evr") ?_
          apply wp_seq
          refine wp_asg (by walk_at "evr") ?_
          refine wp_if (by walk_at "ev") (fun hb => ?_) (fun hb => ?_)
          · refine wp_app h1 (d := D.tup [.int i, .int j, .int a, .int b]) (by walk_at "ev") (by rw [List.length_map]; omega) ?_
            refine ⟨h0, h2, h3, h4, qs ++ [((i : Int), (j : Int), (a : Int), (b : Int))], by rw [List.map_append]; rfl, by rw [List.length_append, List.length_singleton]; omega, fun q => ?_⟩
            rw [List.mem_append, List.mem_singleton, hI]
            have hbad : Bad t (↑i, ↑j, ↑a, ↑b) := by
              unfold Bad cr en
              dsimp only
              simp only [Bool.or_eq_true, decide_eq_true_eq] at hb
              omega
            constructor
            · rintro (⟨k1, k2, k3⟩ | rfl)
              · exact ⟨k1, k2, by omega⟩
              · exact ⟨by unfold Sq; dsimp only; omega, hbad, by dsimp only; omega⟩
            · rintro ⟨k1, k2, k3⟩
              by_cases e : q = (↑i, ↑j, ↑a, ↑b)
              · exact .inr e
              · refine .inl ⟨k1, k2, ?_⟩
                obtain ⟨q1, q2, q3, q4⟩ := q
                simp only [Prod.mk.injEq] at e k3 ⊢
                omega
          · apply wp_skip
            refine ⟨h0, h2, h3, h4, qs, h1, by omega, fun q => (hI q).trans ⟨fun h => ⟨h.1, h.2.1, ?_⟩, fun h => ⟨h.1, h.2.1, ?_⟩⟩⟩
            · have := h.2.2; omega
            · have hbad : ¬ Bad t (↑i, ↑j, ↑a, ↑b) := by
                unfold Bad cr en
                dsimp only
                simp only [Bool.or_eq_false_iff, decide_eq_false_iff_not] at hb
                omega
              have h2 := h.2.1
              have h3 := h.2.2
              by_cases e : q = (↑i, ↑j, ↑a, ↑b)
              · subst e; exact absurd h2 hbad
              · obtain ⟨q1, q2, q3, q4⟩ := q
                simp only [Prod.mk.injEq] at e h3 ⊢
                omega
        · rintro ρ ⟨h0, h2, h3, h4, qs, h1, hn, hI⟩
          refine ⟨h0, h2, h3, qs, h1, by omega, fun q => (hI q).trans ⟨fun h => ⟨h.1, h.2.1, ?_⟩, fun h => ⟨h.1, h.2.1, ?_⟩⟩⟩
          · have := h.2.2; omega
          · have := h.2.2; have := h.1.2.2.2.2; omega
      · rintro ρ ⟨h0, h2, h3, qs, h1, hn, hI⟩
        refine ⟨h0, h2, qs, h1, by omega, fun q => (hI q).trans ⟨fun h => ⟨h.1, h.2.1, ?_⟩, fun h => ⟨h.1, h.2.1, ?_⟩⟩⟩
        · have := h.2.2; omega
        · have := h.2.2; have := h.1.2.2.2.2; omega
    · rintro ρ ⟨h0, h2, qs, h1, hn, hI⟩
      refine ⟨h0, qs, h1, by omega, fun q => (hI q).trans ⟨fun h => ⟨h.1, h.2.1, ?_⟩, fun h => ⟨h.1, h.2.1, ?_⟩⟩⟩
      · have := h.2.2; omega
      · have := h.2.2; have := h.1.2.2; omega
  · rintro ρ ⟨h0, qs, h1, hn, hI⟩
    refine wp_pre ?_
    have : freeze 1 ρ = ρ.set 1 (.p (.lst (qs.map quad))) := by unfold freeze; rw [h1]
    rw [this]
    refine wp_ret (by walk_at "ev") ?_
    refine ⟨qs, rfl, fun q => (hI q).trans ⟨fun h => ⟨h.1, h.2.1⟩, fun h => ⟨h.1, h.2, ?_⟩⟩⟩
    have := h.1.2.2
    have := h.1.2.1
    omega
end PL

namespace PL
open PySem PySem.Spec PyProof.Rows L2
theorem spoilt_spec {t : List (List Int)} {m w : Nat} (ht : Rect t m w) (hm : 1 ≤ m ∧ m ≤ 6) (hw : 1 ≤ w ∧ w ≤ 6) (ds : List Int) (hd : 7 ≤ ds.length) : ∃ t', f_law_spoilt [ofT t, ofI ds] = some (ofT t') ∧ Rect t' m w ∧
    ∃ ps : List (Int × Int), ps.length ≤ 2 ∧ (∀ p ∈ ps, 0 ≤ p.1 ∧ p.1 < m ∧ 0 ≤ p.2 ∧ p.2 < w) ∧ ∀ i j : Int, 0 ≤ i → i < m → 0 ≤ j → j < w → (i, j) ∉ ps → en t' i j = en t i j := by
  suffices h : ∃ d, f_law_spoilt [ofT t, ofI ds] = some d ∧ ∃ t', d = ofT t' ∧ Rect t' m w ∧
    ∃ ps : List (Int × Int), ps.length ≤ 2 ∧ (∀ p ∈ ps, 0 ≤ p.1 ∧ p.1 < m ∧ 0 ≤ p.2 ∧ p.2 < w) ∧ ∀ i j : Int, 0 ≤ i → i < m → 0 ≤ j → j < w → (i, j) ∉ ps → en t' i j = en t i j by
    obtain ⟨d, h1, i, rfl, h3⟩ := h
    exact ⟨i, h1, h3⟩
  have hl := ht.1
  refine fn_of_wp rfl ?_
  unfold b_law_spoilt
  apply wp_seq
  refine wp_ownLL (own_LL (by walk_at "ev") (by omega)) ?_
  apply wp_seq
  have hk := Int.emod_nonneg (gi ds 0) (by decide : (2 : Int) ≠ 0)
  have hk2 := Int.emod_lt_of_pos (gi ds 0) (by decide : (0 : Int) < 2)
  have hn : 1 + gi ds 0 % 2 = ((1 + (gi ds 0 % 2).toNat : Nat) : Int) := by omega
  refine wp_forN 0 (1 + (gi ds 0 % 2).toNat) (by walk_at "ev") (by rw [← hn]; walk_at "evr") (by omega) (by omega) (fun k ρ => ρ 1 = some (.p (ofI ds)) ∧ ∃ t', ρ 2 = some (llC t') ∧ Rect t' m w ∧
    ∃ ps : List (Int × Int), ps.length ≤ k ∧ (∀ p ∈ ps, 0 ≤ p.1 ∧ p.1 < m ∧ 0 ≤ p.2 ∧ p.2 < w) ∧ ∀ i j : Int, 0 ≤ i → i < m → 0 ≤ j → j < w → (i, j) ∉ ps → en t' i j = en t i j) ⟨rfl, t, rfl, ht, [], by simp, by simp, fun _ _ _ _ _ _ _ => rfl⟩ ?_ ?_
  · rintro k ρ - hk ⟨h1, t', h2, ht', ps, hps, hp, hE⟩
    have hl' := ht'.1
    have r0 := len_row ht' (i := 0) (by omega)
    apply wp_seq
    refine wp_asg (by walk_at "evr") ?_
    apply wp_seq
    refine wp_asg (by walk_at "evr") ?_
    have a0 := Int.emod_nonneg (gi ds (1 + k)) (by omega : (t'.length : Int) ≠ 0)
    have a1 := Int.emod_lt_of_pos (gi ds (1 + k)) (by omega : 0 < (t'.length : Int))
    have b0 := Int.emod_nonneg (gi ds (3 + k)) (by omega : ((row t' 0).length : Int) ≠ 0)
    have b1 := Int.emod_lt_of_pos (gi ds (3 + k)) (by omega : 0 < ((row t' 0).length : Int))
    generalize gi ds (1 + ↑k) % (t'.length : Int) = a at *
    generalize gi ds (3 + ↑k) % ((row t' 0).length : Int) = b at *
    have c0 := Int.emod_nonneg (gi ds (5 + k)) (by omega : (5 : Int) ≠ 0)
    have c1 := Int.emod_lt_of_pos (gi ds (5 + k)) (by omega : 0 < (5 : Int))
    refine wp_setT h2 (v := en t' a b + gi [1, 0 - 1, 2, 0 - 2, 3] (gi ds (5 + k) % 5)) (ev_e2 (by walk_at "evr") (ev_e2 (ev_newI (l := [1, 0 - 1, 2, 0 - 2, 3]) (by walk_at "ev")) (by walk_at "evr") (g_ixI ⟨c0, c1⟩)) rfl) (by walk_at "ev") (by walk_at "ev") ht' (by omega) (by omega) ?_
    refine ⟨h1, _, rfl, rect_setT ht' (by omega), (a, b) :: ps, by simpa using hps, ?_, fun i j i0 i1 j0 j1 hn => ?_⟩
    · intro p hp'
      rcases List.mem_cons.mp hp' with rfl | hp'
      · dsimp only; omega
      · exact hp p hp'
    · rw [en_setT ht' (by omega) (by omega) (by omega) (by omega), if_neg, hE i j i0 i1 j0 j1 fun h => hn (List.mem_cons_of_mem _ h)]
      rintro ⟨rfl, rfl⟩
      exact hn List.mem_cons_self
  · rintro ρ ⟨h1, t', h2, ht', ps, hps, hp, hE⟩
    have hl' := ht'.1
    refine wp_ret (d := ofT t') ?_ ⟨t', rfl, ht', ps, by omega, hp, hE⟩
    have := ev_tupOf (new_comp_ll ofR (fun r => r) (it_ll h2) (by omega) (fun r hr => show eBlt (b1 gTuple) (dCons (eRv 4) dNil) ((ρ.wipe [4]).set 4 (.ol (r.map D.int))) = some (ofR r) from ev_blt (ev_cons (ev_rvo rfl) ev_nil) rfl))
    rw [List.map_id'] at this
    exact this
end PL

namespace PL
open PySem PySem.Spec PyProof.Rows L2
def maskF (F : Gap) (a b : Nat) : Gap := fun i j => if i < a ∨ (i = a ∧ j < b) then F i j else none
theorem mask_none {F : Gap} {m w i j : Nat} (h : F i j = none) : edF (maskF F i j) m w = edF (maskF F i (j + 1)) m w := edF_congr fun a b _ _ => by
  unfold maskF
  by_cases e : a = i ∧ b = j
  · rw [if_neg (by omega), if_pos (by omega), e.1, e.2, h]
  · by_cases c : a < i ∨ (a = i ∧ b < j)
    · rw [if_pos c, if_pos (by omega)]
    · rw [if_neg c, if_neg (by omega)]
theorem mask_row {F : Gap} {m w i : Nat} : edF (maskF F i w) m w = edF (maskF F (i + 1) 0) m w := edF_congr fun a b _ hb => by
  unfold maskF
  by_cases c : a < i ∨ (a = i ∧ b < w)
  · rw [if_pos c, if_pos (by omega)]
  · rw [if_neg c, if_neg (by omega)]
theorem mask_end {F : Gap} {m w : Nat} : edF (maskF F m 0) m w = edF F m w := edF_congr fun a b ha _ => by
  unfold maskF
  rw [if_pos (by omega)]
theorem mask_start {F : Gap} {m w : Nat} : edF (maskF F 0 0) m w = fun i j => if i = j ∧ i < m + w then some 0 else none := by
  funext i j
  have : ∀ a b, maskF F 0 0 a b = none := fun a b => by unfold maskF; rw [if_neg (by omega)]
  unfold edF
  simp only [this, Option.map_none]
  by_cases e : i = j
  · rw [if_pos e]
    by_cases c : i < m + w
    · rw [if_pos c, if_pos ⟨e, c⟩]
    · rw [if_neg c, if_neg (by omega)]
  · rw [if_neg e, if_neg (fun q : i = j ∧ i < m + w => e q.1)]; split
    · rfl
    · split <;> rfl
theorem mask_some {F : Gap} {m w i j : Nat} {e : Int} (hi : i < m) (hj : j < w) (h : F i j = some e) :
    (fun a b => if a = m + j ∧ b = i then some ((e + 1) * ((m + w + 1 : Nat) : Int) - 1) else if a = i ∧ b = m + j then some (-e * ((m + w + 1 : Nat) : Int)) else edF (maskF F i j) m w a b) = edF (maskF F i (j + 1)) m w := by
  have hm : maskF F i (j + 1) i j = some e := by unfold maskF; rw [if_pos (by omega), h]
  have hne : ∀ a b, ¬ (a = i ∧ b = j) → maskF F i j a b = maskF F i (j + 1) a b := fun a b hn => by
    unfold maskF
    by_cases c : a < i ∨ (a = i ∧ b < j)
    · rw [if_pos c, if_pos (by omega)]
    · rw [if_neg c, if_neg (by omega)]
  funext a b
  by_cases c1 : a = m + j ∧ b = i
  · rw [if_pos c1, c1.1, c1.2, edF_back hi hj, hm]; rfl
  · rw [if_neg c1]
    by_cases c2 : a = i ∧ b = m + j
    · rw [if_pos c2, c2.1, c2.2, edF_out hi hj, hm]; rfl
    · rw [if_neg c2]
      unfold edF
      by_cases d1 : a = b
      · rw [if_pos d1, if_pos d1]
      · rw [if_neg d1, if_neg d1]
        by_cases d2 : a < m ∧ m ≤ b ∧ b < m + w
        · rw [if_pos d2, if_pos d2, hne a (b - m) (by omega)]
        · rw [if_neg d2, if_neg d2]
          by_cases d3 : b < m ∧ m ≤ a ∧ a < m + w
          · rw [if_pos d3, if_pos d3, hne b (a - m) (by omega)]
          · rw [if_neg d3, if_neg d3]
theorem upd_same {f : Ways} {k i j : Nat} (h : stepW f k i j = f i j) : updW f k i j = f := by
  funext a b
  unfold updW
  split
  · rename_i e; rw [h, e.1, e.2]
  · rfl
/-- the body of the three loops, on a dict -/
theorem fw_put {d : List ((Int × Int) × Int)} {k i j : Nat} {x y : Int} (h1 : wd d i k = some x) (h2 : wd d k j = some y) (hlt : x + y < (wd d i j).getD (x + y + 1)) : wd (putD d ((i : Int), (j : Int)) (x + y)) = updW (wd d) k i j := by
  rw [wd_put]
  have : stepW (wd d) k i j = some (x + y) := by
    unfold stepW
    rw [h1, h2]
    cases e : wd d i j with
    | none => rfl
    | some c =>
      rw [e] at hlt
      have hlt : x + y < c := hlt
      show some (if x + y < c then x + y else c) = _
      rw [if_pos hlt]
  unfold updW
  rw [this]
theorem fw_keep {d : List ((Int × Int) × Int)} {k i j : Nat} {x y : Int} (h1 : wd d i k = some x) (h2 : wd d k j = some y) (hlt : ¬ x + y < (wd d i j).getD (x + y + 1)) : updW (wd d) k i j = wd d := by
  apply upd_same
  unfold stepW
  rw [h1, h2]
  cases e : wd d i j with
  | none => rw [e] at hlt; exact absurd (by show x + y < x + y + 1; omega) hlt
  | some c =>
    rw [e] at hlt
    have hlt : ¬ x + y < c := hlt
    show some (if x + y < c then x + y else c) = _
    rw [if_neg hlt]
theorem fw_miss {d : Ways} {k i j : Nat} (h : (d i k).isSome = false ∨ (d k j).isSome = false) : updW d k i j = d := by
  apply upd_same
  unfold stepW
  rcases h with h | h
  · cases e : d i k with
    | none => rfl
    | some c => rw [e] at h; cases h
  · cases e : d k j with
    | none => cases d i k <;> rfl
    | some c => rw [e] at h; cases h
theorem bounds_spec {P : List (List (Option Int))} {m w : Nat} (hP : RectP P m w) (hm : 1 ≤ m ∧ m ≤ 6) (hw : 1 ≤ w ∧ w ≤ 6) :
    ∃ r, f_bounds [ofP P] = some r ∧ ((r = .non ∧ ∃ g, Done (m + w) (edF (pe P) m w) g ∧ BadW (m + w) g) ∨ ∃ kvs, r = .dct kvs ∧ Done (m + w) (edF (pe P) m w) (wd kvs) ∧ ¬ BadW (m + w) (wd kvs)) := by
  have hl := hP.1
  have hr0 := len_rowP hP (i := 0) (by omega)
  refine fn_of_wp rfl ?_
  unfold b_bounds
  apply wp_seq
  refine wp_par (d := .int m) (e := .int w) (by rw [← hl]; exact ev_blt (ev_cons (ev_rv rfl) ev_nil) g_lenP) (by rw [← hr0]; exact ev_blt (ev_cons (ev_e2 (ev_rv rfl) ev_c (g_ixP (i := 0) (by omega))) ev_nil) g_lenPR) ?_
  apply wp_seq
  refine wp_par (d := .int (m + w + 1 : Nat)) (e := nodesD (m + w)) (ev_e2 (ev_e2 (ev_rv rfl) (ev_rv rfl) rfl) ev_c rfl) (ev_nodes (ev_e2 (ev_rv rfl) (ev_rv rfl) rfl) (by omega)) ?_
  apply wp_seq
  refine wp_ownD ?_
  apply wp_seq
  refine wp_forL (m + w) (it_nodes (ev_pv rfl)) (fun k ρ => ρ 0 = some (.p (ofP P)) ∧ ρ 1 = some (.p (.int m)) ∧ ρ 2 = some (.p (.int w)) ∧ ρ 3 = some (.p (.int (m + w + 1 : Nat))) ∧ ρ 4 = some (.p (nodesD (m + w))) ∧ ∃ kvs, ρ 5 = some (.od kvs) ∧ kvs.length ≤ k ∧ wd kvs = fun i j => if i = j ∧ i < k then some 0 else none) ⟨rfl, rfl, rfl, rfl, rfl, [], rfl, Nat.le_refl _, by funext i j; rw [if_neg (by omega)]; rfl⟩ ?_ ?_
  · rintro k ρ hk ⟨h0, h1, h2, h3, h4, kvs, h5, hn, hI⟩
    refine wp_setD (kvs := kvs) (x := k) (y := k) (v := 0) h5 (ev_k2 (ev_pv rfl) (ev_pv rfl)) ev_c (by omega) ⟨h0, h1, h2, h3, h4, _, rfl, by have := put_len kvs ((k : Int), (k : Int)) 0; omega, ?_⟩
    rw [wd_put, hI]
    funext i j
    by_cases c : i = k ∧ j = k
    · rw [if_pos c, if_pos (by omega)]
    · rw [if_neg c]
      show (if i = j ∧ i < k then some (0 : Int) else none) = _
      by_cases d : i = j ∧ i < k
      · rw [if_pos d, if_pos (by omega)]
      · rw [if_neg d, if_neg (by omega)]
  rintro ρ ⟨h0, h1, h2, h3, h4, kvs, h5, hn, hI⟩
  rw [← mask_start (F := pe P)] at hI
  apply wp_seq
  refine wp_forN 0 m rfl (ev_rv h1) (by omega) (by omega) (fun i ρ => ρ 0 = some (.p (ofP P)) ∧ ρ 1 = some (.p (.int m)) ∧ ρ 2 = some (.p (.int w)) ∧ ρ 3 = some (.p (.int (m + w + 1 : Nat))) ∧ ρ 4 = some (.p (nodesD (m + w))) ∧ ∃ kvs, ρ 5 = some (.od kvs) ∧ kvs.length ≤ 12 + 12 * i ∧ wd kvs = edF (maskF (pe P) i 0) m w) ⟨h0, h1, h2, h3, h4, kvs, h5, by omega, hI⟩ ?_ ?_
  · clear h0 h1 h2 h3 h4 h5 hn hI
    rintro i ρ - hi ⟨h0, h1, h2, h3, h4, kvs, h5, hn, hI⟩
    refine wp_forN 0 w rfl (ev_rv h2) (by omega) (by omega) (fun j ρ => ρ 0 = some (.p (ofP P)) ∧ ρ 1 = some (.p (.int m)) ∧ ρ 2 = some (.p (.int w)) ∧ ρ 3 = some (.p (.int (m + w + 1 : Nat))) ∧ ρ 4 = some (.p (nodesD (m + w))) ∧ ρ 7 = some (.p (.int i)) ∧ ∃ kvs, ρ 5 = some (.od kvs) ∧ kvs.length ≤ 12 + 12 * i + 2 * j ∧ wd kvs = edF (maskF (pe P) i j) m w) ⟨h0, h1, h2, h3, h4, rfl, kvs, h5, by omega, hI⟩ ?_ ?_
    · clear h0 h1 h2 h3 h4 h5 hn hI
      rintro j ρ - hj ⟨h0, h1, h2, h3, h4, h7, kvs, h5, hn, hI⟩
      apply wp_seq
      refine wp_asg (d := oi (pe P i j)) (ev_pe hP hi hj (ev_rv h0) (ev_rv h7) (ev_rv rfl)) ?_
      refine wp_if (ev_tV (ev_e2 (ev_rv rfl) ev_c g_isN)) (fun hb => ?_) (fun hb => ?_)
      · cases he : pe P i j with
        | none => rw [he] at hb; cases hb
        | some e =>
          apply wp_seq
          refine wp_setD (kvs := kvs) (x := i) (y := ((m + j : Nat) : Int)) (v := -e * ((m + w + 1 : Nat) : Int)) h5 (ev_k2 (ev_pv h7) (ev_e2 (ev_rv h1) (ev_rv rfl) rfl)) (ev_e2 (ev_eNeg (ev_pv rfl)) (ev_rv h3) (g_mulR (by omega))) (by omega) ?_
          have l1 := put_len kvs ((i : Int), ((m + j : Nat) : Int)) (-e * ((m + w + 1 : Nat) : Int))
          refine wp_setD (x := ((m + j : Nat) : Int)) (y := i) (v := (e + 1) * ((m + w + 1 : Nat) : Int) - 1) rfl (ev_k2 (ev_e2 (ev_rv h1) (ev_rv rfl) rfl) (ev_pv h7)) (ev_e2 (ev_e2 (ev_e2 (ev_rv rfl) ev_c rfl) (ev_rv h3) (g_mulR (by omega))) ev_c rfl) (by omega) ?_
          refine ⟨h0, h1, h2, h3, h4, h7, _, rfl, ?_, ?_⟩
          · have := put_len (putD kvs ((i : Int), ((m + j : Nat) : Int)) (-e * ((m + w + 1 : Nat) : Int))) (((m + j : Nat) : Int), (i : Int)) ((e + 1) * ((m + w + 1 : Nat) : Int) - 1)
            omega
          · rw [wd_put, wd_put, hI]
            exact mask_some hi hj he
      · refine wp_skip ⟨h0, h1, h2, h3, h4, h7, kvs, h5, by omega, ?_⟩
        rw [hI]
        refine mask_none ?_
        cases he : pe P i j with
        | none => rfl
        | some e => rw [he] at hb; cases hb
    · rintro ρ ⟨h0, h1, h2, h3, h4, h7, kvs, h5, hn, hI⟩
      rw [Nat.zero_add, Nat.sub_zero] at hn hI
      exact ⟨h0, h1, h2, h3, h4, kvs, h5, by omega, hI.trans mask_row⟩
  clear h0 h1 h2 h3 h4 h5 hn hI
  rintro ρ ⟨h0, h1, h2, h3, h4, kvs, h5, hn, hI⟩
  rw [Nat.zero_add, Nat.sub_zero] at hn hI
  rw [mask_end] at hI
  apply wp_seq
  refine wp_forL (m + w) (it_nodes (ev_pv h4)) (fun k ρ => ρ 4 = some (.p (nodesD (m + w))) ∧ ∃ kvs, ρ 5 = some (.od kvs) ∧ kvs.length ≤ 90 + 144 * k ∧ FW (m + w) (edF (pe P) m w) k 0 0 (wd kvs)) ⟨h4, kvs, h5, by omega, by rw [hI]; exact fw_start (edF_dom _ _ _)⟩ ?_ ?_
  · clear h0 h1 h2 h3 h4 h5 hn hI
    rintro k ρ hk ⟨h4, kvs, h5, hn, hI⟩
    refine wp_forL (m + w) (it_nodes (ev_pv h4)) (fun a ρ => ρ 4 = some (.p (nodesD (m + w))) ∧ ρ 8 = some (.p (.int k)) ∧ ∃ kvs, ρ 5 = some (.od kvs) ∧ kvs.length ≤ 90 + 144 * k + 12 * a ∧ FW (m + w) (edF (pe P) m w) k a 0 (wd kvs)) ⟨h4, rfl, kvs, h5, by omega, hI⟩ ?_ ?_
    · clear h4 h5 hn hI
      rintro a ρ ha ⟨h4, h8, kvs, h5, hn, hI⟩
      refine wp_forL (m + w) (it_nodes (ev_pv h4)) (fun b ρ => ρ 4 = some (.p (nodesD (m + w))) ∧ ρ 8 = some (.p (.int k)) ∧ ρ 6 = some (.p (.int a)) ∧ ∃ kvs, ρ 5 = some (.od kvs) ∧ kvs.length ≤ 90 + 144 * k + 12 * a + b ∧ FW (m + w) (edF (pe P) m w) k a b (wd kvs)) ⟨h4, h8, rfl, kvs, h5, by omega, hI⟩ ?_ ?_
      · clear h4 h5 h8 hn hI
        rintro b ρ hb ⟨h4, h8, h6, kvs, h5, hn, hI⟩
        have hst := fw_step hk ha hb hI
        refine wp_if (ev_bAnd (ev_tV (ev_e2 (ev_k2 (ev_pv h6) (ev_pv h8)) (ev_rvd h5) g_din)) (ev_tV (ev_e2 (ev_k2 (ev_pv h8) (ev_pv rfl)) (ev_rvd h5) g_din))) (fun hc => ?_) (fun hc => ?_)
        · rw [Bool.and_eq_true] at hc
          obtain ⟨x, hx⟩ := Option.isSome_iff_exists.mp hc.1
          obtain ⟨y, hy⟩ := Option.isSome_iff_exists.mp hc.2
          apply wp_seq
          refine wp_asg (d := .int (x + y)) (ev_e2 (ev_e2 (ev_rvd h5) (ev_k2 (ev_pv h6) (ev_pv h8)) (g_dget hx)) (ev_e2 (ev_rvd h5) (ev_k2 (ev_pv h8) (ev_pv rfl)) (g_dget hy)) rfl) ?_
          refine wp_if (ev_tV (ev_e2 (ev_rv rfl) (ev_dgetD (ev_rvd h5) (ev_k2 (ev_pv h6) (ev_pv rfl)) (ev_e2 (ev_rv rfl) ev_c rfl)) rfl)) (fun hlt => ?_) (fun hlt => ?_)
          · refine wp_setD (kvs := kvs) (x := a) (y := b) (v := x + y) h5 (ev_k2 (ev_pv h6) (ev_pv rfl)) (ev_pv rfl) (by omega) ⟨h4, h8, h6, _, rfl, ?_, ?_⟩
            · have := put_len kvs ((a : Int), (b : Int)) (x + y); omega
            · rw [fw_put hx hy (of_decide_eq_true hlt)]; exact hst
          · refine wp_skip ⟨h4, h8, h6, kvs, h5, by omega, ?_⟩
            rw [fw_keep hx hy (of_decide_eq_false hlt)] at hst
            exact hst
        · refine wp_skip ⟨h4, h8, h6, kvs, h5, by omega, ?_⟩
          rw [fw_miss (by rw [Bool.and_eq_false_iff] at hc; exact hc)] at hst
          exact hst
      · rintro ρ ⟨h4, h8, h6, kvs, h5, hn, hI⟩
        exact ⟨h4, h8, kvs, h5, by omega, fw_row hI⟩
    · rintro ρ ⟨h4, h8, kvs, h5, hn, hI⟩
      exact ⟨h4, kvs, h5, by omega, fw_phase hk hI⟩
  clear h0 h1 h2 h3 h4 h5 hn hI
  rintro ρ ⟨h4, kvs, h5, hn, hI⟩
  have hD := fw_done hI
  have hdg : ∀ i, i < m + w → ∃ v, wd kvs i i = some v ∧ v ≤ 0 := fun i hi => hD.le i i 0 (edF_diag hi)
  apply wp_pre
  have hfz : freeze 5 ρ = ρ.set 5 (.p (.dct kvs)) := by unfold freeze; rw [h5]
  rw [hfz]
  have hall : eBlt (b1 gAll) (dCons (eNew (eComp (iOf asS (ePv 4)) (.nm 6) [6] bYes (e2 gEq (e2 gDGet (eRv 5) (eTup (dCons (ePv 6) (dCons (ePv 6) dNil)))) (eC (.int 0))))) dNil) (ρ.set 5 (.p (.dct kvs))) = some (.bl (((List.range (m + w)).map fun i => decide (wd kvs i i = some 0)).all id)) := by
    refine ev_blt (ev_cons (new_comp .bl (List.range (m + w)) _ (fun i => decide (wd kvs i i = some 0)) (it_nodes (ev_pv h4)) (by rw [List.length_range]; omega) fun i hi => ?_) ev_nil) (g_all _)
    obtain ⟨v, hv, _⟩ := hdg i (List.mem_range.mp hi)
    refine Eq.trans (ev_e2 (ev_e2 (ev_rv rfl) (ev_k2 (ev_pv rfl) (ev_pv rfl)) (g_dget hv)) ev_c g_eqI) ?_
    rw [hv]
    by_cases e : v = 0 <;> simp [e]
  refine wp_ret (ev_if (ev_tV hall) (x := .dct kvs) (y := .non) (fun _ => ev_pv rfl) (fun _ => ev_c)) ?_
  split
  · rename_i hc
    refine .inr ⟨kvs, rfl, hD, ?_⟩
    rintro ⟨i, v, hi, hv, hlt⟩
    rw [List.all_map, List.all_eq_true] at hc
    have := of_decide_eq_true (hc i (List.mem_range.mpr hi))
    rw [hv] at this; cases this; omega
  · rename_i hc
    refine .inl ⟨rfl, wd kvs, hD, ?_⟩
    have hc : ¬ ∀ i ∈ List.range (m + w), wd kvs i i = some 0 := fun h => hc (by
      rw [List.all_map, List.all_eq_true]
      exact fun i hi => decide_eq_true (h i hi))
    obtain ⟨i, hi⟩ := Classical.not_forall.mp hc
    obtain ⟨hi, hn⟩ := Classical.not_imp.mp hi
    obtain ⟨v, hv, hl⟩ := hdg i (List.mem_range.mp hi)
    refine ⟨i, v, List.mem_range.mp hi, hv, ?_⟩
    have : v ≠ 0 := fun e => hn (by rw [hv, e])
    omega
end PL

namespace PL
open PySem PySem.Spec PyProof.Rows L2
theorem fits_spec {P : List (List (Option Int))} {m w : Nat} (hP : RectP P m w) (hm : 1 ≤ m ∧ m ≤ 6) (hw : 1 ≤ w ∧ w ≤ 6) :
    ∃ b, f_fits [ofP P] = some (.bl b) ∧ (b = true ↔ ∃ t, Fill (pe P) m w t) := by
  obtain ⟨r, h1, h2⟩ := bounds_spec hP hm hw
  rcases h2 with ⟨rfl, g, hD, hB⟩ | ⟨kvs, rfl, hD, hB⟩
  · refine ⟨false, fn_eq rfl ?_, ⟨fun h => (by cases h), fun h => absurd hB ((good_iff hm.1 hw.1 hD).mpr h)⟩⟩
    exact wp_ret (ev_e2 (ev_call (ev_cons (ev_pv rfl) ev_nil) h1) ev_c rfl) rfl
  · refine ⟨true, fn_eq rfl ?_, ⟨fun _ => (good_iff hm.1 hw.1 hD).mp hB, fun _ => rfl⟩⟩
    exact wp_ret (ev_e2 (ev_call (ev_cons (ev_pv rfl) ev_nil) h1) ev_c rfl) rfl
def unt (m w : Nat) : Int := ((m + w + 1 : Nat) : Int)
def loR (g : Ways) (m w r c : Nat) : Option Int := (g r (m + c)).map fun x => -x / unt m w
def hiR (g : Ways) (m w r c : Nat) : Option Int := (g (m + c) r).map fun x => x / unt m w
theorem range_spec {P : List (List (Option Int))} {m w : Nat} (hP : RectP P m w) (hm : 1 ≤ m ∧ m ≤ 6) (hw : 1 ≤ w ∧ w ≤ 6) {r c : Nat} (hr : r < m) (hc : c < w) :
    ∃ z, f_entry_range [ofP P, .int r, .int c] = some z ∧ ((z = .non ∧ ¬ ∃ t, Fill (pe P) m w t) ∨ ∃ g, Done (m + w) (edF (pe P) m w) g ∧ ¬ BadW (m + w) g ∧ z = .tup [oi (loR g m w r c), oi (hiR g m w r c)]) := by
  have hl := hP.1
  have hr0 := len_rowP hP (i := 0) (by omega)
  obtain ⟨q, h1, h2⟩ := bounds_spec hP hm hw
  refine fn_of_wp rfl ?_
  unfold b_entry_range
  apply wp_seq
  refine wp_asg (d := q) (ev_call (ev_cons (ev_pv rfl) ev_nil) h1) ?_
  apply wp_seq
  rcases h2 with ⟨rfl, g, hD, hB⟩ | ⟨kvs, rfl, hD, hB⟩
  · refine wp_ifT (ev_tV (ev_e2 (ev_rv rfl) ev_c rfl)) (wp_ret ev_c (.inl ⟨rfl, fun h => absurd hB ((good_iff hm.1 hw.1 hD).mpr h)⟩))
  · refine wp_ifF (ev_tV (ev_e2 (ev_rv rfl) ev_c rfl)) (wp_skip ?_)
    apply wp_seq
    refine wp_par (d := .int (unt m w)) (e := .int ((m + c : Nat) : Int)) (ev_e2 (ev_e2 (ev_blt (ev_cons (ev_rv rfl) ev_nil) g_lenP) (ev_blt (ev_cons (ev_e2 (ev_rv rfl) ev_c (g_ixP (i := 0) (by omega))) ev_nil) g_lenPR) rfl) ev_c (by rw [hl, hr0]; rfl)) (ev_e2 (ev_blt (ev_cons (ev_rv rfl) ev_nil) g_lenP) (ev_rv rfl) (by rw [hl]; rfl)) ?_
    apply wp_seq
    refine wp_asgT (is := [6, 7]) (ds := [.non, .non]) (ev_tup (ev_cons ev_c (ev_cons ev_c ev_nil)) rfl) rfl ?_
    apply wp_seq
    have hdiv : ∀ x : Int, gDiv (.int x) (.int (unt m w)) = some (.int (x / unt m w)) := fun x => g_div (by unfold unt; omega)
    refine Wp.mono (M := fun ρ => ρ 1 = some (.p (.int r)) ∧ ρ 3 = some (.p (.dct kvs)) ∧ ρ 4 = some (.p (.int (unt m w))) ∧ ρ 5 = some (.p (.int ((m + c : Nat) : Int))) ∧ ρ 6 = some (.p (oi (loR (wd kvs) m w r c))) ∧ ρ 7 = some (.p .non)) ?_ ?_
    · refine wp_if (ev_tV (ev_e2 (ev_k2 (ev_pv rfl) (ev_pv rfl)) (ev_rv rfl) g_din)) (fun hb => ?_) (fun hb => ?_)
      · obtain ⟨x, hx⟩ := Option.isSome_iff_exists.mp hb
        have hx' : wd kvs r (m + c) = some x := hx
        refine wp_asg (d := .int (-x / unt m w)) (ev_e2 (ev_eNeg (ev_e2 (ev_rv rfl) (ev_k2 (ev_pv rfl) (ev_pv rfl)) (g_dget hx))) (ev_rv rfl) (hdiv _)) ⟨rfl, rfl, rfl, rfl, ?_, rfl⟩
        unfold loR
        rw [hx']; rfl
      · have hx' : wd kvs r (m + c) = none := by
          cases e : wd kvs r (m + c) with
          | none => rfl
          | some x => rw [show getK kvs ((r : Int), ((m + c : Nat) : Int)) = some x from e] at hb; cases hb
        refine wp_skip ⟨rfl, rfl, rfl, rfl, ?_, rfl⟩
        unfold loR
        rw [hx']; rfl
    rintro ρ ⟨k1, k3, k4, k5, k6, k7⟩
    apply wp_seq
    refine Wp.mono (M := fun ρ => ρ 6 = some (.p (oi (loR (wd kvs) m w r c))) ∧ ρ 7 = some (.p (oi (hiR (wd kvs) m w r c)))) ?_ ?_
    · refine wp_if (ev_tV (ev_e2 (ev_k2 (ev_pv k5) (ev_pv k1)) (ev_rv k3) g_din)) (fun hb => ?_) (fun hb => ?_)
      · obtain ⟨x, hx⟩ := Option.isSome_iff_exists.mp hb
        have hx' : wd kvs (m + c) r = some x := hx
        refine wp_asg (d := .int (x / unt m w)) (ev_e2 (ev_e2 (ev_rv k3) (ev_k2 (ev_pv k5) (ev_pv k1)) (g_dget hx)) (ev_rv k4) (hdiv _)) ⟨k6, ?_⟩
        unfold hiR
        rw [hx']; rfl
      · have hx' : wd kvs (m + c) r = none := by
          cases e : wd kvs (m + c) r with
          | none => rfl
          | some x => rw [show getK kvs (((m + c : Nat) : Int), (r : Int)) = some x from e] at hb; cases hb
        refine wp_skip ⟨k6, ?_⟩
        unfold hiR
        rw [hx', k7]; rfl
    rintro ρ ⟨k6, k7⟩
    exact wp_ret (ev_tup (ev_cons (ev_pv k6) (ev_cons (ev_pv k7) ev_nil)) rfl) (.inr ⟨wd kvs, hD, hB, rfl⟩)
/-- what the range tells -/
theorem range_can {F : Gap} {m w : Nat} {g : Ways} (hm : 1 ≤ m) (hw : 1 ≤ w) (h : Done (m + w) (edF F m w) g) (hb : ¬ BadW (m + w) g) {r c : Nat} (hr : r < m) (hc : c < w) (v : Int) : (∃ t, Fill F m w t ∧ en t r c = v) ↔ (∀ x, loR g m w r c = some x → x ≤ v) ∧ (∀ x, hiR g m w r c = some x → v ≤ x) := by
  rw [can_iff hm hw h hb hr hc]
  unfold loR hiR
  refine and_congr ⟨fun k x hx => ?_, fun k x hx => ?_⟩ ⟨fun k x hx => ?_, fun k x hx => ?_⟩
  · obtain ⟨y, hy, rfl⟩ := Option.map_eq_some_iff.mp hx; exact k y hy
  · exact k _ (by rw [hx]; rfl)
  · obtain ⟨y, hy, rfl⟩ := Option.map_eq_some_iff.mp hx; exact k y hy
  · exact k _ (by rw [hx]; rfl)
def FullTo (P Q : List (List (Option Int))) (m w a b : Nat) : Prop := RectP Q m w ∧ (∃ t, Fill (pe Q) m w t) ∧ (∀ i j, i < m → j < w → ∀ v, pe P i j = some v → pe Q i j = some v) ∧ ∀ i j, i < m → j < w → (i < a ∨ (i = a ∧ j < b)) → (pe Q i j).isSome = true
theorem filled_spec {P : List (List (Option Int))} {m w : Nat} (hP : RectP P m w) (hm : 1 ≤ m ∧ m ≤ 6) (hw : 1 ≤ w ∧ w ≤ 6) :
    ∃ z, f_filled [ofP P] = some z ∧ ((z = .non ∧ ¬ ∃ t, Fill (pe P) m w t) ∨ ∃ t, z = ofT t ∧ Fill (pe P) m w t) := by
  have hl := hP.1
  obtain ⟨q, h1, h2⟩ := bounds_spec hP hm hw
  refine fn_of_wp rfl ?_
  unfold b_filled
  apply wp_seq
  rcases h2 with ⟨rfl, g, hD, hB⟩ | ⟨kvs, rfl, hD, hB⟩
  · refine wp_ifT (ev_tV (ev_e2 (ev_call (ev_cons (ev_pv rfl) ev_nil) h1) ev_c rfl)) (wp_ret ev_c (.inl ⟨rfl, fun h => absurd hB ((good_iff hm.1 hw.1 hD).mpr h)⟩))
  refine wp_ifF (ev_tV (ev_e2 (ev_call (ev_cons (ev_pv rfl) ev_nil) h1) ev_c rfl)) (wp_skip ?_)
  have hF := (good_iff hm.1 hw.1 hD).mp hB
  apply wp_seq
  refine wp_ownLL (own_LLP (ev_pv rfl) (by omega)) ?_
  apply wp_seq
  refine wp_forN 0 m ev_c (by rw [← hl]; exact ev_lenLLP (Q := P) rfl) (by omega) (by omega) (fun a ρ => ∃ Q, ρ 1 = some (llP Q) ∧ FullTo P Q m w a 0) ⟨P, rfl, hP, hF, fun _ _ _ _ _ h => h, fun i j _ _ h => absurd h (by omega)⟩ ?_ ?_
  · rintro a ρ - ha ⟨Q, k1, hQ⟩
    have q0 := len_rowP hQ.1 (i := 0) (by omega)
    have ql := hQ.1.1
    refine wp_forN 0 w ev_c (by rw [← q0]; exact ev_blt (ev_cons (ev_ixLLP (k := 0) (Q := Q) k1 ev_c (by omega)) ev_nil) (by show some (D.int (((Q.getD 0 []).map oi).length : Nat)) = _; rw [List.length_map])) (by omega) (by omega) (fun b ρ => ρ 2 = some (.p (.int a)) ∧ ∃ Q, ρ 1 = some (llP Q) ∧ FullTo P Q m w a b) ⟨rfl, Q, k1, hQ⟩ ?_ ?_
    · clear k1 hQ q0 ql Q
      rintro b ρ - hb ⟨k2, Q, k1, hQ, ⟨t0, ht0⟩, hK, hA⟩
      have ql := hQ.1
      have qa := len_rowP hQ ha
      refine wp_if (ev_tV (ev_e2 (ev_e2 (ev_ixLLP (k := a) (Q := Q) k1 (ev_rv k2) (by omega)) (ev_rv rfl) (atN_map (e := none) (by rw [qa]; exact hb))) ev_c g_isN)) (fun hn => ?_) (fun hn => ?_)
      · have hn : pe Q a b = none := by
          cases e : pe Q a b with
          | none => rfl
          | some v => rw [show (Q.getD a []).getD b none = some v from e] at hn; cases hn
        apply wp_seq
        refine wp_asg (d := ofP Q) (tup_LLP k1 (by omega)) ?_
        obtain ⟨z, z1, z2⟩ := range_spec hQ hm hw ha hb
        rcases z2 with ⟨rfl, hno⟩ | ⟨g, gD, gB, rfl⟩
        · exact absurd ⟨t0, ht0⟩ hno
        apply wp_seq
        refine wp_asgT (is := [5, 6]) (ds := [oi (loR g m w a b), oi (hiR g m w a b)]) (ev_call (ev_cons (ev_pv rfl) (ev_cons (ev_pv k2) (ev_cons (ev_pv rfl) ev_nil))) z1) rfl ?_
        have hcan := range_can hm.1 hw.1 gD gB ha hb
        have fin : ∀ v : Int, (∀ x, loR g m w a b = some x → x ≤ v) ∧ (∀ x, hiR g m w a b = some x → v ≤ x) → FullTo P (setP Q a b v) m w a (b + 1) := by
          intro v hv
          obtain ⟨t, ht, hv⟩ := (hcan v).mpr hv
          refine ⟨rect_setP hQ ha, ⟨t, ?_⟩, fun i j hi hj x hx => ?_, fun i j hi hj h => ?_⟩
          · refine fill_congr (fun i j hi hj => (pe_setP hQ ha hb hi hj).symm) ((fill_set ha hb).mpr ⟨?_, hv⟩)
            rw [setF_self hn]; exact ht
          · rw [pe_setP hQ ha hb hi hj]
            unfold setF
            have := hK i j hi hj x hx
            rw [if_neg (fun e => by rw [e.1, e.2, hn] at this; cases this)]
            exact this
          · rw [pe_setP hQ ha hb hi hj]
            unfold setF
            by_cases e : i = a ∧ j = b
            · rw [if_pos e]; rfl
            · rw [if_neg e]; exact hA i j hi hj (by omega)
        have hev : ∃ v : Int, ((∀ x, loR g m w a b = some x → x ≤ v) ∧ (∀ x, hiR g m w a b = some x → v ≤ x)) ∧ (match loR g m w a b with | some x => x | none => match hiR g m w a b with | some y => y | none => 0) = v := by
          obtain ⟨c1, c2⟩ := (hcan (en t0 a b)).mp ⟨t0, ht0, rfl⟩
          cases e1 : loR g m w a b with
          | some x =>
            refine ⟨x, ⟨fun y hy => by cases hy; exact Int.le_refl _, fun y hy => ?_⟩, rfl⟩
            have := c1 x e1; have := c2 y hy; omega
          | none =>
            cases e2 : hiR g m w a b with
            | some y => exact ⟨y, ⟨fun z hz => (by cases hz), fun z hz => by cases hz; exact Int.le_refl _⟩, rfl⟩
            | none => exact ⟨0, ⟨fun z hz => (by cases hz), fun z hz => by cases hz⟩, rfl⟩
        obtain ⟨v, hv1, hv2⟩ := hev
        refine wp_setP (v := v) (Q := Q) k1 ?_ (ev_pv k2) (ev_pv rfl) hQ ha hb ⟨k2, _, rfl, fin v hv1⟩
        rw [← hv2]
        cases e1 : loR g m w a b with
        | some x => exact ev_ifT (ev_tV (ev_e2 (x := .int x) (ev_rv (by rw [← show oi (some x) = D.int x from rfl, ← e1]; rfl)) ev_c rfl)) (ev_pv (by rw [← show oi (some x) = D.int x from rfl, ← e1]; rfl))
        | none =>
          refine ev_ifF (ev_tV (ev_e2 (x := .non) (ev_rv (by rw [← show oi none = D.non from rfl, ← e1]; rfl)) ev_c rfl)) ?_
          cases e2 : hiR g m w a b with
          | some y => exact ev_ifT (ev_tV (ev_e2 (x := .int y) (ev_rv (by rw [← show oi (some y) = D.int y from rfl, ← e2]; rfl)) ev_c rfl)) (ev_pv (by rw [← show oi (some y) = D.int y from rfl, ← e2]; rfl))
          | none => exact ev_ifF (ev_tV (ev_e2 (x := .non) (ev_rv (by rw [← show oi none = D.non from rfl, ← e2]; rfl)) ev_c rfl)) ev_c
      · refine wp_skip ⟨k2, Q, k1, hQ, ⟨t0, ht0⟩, hK, fun i j hi hj h => ?_⟩
        by_cases e : i = a ∧ j = b
        · rw [e.1, e.2]
          cases e : pe Q a b with
          | some v => rfl
          | none => rw [show (Q.getD a []).getD b none = none from e] at hn; cases hn
        · exact hA i j hi hj (by omega)
    · rintro ρ ⟨k2, Q, k1, hQ, hF, hK, hA⟩
      exact ⟨Q, k1, hQ, hF, hK, fun i j hi hj h => hA i j hi hj (by omega)⟩
  · rintro ρ ⟨Q, k1, hQ, ⟨t, ht⟩, hK, hA⟩
    have ql := hQ.1
    refine wp_ret (tup_LLP k1 (by omega)) (.inr ⟨t, ?_, ht.1, ht.2.1, fun i j hi hj v hv => ht.2.2 i j hi hj v (hK i j hi hj v hv)⟩)
    have : Q = toP t := ext_P hQ (rect_toP ht.1) fun i j hi hj => by
      obtain ⟨v, hv⟩ := Option.isSome_iff_exists.mp (hA i j hi hj (by omega))
      rw [pe_toP ht.1 hi hj, hv, ht.2.2 i j hi hj v hv]
    rw [this, ofP_toP]
end PL

namespace PL
open PySem PySem.Spec PyProof.Rows L2
def wr (kvs : List ((Int × Int) × Int)) : Ways := fun i j => (wd kvs i j).map fun v => -v
theorem wr_put (d : List ((Int × Int) × Int)) (a b : Nat) (v : Int) : wr (putD d ((a : Int), (b : Int)) v) = fun i j => if i = a ∧ j = b then some (-v) else wr d i j := by
  funext i j
  unfold wr
  rw [wd_put]
  dsimp only
  split <;> rfl
theorem waysL_succ {F : Gap} {i j c : Nat} : waysL F i j (c + 1) = waysL F i j c ++ (match F i c, F j c with | some a, some b => [a - b - 1] | _, _ => []) := by
  unfold waysL
  rw [List.range_succ, List.filterMap_append]
  congr 1
  cases h1 : F i c with
  | none => simp [h1]
  | some a => cases h2 : F j c with
    | none => simp [h1, h2]
    | some b => simp [h1, h2]
theorem waysL_len {F : Gap} {i j c : Nat} : (waysL F i j c).length ≤ c := by
  unfold waysL
  have := List.length_filterMap_le (fun k => match F i k, F j k with | some a, some b => some (a - b - 1) | _, _ => none) (List.range c)
  rwa [List.length_range] at this
theorem g_max2 {x y : Int} : gMax [.int x, .int y] = some (.int (max x y)) := rfl
/-- the body of the three loops of rings, on a dict -/
theorem fwr_put {d : List ((Int × Int) × Int)} {k i j : Nat} {x y : Int} (h1 : wd d i k = some x) (h2 : wd d k j = some y) : wr (putD d ((i : Int), (j : Int)) (max (x + y) ((wd d i j).getD (x + y)))) = updW (wr d) k i j := by
  rw [wr_put]
  have : stepW (wr d) k i j = some (-(max (x + y) ((wd d i j).getD (x + y)))) := by
    unfold stepW wr
    rw [h1, h2]
    cases e : wd d i j with
    | none => show some (-x + -y) = some (-(max (x + y) (x + y))); congr 1; omega
    | some c =>
      show some (if -x + -y < -c then -x + -y else -c) = some (-(max (x + y) c))
      congr 1
      split <;> omega
  unfold updW
  rw [this]
def preE (E : Ways) (a b : Nat) : Ways := fun i j => if i < a ∨ (i = a ∧ j < b) then E i j else none
theorem rings_spec {P : List (List (Option Int))} {m w : Nat} (hP : RectP P m w) (hm : 1 ≤ m ∧ m ≤ 6) (hw : 1 ≤ w ∧ w ≤ 6) :
    ∃ b, f_law_rings [ofP P] = some (.bl b) ∧ (b = true ↔ ∃ t, Fill (pe P) m w t) := by
  suffices h : ∃ d, f_law_rings [ofP P] = some d ∧ ∃ b, d = .bl b ∧ (b = true ↔ ∃ t, Fill (pe P) m w t) by
    obtain ⟨d, h1, b, rfl, h3⟩ := h
    exact ⟨b, h1, h3⟩
  have hl := hP.1
  have hr0 := len_rowP hP (i := 0) (by omega)
  refine fn_of_wp rfl ?_
  unfold b_law_rings
  apply wp_seq
  refine wp_par (d := .int m) (e := .int w) (by rw [← hl]; exact ev_blt (ev_cons (ev_rv rfl) ev_nil) g_lenP) (by rw [← hr0]; exact ev_blt (ev_cons (ev_e2 (ev_rv rfl) ev_c (g_ixP (i := 0) (by omega))) ev_nil) g_lenPR) ?_
  apply wp_seq
  refine wp_ownD ?_
  apply wp_seq
  refine wp_forN 0 m ev_c (ev_rv rfl) (by omega) (by omega) (fun i ρ => ρ 0 = some (.p (ofP P)) ∧ ρ 1 = some (.p (.int m)) ∧ ρ 2 = some (.p (.int w)) ∧ ∃ kvs, ρ 3 = some (.od kvs) ∧ kvs.length ≤ 6 * i ∧ wr kvs = preE (ringE (pe P) m w) i 0) ⟨rfl, rfl, rfl, [], rfl, Nat.zero_le _, by funext i j; unfold preE; rw [if_neg (by omega)]; rfl⟩ ?_ ?_
  · rintro i ρ - hi ⟨h0, h1, h2, kvs, h3, hn, hI⟩
    refine wp_forN 0 m ev_c (ev_rv h1) (by omega) (by omega) (fun j ρ => ρ 0 = some (.p (ofP P)) ∧ ρ 1 = some (.p (.int m)) ∧ ρ 2 = some (.p (.int w)) ∧ ρ 4 = some (.p (.int i)) ∧ ∃ kvs, ρ 3 = some (.od kvs) ∧ kvs.length ≤ 6 * i + j ∧ wr kvs = preE (ringE (pe P) m w) i j) ⟨h0, h1, h2, rfl, kvs, h3, by omega, hI⟩ ?_ ?_
    · clear h0 h1 h2 h3 hn hI kvs
      rintro j ρ - hj ⟨h0, h1, h2, h4, kvs, h3, hn, hI⟩
      apply wp_seq
      refine wp_own (ds := []) rfl ?_
      apply wp_seq
      refine wp_forN 0 w ev_c (ev_rv h2) (by omega) (by omega) (fun c ρ => ρ 0 = some (.p (ofP P)) ∧ ρ 1 = some (.p (.int m)) ∧ ρ 2 = some (.p (.int w)) ∧ ρ 4 = some (.p (.int i)) ∧ ρ 6 = some (.p (.int j)) ∧ ρ 3 = some (.od kvs) ∧ ρ 7 = some (.ol ((waysL (pe P) i j c).map .int))) ⟨h0, h1, h2, h4, rfl, h3, rfl⟩ ?_ ?_
      · clear h0 h1 h2 h3 h4
        rintro c ρ - hc ⟨h0, h1, h2, h4, h6, h3, h7⟩
        have ea : ∀ {ρ : DEnv}, ρ 0 = some (.p (ofP P)) → ρ 4 = some (.p (.int i)) → ρ 8 = some (.p (.int c)) → e2 gIx (e2 gIx (eRv 0) (eRv 4)) (eRv 8) ρ = some (oi (pe P i c)) := fun k0 k4 k8 => ev_pe hP hi hc (ev_rv k0) (ev_rv k4) (ev_rv k8)
        have eb : ∀ {ρ : DEnv}, ρ 0 = some (.p (ofP P)) → ρ 6 = some (.p (.int j)) → ρ 8 = some (.p (.int c)) → e2 gIx (e2 gIx (eRv 0) (eRv 6)) (eRv 8) ρ = some (oi (pe P j c)) := fun k0 k4 k8 => ev_pe hP hj hc (ev_rv k0) (ev_rv k4) (ev_rv k8)
        refine wp_if (ev_bAnd (ev_tV (ev_e2 (ea (by exact h0) (by exact h4) rfl) ev_c g_isN)) (ev_tV (ev_e2 (eb (by exact h0) (by exact h6) rfl) ev_c g_isN))) (fun hb => ?_) (fun hb => ?_)
        · rw [Bool.and_eq_true] at hb
          obtain ⟨x, hx⟩ := Option.isSome_iff_exists.mp hb.1
          obtain ⟨y, hy⟩ := Option.isSome_iff_exists.mp hb.2
          refine wp_app h7 (d := .int (x - y - 1)) (ev_e2 (ev_e2 (x := .int x) (y := .int y) ?_ ?_ rfl) ev_c rfl) (by have := waysL_len (F := pe P) (i := i) (j := j) (c := c); rw [List.length_map]; omega) ⟨h0, h1, h2, h4, h6, h3, ?_⟩
          · exact (ea (by exact h0) (by exact h4) rfl).trans (by rw [hx]; rfl)
          · exact (eb (by exact h0) (by exact h6) rfl).trans (by rw [hy]; rfl)
          · rw [waysL_succ, hx, hy, List.map_append]; rfl
        · refine wp_skip ⟨h0, h1, h2, h4, h6, h3, ?_⟩
          have : waysL (pe P) i j (c + 1) = waysL (pe P) i j c := by
            rw [waysL_succ]
            cases e1 : pe P i c with
            | none => simp
            | some a => cases e2' : pe P j c with
              | none => simp
              | some b => rw [e1, e2'] at hb; cases hb
          rw [this]; exact h7
      · rintro ρ ⟨h0, h1, h2, h4, h6, h3, h7⟩
        rw [Nat.zero_add, Nat.sub_zero] at h7
        have hne : tV (e2 gNe (eRv 7) (eNew (dSz dNil))) ρ = some (!decide (waysL (pe P) i j w = [])) := ev_tV (ev_e2 (x := ofI (waysL (pe P) i j w)) (y := ofI []) (ev_rvo h7) (ev_new (ds := []) rfl) g_neL)
        have hpre : ∀ a b, ¬ (a = i ∧ b = j) → preE (ringE (pe P) m w) i j a b = preE (ringE (pe P) m w) i (j + 1) a b := fun a b hab => by
          unfold preE
          by_cases c : a < i ∨ (a = i ∧ b < j)
          · rw [if_pos c, if_pos (by omega)]
          · rw [if_neg c, if_neg (by omega)]
        refine wp_if hne (fun hb => ?_) (fun hb => ?_)
        · have hb : waysL (pe P) i j w ≠ [] := by simpa using hb
          refine wp_setD (kvs := kvs) (x := i) (y := j) (v := mx (waysL (pe P) i j w)) h3 (ev_k2 (ev_pv h4) (ev_pv h6)) (ev_blt (ev_cons (x := ofI (waysL (pe P) i j w)) (ev_rvo h7) ev_nil) (g_maxI hb)) (by omega) ⟨h0, h1, h2, h4, _, rfl, ?_, ?_⟩
          · have := put_len kvs ((i : Int), (j : Int)) (mx (waysL (pe P) i j w)); omega
          · rw [wr_put, hI]
            funext a b
            by_cases c : a = i ∧ b = j
            · rw [if_pos c]
              unfold preE
              rw [if_pos (by omega), c.1, c.2]
              unfold ringE
              rw [if_pos ⟨hi, hj⟩, if_neg hb]
            · rw [if_neg c]; exact hpre a b c
        · have hb : waysL (pe P) i j w = [] := by simpa using hb
          refine wp_skip ⟨h0, h1, h2, h4, kvs, h3, by omega, ?_⟩
          rw [hI]
          funext a b
          by_cases c : a = i ∧ b = j
          · unfold preE
            rw [if_neg (by omega), if_pos (by omega), c.1, c.2]
            unfold ringE
            rw [if_pos ⟨hi, hj⟩, if_pos hb]
          · exact hpre a b c
    · rintro ρ ⟨h0, h1, h2, h4, kvs, h3, hn, hI⟩
      rw [Nat.zero_add, Nat.sub_zero] at hn hI
      refine ⟨h0, h1, h2, kvs, h3, by omega, ?_⟩
      rw [hI]
      funext a b
      unfold preE
      by_cases c : a < i ∨ (a = i ∧ b < m)
      · rw [if_pos c, if_pos (by omega)]
      · rw [if_neg c]
        by_cases d : a < i + 1 ∨ (a = i + 1 ∧ b < 0)
        · rw [if_pos d]
          unfold ringE
          rw [if_neg (by omega)]
        · rw [if_neg d]
  rintro ρ ⟨h0, h1, h2, kvs, h3, hn, hI⟩
  rw [Nat.zero_add, Nat.sub_zero] at hn hI
  replace hI : wr kvs = ringE (pe P) m w := by
    rw [hI]
    funext a b
    unfold preE
    by_cases c : a < m ∨ (a = m ∧ b < 0)
    · rw [if_pos c]
    · rw [if_neg c]
      unfold ringE
      rw [if_neg (by omega)]
  apply wp_seq
  refine wp_forN 0 m ev_c (ev_rv h1) (by omega) (by omega) (fun k ρ => ρ 1 = some (.p (.int m)) ∧ ∃ kvs, ρ 3 = some (.od kvs) ∧ kvs.length ≤ 36 + 36 * k ∧ FW m (ringE (pe P) m w) k 0 0 (wr kvs)) ⟨h1, kvs, h3, by omega, by rw [hI]; exact fw_start (ring_dom _ _ _)⟩ ?_ ?_
  · clear h0 h1 h2 h3 hn hI kvs
    rintro k ρ - hk ⟨h1, kvs, h3, hn, hI⟩
    refine wp_forN 0 m ev_c (ev_rv h1) (by omega) (by omega) (fun a ρ => ρ 1 = some (.p (.int m)) ∧ ρ 5 = some (.p (.int k)) ∧ ∃ kvs, ρ 3 = some (.od kvs) ∧ kvs.length ≤ 36 + 36 * k + 6 * a ∧ FW m (ringE (pe P) m w) k a 0 (wr kvs)) ⟨h1, rfl, kvs, h3, by omega, hI⟩ ?_ ?_
    · clear h1 h3 hn hI kvs
      rintro a ρ - ha ⟨h1, h5, kvs, h3, hn, hI⟩
      refine wp_forN 0 m ev_c (ev_rv h1) (by omega) (by omega) (fun b ρ => ρ 1 = some (.p (.int m)) ∧ ρ 5 = some (.p (.int k)) ∧ ρ 4 = some (.p (.int a)) ∧ ∃ kvs, ρ 3 = some (.od kvs) ∧ kvs.length ≤ 36 + 36 * k + 6 * a + b ∧ FW m (ringE (pe P) m w) k a b (wr kvs)) ⟨h1, h5, rfl, kvs, h3, by omega, hI⟩ ?_ ?_
      · clear h1 h3 h5 hn hI kvs
        rintro b ρ - hb ⟨h1, h5, h4, kvs, h3, hn, hI⟩
        have hst := fw_step hk ha hb hI
        refine wp_if (ev_bAnd (ev_tV (ev_e2 (ev_k2 (ev_pv h4) (ev_pv h5)) (ev_rvd h3) g_din)) (ev_tV (ev_e2 (ev_k2 (ev_pv h5) (ev_pv rfl)) (ev_rvd h3) g_din))) (fun hc => ?_) (fun hc => ?_)
        · rw [Bool.and_eq_true] at hc
          obtain ⟨x, hx⟩ := Option.isSome_iff_exists.mp hc.1
          obtain ⟨y, hy⟩ := Option.isSome_iff_exists.mp hc.2
          apply wp_seq
          refine wp_asg (d := .int (x + y)) (ev_e2 (ev_e2 (ev_rvd h3) (ev_k2 (ev_pv h4) (ev_pv h5)) (g_dget hx)) (ev_e2 (ev_rvd h3) (ev_k2 (ev_pv h5) (ev_pv rfl)) (g_dget hy)) rfl) ?_
          refine wp_setD (kvs := kvs) (x := a) (y := b) (v := max (x + y) ((wd kvs a b).getD (x + y))) h3 (ev_k2 (ev_pv h4) (ev_pv rfl)) (ev_blt (ev_cons (ev_rv rfl) (ev_cons (ev_dgetD (ev_rvd h3) (ev_k2 (ev_pv h4) (ev_pv rfl)) (ev_pv rfl)) ev_nil)) g_max2) (by omega) ⟨h1, h5, h4, _, rfl, ?_, ?_⟩
          · have := put_len kvs ((a : Int), (b : Int)) (max (x + y) ((wd kvs a b).getD (x + y))); omega
          · rw [fwr_put hx hy]; exact hst
        · refine wp_skip ⟨h1, h5, h4, kvs, h3, by omega, ?_⟩
          rw [fw_miss (by
            rw [Bool.and_eq_false_iff] at hc
            unfold wr
            rw [Option.isSome_map, Option.isSome_map]
            exact hc)] at hst
          exact hst
      · rintro ρ ⟨h1, h5, h4, kvs, h3, hn, hI⟩
        rw [Nat.zero_add, Nat.sub_zero] at hn hI
        exact ⟨h1, h5, kvs, h3, by omega, fw_row hI⟩
    · rintro ρ ⟨h1, h5, kvs, h3, hn, hI⟩
      rw [Nat.zero_add, Nat.sub_zero] at hn hI
      exact ⟨h1, kvs, h3, by omega, fw_phase hk hI⟩
  clear h0 h1 h2 h3 hn hI kvs
  rintro ρ ⟨h1, kvs, h3, hn, hI⟩
  rw [Nat.zero_add, Nat.sub_zero] at hn hI
  have hD := fw_done hI
  have hlist := new_compNF (ρ := ρ) (ws := [4]) (elt := ePv 4) (cond := tV (e2 gGe (eDGetD (eRv 3) (eTup (dCons (ePv 4) (dCons (ePv 4) dNil))) (e2 gSub (eC (.int 0)) (eC (.int 1)))) (eC (.int 0)))) D.int (lo := eC (.int 0)) (hi := eRv 1) m (fun k => (k : Int)) (fun k => decide (0 ≤ (wd kvs k k).getD (0 - 1))) (j := 4) ev_c (ev_rv h1) (by omega) (fun k _ => ev_tV (ev_e2 (ev_dgetD (ev_rvd h3) (ev_k2 (ev_pv rfl) (ev_pv rfl)) (ev_e2 ev_c ev_c rfl)) ev_c rfl)) (fun k _ _ => ev_pv rfl)
  refine wp_ret (ev_e2 hlist (ev_new (ds := []) rfl) (g_eqL (y := []))) ⟨_, rfl, ?_⟩
  rw [decide_eq_true_iff, List.map_eq_nil_iff, List.filter_eq_nil_iff, ← ring_iff hm.1 hw.1 hD]
  constructor
  · intro h i hi v hv
    have := h i (List.mem_range.mpr hi)
    rw [decide_eq_true_iff] at this
    unfold wr at hv
    obtain ⟨x, hx, rfl⟩ := Option.map_eq_some_iff.mp hv
    rw [hx] at this
    have : ¬ 0 ≤ x := this
    omega
  · intro h i hi
    rw [decide_eq_true_iff]
    cases e : wd kvs i i with
    | none => show ¬ (0 : Int) ≤ 0 - 1; omega
    | some x =>
      have := h i (List.mem_range.mp hi) (-x) (by unfold wr; rw [e]; rfl)
      show ¬ 0 ≤ x
      omega
end PL

namespace PL
open PySem PySem.Spec PyProof.Rows L2
theorem getD_snoc {α : Type} {l : List α} {y d : α} {i : Nat} (hi : i ≤ l.length) : (l ++ [y]).getD i d = if i = l.length then y else l.getD i d := by
  by_cases e : i = l.length
  · rw [if_pos e, getD_get _ _ (by rw [List.length_append, List.length_singleton]; omega)]
    subst e
    simp
  · rw [if_neg e, getD_get _ _ (by rw [List.length_append, List.length_singleton]; omega), getD_get _ _ (by omega), List.getElem_append_left (by omega)]
def Msk (P : List (List (Option Int))) (t : List (List Int)) (m w : Nat) : Prop := RectP P m w ∧ ∀ i j : Nat, i < m → j < w → pe P i j = none ∨ pe P i j = some (en t i j)
theorem hidden_spec {t : List (List Int)} {m w : Nat} (ht : Rect t m w) (hm : 1 ≤ m ∧ m ≤ 6) (hw : 1 ≤ w ∧ w ≤ 6) (es : List Int) (he : es ≠ []) (k : Int) (hk : 0 < k) : ∃ P, f_law_hidden [ofT t, ofI es, .int k] = some (ofP P) ∧ Msk P t m w := by
  suffices h : ∃ d, f_law_hidden [ofT t, ofI es, .int k] = some d ∧ ∃ P, d = ofP P ∧ Msk P t m w by
    obtain ⟨d, h1, P, rfl, h3⟩ := h
    exact ⟨P, h1, h3⟩
  have hl := ht.1
  have hel : 0 < es.length := List.length_pos_iff.mpr he
  refine fn_of_wp rfl ?_
  unfold b_law_hidden
  apply wp_seq
  refine ⟨.nx (((env0 [ofT t, ofI es, .int k]).set 3 (.ol [])).set 4 (.p (.int 0))), rfl, ?_⟩
  apply wp_seq
  refine wp_forC (t.map ofR) (it_T (ev_pv rfl)) (fun i ρ => ρ 1 = some (.p (ofI es)) ∧ ρ 2 = some (.p (.int k)) ∧ (∃ n : Int, ρ 4 = some (.p (.int n))) ∧ ∃ Q : List (List (Option Int)), ρ 3 = some (.ol (Q.map ofPR)) ∧ Q.length = i ∧ ∀ a, a < i → (Q.getD a []).length = w ∧ ∀ x : Nat, x < w → (Q.getD a []).getD x none = none ∨ (Q.getD a []).getD x none = some (en t a x)) ⟨rfl, rfl, ⟨0, rfl⟩, [], rfl, rfl, fun a ha => absurd ha (by omega)⟩ ?_ ?_
  · rintro i d ρ hd ⟨h1, h2, ⟨n, h4⟩, Q, h3, hQ, hI⟩
    rw [List.getElem?_map] at hd
    cases hz : t[i]? with
    | none => rw [hz] at hd; cases hd
    | some r =>
    rw [hz] at hd; cases hd
    obtain ⟨hi, hti⟩ := List.getElem?_eq_some_iff.mp hz
    have hrow : row t i = r := by unfold row; rw [getD_get _ _ (by simpa using hi)]; simpa using hti
    have hrl : r.length = w := by rw [← hrow]; exact len_row ht (by omega)
    refine ⟨_, rfl, ?_⟩
    apply wp_seq
    refine wp_own (ds := []) rfl ?_
    apply wp_seq
    refine wp_forC (r.map .int) (it_R (ev_pv rfl)) (fun j ρ => ρ 1 = some (.p (ofI es)) ∧ ρ 2 = some (.p (.int k)) ∧ (∃ n : Int, ρ 4 = some (.p (.int n))) ∧ ρ 3 = some (.ol (Q.map ofPR)) ∧ ∃ q : List (Option Int), ρ 6 = some (.ol (q.map oi)) ∧ q.length = j ∧ ∀ x, x < j → q.getD x none = none ∨ q.getD x none = some (gi r x)) ⟨h1, h2, ⟨n, h4⟩, h3, [], rfl, rfl, fun x hx => absurd hx (by omega)⟩ ?_ ?_
    · clear h1 h2 h3 h4 n
      rintro j d ρ hd ⟨h1, h2, ⟨n, h4⟩, h3, q, h6, hq, hJ⟩
      rw [List.getElem?_map] at hd
      cases hy : r[j]? with
      | none => rw [hy] at hd; cases hd
      | some v =>
      rw [hy] at hd; cases hd
      obtain ⟨hj, hrj⟩ := List.getElem?_eq_some_iff.mp hy
      have hgj : gi r j = v := by unfold gi; rw [getD_get _ _ (by simpa using hj)]; simpa using hrj
      refine ⟨_, rfl, ?_⟩
      apply wp_seq
      have hn1 := Int.emod_nonneg n (by omega : (es.length : Int) ≠ 0)
      have hn2 := Int.emod_lt_of_pos n (by omega : (0 : Int) < es.length)
      obtain ⟨o, ho1, ho2⟩ : ∃ o : Option Int, eIf (tV (e2 gEq (e2 gMod (e2 gIx (eRv 1) (e2 gMod (eRv 4) (eBlt (b1 gLen) (dCons (eRv 1) dNil)))) (eRv 2)) (eC (.int 0)))) (eC .non) (ePv 7) (ρ.set 7 (.p (.int v))) = some (oi o) ∧ (o = none ∨ o = some v) := by
        have hc : tV (e2 gEq (e2 gMod (e2 gIx (eRv 1) (e2 gMod (eRv 4) (eBlt (b1 gLen) (dCons (eRv 1) dNil)))) (eRv 2)) (eC (.int 0))) (ρ.set 7 (.p (.int v))) = some (decide (gi es (n % es.length) % k = 0)) := ev_tV (ev_e2 (ev_e2 (ev_e2 (ev_rv h1) (ev_e2 (ev_rv h4) (ev_blt (ev_cons (ev_rv h1) ev_nil) g_lenI) (g_mod (by omega))) (g_ixI ⟨hn1, hn2⟩)) (ev_rv h2) (g_mod hk)) ev_c g_eqI)
        by_cases e : gi es (n % es.length) % k = 0
        · exact ⟨none, ev_ifT (hc.trans (by rw [decide_eq_true e])) ev_c, .inl rfl⟩
        · exact ⟨some v, ev_ifF (hc.trans (by rw [decide_eq_false e])) (ev_pv rfl), .inr rfl⟩
      refine wp_app h6 ho1 (by rw [List.length_map]; omega) ?_
      refine wp_asg (d := .int (n + 1)) (ev_e2 (ev_rv h4) ev_c rfl) ⟨h1, h2, ⟨_, rfl⟩, h3, q ++ [o], by rw [List.map_append]; rfl, by rw [List.length_append, List.length_singleton]; omega, fun x hx => ?_⟩
      rw [getD_snoc (by omega)]
      by_cases e : x = q.length
      · rw [if_pos e, e, hq, hgj]; exact ho2
      · rw [if_neg e]; exact hJ x (by omega)
    · rintro ρ ⟨h1, h2, h4, h3, q, h6, hq, hJ⟩
      rw [List.length_map] at hq hJ
      refine wp_app h3 (d := ofPR q) (ev_tupOf (ev_rvo h6)) (by rw [List.length_map]; omega) ⟨h1, h2, h4, Q ++ [q], by rw [List.map_append]; rfl, by rw [List.length_append, List.length_singleton]; omega, fun a ha => ?_⟩
      rw [getD_snoc (by omega)]
      by_cases e : a = Q.length
      · rw [if_pos e]
        refine ⟨by omega, fun x hx => ?_⟩
        have : en t a x = gi r x := by unfold en; rw [e, hQ, hrow]
        rw [this]
        exact hJ x (by omega)
      · rw [if_neg e]; exact hI a (by omega)
  · rintro ρ ⟨h1, h2, h4, Q, h3, hQ, hI⟩
    rw [List.length_map] at hQ hI
    refine wp_ret (d := ofP Q) (ev_tupOf (ev_rvo h3)) ⟨Q, rfl, ⟨by omega, fun r hr => ?_⟩, fun i j hi hj => (hI i (by omega)).2 j hj⟩
    obtain ⟨a, ha, rfl⟩ := List.mem_iff_getElem.mp hr
    have := (hI a (by omega)).1
    rwa [getD_get _ _ ha] at this
theorem fill_mask {P : List (List (Option Int))} {t : List (List Int)} {m w : Nat} (h : Msk P t m w) (ht : Rect t m w) (hR : RealT t m w) : Fill (pe P) m w t := ⟨ht, hR, fun i j hi hj v hv => by
  rcases h.2 i j hi hj with e | e
  · rw [e] at hv; cases hv
  · rw [e] at hv; cases hv; rfl⟩
theorem same_bool_spec7 (a b : Bool) : f_law_same_bool [.bl a, .bl b] = some (.bl (decide (a = b))) := by
  refine fn_eq rfl ?_
  refine wp_ret (by walk_at "ev") ?_
  cases a <;> cases b <;> rfl
theorem mem_zipP {P : List (List (Option Int))} {s : List (List Int)} {m w k : Nat} (hP : RectP P m w) (hs : Rect s m w) (hk : k < m) {x : Option Int × Int} (hx : x ∈ (P.getD k []).zip (row s k)) : ∃ j, j < w ∧ x = (pe P k j, en s k j) := by
  obtain ⟨j, hj, rfl⟩ := List.mem_iff_getElem.mp hx
  have l1 := len_rowP hP hk
  have l2 := len_row hs (i := k) (by omega)
  rw [List.length_zip] at hj
  refine ⟨j, by omega, ?_⟩
  rw [List.getElem_zip]
  congr 1
  · unfold pe; rw [getD_get (P.getD k []) none (by omega)]
  · unfold en gi; rw [getD_get (row s k) 0 (by simp only [Int.toNat_natCast]; omega)]; simp
theorem right_spec {P : List (List (Option Int))} {s : List (List Int)} {m w : Nat} (hP : RectP P m w) (hm : 1 ≤ m ∧ m ≤ 6) (hw : 1 ≤ w ∧ w ≤ 6) (hs : Fill (pe P) m w s) : f_law_right [ofP P, ofT s] = some (.bl true) := by
  have hl := hP.1
  have hsl := hs.1.1
  obtain ⟨qs, hq1, hq2⟩ := squares_spec hs.1 hm hw
  have hqs : qs = [] := by
    cases qs with
    | nil => rfl
    | cons q qs =>
      have h := (hq2 q).mp List.mem_cons_self
      have hq := h.1
      exact absurd (hs.2.1 _ _ _ _ hq.1 hq.2.1 hq.2.2.1 hq.2.2.2.1 hq.2.2.2.2.1 hq.2.2.2.2.2) h.2
  subst hqs
  refine fn_eq rfl ?_
  unfold b_law_right
  apply wp_seq
  refine wp_ifF (ev_bOr (p := false) (q := false) (ev_bNot (p := true) (ev_tV (ev_e1 (ev_rv rfl) rfl))) (ev_bOr (p := false) (q := false) (ev_tV (ev_e2 (ev_blt (ev_cons (ev_rv rfl) ev_nil) g_lenT) (ev_blt (ev_cons (ev_rv rfl) ev_nil) g_lenP) (g_neI.trans ?_))) (ev_tV (ev_e2 (ev_call (ev_cons (ev_pv rfl) ev_nil) hq1) (ev_new (ds := []) rfl) (g_neL (x := []) (y := [])))))) (wp_skip ?_)
  · rw [hl, hsl]; simp
  apply wp_seq
  refine wp_forC ((P.zip s).map fun p => D.tup [ofPR p.1, ofR p.2]) (it_z2 (x := ofP P) (y := ofT s) (f := ofPR) (g := ofR) (as := P) (bs := s) (b1 := false) (b2 := false) (ev_pv rfl) (ev_pv rfl) rfl rfl) (fun _ ρ => True) trivial ?_ ?_
  · rintro k d ρ hd -
    rw [List.getElem?_map] at hd
    cases hz : (P.zip s)[k]? with
    | none => rw [hz] at hd; cases hd
    | some p =>
    rw [hz] at hd; cases hd
    obtain ⟨hk, hpk⟩ := List.getElem?_eq_some_iff.mp hz
    rw [List.length_zip] at hk
    have hkm : k < m := by omega
    rw [List.getElem_zip] at hpk
    have hp1 : p.1 = P.getD k [] := by rw [← hpk, getD_get _ _ (by omega)]
    have hp2 : p.2 = row s k := by rw [← hpk]; unfold row; rw [getD_get _ _ (by simp only [Int.toNat_natCast]; omega)]; simp
    dsimp only
    rw [hp1, hp2]
    have l1 := len_rowP hP hkm
    have l2 := len_row hs.1 (i := k) (by omega)
    refine ⟨_, rfl, ?_⟩
    apply wp_seq
    refine wp_ifF (ev_bOr (p := false) (q := false) (ev_bNot (p := true) (ev_tV (ev_e1 (ev_rv rfl) rfl))) (ev_tV (ev_e2 (ev_blt (ev_cons (ev_rv rfl) ev_nil) g_lenR) (ev_blt (ev_cons (ev_rv rfl) ev_nil) g_lenPR) (g_neI.trans ?_)))) (wp_skip ?_)
    · rw [l1, l2]; simp
    apply wp_seq
    have hc1 := new_comp2F (ρ := ((ρ.set 2 (.p (ofPR (P.getD k [])))).set 3 (.p (ofR (row s k))))) (ws := [4, 5]) (elt := eC (.int 1)) (cond := bAnd (tV (e2 (gIsN true) (eRv 4) (eC .non))) (tV (e2 gNe (eRv 4) (eRv 5)))) D.int ((P.getD k []).zip (row s k)) (fun x => oi x.1) (fun x => .int x.2) (fun _ => 1) (fun _ => false) (it := iZ2 (ePv 2) (ePv 3)) (j1 := 4) (j2 := 5) (it_z2 (x := ofPR (P.getD k [])) (y := ofR (row s k)) (f := oi) (g := .int) (as := P.getD k []) (bs := row s k) (b1 := false) (b2 := false) (ev_pv rfl) (ev_pv rfl) rfl rfl) (by rw [List.length_zip]; omega) (fun x hx => by
        obtain ⟨j, hj, rfl⟩ := mem_zipP hP hs.1 hkm hx
        dsimp only
        cases e : pe P k j with
        | none => exact ev_bAndF (ev_tV (ev_e2 (x := .non) (ev_rv rfl) ev_c rfl))
        | some a =>
          have := hs.2.2 k j hkm hj a e
          rw [this]
          exact ev_bAnd (p := true) (q := false) (ev_tV (ev_e2 (x := .int a) (ev_rv rfl) ev_c rfl)) (ev_tV (ev_e2 (x := .int a) (y := .int a) (ev_rv rfl) (ev_rv rfl) (g_neI.trans (by simp))))) (fun x hx h => by cases h)
    rw [show List.filter (fun _ : Option Int × Int => false) ((P.getD k []).zip (row s k)) = [] by simp] at hc1
    refine wp_ifF (ev_tV (ev_e2 hc1 (ev_new (ds := []) rfl) (g_neL (x := []) (y := [])))) (wp_skip ?_)
    have hc2 := new_compF (ρ := ((ρ.set 2 (.p (ofPR (P.getD k [])))).set 3 (.p (ofR (row s k))))) (ws := [5]) (elt := ePv 5) (cond := bOr (bNot (tV (e1 (gIs .tint) (eRv 5)))) (tV (e1 (gIs .tbool) (eRv 5)))) D.int (row s k) (fun x => .int x) (fun x => x) (fun _ => false) (it := iOf asS (ePv 3)) (j := 5) (it_R (ev_pv rfl)) (by omega) (fun x hx => rfl) (fun x hx h => by cases h)
    rw [show List.filter (fun _ : Int => false) (row s k) = [] by simp] at hc2
    exact wp_ifF (ev_tV (ev_e2 hc2 (ev_new (ds := []) rfl) (g_neL (x := []) (y := [])))) (wp_skip trivial)
  · intro ρ _
    exact wp_ret ev_c rfl
theorem no_fill_b {P : List (List (Option Int))} {m w : Nat} {b : Bool} (h : b = true ↔ ∃ t, Fill (pe P) m w t) (hn : ¬ ∃ t, Fill (pe P) m w t) : b = false := by
  cases b with
  | true => exact absurd (h.mp rfl) hn
  | false => rfl
/-- a filling that is written out -/
theorem fill_lit {P : List (List (Option Int))} {t : List (List Int)} {m w : Nat} (h1 : Rect t m w) (h2 : RealT t m w) (h3 : ∀ i, i < m → ∀ j, j < w → (pe P i j).all (fun v => decide (en t i j = v)) = true) : Fill (pe P) m w t := ⟨h1, h2, fun i j hi hj v hv => by
  have := h3 i hi j hj
  rw [hv] at this
  exact of_decide_eq_true this⟩
end PL

namespace PL
open PySem PySem.Spec PyProof.Rows L2
theorem k07_a : f_fits [ofP [[some 5, some 0, none], [none, some 0, some 0], [some 3, none, some 0]]] = some (.bl true) := by
  have hP : RectP [[some 5, some 0, none], [none, some 0, some 0], [some 3, none, some 0]] 3 3 := ⟨rfl, by decide⟩
  obtain ⟨b, h1, h2⟩ := fits_spec hP (by omega) (by omega)
  have ht : Rect [[5, 0, 1], [4, 0, 0], [3, -1, 0]] 3 3 := ⟨rfl, by decide⟩
  have hr : RealT [[5, 0, 1], [4, 0, 0], [3, -1, 0]] 3 3 := (made_iff ht (by omega) (by omega)).mp (by decide)
  rw [h1, h2.mpr ⟨_, fill_lit ht hr (by decide)⟩]
theorem k07_b : f_filled [ofP [[some 1, some 2], [some 3, some 6]]] = some .non := by
  have hP : RectP [[some 1, some 2], [some 3, some 6]] 2 2 := ⟨rfl, by decide⟩
  obtain ⟨z, h1, h2⟩ := filled_spec hP (by omega) (by omega)
  rcases h2 with ⟨rfl, -⟩ | ⟨t, rfl, ht⟩
  · exact h1
  · exfalso
    have a := ht.2.2 0 0 (by omega) (by omega) 1 rfl
    have b := ht.2.2 0 1 (by omega) (by omega) 2 rfl
    have c := ht.2.2 1 0 (by omega) (by omega) 3 rfl
    have d := ht.2.2 1 1 (by omega) (by omega) 6 rfl
    have := ht.2.1 (0 : Nat) (1 : Nat) (0 : Nat) (1 : Nat) (by omega) (by omega) (by omega) (by omega) (by omega) (by omega)
    unfold cr at this
    omega
theorem k07_c : f_fits [ofP [[some 5, some 0, none], [none, some 0, some 0], [some 2, none, some 0]]] = some (.bl false) := by
  have hP : RectP [[some 5, some 0, none], [none, some 0, some 0], [some 2, none, some 0]] 3 3 := ⟨rfl, by decide⟩
  obtain ⟨b, h1, h2⟩ := fits_spec hP (by omega) (by omega)
  rw [h1, no_fill_b h2]
  rintro ⟨t, ht⟩
  have a := ht.2.2 0 0 (by omega) (by omega) 5 rfl
  have b := ht.2.2 0 1 (by omega) (by omega) 0 rfl
  have c := ht.2.2 1 1 (by omega) (by omega) 0 rfl
  have d := ht.2.2 1 2 (by omega) (by omega) 0 rfl
  have e := ht.2.2 2 0 (by omega) (by omega) 2 rfl
  have f := ht.2.2 2 2 (by omega) (by omega) 0 rfl
  have k1 := ht.2.1 (0 : Nat) (1 : Nat) (0 : Nat) (1 : Nat) (by omega) (by omega) (by omega) (by omega) (by omega) (by omega)
  have k2 := ht.2.1 (1 : Nat) (2 : Nat) (0 : Nat) (2 : Nat) (by omega) (by omega) (by omega) (by omega) (by omega) (by omega)
  unfold cr at k1 k2
  omega
theorem k07_d : f_fits [ofP [[none, none], [none, none]]] = some (.bl true) := by
  have hP : RectP [[none, none], [none, none]] 2 2 := ⟨rfl, by decide⟩
  obtain ⟨b, h1, h2⟩ := fits_spec hP (by omega) (by omega)
  have ht : Rect [[0, 0], [0, 0]] 2 2 := ⟨rfl, by decide⟩
  have hr : RealT [[0, 0], [0, 0]] 2 2 := (made_iff ht (by omega) (by omega)).mp (by decide)
  rw [h1, h2.mpr ⟨_, fill_lit ht hr (by decide)⟩]
theorem law_k07_true (ns : List Int) : f_law_k07 [.scr ns] = some (.bl true) := by
  refine fn_eq rfl ?_
  unfold b_law_k07
  apply wp_seq
  refine wp_forN 0 8 ev_c ev_c (by omega) (by omega) (fun k ρ => ρ 0 = some (.p (.scr ns))) rfl ?_ ?_
  · intro idx ρ _ hidx h0
    obtain ⟨ds, hd1, hd2, hd3⟩ := digits_spec ns idx 60 27720 (by omega) (by omega)
    apply wp_seq
    refine wp_asg (by walk_at "ev"; exact hd1) ?_
    have hm1 := Int.emod_nonneg (gi ds 50) (by omega : (6 : Int) ≠ 0)
    have hm2 := Int.emod_lt_of_pos (gi ds 50) (by omega : (0 : Int) < 6)
    have hw1 := Int.emod_nonneg (gi ds 51) (by omega : (6 : Int) ≠ 0)
    have hw2 := Int.emod_lt_of_pos (gi ds 51) (by omega : (0 : Int) < 6)
    obtain ⟨m, hm⟩ : ∃ m : Nat, 1 + gi ds 50 % 6 = m := ⟨(1 + gi ds 50 % 6).toNat, by omega⟩
    obtain ⟨w, hw⟩ : ∃ w : Nat, 1 + gi ds 51 % 6 = w := ⟨(1 + gi ds 51 % 6).toNat, by omega⟩
    have hm3 : 1 ≤ m ∧ m ≤ 6 := by omega
    have hw3 : 1 ≤ w ∧ w ≤ 6 := by omega
    obtain ⟨u, R, C, ht, hu, hR, hC, -, -⟩ := table_spec ds m w (by omega) hm3 hw3
    rw [← hm, ← hw] at ht
    apply wp_seq
    refine wp_asg (by walk_at "ev"; all_goals first | exact ht | omega) ?_
    have hreal : RealT (mkT u R C) m w := by rw [← hR, ← hC]; exact mkT_real hu.1
    have hrec : Rect (mkT u R C) m w := by rw [← hR, ← hC]; exact mkT_rect
    generalize mkT u R C = t at *
    apply wp_seq
    refine wp_forN 0 3 ev_c ev_c (by omega) (by omega) (fun k ρ => ρ 0 = some (.p (.scr ns)) ∧ ρ 2 = some (.p (ofI ds)) ∧ ρ 3 = some (.p (ofT t))) ⟨h0, rfl, rfl⟩ ?_ ?_
    · rintro k ρ - hk ⟨h0, h2, h3⟩
      have hcut : cutI ds (some (14 + 8 * (k : Int))) none = ds.drop (14 + 8 * k) := by
        have : 14 + 8 * (k : Int) = ((14 + 8 * k : Nat) : Int) := by omega
        rw [this, cutI_from]
      obtain ⟨t1, hs1, hs2, -⟩ := spoilt_spec hrec hm3 hw3 (ds.drop (14 + 8 * k)) (by rw [List.length_drop]; omega)
      rw [← hcut] at hs1
      obtain ⟨t', ht', hrec', hk0⟩ : ∃ t', eIf (tV (e2 gEq (eRv 4) (eC (.int 0)))) (ePv 3) (eCall f_law_spoilt (dCons (ePv 3) (dCons (eCut (eRv 2) (oSome (e2 gAdd (eC (.int 14)) (e2 gMul (eC (.int 8)) (eRv 4)))) oNo) dNil))) (ρ.set 4 (.p (.int (k : Nat)))) = some (ofT t') ∧ Rect t' m w ∧ (k = 0 → t' = t) := by
        by_cases e : k = 0
        · exact ⟨t, ev_ifT (ev_tV (ev_e2 (ev_rv rfl) ev_c (g_eqI.trans (by rw [decide_eq_true (by omega)])))) (ev_pv h3), hrec, fun _ => rfl⟩
        · exact ⟨t1, ev_ifF (ev_tV (ev_e2 (ev_rv rfl) ev_c (g_eqI.trans (by rw [decide_eq_false (by omega)])))) (ev_call (ev_cons (ev_pv h3) (ev_cons (ev_cutI (ev_rv h2) (by walk_at "ev") ev_oNo) ev_nil)) hs1), hs2, fun h => absurd h e⟩
      apply wp_seq
      refine wp_asg ht' ?_
      have hcl : (cutI ds (some (30 + (k : Int))) (some 50)).length = 20 - k := by
        have h1 : 30 + (k : Int) = ((30 + k : Nat) : Int) := by omega
        have h2 : (50 : Int) = ((50 : Nat) : Int) := rfl
        rw [h1, h2, cutI_len (by omega) (by omega)]
        omega
      obtain ⟨P, hP1, hP2⟩ := hidden_spec hrec' hm3 hw3 (cutI ds (some (30 + (k : Int))) (some 50)) (fun e => by rw [e] at hcl; simp at hcl; omega) (2 + k) (by omega)
      apply wp_seq
      refine wp_asg (d := ofP P) (ev_call (ev_cons (ev_pv rfl) (ev_cons (ev_cutI (ev_rv h2) (by walk_at "ev") (by walk_at "ev")) (ev_cons (ev_e2 ev_c (ev_rv rfl) rfl) ev_nil))) hP1) ?_
      obtain ⟨good, hg1, hg2⟩ := rings_spec hP2.1 hm3 hw3
      obtain ⟨ft, hf1, hf2⟩ := fits_spec hP2.1 hm3 hw3
      obtain ⟨z, hz1, hz2⟩ := filled_spec hP2.1 hm3 hw3
      have hgf : ft = good := by rw [Bool.eq_iff_iff, hf2, hg2]
      subst hgf
      have hzn : gIsN false z .non = some (.bl (!ft)) ∧ gIsN true z .non = some (.bl ft) ∧ (ft = true → ∃ s, z = ofT s ∧ Fill (pe P) m w s) := by
        rcases hz2 with ⟨rfl, hno⟩ | ⟨s, rfl, hs⟩
        · rw [no_fill_b hg2 hno]; exact ⟨rfl, rfl, fun h => by cases h⟩
        · rw [hg2.mpr ⟨s, hs⟩]; exact ⟨rfl, rfl, fun _ => ⟨s, rfl, hs⟩⟩
      apply wp_seq
      refine wp_par (d := .bl ft) (e := z) (ev_call (ev_cons (ev_pv rfl) ev_nil) hg1) (ev_call (ev_cons (ev_pv rfl) ev_nil) hz1) ?_
      apply wp_seq
      refine wp_ifF (ev_bOr (p := false) (q := false) (ev_bNot (p := true) (ev_tV (ev_call (ev_cons (ev_call (ev_cons (ev_pv rfl) ev_nil) hf1) (ev_cons (ev_pv rfl) ev_nil)) ?_))) (ev_tV (ev_e2 (ev_e2 (ev_rv rfl) ev_c hzn.1) (ev_rv rfl) ?_))) (wp_skip ?_)
      · rw [same_bool_spec7, decide_eq_true rfl]
      · rw [g_eqB]; cases ft <;> rfl
      apply wp_seq
      refine wp_ifF ?_ (wp_skip ?_)
      · cases hft : ft with
        | false => exact ev_bAndF (ev_tV (ev_e2 (ev_rv rfl) ev_c (by rw [hzn.2.1, hft])))
        | true =>
          obtain ⟨s, rfl, hs⟩ := hzn.2.2 hft
          exact ev_bAnd (p := true) (q := false) (ev_tV (ev_e2 (x := ofT s) (ev_rv rfl) ev_c rfl)) (ev_bNot (p := true) (ev_tV (ev_call (ev_cons (ev_pv rfl) (ev_cons (ev_pv rfl) ev_nil)) (right_spec hP2.1 hm3 hw3 hs))))
      refine wp_ifF ?_ (wp_skip ⟨h0, h2, h3⟩)
      by_cases e : k = 0
      · have hgood : ft = true := hg2.mpr ⟨t, fill_mask (by rw [← hk0 e]; exact hP2) hrec hreal⟩
        subst hgood
        exact ev_bAnd (p := true) (q := false) (ev_tV (ev_e2 (ev_rv rfl) ev_c (g_eqI.trans (by rw [decide_eq_true (by omega)])))) (ev_bNot (p := true) (ev_tV (ev_pv rfl)))
      · exact ev_bAndF (ev_tV (ev_e2 (ev_rv rfl) ev_c (g_eqI.trans (by rw [decide_eq_false (by omega)]))))
    · rintro ρ ⟨h0, h2, h3⟩
      have hTP := rect_toP hrec
      obtain ⟨ft, hf1, hf2⟩ := fits_spec hTP hm3 hw3
      obtain ⟨z, hz1, hz2⟩ := filled_spec hTP hm3 hw3
      rw [ofP_toP] at hf1 hz1
      have hft : ft = true := hf2.mpr ⟨t, fill_self hrec hreal⟩
      subst hft
      rcases hz2 with ⟨rfl, hno⟩ | ⟨s, rfl, hs⟩
      · exact absurd ⟨t, fill_self hrec hreal⟩ hno
      have := fill_full hrec hs
      subst this
      refine wp_ifF (ev_bOr (p := false) (q := false) (ev_tV (ev_e2 (ev_call (ev_cons (ev_pv h3) ev_nil) hz1) (ev_rv h3) (g_neT.trans (by simp)))) (ev_tV (ev_e2 (ev_call (ev_cons (ev_pv h3) ev_nil) hf1) ev_c rfl))) (wp_skip h0)
  · intro ρ h0
    have t3 : ∀ {ρ : DEnv} {a b c : D}, eTup (dCons (eC a) (dCons (eC b) (dCons (eC c) dNil))) ρ = some (.tup [a, b, c]) := fun {ρ a b c} => ev_tup (ev_cons ev_c (ev_cons ev_c (ev_cons ev_c ev_nil))) rfl
    have t2 : ∀ {ρ : DEnv} {a b : D}, eTup (dCons (eC a) (dCons (eC b) dNil)) ρ = some (.tup [a, b]) := fun {ρ a b} => ev_tup (ev_cons ev_c (ev_cons ev_c ev_nil)) rfl
    apply wp_seq
    refine wp_ifF (ev_bOr (p := false) (q := false) (ev_tV (ev_e2 (ev_call (ds := [ofP [[some 5, some 0, none], [none, some 0, some 0], [some 3, none, some 0]]]) (ev_cons (ev_tup (ev_cons t3 (ev_cons t3 (ev_cons t3 ev_nil))) rfl) ev_nil) k07_a) ev_c rfl)) (ev_tV (ev_e2 (ev_call (ds := [ofP [[some 1, some 2], [some 3, some 6]]]) (ev_cons (ev_tup (ev_cons t2 (ev_cons t2 ev_nil)) rfl) ev_nil) k07_b) ev_c rfl))) (wp_skip ?_)
    refine wp_ret (d := .bl true) (ev_eAnd (p := true) (q := true) (ev_e2 (ev_call (ds := [ofP [[some 5, some 0, none], [none, some 0, some 0], [some 2, none, some 0]]]) (ev_cons (ev_tup (ev_cons t3 (ev_cons t3 (ev_cons t3 ev_nil))) rfl) ev_nil) k07_c) ev_c rfl) (ev_e2 (ev_call (ds := [ofP [[none, none], [none, none]]]) (ev_cons (ev_tup (ev_cons t2 (ev_cons t2 ev_nil)) rfl) ev_nil) k07_d) ev_c rfl)) rfl
end PL

namespace W07
open PySem PySem.Spec PyProof.Rows L2 PL
def topS (i : Nat) : Stmt := PySem.Challenge.pw_roadtables_k07_whole_tables_with_gaps.main.body.getD i (.Pass ⟨0, 0, 0, 0⟩)
abbrev s_law_cell : Stmt := topS 6
theorem sc_law_cell : FnScope ["script", "index"] ["script", "index"] (defScope s_law_cell) := ⟨rfl, rfl, rfl, by decide +kernel, rfl, by decide +kernel, by decide +kernel⟩
abbrev s_law_digits : Stmt := topS 7
theorem sc_law_digits : FnScope ["script", "index", "count", "base", "primes", "cell", "rest", "digits", "k", "mixed"] ["script", "index", "count", "base"] (defScope s_law_digits) := ⟨rfl, rfl, rfl, by decide +kernel, rfl, by decide +kernel, by decide +kernel⟩
abbrev s_law_hidden : Stmt := topS 12
theorem sc_law_hidden : FnScope ["table", "digits", "wide", "rows", "k", "row", "line", "entry"] ["table", "digits", "wide"] (defScope s_law_hidden) := ⟨rfl, rfl, rfl, by decide +kernel, rfl, by decide +kernel, by decide +kernel⟩
abbrev s_law_squares : Stmt := topS 11
theorem sc_law_squares : FnScope ["table", "found", "row", "later", "column", "further", "one", "other"] ["table"] (defScope s_law_squares) := ⟨rfl, rfl, rfl, by decide +kernel, rfl, by decide +kernel, by decide +kernel⟩
abbrev s_law_right : Stmt := topS 14
theorem sc_law_right : FnScope ["partial", "found", "row", "line", "known", "entry"] ["partial", "found"] (defScope s_law_right) := ⟨rfl, rfl, rfl, by decide +kernel, rfl, by decide +kernel, by decide +kernel⟩
abbrev s_law_rings : Stmt := topS 13
theorem sc_law_rings : FnScope ["partial", "many", "wide", "far", "one", "middle", "other", "ways", "column", "way"] ["partial"] (defScope s_law_rings) := ⟨rfl, rfl, rfl, by decide +kernel, rfl, by decide +kernel, by decide +kernel⟩
abbrev s_law_same_bool : Stmt := topS 8
theorem sc_law_same_bool : FnScope ["result", "expected"] ["result", "expected"] (defScope s_law_same_bool) := ⟨rfl, rfl, rfl, by decide +kernel, rfl, by decide +kernel, by decide +kernel⟩
abbrev s_law_spoilt : Stmt := topS 10
theorem sc_law_spoilt : FnScope ["table", "digits", "rows", "k", "row", "column"] ["table", "digits"] (defScope s_law_spoilt) := ⟨rfl, rfl, rfl, by decide +kernel, rfl, by decide +kernel, by decide +kernel⟩
abbrev s_law_table : Stmt := topS 9
theorem sc_law_table : FnScope ["digits", "many", "wide", "unit", "columns", "rows", "k", "digit", "one", "other"] ["digits", "many", "wide"] (defScope s_law_table) := ⟨rfl, rfl, rfl, by decide +kernel, rfl, by decide +kernel, by decide +kernel⟩
abbrev s_bounds : Stmt := topS 1
theorem sc_bounds : FnScope ["partial", "many", "wide", "unit", "nodes", "found", "one", "row", "middle", "column", "entry", "other", "length"] ["partial"] (defScope s_bounds) := ⟨rfl, rfl, rfl, by decide +kernel, rfl, by decide +kernel, by decide +kernel⟩
abbrev s_entry_range : Stmt := topS 3
theorem sc_entry_range : FnScope ["partial", "row", "column", "found", "unit", "far", "low", "high"] ["partial", "row", "column"] (defScope s_entry_range) := ⟨rfl, rfl, rfl, by decide +kernel, rfl, by decide +kernel, by decide +kernel⟩
abbrev s_filled : Stmt := topS 4
theorem sc_filled : FnScope ["partial", "rows", "row", "column", "present", "low", "high", "line"] ["partial"] (defScope s_filled) := ⟨rfl, rfl, rfl, by decide +kernel, rfl, by decide +kernel, by decide +kernel⟩
abbrev s_fits : Stmt := topS 2
theorem sc_fits : FnScope ["partial"] ["partial"] (defScope s_fits) := ⟨rfl, rfl, rfl, by decide +kernel, rfl, by decide +kernel, by decide +kernel⟩
abbrev s_law : Stmt := topS 15
theorem sc_law : FnScope ["script", "index", "digits", "table", "k", "spoilt", "partial", "good", "found"] ["script"] (defScope s_law) := ⟨rfl, rfl, rfl, by decide +kernel, rfl, by decide +kernel, by decide +kernel⟩
section
variable {P : Program} {w : World} {K : PySem.W.Frag} {mg : Str → Option Value} {base : Heap}
theorem ok_law_cell {f : Addr} {fd : FuncData} (F : Fun K "_law_cell" "_law_cell" s_law_cell f fd) (T : BN mg) : FnOk P w K mg base CX0 1 f fd ["script", "index"] (spF K f_law_cell) :=
  pure_ok F sc_law_cell (by decide) fun cdv A outer s H E hr => by
    have nd := sc_law_cell.nd
    have hp := PassesOwn.never (M := model P w) (A := A.deeper (envOfC "_law_cell" (defScope s_law_cell) s.heap.objs.size f cdv)) (env := envOfC "_law_cell" (defScope s_law_cell) s.heap.objs.size f cdv)
    exact (ss_cons (st_if (pt_cmpU c_lt (rd_var 1) (pu_callB b_len T.len (ra_cons (rd_var 0) ra_nil)).rd)
 (ss_one (st_ret (pu_ix (rd_var 0) (rd_var 1))))
 ss_nil)
 (ss_cons (st_if (pt_cmpU (c_eq hr.units) (pu_callB b_len T.len (ra_cons (rd_var 0) ra_nil)).rd pu_int.rd)
 (ss_one (st_ret (pu_add (pu_mul pu_int.rd (rd_var 1)).rd pu_int.rd)))
 ss_nil)
 (ss_one (st_ret (pu_add (pu_mod (pu_ix (rd_var 0) (pu_mod (rd_var 1) (pu_callB b_len T.len (ra_cons (rd_var 0) ra_nil)).rd).rd).rd pu_int.rd).rd (pu_mul pu_int.rd (rd_var 1)).rd)))))
theorem ok_law_digits {f : Addr} {fd : FuncData} (F : Fun K "_law_digits" "_law_digits" s_law_digits f fd) (T : BN mg) (h_law_cell : FnD P w K mg base 1 "_law_cell" f_law_cell) : FnOk P w K mg base CX0 2 f fd ["script", "index", "count", "base"] (spF K f_law_digits) :=
  pure_ok F sc_law_digits (by decide) fun cdv A outer s H E hr => by
    have nd := sc_law_digits.nd
    have hp := PassesOwn.never (M := model P w) (A := A.deeper (envOfC "_law_digits" (defScope s_law_digits) s.heap.objs.size f cdv)) (env := envOfC "_law_digits" (defScope s_law_digits) s.heap.objs.size f cdv)
    exact (ss_cons (st_set 4 (pu_tup (pa_consU pu_int (pa_consU pu_int (pa_consU pu_int (pa_consU pu_int (pa_consU pu_int (pa_consU pu_int (pa_consU pu_int (pa_consU pu_int pa_nilU))))))))) nd)
 (ss_cons (st_set 5 (pu_call h_law_cell hr (pa_consU (pu_var 0) (pa_consU (pu_var 1) pa_nilU))) nd)
 (ss_cons (st_set 6 (pu_if (pt_cmpU c_ge (rd_var 5) (pu_pow pu_int.rd pu_int.rd).rd) (pu_var 5) pu_int) nd)
 (ss_cons (st_own 7 (nw_lst pa_nilU) nd)
 (ss_cons (st_for (.nm 8) hp rfl (ig_range1 T.range (rd_var 2)) (pg_name (i := 8) nd rfl (by first | exact .inl rfl | exact .inr rfl))
 (ss_cons (st_set 9 (pu_mul (pu_mod (rd_var 5) (pu_ix (rd_var 4) (pu_mod (rd_var 8) pu_int.rd).rd).rd).rd (pu_add pu_int.rd (pu_mul (pu_mul pu_int.rd (rd_var 8)).rd (rd_var 8)).rd).rd) nd)
 (ss_cons (st_set 9 (pu_add (pu_add (rd_var 9) (pu_mul (pu_mul pu_int.rd (pu_add (rd_var 8) pu_int.rd).rd).rd (pu_add (rd_var 8) pu_int.rd).rd).rd).rd (pu_mul pu_int.rd (rd_var 1)).rd) nd)
 (ss_cons (st_set 9 (pu_mod (rd_var 9) (pu_ix (rd_var 4) (pu_mod (pu_add (pu_mul pu_int.rd (rd_var 8)).rd (rd_var 1)).rd pu_int.rd).rd).rd) nd)
 (ss_cons (st_set 9 (pu_mod (pu_mul (pu_mul (rd_var 9) (rd_var 9)).rd (rd_var 9)).rd (pu_ix (rd_var 4) (pu_mod (pu_add (rd_var 8) pu_int.rd).rd pu_int.rd).rd).rd) nd)
 (ss_cons (st_if (pt_cmpU c_gt (rd_var 6) pu_int.rd)
 (ss_one (st_set 9 (pu_var 6) nd))
 ss_nil)
 (ss_cons (st_app 7 (pu_mod (rd_var 9) (rd_var 3)))
 (ss_one (st_set 6 (pu_div (rd_var 6) (rd_var 3)) nd)))))))) (slots_ok rfl))
 (ss_one (st_pre 7 (st_ret (pu_var 7)))))))))
theorem ok_law_hidden {f : Addr} {fd : FuncData} (F : Fun K "_law_hidden" "_law_hidden" s_law_hidden f fd) (T : BN mg) : FnOk P w K mg base CX0 1 f fd ["table", "digits", "wide"] (spF K f_law_hidden) :=
  pure_ok F sc_law_hidden (by decide) fun cdv A outer s H E hr => by
    have nd := sc_law_hidden.nd
    have hp := PassesOwn.never (M := model P w) (A := A.deeper (envOfC "_law_hidden" (defScope s_law_hidden) s.heap.objs.size f cdv)) (env := envOfC "_law_hidden" (defScope s_law_hidden) s.heap.objs.size f cdv)
    exact (ss_cons (st_parOP 3 4 (nw_lst pa_nilU) pu_int rfl nd)
 (ss_cons (st_for (.nm 5) hp rfl (ig_seq (pu_var 0)) (pg_name (i := 5) nd rfl (by first | exact .inl rfl | exact .inr rfl))
 (ss_cons (st_own 6 (nw_lst pa_nilU) nd)
 (ss_cons (st_for (.nm 7) hp rfl (ig_seq (pu_var 5)) (pg_name (i := 7) nd rfl (by first | exact .inl rfl | exact .inr rfl))
 (ss_cons (st_app 6 (pu_if (pt_cmpU (c_eq hr.units) (pu_mod (pu_ix (rd_var 1) (pu_mod (rd_var 4) (pu_callB b_len T.len (ra_cons (rd_var 1) ra_nil)).rd).rd).rd (rd_var 2)).rd pu_int.rd) pu_non (pu_var 7)))
 (ss_one (st_set 4 (pu_add (rd_var 4) pu_int.rd) nd))) (slots_ok rfl))
 (ss_one (st_app 3 (pu_callT b_tuple T.tuple (ra_cons (rd_var 6) ra_nil)))))) (slots_ok rfl))
 (ss_one (st_ret (pu_callT b_tuple T.tuple (ra_cons (rd_var 3) ra_nil))))))
theorem ok_law_squares {f : Addr} {fd : FuncData} (F : Fun K "_law_squares" "_law_squares" s_law_squares f fd) (T : BN mg) : FnOk P w K mg base CX0 1 f fd ["table"] (spF K f_law_squares) :=
  pure_ok F sc_law_squares (by decide) fun cdv A outer s H E hr => by
    have nd := sc_law_squares.nd
    have hp := PassesOwn.never (M := model P w) (A := A.deeper (envOfC "_law_squares" (defScope s_law_squares) s.heap.objs.size f cdv)) (env := envOfC "_law_squares" (defScope s_law_squares) s.heap.objs.size f cdv)
    exact (ss_cons (st_own 1 (nw_lst pa_nilU) nd)
 (ss_cons (st_for (.nm 2) hp rfl (ig_range1 T.range (pu_callB b_len T.len (ra_cons (rd_var 0) ra_nil)).rd) (pg_name (i := 2) nd rfl (by first | exact .inl rfl | exact .inr rfl))
 (ss_one (st_for (.nm 3) hp rfl (ig_range2 T.range (pu_add (rd_var 2) pu_int.rd).rd (pu_callB b_len T.len (ra_cons (rd_var 0) ra_nil)).rd) (pg_name (i := 3) nd rfl (by first | exact .inl rfl | exact .inr rfl))
 (ss_one (st_for (.nm 4) hp rfl (ig_range1 T.range (pu_callB b_len T.len (ra_cons (pu_ix (rd_var 0) pu_int.rd).rd ra_nil)).rd) (pg_name (i := 4) nd rfl (by first | exact .inl rfl | exact .inr rfl))
 (ss_one (st_for (.nm 5) hp rfl (ig_range2 T.range (pu_add (rd_var 4) pu_int.rd).rd (pu_callB b_len T.len (ra_cons (pu_ix (rd_var 0) pu_int.rd).rd ra_nil)).rd) (pg_name (i := 5) nd rfl (by first | exact .inl rfl | exact .inr rfl))
 (ss_cons (st_set 6 (pu_add (pu_ix (pu_ix (rd_var 0) (rd_var 2)).rd (rd_var 4)).rd (pu_ix (pu_ix (rd_var 0) (rd_var 3)).rd (rd_var 5)).rd) nd)
 (ss_cons (st_set 7 (pu_add (pu_ix (pu_ix (rd_var 0) (rd_var 2)).rd (rd_var 5)).rd (pu_ix (pu_ix (rd_var 0) (rd_var 3)).rd (rd_var 4)).rd) nd)
 (ss_one (st_if (PuW.pt (pw_orU (pt_cmpU c_gt (pu_sub (rd_var 6) (rd_var 7)).rd pu_int.rd) (pw_or1U (pt_cmpU c_gt (pu_sub (rd_var 7) (rd_var 6)).rd pu_int.rd))))
 (ss_one (st_app 1 (pu_tup (pa_consU (pu_var 2) (pa_consU (pu_var 3) (pa_consU (pu_var 4) (pa_consU (pu_var 5) pa_nilU)))))))
 ss_nil)))) (slots_ok rfl))) (slots_ok rfl))) (slots_ok rfl))) (slots_ok rfl))
 (ss_one (st_pre 1 (st_ret (pu_var 1))))))
theorem ok_law_right {f : Addr} {fd : FuncData} (F : Fun K "_law_right" "_law_right" s_law_right f fd) (T : BN mg) (h_law_squares : FnD P w K mg base 1 "_law_squares" f_law_squares) : FnOk P w K mg base CX0 2 f fd ["partial", "found"] (spF K f_law_right) :=
  pure_ok F sc_law_right (by decide) fun cdv A outer s H E hr => by
    have nd := sc_law_right.nd
    have hp := PassesOwn.never (M := model P w) (A := A.deeper (envOfC "_law_right" (defScope s_law_right) s.heap.objs.size f cdv)) (env := envOfC "_law_right" (defScope s_law_right) s.heap.objs.size f cdv)
    exact (ss_cons (st_if (PuW.pt (pw_orU (pt_notU (pt_valU (pu_is_tuple T.isinstance T.tuple (rd_var 1)))) (pw_orU (pt_cmpU (c_ne hr.units) (pu_callB b_len T.len (ra_cons (rd_var 1) ra_nil)).rd (pu_callB b_len T.len (ra_cons (rd_var 0) ra_nil)).rd) (pw_or1U (pt_cmpU (c_ne hr.units) (pu_call h_law_squares hr (pa_consU (pu_var 1) pa_nilU)).rd (nw_lst pa_nilU).pu.rd)))))
 (ss_one (st_ret pu_bl))
 ss_nil)
 (ss_cons (st_for (.tp [2, 3]) hp rfl (ig_zip2 T.zip (pu_var 0) (pu_var 1)) (pg_tup rfl (pgs_cons (pg_name (i := 2) nd rfl (by first | exact .inl rfl | exact .inr rfl)) (pgs_cons (pg_name (i := 3) nd rfl (by first | exact .inl rfl | exact .inr rfl)) pgs_nil)))
 (ss_cons (st_if (PuW.pt (pw_orU (pt_notU (pt_valU (pu_is_tuple T.isinstance T.tuple (rd_var 3)))) (pw_or1U (pt_cmpU (c_ne hr.units) (pu_callB b_len T.len (ra_cons (rd_var 3) ra_nil)).rd (pu_callB b_len T.len (ra_cons (rd_var 2) ra_nil)).rd))))
 (ss_one (st_ret pu_bl))
 ss_nil)
 (ss_cons (st_if (pt_cmpU (c_ne hr.units) (nw_comp (own := [("known", 4), ("entry", 5)]) (.tp [4, 5]) rfl nd (ig_zip2 T.zip (pu_var 2) (pu_var 3)).weak (by kernel_rfl) (fun _ _ _ _ _ => (pg_tup rfl (pgs_cons (pg_name (i := 4) nd rfl (by first | exact .inl rfl | exact .inr rfl)) (pgs_cons (pg_name (i := 5) nd rfl (by first | exact .inl rfl | exact .inr rfl)) pgs_nil)))) (fun _ _ _ _ _ => (pts_if (PuW.pt (pw_andU (pt_cmpU c_notN (rd_var 4) pu_non.rd) (pw_and1U (pt_cmpU (c_ne hr.units) (rd_var 4) (rd_var 5))))))) (fun _ _ _ _ _ => pu_int) (slots_ok rfl) (by decide)).pu.rd (nw_lst pa_nilU).pu.rd)
 (ss_one (st_ret pu_bl))
 ss_nil)
 (ss_one (st_if (pt_cmpU (c_ne hr.units) (nw_comp (own := [("entry", 5)]) (.nm 5) rfl nd (ig_seq (pu_var 3)).weak (by kernel_rfl) (fun _ _ _ _ _ => (pg_name (i := 5) nd rfl (by first | exact .inl rfl | exact .inr rfl))) (fun _ _ _ _ _ => (pts_if (PuW.pt (pw_orU (pt_notU (pt_valU (pu_is_int T.isinstance T.int (rd_var 5)))) (pw_or1U (pt_valU (pu_is_bool T.isinstance T.bool (rd_var 5)))))))) (fun _ _ _ _ _ => (pu_var 5)) (slots_ok rfl) (by decide)).pu.rd (nw_lst pa_nilU).pu.rd)
 (ss_one (st_ret pu_bl))
 ss_nil)))) (slots_ok rfl))
 (ss_one (st_ret pu_bl))))
theorem ok_law_rings {f : Addr} {fd : FuncData} (F : Fun K "_law_rings" "_law_rings" s_law_rings f fd) (T : BN mg) : FnOk P w K mg base CX0 1 f fd ["partial"] (spF K f_law_rings) :=
  pure_ok F sc_law_rings (by decide) fun cdv A outer s H E hr => by
    have nd := sc_law_rings.nd
    have hp := PassesOwn.never (M := model P w) (A := A.deeper (envOfC "_law_rings" (defScope s_law_rings) s.heap.objs.size f cdv)) (env := envOfC "_law_rings" (defScope s_law_rings) s.heap.objs.size f cdv)
    exact (ss_cons (st_par 1 2 (pu_callB b_len T.len (ra_cons (rd_var 0) ra_nil)) (pu_callB b_len T.len (ra_cons (pu_ix (rd_var 0) pu_int.rd).rd ra_nil)) rfl nd)
 (ss_cons (st_ownD 3 nd)
 (ss_cons (st_for (.nm 4) hp rfl (ig_range1 T.range (rd_var 1)) (pg_name (i := 4) nd rfl (by first | exact .inl rfl | exact .inr rfl))
 (ss_one (st_for (.nm 6) hp rfl (ig_range1 T.range (rd_var 1)) (pg_name (i := 6) nd rfl (by first | exact .inl rfl | exact .inr rfl))
 (ss_cons (st_own 7 (nw_lst pa_nilU) nd)
 (ss_cons (st_for (.nm 8) hp rfl (ig_range1 T.range (rd_var 2)) (pg_name (i := 8) nd rfl (by first | exact .inl rfl | exact .inr rfl))
 (ss_one (st_if (PuW.pt (pw_andU (pt_cmpU c_notN (pu_ix (pu_ix (rd_var 0) (rd_var 4)).rd (rd_var 8)).rd pu_non.rd) (pw_and1U (pt_cmpU c_notN (pu_ix (pu_ix (rd_var 0) (rd_var 6)).rd (rd_var 8)).rd pu_non.rd))))
 (ss_one (st_app 7 (pu_sub (pu_sub (pu_ix (pu_ix (rd_var 0) (rd_var 4)).rd (rd_var 8)).rd (pu_ix (pu_ix (rd_var 0) (rd_var 6)).rd (rd_var 8)).rd).rd pu_int.rd)))
 ss_nil)) (slots_ok rfl))
 (ss_one (st_if (pt_cmpU (c_ne hr.units) (rd_var 7) (nw_lst pa_nilU).pu.rd)
 (ss_one (st_setD (hu_of hr) 3 (pu_callB (b_max rfl hr.units) T.max (ra_cons (rd_var 7) ra_nil)) (pu_tup (pa_consU (pu_var 4) (pa_consU (pu_var 6) pa_nilU)))))
 ss_nil)))) (slots_ok rfl))) (slots_ok rfl))
 (ss_cons (st_for (.nm 5) hp rfl (ig_range1 T.range (rd_var 1)) (pg_name (i := 5) nd rfl (by first | exact .inl rfl | exact .inr rfl))
 (ss_one (st_for (.nm 4) hp rfl (ig_range1 T.range (rd_var 1)) (pg_name (i := 4) nd rfl (by first | exact .inl rfl | exact .inr rfl))
 (ss_one (st_for (.nm 6) hp rfl (ig_range1 T.range (rd_var 1)) (pg_name (i := 6) nd rfl (by first | exact .inl rfl | exact .inr rfl))
 (ss_one (st_if (PuW.pt (pw_andU (pt_dinU (hu_of hr) (pu_tup (pa_consU (pu_var 4) (pa_consU (pu_var 5) pa_nilU))) (rd_var 3)) (pw_and1U (pt_dinU (hu_of hr) (pu_tup (pa_consU (pu_var 5) (pa_consU (pu_var 6) pa_nilU))) (rd_var 3)))))
 (ss_cons (st_set 9 (pu_add (pu_dget (hu_of hr) (rd_var 3) (pu_tup (pa_consU (pu_var 4) (pa_consU (pu_var 5) pa_nilU)))).rd (pu_dget (hu_of hr) (rd_var 3) (pu_tup (pa_consU (pu_var 5) (pa_consU (pu_var 6) pa_nilU)))).rd) nd)
 (ss_one (st_setD (hu_of hr) 3 (pu_callB (b_max rfl hr.units) T.max (ra_cons (rd_var 9) (ra_cons (pu_dgetD (hu_of hr) (rd_var 3) (pu_tup (pa_consU (pu_var 4) (pa_consU (pu_var 6) pa_nilU))) (pu_var 9)).rd ra_nil))) (pu_tup (pa_consU (pu_var 4) (pa_consU (pu_var 6) pa_nilU))))))
 ss_nil)) (slots_ok rfl))) (slots_ok rfl))) (slots_ok rfl))
 (ss_one (st_ret (pu_cmp (c_eq hr.units) (nw_comp (own := [("one", 4)]) (.nm 4) rfl nd (ig_range1 T.range (rd_var 1)).weak (by kernel_rfl) (fun _ _ _ _ _ => (pg_name (i := 4) nd rfl (by first | exact .inl rfl | exact .inr rfl))) (fun _ _ _ _ _ => (pts_if (pt_cmpU c_ge (pu_dgetD (hu_of hr) (rd_var 3) (pu_tup (pa_consU (pu_var 4) (pa_consU (pu_var 4) pa_nilU))) (pu_sub pu_int.rd pu_int.rd)).rd pu_int.rd))) (fun _ _ _ _ _ => (pu_var 4)) (slots_ok rfl) (by decide)).pu.rd (nw_lst pa_nilU).pu.rd)))))))
theorem ok_law_same_bool {f : Addr} {fd : FuncData} (F : Fun K "_law_same_bool" "_law_same_bool" s_law_same_bool f fd) (T : BN mg) : FnOk P w K mg base CX0 1 f fd ["result", "expected"] (spF K f_law_same_bool) :=
  pure_ok F sc_law_same_bool (by decide) fun cdv A outer s H E hr => by
    have nd := sc_law_same_bool.nd
    have hp := PassesOwn.never (M := model P w) (A := A.deeper (envOfC "_law_same_bool" (defScope s_law_same_bool) s.heap.objs.size f cdv)) (env := envOfC "_law_same_bool" (defScope s_law_same_bool) s.heap.objs.size f cdv)
    exact (ss_one (st_ret (pu_and (pu_is_bool T.isinstance T.bool (rd_var 0)) (pu_one (pu_cmp (c_eq hr.units) (rd_var 0) (rd_var 1))))))
theorem ok_law_spoilt {f : Addr} {fd : FuncData} (F : Fun K "_law_spoilt" "_law_spoilt" s_law_spoilt f fd) (T : BN mg) : FnOk P w K mg base CX0 1 f fd ["table", "digits"] (spF K f_law_spoilt) :=
  pure_ok F sc_law_spoilt (by decide) fun cdv A outer s H E hr => by
    have nd := sc_law_spoilt.nd
    have hp := PassesOwn.never (M := model P w) (A := A.deeper (envOfC "_law_spoilt" (defScope s_law_spoilt) s.heap.objs.size f cdv)) (env := envOfC "_law_spoilt" (defScope s_law_spoilt) s.heap.objs.size f cdv)
    exact (ss_cons (st_ownLL 2 (own := [("row", 4)]) (.nm 4) rfl nd (ig_seq (pu_var 0)).weak (by kernel_rfl) (fun _ _ _ _ _ => (pg_name (i := 4) nd rfl (by first | exact .inl rfl | exact .inr rfl))) (fun _ _ _ _ _ => pts_no) (fun _ _ _ _ _ => (nw_callT b_list T.list (ra_cons (rd_var 4) ra_nil))) (slots_ok rfl) (by decide))
 (ss_cons (st_for (.nm 3) hp rfl (ig_range1 T.range (pu_add pu_int.rd (pu_mod (pu_ix (rd_var 1) pu_int.rd).rd pu_int.rd).rd).rd) (pg_name (i := 3) nd rfl (by first | exact .inl rfl | exact .inr rfl))
 (ss_cons (st_set 4 (pu_mod (pu_ix (rd_var 1) (pu_add pu_int.rd (rd_var 3)).rd).rd (pu_lenLL 2 T.len).rd) nd)
 (ss_cons (st_set 5 (pu_mod (pu_ix (rd_var 1) (pu_add pu_int.rd (rd_var 3)).rd).rd (pu_callB b_len T.len (ra_cons (rd_ixLL 2 pu_int.rd) ra_nil)).rd) nd)
 (ss_one (st_setLL 2 (pu_add (pu_ix (rd_ixLL 2 (rd_var 4)) (rd_var 5)).rd (pu_ix (nw_lst (pa_consU pu_int (pa_consU (pu_sub pu_int.rd pu_int.rd) (pa_consU pu_int (pa_consU (pu_sub pu_int.rd pu_int.rd) (pa_consU pu_int pa_nilU)))))).pu.rd (pu_mod (pu_ix (rd_var 1) (pu_add pu_int.rd (rd_var 3)).rd).rd pu_int.rd).rd).rd) (pu_var 4) (pu_var 5))))) (slots_ok rfl))
 (ss_one (st_ret (pu_callT b_tuple T.tuple (ra_cons (nw_comp (own := [("row", 4)]) (.nm 4) rfl nd (ih_LL 2) (by kernel_rfl) (fun _ _ _ _ _ => (pg_name (i := 4) nd rfl (by first | exact .inl rfl | exact .inr rfl))) (fun _ _ _ _ _ => pts_no) (fun _ _ _ _ _ => (pu_callT b_tuple T.tuple (ra_cons (rd_var 4) ra_nil))) (slots_ok rfl) (by decide)).pu.rd ra_nil))))))
theorem ok_law_table {f : Addr} {fd : FuncData} (F : Fun K "_law_table" "_law_table" s_law_table f fd) (T : BN mg) : FnOk P w K mg base CX0 1 f fd ["digits", "many", "wide"] (spF K f_law_table) :=
  pure_ok F sc_law_table (by decide) fun cdv A outer s H E hr => by
    have nd := sc_law_table.nd
    have hp := PassesOwn.never (M := model P w) (A := A.deeper (envOfC "_law_table" (defScope s_law_table) s.heap.objs.size f cdv)) (env := envOfC "_law_table" (defScope s_law_table) s.heap.objs.size f cdv)
    exact (ss_cons (st_set 3 (pu_add pu_int.rd (pu_mod (pu_ix (rd_var 0) pu_int.rd).rd pu_int.rd).rd) nd)
 (ss_cons (st_set 4 (nw_comp (own := [("k", 6)]) (.nm 6) rfl nd (ig_range1 T.range (rd_var 2)).weak (by kernel_rfl) (fun _ _ _ _ _ => (pg_name (i := 6) nd rfl (by first | exact .inl rfl | exact .inr rfl))) (fun _ _ _ _ _ => pts_no) (fun _ _ _ _ _ => (pu_mod (pu_ix (rd_var 0) (pu_add pu_int.rd (rd_var 6)).rd).rd pu_int.rd)) (slots_ok rfl) (by decide)).pu nd)
 (ss_cons (st_setC 5 (own := [("k", 6)]) (.nm 6) rfl nd (ig_range1 T.range (rd_var 1)).weak (by kernel_rfl) (fun _ _ _ _ _ => (pg_name (i := 6) nd rfl (by first | exact .inl rfl | exact .inr rfl))) (fun _ _ _ _ _ => pts_no) (fun _ _ _ _ _ => (pu_sub (pu_mod (pu_ix (rd_var 0) (pu_add pu_int.rd (rd_var 6)).rd).rd pu_int.rd).rd pu_int.rd)) (slots_ok rfl) (by decide))
 (ss_cons (st_if (pt_cmpU (c_eq hr.units) (pu_mod (pu_ix (rd_var 0) pu_int.rd).rd pu_int.rd).rd pu_int.rd)
 (ss_one (st_set 4 (nw_comp (own := [("digit", 7)]) (.nm 7) rfl nd (ig_seq (pu_slice (rd_var 0) (po_so pu_int.rd) (po_so (pu_add pu_int.rd (rd_var 2)).rd))).weak (by kernel_rfl) (fun _ _ _ _ _ => (pg_name (i := 7) nd rfl (by first | exact .inl rfl | exact .inr rfl))) (fun _ _ _ _ _ => pts_no) (fun _ _ _ _ _ => (pu_add (pu_ix (rd_var 4) pu_int.rd).rd (pu_mod (rd_var 7) pu_int.rd).rd)) (slots_ok rfl) (by decide)).pu nd))
 ss_nil)
 (ss_one (st_ret (pu_callT b_tuple T.tuple (ra_cons (nw_comp (own := [("one", 8)]) (.nm 8) rfl nd (ig_seq (pu_var 5)).weak (by kernel_rfl) (fun _ _ _ _ _ => (pg_name (i := 8) nd rfl (by first | exact .inl rfl | exact .inr rfl))) (fun _ _ _ _ _ => pts_no) (fun _ _ _ _ _ => (pu_callT b_tuple T.tuple (ra_cons (nw_comp (own := [("other", 9)]) (.nm 9) rfl nd (ig_seq (pu_var 4)).weak (by kernel_rfl) (fun _ _ _ _ _ => (pg_name (i := 9) nd rfl (by first | exact .inl rfl | exact .inr rfl))) (fun _ _ _ _ _ => pts_no) (fun _ _ _ _ _ => (pu_div (pu_add (rd_var 8) (rd_var 9)).rd (rd_var 3))) (slots_ok rfl) (by decide)).pu.rd ra_nil))) (slots_ok rfl) (by decide)).pu.rd ra_nil))))))))
theorem ok_bounds {f : Addr} {fd : FuncData} (F : Fun K "bounds" "bounds" s_bounds f fd) (T : BN mg) : FnOk P w K mg base CX0 1 f fd ["partial"] (spF K f_bounds) :=
  pure_ok F sc_bounds (by decide) fun cdv A outer s H E hr => by
    have nd := sc_bounds.nd
    have hp := PassesOwn.never (M := model P w) (A := A.deeper (envOfC "bounds" (defScope s_bounds) s.heap.objs.size f cdv)) (env := envOfC "bounds" (defScope s_bounds) s.heap.objs.size f cdv)
    exact (ss_cons (st_par 1 2 (pu_callB b_len T.len (ra_cons (rd_var 0) ra_nil)) (pu_callB b_len T.len (ra_cons (pu_ix (rd_var 0) pu_int.rd).rd ra_nil)) rfl nd)
 (ss_cons (st_par 3 4 (pu_add (pu_add (rd_var 1) (rd_var 2)).rd pu_int.rd) (nw_range1 T.list T.range (pu_add (rd_var 1) (rd_var 2)).rd).pu rfl nd)
 (ss_cons (st_ownD 5 nd)
 (ss_cons (st_for (.nm 6) hp rfl (ig_seq (pu_var 4)) (pg_name (i := 6) nd rfl (by first | exact .inl rfl | exact .inr rfl))
 (ss_one (st_setD (hu_of hr) 5 pu_int (pu_tup (pa_consU (pu_var 6) (pa_consU (pu_var 6) pa_nilU))))) (slots_ok rfl))
 (ss_cons (st_for (.nm 7) hp rfl (ig_range1 T.range (rd_var 1)) (pg_name (i := 7) nd rfl (by first | exact .inl rfl | exact .inr rfl))
 (ss_one (st_for (.nm 9) hp rfl (ig_range1 T.range (rd_var 2)) (pg_name (i := 9) nd rfl (by first | exact .inl rfl | exact .inr rfl))
 (ss_cons (st_set 10 (pu_ix (pu_ix (rd_var 0) (rd_var 7)).rd (rd_var 9)) nd)
 (ss_one (st_if (pt_cmpU c_notN (rd_var 10) pu_non.rd)
 (ss_cons (st_setD (hu_of hr) 5 (pu_mul (pu_neg (pu_var 10)).rd (rd_var 3)) (pu_tup (pa_consU (pu_var 7) (pa_consU (pu_add (rd_var 1) (rd_var 9)) pa_nilU))))
 (ss_one (st_setD (hu_of hr) 5 (pu_sub (pu_mul (pu_add (rd_var 10) pu_int.rd).rd (rd_var 3)).rd pu_int.rd) (pu_tup (pa_consU (pu_add (rd_var 1) (rd_var 9)) (pa_consU (pu_var 7) pa_nilU))))))
 ss_nil))) (slots_ok rfl))) (slots_ok rfl))
 (ss_cons (st_for (.nm 8) hp rfl (ig_seq (pu_var 4)) (pg_name (i := 8) nd rfl (by first | exact .inl rfl | exact .inr rfl))
 (ss_one (st_for (.nm 6) hp rfl (ig_seq (pu_var 4)) (pg_name (i := 6) nd rfl (by first | exact .inl rfl | exact .inr rfl))
 (ss_one (st_for (.nm 11) hp rfl (ig_seq (pu_var 4)) (pg_name (i := 11) nd rfl (by first | exact .inl rfl | exact .inr rfl))
 (ss_one (st_if (PuW.pt (pw_andU (pt_dinU (hu_of hr) (pu_tup (pa_consU (pu_var 6) (pa_consU (pu_var 8) pa_nilU))) (rd_var 5)) (pw_and1U (pt_dinU (hu_of hr) (pu_tup (pa_consU (pu_var 8) (pa_consU (pu_var 11) pa_nilU))) (rd_var 5)))))
 (ss_cons (st_set 12 (pu_add (pu_dget (hu_of hr) (rd_var 5) (pu_tup (pa_consU (pu_var 6) (pa_consU (pu_var 8) pa_nilU)))).rd (pu_dget (hu_of hr) (rd_var 5) (pu_tup (pa_consU (pu_var 8) (pa_consU (pu_var 11) pa_nilU)))).rd) nd)
 (ss_one (st_if (pt_cmpU c_lt (rd_var 12) (pu_dgetD (hu_of hr) (rd_var 5) (pu_tup (pa_consU (pu_var 6) (pa_consU (pu_var 11) pa_nilU))) (pu_add (rd_var 12) pu_int.rd)).rd)
 (ss_one (st_setD (hu_of hr) 5 (pu_var 12) (pu_tup (pa_consU (pu_var 6) (pa_consU (pu_var 11) pa_nilU)))))
 ss_nil)))
 ss_nil)) (slots_ok rfl))) (slots_ok rfl))) (slots_ok rfl))
 (ss_one (st_pre 5 (st_ret (pu_if (pt_valU (pu_callB (b_all rfl) T.all (ra_cons (nw_comp (own := [("one", 6)]) (.nm 6) rfl nd (ig_seq (pu_var 4)).weak (by kernel_rfl) (fun _ _ _ _ _ => (pg_name (i := 6) nd rfl (by first | exact .inl rfl | exact .inr rfl))) (fun _ _ _ _ _ => pts_no) (fun _ _ _ _ _ => (pu_cmp (c_eq hr.units) (pu_dget (hu_of hr) (rd_var 5) (pu_tup (pa_consU (pu_var 6) (pa_consU (pu_var 6) pa_nilU)))).rd pu_int.rd)) (slots_ok rfl) (by decide)).pu.rd ra_nil))) (pu_var 5) pu_non))))))))))
theorem ok_entry_range {f : Addr} {fd : FuncData} (F : Fun K "entry_range" "entry_range" s_entry_range f fd) (T : BN mg) (h_bounds : FnD P w K mg base 1 "bounds" f_bounds) : FnOk P w K mg base CX0 2 f fd ["partial", "row", "column"] (spF K f_entry_range) :=
  pure_ok F sc_entry_range (by decide) fun cdv A outer s H E hr => by
    have nd := sc_entry_range.nd
    have hp := PassesOwn.never (M := model P w) (A := A.deeper (envOfC "entry_range" (defScope s_entry_range) s.heap.objs.size f cdv)) (env := envOfC "entry_range" (defScope s_entry_range) s.heap.objs.size f cdv)
    exact (ss_cons (st_set 3 (pu_call h_bounds hr (pa_consU (pu_var 0) pa_nilU)) nd)
 (ss_cons (st_if (pt_cmpU c_isN (rd_var 3) pu_non.rd)
 (ss_one (st_ret pu_non))
 ss_nil)
 (ss_cons (st_par 4 5 (pu_add (pu_add (pu_callB b_len T.len (ra_cons (rd_var 0) ra_nil)).rd (pu_callB b_len T.len (ra_cons (pu_ix (rd_var 0) pu_int.rd).rd ra_nil)).rd).rd pu_int.rd) (pu_add (pu_callB b_len T.len (ra_cons (rd_var 0) ra_nil)).rd (rd_var 2)) rfl nd)
 (ss_cons (st_tup (is := [6, 7]) (pu_tup (pa_consU pu_non (pa_consU pu_non pa_nilU))) (pg_tup rfl (pgs_cons (pg_name (i := 6) nd rfl (by first | exact .inl rfl | exact .inr rfl)) (pgs_cons (pg_name (i := 7) nd rfl (by first | exact .inl rfl | exact .inr rfl)) pgs_nil))) (slots_ok rfl))
 (ss_cons (st_if (pt_dinU (hu_of hr) (pu_tup (pa_consU (pu_var 1) (pa_consU (pu_var 5) pa_nilU))) (rd_var 3))
 (ss_one (st_set 6 (pu_div (pu_neg (pu_dget (hu_of hr) (rd_var 3) (pu_tup (pa_consU (pu_var 1) (pa_consU (pu_var 5) pa_nilU))))).rd (rd_var 4)) nd))
 ss_nil)
 (ss_cons (st_if (pt_dinU (hu_of hr) (pu_tup (pa_consU (pu_var 5) (pa_consU (pu_var 1) pa_nilU))) (rd_var 3))
 (ss_one (st_set 7 (pu_div (pu_dget (hu_of hr) (rd_var 3) (pu_tup (pa_consU (pu_var 5) (pa_consU (pu_var 1) pa_nilU)))).rd (rd_var 4)) nd))
 ss_nil)
 (ss_one (st_ret (pu_tup (pa_consU (pu_var 6) (pa_consU (pu_var 7) pa_nilU)))))))))))
theorem ok_filled {f : Addr} {fd : FuncData} (F : Fun K "filled" "filled" s_filled f fd) (T : BN mg) (h_bounds : FnD P w K mg base 1 "bounds" f_bounds) (h_entry_range : FnD P w K mg base 2 "entry_range" f_entry_range) : FnOk P w K mg base CX0 3 f fd ["partial"] (spF K f_filled) :=
  pure_ok F sc_filled (by decide) fun cdv A outer s H E hr => by
    have nd := sc_filled.nd
    have hp := PassesOwn.never (M := model P w) (A := A.deeper (envOfC "filled" (defScope s_filled) s.heap.objs.size f cdv)) (env := envOfC "filled" (defScope s_filled) s.heap.objs.size f cdv)
    exact (ss_cons (st_if (pt_cmpU c_isN (pu_call h_bounds hr (pa_consU (pu_var 0) pa_nilU)).rd pu_non.rd)
 (ss_one (st_ret pu_non))
 ss_nil)
 (ss_cons (st_ownLL 1 (own := [("row", 2)]) (.nm 2) rfl nd (ig_seq (pu_var 0)).weak (by kernel_rfl) (fun _ _ _ _ _ => (pg_name (i := 2) nd rfl (by first | exact .inl rfl | exact .inr rfl))) (fun _ _ _ _ _ => pts_no) (fun _ _ _ _ _ => (nw_callT b_list T.list (ra_cons (rd_var 2) ra_nil))) (slots_ok rfl) (by decide))
 (ss_cons (st_for (.nm 2) hp rfl (ig_range1 T.range (pu_lenLL 1 T.len).rd) (pg_name (i := 2) nd rfl (by first | exact .inl rfl | exact .inr rfl))
 (ss_one (st_for (.nm 3) hp rfl (ig_range1 T.range (pu_callB b_len T.len (ra_cons (rd_ixLL 1 pu_int.rd) ra_nil)).rd) (pg_name (i := 3) nd rfl (by first | exact .inl rfl | exact .inr rfl))
 (ss_one (st_if (pt_cmpU c_isN (pu_ix (rd_ixLL 1 (rd_var 2)) (rd_var 3)).rd pu_non.rd)
 (ss_cons (st_set 4 (pu_callT b_tuple T.tuple (ra_cons (nw_comp (own := [("line", 7)]) (.nm 7) rfl nd (ih_LL 1) (by kernel_rfl) (fun _ _ _ _ _ => (pg_name (i := 7) nd rfl (by first | exact .inl rfl | exact .inr rfl))) (fun _ _ _ _ _ => pts_no) (fun _ _ _ _ _ => (pu_callT b_tuple T.tuple (ra_cons (rd_var 7) ra_nil))) (slots_ok rfl) (by decide)).pu.rd ra_nil)) nd)
 (ss_cons (st_tup (is := [5, 6]) (pu_call h_entry_range hr (pa_consU (pu_var 4) (pa_consU (pu_var 2) (pa_consU (pu_var 3) pa_nilU)))) (pg_tup rfl (pgs_cons (pg_name (i := 5) nd rfl (by first | exact .inl rfl | exact .inr rfl)) (pgs_cons (pg_name (i := 6) nd rfl (by first | exact .inl rfl | exact .inr rfl)) pgs_nil))) (slots_ok rfl))
 (ss_one (st_setLL 1 (pu_if (pt_cmpU c_notN (rd_var 5) pu_non.rd) (pu_var 5) (pu_if (pt_cmpU c_notN (rd_var 6) pu_non.rd) (pu_var 6) pu_int)) (pu_var 2) (pu_var 3)))))
 ss_nil)) (slots_ok rfl))) (slots_ok rfl))
 (ss_one (st_ret (pu_callT b_tuple T.tuple (ra_cons (nw_comp (own := [("line", 7)]) (.nm 7) rfl nd (ih_LL 1) (by kernel_rfl) (fun _ _ _ _ _ => (pg_name (i := 7) nd rfl (by first | exact .inl rfl | exact .inr rfl))) (fun _ _ _ _ _ => pts_no) (fun _ _ _ _ _ => (pu_callT b_tuple T.tuple (ra_cons (rd_var 7) ra_nil))) (slots_ok rfl) (by decide)).pu.rd ra_nil)))))))
theorem ok_fits {f : Addr} {fd : FuncData} (F : Fun K "fits" "fits" s_fits f fd) (T : BN mg) (h_bounds : FnD P w K mg base 1 "bounds" f_bounds) : FnOk P w K mg base CX0 2 f fd ["partial"] (spF K f_fits) :=
  pure_ok F sc_fits (by decide) fun cdv A outer s H E hr => by
    have nd := sc_fits.nd
    have hp := PassesOwn.never (M := model P w) (A := A.deeper (envOfC "fits" (defScope s_fits) s.heap.objs.size f cdv)) (env := envOfC "fits" (defScope s_fits) s.heap.objs.size f cdv)
    exact (ss_one (st_ret (pu_cmp c_notN (pu_call h_bounds hr (pa_consU (pu_var 0) pa_nilU)).rd pu_non.rd)))
theorem ok_law {f : Addr} {fd : FuncData} (F : Fun K "law" "law" s_law f fd) (T : BN mg) (h_law_digits : FnD P w K mg base 2 "_law_digits" f_law_digits) (h_law_hidden : FnD P w K mg base 1 "_law_hidden" f_law_hidden) (h_law_right : FnD P w K mg base 2 "_law_right" f_law_right) (h_law_rings : FnD P w K mg base 1 "_law_rings" f_law_rings) (h_law_same_bool : FnD P w K mg base 1 "_law_same_bool" f_law_same_bool) (h_law_spoilt : FnD P w K mg base 1 "_law_spoilt" f_law_spoilt) (h_law_table : FnD P w K mg base 1 "_law_table" f_law_table) (h_filled : FnD P w K mg base 3 "filled" f_filled) (h_fits : FnD P w K mg base 2 "fits" f_fits) : FnOk P w K mg base CX0 4 f fd ["script"] (spF K f_law_k07) :=
  pure_ok F sc_law (by decide) fun cdv A outer s H E hr => by
    have nd := sc_law.nd
    have hp := PassesOwn.never (M := model P w) (A := A.deeper (envOfC "law" (defScope s_law) s.heap.objs.size f cdv)) (env := envOfC "law" (defScope s_law) s.heap.objs.size f cdv)
    exact (ss_cons (st_for (.nm 1) hp rfl (ig_range1 T.range pu_int.rd) (pg_name (i := 1) nd rfl (by first | exact .inl rfl | exact .inr rfl))
 (ss_cons (st_set 2 (pu_call h_law_digits hr (pa_consU (pu_var 0) (pa_consU (pu_var 1) (pa_consU pu_int (pa_consU pu_int pa_nilU))))) nd)
 (ss_cons (st_set 3 (pu_call h_law_table hr (pa_consU (pu_var 2) (pa_consU (pu_add pu_int.rd (pu_mod (pu_ix (rd_var 2) pu_int.rd).rd pu_int.rd).rd) (pa_consU (pu_add pu_int.rd (pu_mod (pu_ix (rd_var 2) pu_int.rd).rd pu_int.rd).rd) pa_nilU)))) nd)
 (ss_cons (st_for (.nm 4) hp rfl (ig_range1 T.range pu_int.rd) (pg_name (i := 4) nd rfl (by first | exact .inl rfl | exact .inr rfl))
 (ss_cons (st_set 5 (pu_if (pt_cmpU (c_eq hr.units) (rd_var 4) pu_int.rd) (pu_var 3) (pu_call h_law_spoilt hr (pa_consU (pu_var 3) (pa_consU (pu_slice (rd_var 2) (po_so (pu_add pu_int.rd (pu_mul pu_int.rd (rd_var 4)).rd).rd) po_no) pa_nilU)))) nd)
 (ss_cons (st_set 6 (pu_call h_law_hidden hr (pa_consU (pu_var 5) (pa_consU (pu_slice (rd_var 2) (po_so (pu_add pu_int.rd (rd_var 4)).rd) (po_so pu_int.rd)) (pa_consU (pu_add pu_int.rd (rd_var 4)) pa_nilU)))) nd)
 (ss_cons (st_par 7 8 (pu_call h_law_rings hr (pa_consU (pu_var 6) pa_nilU)) (pu_call h_filled hr (pa_consU (pu_var 6) pa_nilU)) rfl nd)
 (ss_cons (st_if (PuW.pt (pw_orU (pt_notU (pt_valU (pu_call h_law_same_bool hr (pa_consU (pu_call h_fits hr (pa_consU (pu_var 6) pa_nilU)) (pa_consU (pu_var 7) pa_nilU))))) (pw_or1U (pt_cmpU (c_eq hr.units) (pu_cmp c_isN (rd_var 8) pu_non.rd).rd (rd_var 7)))))
 (ss_one (st_ret pu_bl))
 ss_nil)
 (ss_cons (st_if (PuW.pt (pw_andU (pt_cmpU c_notN (rd_var 8) pu_non.rd) (pw_and1U (pt_notU (pt_valU (pu_call h_law_right hr (pa_consU (pu_var 6) (pa_consU (pu_var 8) pa_nilU))))))))
 (ss_one (st_ret pu_bl))
 ss_nil)
 (ss_one (st_if (PuW.pt (pw_andU (pt_cmpU (c_eq hr.units) (rd_var 4) pu_int.rd) (pw_and1U (pt_notU (pt_valU (pu_var 7))))))
 (ss_one (st_ret pu_bl))
 ss_nil))))))) (slots_ok rfl))
 (ss_one (st_if (PuW.pt (pw_orU (pt_cmpU (c_ne hr.units) (pu_call h_filled hr (pa_consU (pu_var 3) pa_nilU)).rd (rd_var 3)) (pw_or1U (pt_cmpU c_notB (pu_call h_fits hr (pa_consU (pu_var 3) pa_nilU)).rd pu_bl.rd))))
 (ss_one (st_ret pu_bl))
 ss_nil))))) (slots_ok rfl))
 (ss_cons (st_if (PuW.pt (pw_orU (pt_cmpU c_notB (pu_call h_fits hr (pa_consU (pu_tup (pa_consU (pu_tup (pa_consU pu_int (pa_consU pu_int (pa_consU pu_non pa_nilU)))) (pa_consU (pu_tup (pa_consU pu_non (pa_consU pu_int (pa_consU pu_int pa_nilU)))) (pa_consU (pu_tup (pa_consU pu_int (pa_consU pu_non (pa_consU pu_int pa_nilU)))) pa_nilU)))) pa_nilU)).rd pu_bl.rd) (pw_or1U (pt_cmpU c_notN (pu_call h_filled hr (pa_consU (pu_tup (pa_consU (pu_tup (pa_consU pu_int (pa_consU pu_int pa_nilU))) (pa_consU (pu_tup (pa_consU pu_int (pa_consU pu_int pa_nilU))) pa_nilU))) pa_nilU)).rd pu_non.rd))))
 (ss_one (st_ret pu_bl))
 ss_nil)
 (ss_one (st_ret (pu_and (pu_cmp c_isB (pu_call h_fits hr (pa_consU (pu_tup (pa_consU (pu_tup (pa_consU pu_int (pa_consU pu_int (pa_consU pu_non pa_nilU)))) (pa_consU (pu_tup (pa_consU pu_non (pa_consU pu_int (pa_consU pu_int pa_nilU)))) (pa_consU (pu_tup (pa_consU pu_int (pa_consU pu_non (pa_consU pu_int pa_nilU)))) pa_nilU)))) pa_nilU)).rd pu_bl.rd) (pu_one (pu_cmp c_isB (pu_call h_fits hr (pa_consU (pu_tup (pa_consU (pu_tup (pa_consU pu_non (pa_consU pu_non pa_nilU))) (pa_consU (pu_tup (pa_consU pu_non (pa_consU pu_non pa_nilU))) pa_nilU))) pa_nilU)).rd pu_bl.rd)))))))
end
theorem law_true (ns : List Int) (h : ns.length ≤ 63) : PL.f_law_k07 [.scr ns] = some (.bl true) := PL.law_k07_true ns
theorem all_mk {l : PySem.W.OpenLaw} {w : World} {K : PySem.W.Frag} {h : Heap} {mg : Str → Option Value} {fa f0 f1 f2 f3 f4 f5 f6 f7 f8 f9 f10 f11 f12 f13 : Addr} (X : K.In h) (G : h.Ns mainGlobals mg) (hfa : mg "law" = some (.ref fa))
    {od0 an0 od1 an1 od2 an2 od3 an3 od4 an4 od5 an5 od6 an6 od7 an7 od8 an8 od9 an9 od10 an10 od11 an11 od12 an12 od13 an13 : Option Addr} {sl0 sl1 sl2 sl3 sl4 sl5 sl6 sl7 sl8 sl9 sl10 sl11 sl12 sl13 : Array (Option Value)}
    {oc0 kV0 dc0 pm0 cd0 ct0 oc1 kV1 dc1 pm1 cd1 ct1 oc2 kV2 dc2 pm2 cd2 ct2 oc3 kV3 dc3 pm3 cd3 ct3 oc4 kV4 dc4 pm4 cd4 ct4 oc5 kV5 dc5 pm5 cd5 ct5 oc6 kV6 dc6 pm6 cd6 ct6 oc7 kV7 dc7 pm7 cd7 ct7 oc8 kV8 dc8 pm8 cd8 ct8 oc9 kV9 dc9 pm9 cd9 ct9 oc10 kV10 dc10 pm10 cd10 ct10 oc11 kV11 dc11 pm11 cd11 ct11 oc12 kV12 dc12 pm12 cd12 ct12 oc13 kV13 dc13 pm13 cd13 ct13 : Value}
    (a0 : PySem.W.nsIn K mainGlobals "_law_cell" = some (some (.ref f0))) (l0 : K.lookup f0 = some ⟨oc0, od0, .func (PySem.W.fnOf "_law_cell" "_law_cell" (defArgs s_law_cell) (defBody s_law_cell) (defScope s_law_cell) .none kV0 dc0 pm0 an0 cd0 ct0), sl0⟩) (c0 : PySem.W.codeIn K cd0 "_law_cell" = true) (k0 : PySem.W.keepIn K (.ref f0) = true)
    (a1 : PySem.W.nsIn K mainGlobals "_law_digits" = some (some (.ref f1))) (l1 : K.lookup f1 = some ⟨oc1, od1, .func (PySem.W.fnOf "_law_digits" "_law_digits" (defArgs s_law_digits) (defBody s_law_digits) (defScope s_law_digits) .none kV1 dc1 pm1 an1 cd1 ct1), sl1⟩) (c1 : PySem.W.codeIn K cd1 "_law_digits" = true) (k1 : PySem.W.keepIn K (.ref f1) = true)
    (a2 : PySem.W.nsIn K mainGlobals "_law_hidden" = some (some (.ref f2))) (l2 : K.lookup f2 = some ⟨oc2, od2, .func (PySem.W.fnOf "_law_hidden" "_law_hidden" (defArgs s_law_hidden) (defBody s_law_hidden) (defScope s_law_hidden) .none kV2 dc2 pm2 an2 cd2 ct2), sl2⟩) (c2 : PySem.W.codeIn K cd2 "_law_hidden" = true) (k2 : PySem.W.keepIn K (.ref f2) = true)
    (a3 : PySem.W.nsIn K mainGlobals "_law_squares" = some (some (.ref f3))) (l3 : K.lookup f3 = some ⟨oc3, od3, .func (PySem.W.fnOf "_law_squares" "_law_squares" (defArgs s_law_squares) (defBody s_law_squares) (defScope s_law_squares) .none kV3 dc3 pm3 an3 cd3 ct3), sl3⟩) (c3 : PySem.W.codeIn K cd3 "_law_squares" = true) (k3 : PySem.W.keepIn K (.ref f3) = true)
    (a4 : PySem.W.nsIn K mainGlobals "_law_right" = some (some (.ref f4))) (l4 : K.lookup f4 = some ⟨oc4, od4, .func (PySem.W.fnOf "_law_right" "_law_right" (defArgs s_law_right) (defBody s_law_right) (defScope s_law_right) .none kV4 dc4 pm4 an4 cd4 ct4), sl4⟩) (c4 : PySem.W.codeIn K cd4 "_law_right" = true) (k4 : PySem.W.keepIn K (.ref f4) = true)
    (a5 : PySem.W.nsIn K mainGlobals "_law_rings" = some (some (.ref f5))) (l5 : K.lookup f5 = some ⟨oc5, od5, .func (PySem.W.fnOf "_law_rings" "_law_rings" (defArgs s_law_rings) (defBody s_law_rings) (defScope s_law_rings) .none kV5 dc5 pm5 an5 cd5 ct5), sl5⟩) (c5 : PySem.W.codeIn K cd5 "_law_rings" = true) (k5 : PySem.W.keepIn K (.ref f5) = true)
    (a6 : PySem.W.nsIn K mainGlobals "_law_same_bool" = some (some (.ref f6))) (l6 : K.lookup f6 = some ⟨oc6, od6, .func (PySem.W.fnOf "_law_same_bool" "_law_same_bool" (defArgs s_law_same_bool) (defBody s_law_same_bool) (defScope s_law_same_bool) .none kV6 dc6 pm6 an6 cd6 ct6), sl6⟩) (c6 : PySem.W.codeIn K cd6 "_law_same_bool" = true) (k6 : PySem.W.keepIn K (.ref f6) = true)
    (a7 : PySem.W.nsIn K mainGlobals "_law_spoilt" = some (some (.ref f7))) (l7 : K.lookup f7 = some ⟨oc7, od7, .func (PySem.W.fnOf "_law_spoilt" "_law_spoilt" (defArgs s_law_spoilt) (defBody s_law_spoilt) (defScope s_law_spoilt) .none kV7 dc7 pm7 an7 cd7 ct7), sl7⟩) (c7 : PySem.W.codeIn K cd7 "_law_spoilt" = true) (k7 : PySem.W.keepIn K (.ref f7) = true)
    (a8 : PySem.W.nsIn K mainGlobals "_law_table" = some (some (.ref f8))) (l8 : K.lookup f8 = some ⟨oc8, od8, .func (PySem.W.fnOf "_law_table" "_law_table" (defArgs s_law_table) (defBody s_law_table) (defScope s_law_table) .none kV8 dc8 pm8 an8 cd8 ct8), sl8⟩) (c8 : PySem.W.codeIn K cd8 "_law_table" = true) (k8 : PySem.W.keepIn K (.ref f8) = true)
    (a9 : PySem.W.nsIn K mainGlobals "bounds" = some (some (.ref f9))) (l9 : K.lookup f9 = some ⟨oc9, od9, .func (PySem.W.fnOf "bounds" "bounds" (defArgs s_bounds) (defBody s_bounds) (defScope s_bounds) .none kV9 dc9 pm9 an9 cd9 ct9), sl9⟩) (c9 : PySem.W.codeIn K cd9 "bounds" = true) (k9 : PySem.W.keepIn K (.ref f9) = true)
    (a10 : PySem.W.nsIn K mainGlobals "entry_range" = some (some (.ref f10))) (l10 : K.lookup f10 = some ⟨oc10, od10, .func (PySem.W.fnOf "entry_range" "entry_range" (defArgs s_entry_range) (defBody s_entry_range) (defScope s_entry_range) .none kV10 dc10 pm10 an10 cd10 ct10), sl10⟩) (c10 : PySem.W.codeIn K cd10 "entry_range" = true) (k10 : PySem.W.keepIn K (.ref f10) = true)
    (a11 : PySem.W.nsIn K mainGlobals "filled" = some (some (.ref f11))) (l11 : K.lookup f11 = some ⟨oc11, od11, .func (PySem.W.fnOf "filled" "filled" (defArgs s_filled) (defBody s_filled) (defScope s_filled) .none kV11 dc11 pm11 an11 cd11 ct11), sl11⟩) (c11 : PySem.W.codeIn K cd11 "filled" = true) (k11 : PySem.W.keepIn K (.ref f11) = true)
    (a12 : PySem.W.nsIn K mainGlobals "fits" = some (some (.ref f12))) (l12 : K.lookup f12 = some ⟨oc12, od12, .func (PySem.W.fnOf "fits" "fits" (defArgs s_fits) (defBody s_fits) (defScope s_fits) .none kV12 dc12 pm12 an12 cd12 ct12), sl12⟩) (c12 : PySem.W.codeIn K cd12 "fits" = true) (k12 : PySem.W.keepIn K (.ref f12) = true)
    (a13 : PySem.W.nsIn K mainGlobals "law" = some (some (.ref f13))) (l13 : K.lookup f13 = some ⟨oc13, od13, .func (PySem.W.fnOf "law" "law" (defArgs s_law) (defBody s_law) (defScope s_law) .none kV13 dc13 pm13 an13 cd13 ct13), sl13⟩) (c13 : PySem.W.codeIn K cd13 "law" = true) (k13 : PySem.W.keepIn K (.ref f13) = true)
    (z0 : PySem.W.nsIn K mainGlobals "len" = some none)
    (z1 : PySem.W.nsIn K mainGlobals "range" = some none)
    (z2 : PySem.W.nsIn K mainGlobals "abs" = some none)
    (z3 : PySem.W.nsIn K mainGlobals "max" = some none)
    (z4 : PySem.W.nsIn K mainGlobals "min" = some none)
    (z5 : PySem.W.nsIn K mainGlobals "sum" = some none)
    (z6 : PySem.W.nsIn K mainGlobals "sorted" = some none)
    (z7 : PySem.W.nsIn K mainGlobals "set" = some none)
    (z8 : PySem.W.nsIn K mainGlobals "all" = some none)
    (z9 : PySem.W.nsIn K mainGlobals "list" = some none)
    (z10 : PySem.W.nsIn K mainGlobals "tuple" = some none)
    (z11 : PySem.W.nsIn K mainGlobals "zip" = some none)
    (z12 : PySem.W.nsIn K mainGlobals "enumerate" = some none)
    (z13 : PySem.W.nsIn K mainGlobals "isinstance" = some none)
    (z14 : PySem.W.nsIn K mainGlobals "int" = some none)
    (z15 : PySem.W.nsIn K mainGlobals "bool" = some none)
    (z16 : PySem.W.nsIn K mainGlobals "str" = some none)
    : ∃ fd : FuncData, (∀ (s : Shared) (v : Value), BindsTo s fd ⟨[v], []⟩ [("script", v)]) ∧ ∀ base : Heap, K.In base → base.Ns mainGlobals mg → FnOk l.prog w K mg base CX0 4 fa fd ["script"] (spF K f_law_k07) := by
  have e := hfa.symm.trans (PySem.W.mg_of X G a13)
  cases e
  have T : BN mg := ⟨PySem.W.mg_none_of X G z0, PySem.W.mg_none_of X G z1, PySem.W.mg_none_of X G z2, PySem.W.mg_none_of X G z3, PySem.W.mg_none_of X G z4, PySem.W.mg_none_of X G z5, PySem.W.mg_none_of X G z6, PySem.W.mg_none_of X G z7, PySem.W.mg_none_of X G z8, PySem.W.mg_none_of X G z9, PySem.W.mg_none_of X G z10, PySem.W.mg_none_of X G z11, PySem.W.mg_none_of X G z12, PySem.W.mg_none_of X G z13, PySem.W.mg_none_of X G z14, PySem.W.mg_none_of X G z15, PySem.W.mg_none_of X G z16⟩
  have F0 := fun_mk (st := s_law_cell) l0 c0 k0
  have F1 := fun_mk (st := s_law_digits) l1 c1 k1
  have F2 := fun_mk (st := s_law_hidden) l2 c2 k2
  have F3 := fun_mk (st := s_law_squares) l3 c3 k3
  have F4 := fun_mk (st := s_law_right) l4 c4 k4
  have F5 := fun_mk (st := s_law_rings) l5 c5 k5
  have F6 := fun_mk (st := s_law_same_bool) l6 c6 k6
  have F7 := fun_mk (st := s_law_spoilt) l7 c7 k7
  have F8 := fun_mk (st := s_law_table) l8 c8 k8
  have F9 := fun_mk (st := s_bounds) l9 c9 k9
  have F10 := fun_mk (st := s_entry_range) l10 c10 k10
  have F11 := fun_mk (st := s_filled) l11 c11 k11
  have F12 := fun_mk (st := s_fits) l12 c12 k12
  have F13 := fun_mk (st := s_law) l13 c13 k13
  refine ⟨PySem.W.fnOf "law" "law" (defArgs s_law) (defBody s_law) (defScope s_law) .none kV13 dc13 pm13 an13 cd13 ct13, fun s v => .of_eq rfl, fun base _ _ => ?_⟩
  have h_law_cell : FnD l.prog w K mg base 1 "_law_cell" f_law_cell := ⟨_, _, _, PySem.W.mg_of X G a0, k0, F0.binds (ps := ["script", "index"]) fun _ _ _ _ _ _ us hl => (match us, hl with | [_, _], _ => rfl), ok_law_cell F0 T⟩
  have h_law_digits : FnD l.prog w K mg base 2 "_law_digits" f_law_digits := ⟨_, _, _, PySem.W.mg_of X G a1, k1, F1.binds (ps := ["script", "index", "count", "base"]) fun _ _ _ _ _ _ us hl => (match us, hl with | [_, _, _, _], _ => rfl), ok_law_digits F1 T h_law_cell⟩
  have h_law_hidden : FnD l.prog w K mg base 1 "_law_hidden" f_law_hidden := ⟨_, _, _, PySem.W.mg_of X G a2, k2, F2.binds (ps := ["table", "digits", "wide"]) fun _ _ _ _ _ _ us hl => (match us, hl with | [_, _, _], _ => rfl), ok_law_hidden F2 T⟩
  have h_law_squares : FnD l.prog w K mg base 1 "_law_squares" f_law_squares := ⟨_, _, _, PySem.W.mg_of X G a3, k3, F3.binds (ps := ["table"]) fun _ _ _ _ _ _ us hl => (match us, hl with | [_], _ => rfl), ok_law_squares F3 T⟩
  have h_law_right : FnD l.prog w K mg base 2 "_law_right" f_law_right := ⟨_, _, _, PySem.W.mg_of X G a4, k4, F4.binds (ps := ["partial", "found"]) fun _ _ _ _ _ _ us hl => (match us, hl with | [_, _], _ => rfl), ok_law_right F4 T h_law_squares⟩
  have h_law_rings : FnD l.prog w K mg base 1 "_law_rings" f_law_rings := ⟨_, _, _, PySem.W.mg_of X G a5, k5, F5.binds (ps := ["partial"]) fun _ _ _ _ _ _ us hl => (match us, hl with | [_], _ => rfl), ok_law_rings F5 T⟩
  have h_law_same_bool : FnD l.prog w K mg base 1 "_law_same_bool" f_law_same_bool := ⟨_, _, _, PySem.W.mg_of X G a6, k6, F6.binds (ps := ["result", "expected"]) fun _ _ _ _ _ _ us hl => (match us, hl with | [_, _], _ => rfl), ok_law_same_bool F6 T⟩
  have h_law_spoilt : FnD l.prog w K mg base 1 "_law_spoilt" f_law_spoilt := ⟨_, _, _, PySem.W.mg_of X G a7, k7, F7.binds (ps := ["table", "digits"]) fun _ _ _ _ _ _ us hl => (match us, hl with | [_, _], _ => rfl), ok_law_spoilt F7 T⟩
  have h_law_table : FnD l.prog w K mg base 1 "_law_table" f_law_table := ⟨_, _, _, PySem.W.mg_of X G a8, k8, F8.binds (ps := ["digits", "many", "wide"]) fun _ _ _ _ _ _ us hl => (match us, hl with | [_, _, _], _ => rfl), ok_law_table F8 T⟩
  have h_bounds : FnD l.prog w K mg base 1 "bounds" f_bounds := ⟨_, _, _, PySem.W.mg_of X G a9, k9, F9.binds (ps := ["partial"]) fun _ _ _ _ _ _ us hl => (match us, hl with | [_], _ => rfl), ok_bounds F9 T⟩
  have h_entry_range : FnD l.prog w K mg base 2 "entry_range" f_entry_range := ⟨_, _, _, PySem.W.mg_of X G a10, k10, F10.binds (ps := ["partial", "row", "column"]) fun _ _ _ _ _ _ us hl => (match us, hl with | [_, _, _], _ => rfl), ok_entry_range F10 T h_bounds⟩
  have h_filled : FnD l.prog w K mg base 3 "filled" f_filled := ⟨_, _, _, PySem.W.mg_of X G a11, k11, F11.binds (ps := ["partial"]) fun _ _ _ _ _ _ us hl => (match us, hl with | [_], _ => rfl), ok_filled F11 T h_bounds h_entry_range⟩
  have h_fits : FnD l.prog w K mg base 2 "fits" f_fits := ⟨_, _, _, PySem.W.mg_of X G a12, k12, F12.binds (ps := ["partial"]) fun _ _ _ _ _ _ us hl => (match us, hl with | [_], _ => rfl), ok_fits F12 T h_bounds⟩
  exact ok_law F13 T h_law_digits h_law_hidden h_law_right h_law_rings h_law_same_bool h_law_spoilt h_law_table h_filled h_fits
end W07
open PySem PySem.W PyProof.Rows
set_option maxHeartbeats 0 in
theorem PySem.Challenge.cw_roadtables_k07_whole_tables_with_gaps_holds : PySem.Challenge.rw_roadtables_k07_whole_tables_with_gaps.Holds := by
  w_on; o_law; k_head; (case hw => w_witness2)
  k_fill
  refine L2.walk_of (l := PySem.Challenge.rw_roadtables_k07_whole_tables_with_gaps) (n := 63) (k := 4) (x := "script") (CX := fun _ => L2.CX0) (sp := fun w => PL.spF _ PL.f_law_k07) rfl (by decide) rfl ⟨rfl, by decide, by decide⟩ (fun w h Y => PySem.W.kIn_of Y) ?F (fun _ H a ns hl _ hS => ⟨H, [.scr ns], .bl true, PL.Ex.refl H, .cons (.scr hS) .nil, W07.law_true ns hl, fun v G' H' u rv => by cases rv; rfl⟩) (fun _ _ _ _ _ h => h)
  case F =>
    intro w mg fa h KX G hmg
    refine' W07.all_mk KX G hmg ?a0 ?l0 ?c0 ?k0 ?a1 ?l1 ?c1 ?k1 ?a2 ?l2 ?c2 ?k2 ?a3 ?l3 ?c3 ?k3 ?a4 ?l4 ?c4 ?k4 ?a5 ?l5 ?c5 ?k5 ?a6 ?l6 ?c6 ?k6 ?a7 ?l7 ?c7 ?k7 ?a8 ?l8 ?c8 ?k8 ?a9 ?l9 ?c9 ?k9 ?a10 ?l10 ?c10 ?k10 ?a11 ?l11 ?c11 ?k11 ?a12 ?l12 ?c12 ?k12 ?a13 ?l13 ?c13 ?k13 ?z0 ?z1 ?z2 ?z3 ?z4 ?z5 ?z6 ?z7 ?z8 ?z9 ?z10 ?z11 ?z12 ?z13 ?z14 ?z15 ?z16
    (case a0 => k_is); (case l0 => k_is); (case c0 => k_is); (case k0 => k_is); (case a1 => k_is); (case l1 => k_is); (case c1 => k_is); (case k1 => k_is); (case a2 => k_is); (case l2 => k_is); (case c2 => k_is); (case k2 => k_is); (case a3 => k_is); (case l3 => k_is); (case c3 => k_is); (case k3 => k_is); (case a4 => k_is); (case l4 => k_is); (case c4 => k_is); (case k4 => k_is); (case a5 => k_is); (case l5 => k_is); (case c5 => k_is); (case k5 => k_is); (case a6 => k_is); (case l6 => k_is); (case c6 => k_is); (case k6 => k_is); (case a7 => k_is); (case l7 => k_is); (case c7 => k_is); (case k7 => k_is); (case a8 => k_is); (case l8 => k_is); (case c8 => k_is); (case k8 => k_is); (case a9 => k_is); (case l9 => k_is); (case c9 => k_is); (case k9 => k_is); (case a10 => k_is); (case l10 => k_is); (case c10 => k_is); (case k10 => k_is); (case a11 => k_is); (case l11 => k_is); (case c11 => k_is); (case k11 => k_is); (case a12 => k_is); (case l12 => k_is); (case c12 => k_is); (case k12 => k_is); (case a13 => k_is); (case l13 => k_is); (case c13 => k_is); (case k13 => k_is); (case z0 => k_is); (case z1 => k_is); (case z2 => k_is); (case z3 => k_is); (case z4 => k_is); (case z5 => k_is); (case z6 => k_is); (case z7 => k_is); (case z8 => k_is); (case z9 => k_is); (case z10 => k_is); (case z11 => k_is); (case z12 => k_is); (case z13 => k_is); (case z14 => k_is); (case z15 => k_is); (case z16 => k_is)

