import PyProof.Rows.All
import Wide.All
import OpenK.AllK
import Wide.FinOn
import HandS.ForMost
import HandS.IsInst
import HandS.Wide
import HandS.Zip
import HandS.TupAny
import HandS.TupLe
import HandS.TupMul
import HandS.Deep
import HandS.Style
import HandS.Walk
import KE.GoesNew
import KE.GoesMore
import KE.DataMinMax
import HandS.Text
import HandS.Dict
import HandS.SortInts
import HandS.SetFor
import HandS.Defaults
import HandS.Strs
import HandS.Conv
import HandS.List
import KE.DatumOrd
import HandS.More
import PyProof.TupleOfSeq
import HandS.GenList
import HandS.TupSets
import PyProof.Rows.SortStr
import HandS.Star
import HandS.Property
import HandS.ClsMeth
import HandS.HotCalls
import HandS.Comp
import HandS.ExcIs
import HandS.Lambda
import HandS.EndOwn
import OpenK.KOps
import PyProof.ExcBaseAll.ValueError
import PySem.Challenge.RW_roadtables_k13_tables_created
set_option Elab.async false
set_option linter.all false
set_option maxRecDepth 100000
set_option maxHeartbeats 4000000
namespace PL
open PySem PySem.Spec PyProof.Rows L2

/-! ## data -/
inductive D where
  | non | bl (b : Bool) | int (i : Int) | str (x : Str) | scr (ns : List Int)
  | lst (xs : List D) | tup (xs : List D) | dct (kvs : List ((Int × Int) × Int))

def dK2 (p : (Int × Int) × Int) : List Key × V := ([.inl p.1.1, .inl p.1.2], V.int p.2)

mutual
inductive Rep (K : PySem.W.Frag) (G : Hp) : D → V → Prop
  | non : Rep K G .non .non
  | bl (b : Bool) : Rep K G (.bl b) (.bl b)
  | int (i : Int) : Rep K G (.int i) (.int i)
  | str (x : Str) : Rep K G (.str x) (.str x)
  | scr {a : Addr} {ns : List Int} : SqL K G a (ns.map V.int) → Rep K G (.scr ns) (.ref a)
  | lst {a : Addr} {vs : List V} {ds : List D} : G a = some (.lst vs) → Reps K G ds vs → Rep K G (.lst ds) (.ref a)
  | tup {a : Addr} {vs : List V} {ds : List D} : G a = some (.tup vs) → Reps K G ds vs → Rep K G (.tup ds) (.ref a)
  | dct {a : Addr} {kvs : List ((Int × Int) × Int)} : G a = some (.dT (kvs.map dK2)) → Rep K G (.dct kvs) (.ref a)
inductive Reps (K : PySem.W.Frag) (G : Hp) : List D → List V → Prop
  | nil : Reps K G [] []
  | cons {d : D} {v : V} {ds : List D} {vs : List V} : Rep K G d v → Reps K G ds vs → Reps K G (d :: ds) (v :: vs)
end

/-- G grows -/
abbrev Ex := L2.Same
theorem Ex.refl (H : Hp) : Ex H H := Same.refl H
theorem Ex.trans {H H1 H2 : Hp} (a : Ex H H1) (b : Ex H1 H2) : Ex H H2 := Same.trans a b
theorem Ex.new {H : Hp} {p : Addr} {o : HO} (h : H p = none) : Ex H (upd H p o) := fun a u e => by
  rw [upd_ne (ne_of_none e h)]; exact e
theorem Ex.free {H H' : Hp} {p : Addr} (e : Ex H H') (h : H' p = none) : H p = none := Same.free e h
theorem Ex.upd2 {G H : Hp} {p : Addr} {o : HO} (e : Ex G H) : Ex (upd G p o) (upd H p o) := fun a u h => by
  by_cases q : a = p
  · subst q; rw [upd_same] at h ⊢; exact h
  · rw [upd_ne q] at h ⊢; exact e a u h
theorem Ex.updR {G H : Hp} {p : Addr} {o : HO} (e : Ex G H) (h : G p = none) : Ex G (upd H p o) := fun a u ha => by
  rw [upd_ne (ne_of_none ha h)]; exact e a u ha
theorem Ex.sql {K : PySem.W.Frag} {H H' : Hp} {a : Addr} {xs : List V} (e : Ex H H') (h : SqL K H a xs) : SqL K H' a xs := Same.seq e h

mutual
theorem Rep.mono {K : PySem.W.Frag} {G G' : Hp} (e : Ex G G') : ∀ {d : D} {v : V}, Rep K G d v → Rep K G' d v
  | _, _, .non => .non
  | _, _, .bl b => .bl b
  | _, _, .int i => .int i
  | _, _, .str x => .str x
  | _, _, .scr h => .scr (e.sql h)
  | _, _, .lst h r => .lst (e _ _ h) (Reps.mono e r)
  | _, _, .tup h r => .tup (e _ _ h) (Reps.mono e r)
  | _, _, .dct h => .dct (e _ _ h)
theorem Reps.mono {K : PySem.W.Frag} {G G' : Hp} (e : Ex G G') : ∀ {ds : List D} {vs : List V}, Reps K G ds vs → Reps K G' ds vs
  | _, _, .nil => .nil
  | _, _, .cons h r => .cons (Rep.mono e h) (Reps.mono e r)
end
theorem Reps.length {K : PySem.W.Frag} {G : Hp} : ∀ {ds : List D} {vs : List V}, Reps K G ds vs → ds.length = vs.length
  | _, _, .nil => rfl
  | _, _, .cons _ r => by rw [List.length_cons, List.length_cons, r.length]
theorem Reps.get {K : PySem.W.Frag} {G : Hp} : ∀ {ds : List D} {vs : List V} {i : Nat} {d : D}, Reps K G ds vs → ds[i]? = some d → ∃ v, vs[i]? = some v ∧ Rep K G d v
  | _, _, _, _, .nil, e => by simp at e
  | _, _, 0, _, .cons r _, e => by simp at e; subst e; exact ⟨_, rfl, r⟩
  | _, _, i + 1, _, .cons _ t, e => by
    obtain ⟨u, h1, h2⟩ := Reps.get (i := i) t (by simpa using e)
    exact ⟨u, by simpa using h1, h2⟩
theorem Reps.getV {K : PySem.W.Frag} {G : Hp} {ds : List D} {vs : List V} {i : Nat} {v : V} (h : Reps K G ds vs) (e : vs[i]? = some v) : ∃ d, ds[i]? = some d ∧ Rep K G d v := by
  have hi : i < ds.length := by rw [h.length]; exact (List.getElem?_eq_some_iff.mp e).1
  obtain ⟨u, h1, h2⟩ := h.get (List.getElem?_eq_getElem hi)
  rw [e] at h1; cases h1
  exact ⟨_, List.getElem?_eq_getElem hi, h2⟩
theorem Reps.append {K : PySem.W.Frag} {G : Hp} : ∀ {ds es : List D} {vs ws : List V}, Reps K G ds vs → Reps K G es ws → Reps K G (ds ++ es) (vs ++ ws)
  | _, _, _, _, .nil, s => s
  | _, _, _, _, .cons r t, s => .cons r (Reps.append t s)
theorem Reps.take {K : PySem.W.Frag} {G : Hp} : ∀ {ds : List D} {vs : List V} (n : Nat), Reps K G ds vs → Reps K G (ds.take n) (vs.take n)
  | _, _, 0, _ => by simp; exact .nil
  | _, _, _ + 1, .nil => by simp; exact .nil
  | _, _, n + 1, .cons r t => .cons r (Reps.take n t)
theorem Reps.drop {K : PySem.W.Frag} {G : Hp} : ∀ {ds : List D} {vs : List V} (n : Nat), Reps K G ds vs → Reps K G (ds.drop n) (vs.drop n)
  | _, _, 0, r => by simpa using r
  | _, _, _ + 1, .nil => by simp; exact .nil
  | _, _, n + 1, .cons _ t => by simpa using Reps.drop n t
theorem Reps.set {K : PySem.W.Frag} {G : Hp} {d : D} {v : V} (r : Rep K G d v) : ∀ {ds : List D} {vs : List V} (i : Nat), Reps K G ds vs → Reps K G (ds.set i d) (vs.set i v)
  | _, _, _, .nil => .nil
  | _, _, 0, .cons _ t => .cons r t
  | _, _, i + 1, .cons q t => .cons q (Reps.set r i t)
theorem Reps.reverse {K : PySem.W.Frag} {G : Hp} {ds : List D} {vs : List V} (h : Reps K G ds vs) : Reps K G ds.reverse vs.reverse := by
  induction ds generalizing vs with
  | nil => cases h; exact .nil
  | cons d ds ih =>
    cases h with
    | cons r t => simp only [List.reverse_cons]; exact (ih t).append (.cons r .nil)
theorem Reps.ints {K : PySem.W.Frag} {G : Hp} : ∀ {ns : List Int} {vs : List V}, Reps K G (ns.map D.int) vs → vs = ns.map V.int
  | [], _, .nil => rfl
  | _ :: _, _, .cons (.int _) t => by rw [List.map_cons, Reps.ints t]
theorem Reps.ofInts {K : PySem.W.Frag} {G : Hp} : ∀ (ns : List Int), Reps K G (ns.map D.int) (ns.map V.int)
  | [] => .nil
  | n :: ns => .cons (.int n) (Reps.ofInts ns)
theorem Reps.strs {K : PySem.W.Frag} {G : Hp} : ∀ {ns : List Str} {vs : List V}, Reps K G (ns.map D.str) vs → vs = ns.map V.str
  | [], _, .nil => rfl
  | _ :: _, _, .cons (.str _) t => by rw [List.map_cons, Reps.strs t]
theorem Reps.ofStrs {K : PySem.W.Frag} {G : Hp} : ∀ (ns : List Str), Reps K G (ns.map D.str) (ns.map V.str)
  | [] => .nil
  | n :: ns => .cons (.str n) (Reps.ofStrs ns)
theorem Reps.bls {K : PySem.W.Frag} {G : Hp} : ∀ {ns : List Bool} {vs : List V}, Reps K G (ns.map D.bl) vs → vs = ns.map V.bl
  | [], _, .nil => rfl
  | _ :: _, _, .cons (.bl _) t => by rw [List.map_cons, Reps.bls t]

/-! ## cells, environments -/
/-- an own object: its class, the names of its attributes, what they hold -/
structure Ob where
  cn : Str
  ns : List Str
  ds : List D
inductive Cell where
  | p (d : D)
  | ol (xs : List D)
  | ob (o : Ob)
  | rb (b : Addr) (o : Ob)
  | rf (b : Addr)
  | oll (xss : List (List D))
  | od (kvs : List ((Int × Int) × Int))
  | oi (kvs : List (Int × Int))
abbrev DEnv := Nat → Option Cell
def DEnv.set (ρ : DEnv) (i : Nat) (c : Cell) : DEnv := fun j => if j = i then some c else ρ j
def DEnv.wipe (ρ : DEnv) (vs : List Nat) : DEnv := fun j => if j ∈ vs then none else ρ j
def dKi (p : Int × Int) : Key × V := (.inl p.1, V.int p.2)

/-- what an object's attributes stand for -/
structure ObR (K : PySem.W.Frag) (G : Hp) (o : Ob) (z : (Addr × Addr) × List V) : Prop where
  cls : PySem.W.nsIn K mainGlobals o.cn = some (some (.ref z.1.1))
  rep : Reps K G o.ds z.2
  len : o.ns.length = o.ds.length
theorem ObR.mono {K : PySem.W.Frag} {G G' : Hp} {o : Ob} {z : (Addr × Addr) × List V} (h : ObR K G o z) (g : Ex G G') : ObR K G' o z := ⟨h.cls, h.rep.mono g, h.len⟩
/-- what a cell is, for reading -/
def CellE (K : PySem.W.Frag) (G H : Hp) : Cell → V → Prop
  | .p d, v => Rep K G d v
  | .ol xs, v => ∃ a vs, v = .ref a ∧ H a = some (.lst vs) ∧ Reps K G xs vs
  | .ob o, v => ∃ (a : Addr) (z : (Addr × Addr) × List V), v = .ref a ∧ H a = some (.ins z.1.1 z.1.2 (o.ns.zip z.2)) ∧ ObR K G o z
  | .rb b o, v => v = .ref b ∧ ∃ z : (Addr × Addr) × List V, H b = some (.ins z.1.1 z.1.2 (o.ns.zip z.2)) ∧ ObR K G o z
  | .rf b, v => v = .ref b
  | .oll xss, v => ∃ (a : Addr) (bs : List Addr), v = .ref a ∧ H a = some (.lst (bs.map V.ref)) ∧ Paired (fun b xs => ∃ vs, H b = some (.lst vs) ∧ Reps K G xs vs) bs xss
  | .od kvs, v => ∃ a, v = .ref a ∧ H a = some (.dT (kvs.map dK2))
  | .oi kvs, v => ∃ a, v = .ref a ∧ H a = some (.dK (kvs.map dKi))
theorem Paired.map2 {α β : Type} {F G : α → β → Prop} : ∀ {l₁ : List α} {l₂ : List β}, Paired F l₁ l₂ → (∀ a b, F a b → G a b) → Paired G l₁ l₂
  | _, _, .nil, _ => .nil
  | _, _, .cons r t, f => .cons (f _ _ r) (Paired.map2 t f)
theorem CellE.mono {K : PySem.W.Frag} {G H G' H' : Hp} (g : Ex G G') (h : Ex H H') : ∀ {c : Cell} {v : V}, CellE K G H c v → CellE K G' H' c v
  | .p d, v, r => Rep.mono g r
  | .ol xs, v, ⟨a, vs, e, q, r⟩ => ⟨a, vs, e, h _ _ q, r.mono g⟩
  | .ob o, v, ⟨a, z, e, q, r⟩ => ⟨a, z, e, h _ _ q, r.mono g⟩
  | .rb b o, v, ⟨e, z, q, r⟩ => ⟨e, z, h _ _ q, r.mono g⟩
  | .rf b, v, e => e
  | .oll xss, v, ⟨a, bs, e, q, r⟩ => ⟨a, bs, e, h _ _ q, Paired.map2 r fun b xs ⟨vs, z, y⟩ => ⟨vs, h _ _ z, y.mono g⟩⟩
  | .od kvs, v, ⟨a, e, q⟩ => ⟨a, e, h _ _ q⟩
  | .oi kvs, v, ⟨a, e, q⟩ => ⟨a, e, h _ _ q⟩
structure ER (K : PySem.W.Frag) (n : Nat) (ρ : DEnv) (σ : L2.St) (G H : Hp) : Prop where
  len : σ.length = n
  at_ : ∀ i c, ρ i = some c → ∃ v, σ[i]? = some (some v) ∧ CellE K G H c v
theorem ER.mono {K : PySem.W.Frag} {n : Nat} {ρ : DEnv} {σ : L2.St} {G H G' H' : Hp} (g : Ex G G') (h : Ex H H') (r : ER K n ρ σ G H) : ER K n ρ σ G' H' := ⟨r.len, fun i c e => by
  obtain ⟨v, h1, h2⟩ := r.at_ i c e
  exact ⟨v, h1, h2.mono g h⟩⟩

/-- the frozen part and the heap grow together -/
structure Up (G H G' H' : Hp) : Prop where
  g : Ex G G'
  h : Ex H H'
  le : Ex G' H'
  new : ∀ a o, H a = some o → G a = none → G' a = none
theorem Up.refl {G H : Hp} (e : Ex G H) : Up G H G H := ⟨.refl G, .refl H, e, fun _ _ _ n => n⟩
theorem Up.trans {G H G1 H1 G2 H2 : Hp} (a : Up G H G1 H1) (b : Up G1 H1 G2 H2) : Up G H G2 H2 :=
  ⟨a.g.trans b.g, a.h.trans b.h, b.le, fun x o e n => b.new x o (a.h x o e) (a.new x o e n)⟩
/-- a new pure object -/
theorem Up.pure {G H : Hp} {p : Addr} {o : HO} (e : Ex G H) (h : H p = none) : Up G H (upd G p o) (upd H p o) :=
  ⟨.new (e.free h), .new h, e.upd2, fun a u q n => by rw [upd_ne (ne_of_none q h)]; exact n⟩
/-- a new object, not frozen -/
theorem Up.own {G H : Hp} {p : Addr} {o : HO} (e : Ex G H) (h : H p = none) : Up G H G (upd H p o) :=
  ⟨.refl G, .new h, e.trans (.new h), fun a u q n => n⟩
theorem ER.up {K : PySem.W.Frag} {n : Nat} {ρ : DEnv} {σ : L2.St} {G H G' H' : Hp} (r : ER K n ρ σ G H) (u : Up G H G' H') : ER K n ρ σ G' H' := r.mono u.g u.h

theorem ER.set {K : PySem.W.Frag} {n : Nat} {ρ : DEnv} {σ : L2.St} {G H : Hp} {i : Nat} {c : Cell} {v : V} (r : ER K n ρ σ G H) (hi : i < n) (h : CellE K G H c v) : ER K n (ρ.set i c) (σ.set i (some v)) G H := ⟨by rw [List.length_set]; exact r.len, fun j c' e => by
  unfold DEnv.set at e
  by_cases q : j = i
  · subst q
    rw [if_pos rfl] at e; cases e
    exact ⟨v, by rw [List.getElem?_set_self (by rw [r.len]; exact hi)], h⟩
  · rw [if_neg q] at e
    obtain ⟨w, h1, h2⟩ := r.at_ j c' e
    exact ⟨w, by rw [List.getElem?_set_ne (Ne.symm q)]; exact h1, h2⟩⟩
theorem wipe_get {σ : L2.St} {i : Nat} : ∀ {vs : List Nat}, i ∉ vs → (wipe σ vs)[i]? = σ[i]?
  | [], _ => rfl
  | v :: vs, h => by
    unfold wipe
    rw [List.getElem?_set_ne (fun e => h (by simp [e]))]
    exact wipe_get fun z => h (List.mem_cons_of_mem _ z)
theorem ER.wipe {K : PySem.W.Frag} {n : Nat} {ρ : DEnv} {σ : L2.St} {G H : Hp} {vs : List Nat} (r : ER K n ρ σ G H) : ER K n (ρ.wipe vs) (L2.wipe σ vs) G H := ⟨by rw [wipe_length]; exact r.len, fun j c e => by
  unfold DEnv.wipe at e
  by_cases q : j ∈ vs
  · rw [if_pos q] at e; cases e
  · rw [if_neg q] at e
    obtain ⟨w, h1, h2⟩ := r.at_ j c e
    exact ⟨w, by rw [wipe_get q]; exact h1, h2⟩⟩

/-! ## the judgements of expressions -/
abbrev DE := DEnv → Option D
abbrev DB := DEnv → Option Bool
abbrev DL := DEnv → Option (List D)
/-- a list of pure things that need not be frozen itself -/
def RepT (K : PySem.W.Frag) (G H : Hp) (d : D) (v : V) : Prop :=
  Rep K G d v ∨ (∃ a vs ds, v = .ref a ∧ d = .lst ds ∧ H a = some (.lst vs) ∧ Reps K G ds vs) ∨ (∃ a kvs, v = .ref a ∧ d = .dct kvs ∧ H a = some (.dT (kvs.map dK2)))
theorem RepT.of {K : PySem.W.Frag} {G H : Hp} {d : D} {v : V} (h : Rep K G d v) : RepT K G H d v := .inl h
theorem RepT.mono {K : PySem.W.Frag} {G H G' H' : Hp} (g : Ex G G') (h : Ex H H') {d : D} {v : V} (r : RepT K G H d v) : RepT K G' H' d v := by
  rcases r with r | ⟨a, vs, ds, e, e2, q, r⟩ | ⟨a, kvs, e, e2, q⟩
  · exact .inl (r.mono g)
  · exact .inr (.inl ⟨a, vs, ds, e, e2, h _ _ q, r.mono g⟩)
  · exact .inr (.inr ⟨a, kvs, e, e2, h _ _ q⟩)

def TEok (K : PySem.W.Frag) (nn : Nat) (t : TE) (f : DE) : Prop := ∀ ρ σ G H (Q : VK) d, Ex G H → ER K nn ρ σ G H → f ρ = some d →
  (∀ v G' H', Up G H G' H' → Rep K G' d v → Q v H') → t σ H Q
/-- .. only for reading -/
def TRok (K : PySem.W.Frag) (nn : Nat) (t : TE) (f : DE) : Prop := ∀ ρ σ G H (Q : VK) d, Ex G H → ER K nn ρ σ G H → f ρ = some d →
  (∀ v G' H', Up G H G' H' → RepT K G' H' d v → Q v H') → t σ H Q
/-- .. a new list -/
def TNok (K : PySem.W.Frag) (nn : Nat) (t : TE) (f : DL) : Prop := ∀ ρ σ G H (Q : VK) ds, Ex G H → ER K nn ρ σ G H → f ρ = some ds →
  (∀ p vs G' H', Up G H G' H' → H p = none → G' p = none → H' p = some (.lst vs) → Reps K G' ds vs → Q (.ref p) H') → t σ H Q
def TTok (K : PySem.W.Frag) (nn : Nat) (t : TT) (f : DB) : Prop := ∀ ρ σ G H (Q : Bool → Hp → Prop) b, Ex G H → ER K nn ρ σ G H → f ρ = some b →
  (∀ G' H', Up G H G' H' → Q b H') → t σ H Q
def TAok (K : PySem.W.Frag) (nn : Nat) (t : TA) (f : DL) : Prop := ∀ ρ σ G H (Q : List V → Hp → Prop) ds, Ex G H → ER K nn ρ σ G H → f ρ = some ds →
  (∀ vs G' H', Up G H G' H' → Reps K G' ds vs → Q vs H') → t σ H Q
structure PuE (X : Cx) (e : Expr) (f : DE) : Prop where
  ex : ∃ t, PE X e t ∧ TEok X.K X.N.length t f
structure RdE (X : Cx) (e : Expr) (f : DE) : Prop where
  ex : ∃ t, PE X e t ∧ TRok X.K X.N.length t f
structure NwE (X : Cx) (e : Expr) (f : DL) : Prop where
  ex : ∃ t, PE X e t ∧ TNok X.K X.N.length t f
structure PuT (X : Cx) (e : Expr) (f : DB) : Prop where
  ex : ∃ t, PT X e t ∧ TTok X.K X.N.length t f
structure PuW (X : Cx) (e : Expr) (f : DB) : Prop where
  ex : ∃ t, PW X e t ∧ TTok X.K X.N.length t f
structure PuA (X : Cx) (es : List Expr) (f : DL) : Prop where
  ex : ∃ t, PA X es t ∧ TAok X.K X.N.length t f
section
variable {X : Cx} {e : Expr} {f : DE}
theorem PuE.rd (h : PuE X e f) : RdE X e f := let ⟨t, a, b⟩ := h.ex; ⟨t, a, fun ρ σ G H Q d l r q k => b ρ σ G H Q d l r q fun v G' H' u z => k v G' H' u (.of z)⟩
def eNew (f : DL) : DE := fun ρ => (f ρ).map D.lst
theorem NwE.pu {f : DL} (h : NwE X e f) : PuE X e (eNew f) := let ⟨t, a, b⟩ := h.ex; ⟨t, a, fun ρ σ G H Q d l r q k => by
  unfold eNew at q
  cases z : f ρ with
  | none => rw [z] at q; cases q
  | some ds =>
    rw [z] at q; cases q
    refine b ρ σ G H Q ds l r z fun p vs G' H' u np ng hp rp => k _ (upd G' p (.lst vs)) H' ⟨u.g.trans (.new ng), u.h, fun x o e => ?_, fun x o e n => ?_⟩ (.lst upd_same (rp.mono (.new ng)))
    · by_cases y : x = p
      · subst y; rw [upd_same] at e; cases e; exact hp
      · rw [upd_ne y] at e; exact u.le x o e
    · rw [upd_ne (ne_of_none e np)]; exact u.new x o e n⟩

/-! ## names, constants -/
def ePv (i : Nat) : DE := fun ρ => match ρ i with | some (.p d) => some d | _ => none
def eRv (i : Nat) : DE := fun ρ => match ρ i with | some (.p d) => some d | some (.ol xs) => some (.lst xs) | some (.od kvs) => some (.dct kvs) | _ => none
def eC (d : D) : DE := fun _ => some d
theorem pu_var (i : Nat) {x : Str} {pos : Pos} (hN : X.N[i]? = some x := by rfl) (hv : Vis X.env.scope x := by first | exact Or.inl rfl | exact Or.inr (Or.inl rfl) | exact Or.inr (Or.inr rfl)) (hd : (x == ("__debug__" : Str)) = false := by decide)
    (hcd : (x == ("__classdict__" : Str)) = false := by decide) : PuE X (.Name x pos) (ePv i) := ⟨_, pe_var hN hv hd hcd, fun ρ σ G H Q d l r q k => by
  unfold ePv at q
  cases z : ρ i with
  | none => rw [z] at q; cases q
  | some c =>
    rw [z] at q
    cases c with
    | p d' =>
      cases q
      obtain ⟨v, h1, h2⟩ := r.at_ i _ z
      exact ⟨v, h1, k v G H (.refl l) h2⟩
    | ol _ => cases q
    | ob _ => cases q
    | rb _ _ => cases q
    | rf _ => cases q
    | oll _ => cases q
    | od _ => cases q
    | oi _ => cases q⟩
theorem rd_var (i : Nat) {x : Str} {pos : Pos} (hN : X.N[i]? = some x := by rfl) (hv : Vis X.env.scope x := by first | exact Or.inl rfl | exact Or.inr (Or.inl rfl) | exact Or.inr (Or.inr rfl)) (hd : (x == ("__debug__" : Str)) = false := by decide)
    (hcd : (x == ("__classdict__" : Str)) = false := by decide) : RdE X (.Name x pos) (eRv i) := ⟨_, pe_var hN hv hd hcd, fun ρ σ G H Q d l r q k => by
  unfold eRv at q
  cases z : ρ i with
  | none => rw [z] at q; cases q
  | some c =>
    rw [z] at q
    obtain ⟨v, h1, h2⟩ := r.at_ i _ z
    refine ⟨v, h1, k v G H (.refl l) ?_⟩
    cases c with
    | p d' => cases q; exact .inl h2
    | ol xs => cases q; obtain ⟨a, vs, e1, e2, e3⟩ := h2; exact .inr (.inl ⟨a, vs, xs, e1, rfl, e2, e3⟩)
    | ob _ => cases q
    | rb _ _ => cases q
    | rf _ => cases q
    | oll _ => cases q
    | od kvs => cases q; obtain ⟨a, e1, e2⟩ := h2; exact .inr (.inr ⟨a, kvs, e1, rfl, e2⟩)
    | oi _ => cases q⟩
theorem te_c {K : PySem.W.Frag} {nn : Nat} {v : V} {d : D} (h : ∀ G, Rep K G d v) : TEok K nn (tC v) (eC d) := fun ρ σ G H Q d' l r q k => by cases q; exact k v G H (.refl l) (h G)
theorem pu_int {i : Int} {j pos} : PuE X (.Constant (.int i) j pos) (eC (.int i)) := ⟨_, pe_int, te_c fun _ => .int i⟩
theorem pu_bl {b j pos} : PuE X (.Constant (.bool b) j pos) (eC (.bl b)) := ⟨_, pe_bl, te_c fun _ => .bl b⟩
theorem pu_non {j pos} : PuE X (.Constant .none j pos) (eC .non) := ⟨_, pe_non, te_c fun _ => .non⟩
theorem pu_str {x : Str} {j pos} : PuE X (.Constant (.str x) j pos) (eC (.str x)) := ⟨_, pe_str, te_c fun _ => .str x⟩
end

/-! ## operators on two values -/
/-- r meets g: from the operands' data to the answer's -/
def R2ok (K : PySem.W.Frag) (r : R2) (g : D → D → Option D) : Prop := ∀ G H x y (d e z : D) (Q : VK), Ex G H → RepT K G H d x → RepT K G H e y → g d e = some z →
  (∀ v G' H', Up G H G' H' → Rep K G' z v → Q v H') → r x y H Q
def e2 (g : D → D → Option D) (a b : DE) : DE := fun ρ => (a ρ).bind fun d => (b ρ).bind fun e => g d e
theorem te_op {K : PySem.W.Frag} {nn : Nat} {ta tb : TE} {a b : DE} {r : R2} {g : D → D → Option D} (ha : TRok K nn ta a) (hb : TRok K nn tb b) (hr : R2ok K r g) : TEok K nn (tOp r ta tb) (e2 g a b) := fun ρ σ G H Q z l r0 q k => by
  unfold e2 at q
  cases q1 : a ρ with
  | none => rw [q1] at q; cases q
  | some d =>
    rw [q1] at q
    cases q2 : b ρ with
    | none => rw [q2] at q; cases q
    | some e =>
      rw [q2] at q
      refine ha ρ σ G H _ d l r0 q1 fun x G1 H1 u1 rx => ?_
      refine hb ρ σ G1 H1 _ e u1.le (r0.up u1) q2 fun y G2 H2 u2 ry => ?_
      exact hr G2 H2 x y d e z Q u2.le (rx.mono u2.g u2.h) ry q fun v G3 H3 u3 rv => k v G3 H3 ((u1.trans u2).trans u3) rv
def gII (f : Int → Int → Option D) : D → D → Option D | .int i, .int j => f i j | _, _ => none
theorem RepT.int_inv {K : PySem.W.Frag} {G H : Hp} {i : Int} {v : V} (h : RepT K G H (.int i) v) : v = .int i := by
  rcases h with h | ⟨_, _, _, _, e, _⟩ | ⟨_, _, _, e, _⟩
  · cases h; rfl
  · cases e
  · cases e
theorem RepT.str_inv {K : PySem.W.Frag} {G H : Hp} {i : Str} {v : V} (h : RepT K G H (.str i) v) : v = .str i := by
  rcases h with h | ⟨_, _, _, _, e, _⟩ | ⟨_, _, _, e, _⟩
  · cases h; rfl
  · cases e
  · cases e
theorem RepT.bl_inv {K : PySem.W.Frag} {G H : Hp} {i : Bool} {v : V} (h : RepT K G H (.bl i) v) : v = .bl i := by
  rcases h with h | ⟨_, _, _, _, e, _⟩ | ⟨_, _, _, e, _⟩
  · cases h; rfl
  · cases e
  · cases e
theorem RepT.non_inv {K : PySem.W.Frag} {G H : Hp} {v : V} (h : RepT K G H .non v) : v = .non := by
  rcases h with h | ⟨_, _, _, _, e, _⟩ | ⟨_, _, _, e, _⟩
  · cases h; rfl
  · cases e
  · cases e
theorem RepT.lst_inv {K : PySem.W.Frag} {G H : Hp} {ds : List D} {v : V} (l : Ex G H) (h : RepT K G H (.lst ds) v) : ∃ a vs, v = .ref a ∧ H a = some (.lst vs) ∧ Reps K G ds vs := by
  rcases h with h | ⟨a, vs, ds', e1, e, e2, e3⟩ | ⟨_, _, _, e, _⟩
  · cases h with | lst h1 h2 => exact ⟨_, _, rfl, l _ _ h1, h2⟩
  · cases e; exact ⟨a, vs, e1, e2, e3⟩
  · cases e
theorem RepT.tup_inv {K : PySem.W.Frag} {G H : Hp} {ds : List D} {v : V} (h : RepT K G H (.tup ds) v) : ∃ a vs, v = .ref a ∧ G a = some (.tup vs) ∧ Reps K G ds vs := by
  rcases h with h | ⟨a, vs, ds', e1, e, e2, e3⟩ | ⟨_, _, _, e, _⟩
  · cases h with | tup h1 h2 => exact ⟨_, _, rfl, h1, h2⟩
  · cases e
  · cases e
theorem RepT.scr_inv {K : PySem.W.Frag} {G H : Hp} {ns : List Int} {v : V} (l : Ex G H) (h : RepT K G H (.scr ns) v) : ∃ a, v = .ref a ∧ SqL K H a (ns.map V.int) := by
  rcases h with h | ⟨a, vs, ds', e1, e, e2, e3⟩ | ⟨_, _, _, e, _⟩
  · cases h with | scr h1 => exact ⟨_, rfl, l.sql h1⟩
  · cases e
  · cases e
theorem RepT.dct_inv {K : PySem.W.Frag} {G H : Hp} {kvs : List ((Int × Int) × Int)} {v : V} (l : Ex G H) (h : RepT K G H (.dct kvs) v) : ∃ a, v = .ref a ∧ H a = some (.dT (kvs.map dK2)) := by
  rcases h with h | ⟨a, vs, ds', e1, e, e2, e3⟩ | ⟨a, kvs', e1, e, e2⟩
  · cases h with | dct h1 => exact ⟨_, rfl, l _ _ h1⟩
  · cases e
  · cases e; exact ⟨a, e1, e2⟩
theorem r2_I0 {K : PySem.W.Frag} {g : Int → Int → V} {g' : Int → Int → D} (h : ∀ i j G, Rep K G (g' i j) (g i j)) : R2ok K (rI0 g) (gII fun i j => some (g' i j)) := fun G H x y d e z Q l rx ry q k => by
  cases d <;> cases e <;> first | cases q | skip
  rw [rx.int_inv, ry.int_inv]
  exact ⟨_, _, rfl, rfl, k _ G H (.refl l) (h _ _ _)⟩
theorem r2_I {K : PySem.W.Frag} {C : Int → Int → Prop} {g : Int → Int → V} {g' : Int → Int → Option D} (h : ∀ i j z, g' i j = some z → C i j ∧ ∀ G, Rep K G z (g i j)) : R2ok K (rI C g) (gII g') := fun G H x y d e z Q l rx ry q k => by
  cases d <;> cases e <;> first | cases q | skip
  rw [rx.int_inv, ry.int_inv]
  obtain ⟨hc, hr⟩ := h _ _ _ q
  exact ⟨_, _, rfl, rfl, hc, k _ G H (.refl l) (hr G)⟩
end PL

namespace PL
open PySem PySem.Spec PyProof.Rows L2

/-! ## equality of data -/
mutual
def D.toP : D → PyData
  | .non => .none | .bl b => .bool b | .int i => .int i | .str x => .str x
  | .scr ns => .list (ns.map PyData.int)
  | .lst xs => .list (D.toPs xs) | .tup xs => .tuple (D.toPs xs) | .dct _ => .dict []
def D.toPs : List D → List PyData
  | [] => [] | d :: ds => d.toP :: D.toPs ds
end
mutual
/-- no dict within, texts that can be, at most n deep -/
def D.ok : D → Nat → Bool
  | .non, _ | .bl _, _ | .int _, _ => true
  | .str x, _ => PyData.strOk x
  | .scr _, n => decide (2 ≤ n)
  | .lst xs, n => match n with | 0 => false | n + 1 => D.oks xs n
  | .tup xs, n => match n with | 0 => false | n + 1 => D.oks xs n
  | .dct _, _ => false
def D.oks : List D → Nat → Bool
  | [], _ => true
  | d :: ds, n => d.ok n && D.oks ds n
end
theorem oks_all (n : Nat) : ∀ ds : List D, D.oks ds n = ds.all (fun d => d.ok n)
  | [] => rfl
  | d :: ds => by rw [D.oks, oks_all n ds]; rfl
theorem ok_lst (xs : List D) (n : Nat) : (D.lst xs).ok (n + 1) = xs.all fun d => d.ok n := by rw [D.ok, oks_all]
theorem ok_tup (xs : List D) (n : Nat) : (D.tup xs).ok (n + 1) = xs.all fun d => d.ok n := by rw [D.ok, oks_all]
theorem toPs_map : ∀ ds : List D, D.toPs ds = ds.map D.toP
  | [] => rfl
  | d :: ds => by rw [D.toPs, toPs_map ds]; rfl
theorem lay_ints : ∀ ns : List Int, PyData.canLayAll0 (ns.map PyData.int) = true
  | [] => rfl
  | n :: ns => by rw [List.map_cons, PyData.canLayAll0, lay_ints ns]; rfl
theorem dep_ints : ∀ ns : List Int, PyData.depthAll (ns.map PyData.int) ≤ 1
  | [] => by simp [PyData.depthAll]
  | n :: ns => by rw [List.map_cons, PyData.depthAll, PyData.depth]; have := dep_ints ns; omega
mutual
theorem ok_lay : ∀ (d : D) (n : Nat), d.ok n = true → d.toP.canLay0 = true ∧ d.toP.depth ≤ n + 1
  | .non, _, _ => ⟨rfl, by simp [D.toP, PyData.depth]⟩
  | .bl _, _, _ => ⟨rfl, by simp [D.toP, PyData.depth]⟩
  | .int _, _, _ => ⟨rfl, by simp [D.toP, PyData.depth]⟩
  | .str x, _, h => ⟨by simpa [D.toP, PyData.canLay0, D.ok] using h, by simp [D.toP, PyData.depth]⟩
  | .scr ns, n, h => ⟨by simp [D.toP, PyData.canLay0, lay_ints], by
      have h' : 2 ≤ n := by simpa [D.ok] using h
      have := dep_ints ns
      simp only [D.toP, PyData.depth]; omega⟩
  | .lst xs, n, h => by
    cases n with
    | zero => simp [D.ok] at h
    | succ n =>
      have h' := oks_lay xs n (by simpa [D.ok] using h)
      exact ⟨by simpa [D.toP, PyData.canLay0] using h'.1, by simp only [D.toP, PyData.depth]; omega⟩
  | .tup xs, n, h => by
    cases n with
    | zero => simp [D.ok] at h
    | succ n =>
      have h' := oks_lay xs n (by simpa [D.ok] using h)
      exact ⟨by simpa [D.toP, PyData.canLay0] using h'.1, by simp only [D.toP, PyData.depth]; omega⟩
  | .dct _, _, h => by simp [D.ok] at h
theorem oks_lay : ∀ (ds : List D) (n : Nat), D.oks ds n = true → PyData.canLayAll0 (D.toPs ds) = true ∧ PyData.depthAll (D.toPs ds) ≤ n + 1
  | [], _, _ => ⟨rfl, by simp [D.toPs, PyData.depthAll]⟩
  | d :: ds, n, h => by
    have h' : d.ok n = true ∧ D.oks ds n = true := by simpa [D.oks] using h
    have h1 := ok_lay d n h'.1
    have h2 := oks_lay ds n h'.2
    exact ⟨by simp [D.toPs, PyData.canLayAll0, h1.1, h2.1], by simp only [D.toPs, PyData.depthAll]; omega⟩
end
theorem ok_shaped {d : D} (h : d.ok 50 = true) : SeqAt.shaped d.toP = true := by
  have h' := ok_lay d 50 h
  unfold SeqAt.shaped
  rw [h'.1, decide_eq_true (by omega)]; rfl
theorem dpAll_ints {K : PySem.W.Frag} {H : Hp} : ∀ ns : List Int, DpAll K H (ns.map V.int) (ns.map PyData.int)
  | [] => .nil
  | n :: ns => .cons (.int n) (dpAll_ints ns)
mutual
theorem Rep.dp {K : PySem.W.Frag} {G : Hp} : ∀ {d : D} {v : V} {n : Nat}, Rep K G d v → d.ok n = true → Dp K G v d.toP
  | _, _, _, .non, _ => .non
  | _, _, _, .bl b, _ => .bl b
  | _, _, _, .int i, _ => .int i
  | _, _, _, .str x, _ => .str x
  | _, _, _, .scr h, _ => by rw [D.toP]; exact .lst h (dpAll_ints _)
  | _, _, n, .lst h r, o => by
    cases n with
    | zero => simp [D.ok] at o
    | succ n => rw [D.toP]; exact .lst (.of h) (Reps.dp r (by simpa [D.ok] using o))
  | _, _, n, .tup h r, o => by
    cases n with
    | zero => simp [D.ok] at o
    | succ n => rw [D.toP]; exact .tup (.of h) (Reps.dp r (by simpa [D.ok] using o))
  | _, _, _, .dct _, o => by simp [D.ok] at o
theorem Reps.dp {K : PySem.W.Frag} {G : Hp} : ∀ {ds : List D} {vs : List V} {n : Nat}, Reps K G ds vs → D.oks ds n = true → DpAll K G vs (D.toPs ds)
  | _, _, _, .nil, _ => by rw [D.toPs]; exact .nil
  | _, _, n, .cons r t, o => by
    rename_i d v ds vs
    have h' : d.ok n = true ∧ D.oks ds n = true := by simpa [D.oks] using o
    rw [D.toPs]
    exact .cons (Rep.dp r h'.1) (Reps.dp t h'.2)
end
theorem RepT.dp {K : PySem.W.Frag} {G H : Hp} {d : D} {v : V} (l : Ex G H) (h : RepT K G H d v) (o : d.ok 50 = true) : Dp K H v d.toP := by
  rcases h with h | ⟨a, vs, ds, rfl, rfl, e, r⟩ | ⟨a, kvs, rfl, rfl, e⟩
  · exact Rep.dp (h.mono l) o
  · rw [D.toP]
    exact .lst (.of e) (Reps.dp (r.mono l) (n := 49) (by simpa [D.ok] using o))
  · simp [D.ok] at o
def D.eqv (d e : D) : Bool := PyData.eqv d.toP e.toP
def gEq (d e : D) : Option D := if d.ok 50 && e.ok 50 then some (.bl (d.eqv e)) else none
def gNe (d e : D) : Option D := if d.ok 50 && e.ok 50 then some (.bl (!d.eqv e)) else none
theorem r2_eq {K : PySem.W.Frag} : R2ok K (rEqD K) gEq := fun G H x y d e z Q l rx ry q k => by
  unfold gEq at q
  split at q
  · rename_i h
    cases q
    have h' : d.ok 50 = true ∧ e.ok 50 = true := by simpa using h
    exact ⟨_, _, rx.dp l h'.1, ry.dp l h'.2, ok_shaped h'.1, ok_shaped h'.2, k _ G H (.refl l) (.bl _)⟩
  · cases q
theorem r2_ne {K : PySem.W.Frag} : R2ok K (rNeD K) gNe := fun G H x y d e z Q l rx ry q k => by
  unfold gNe at q
  split at q
  · rename_i h
    cases q
    have h' : d.ok 50 = true ∧ e.ok 50 = true := by simpa using h
    exact ⟨_, _, rx.dp l h'.1, ry.dp l h'.2, ok_shaped h'.1, ok_shaped h'.2, k _ G H (.refl l) (.bl _)⟩
  · cases q

/-! ## arithmetic -/
def gAddI (d e : D) : Option D := match d, e with | .int i, .int j => some (.int (i + j)) | _, _ => none
def szB (n : Nat) : Bool := decide (n ≤ 16777216)
theorem szB_le {n : Nat} (h : szB n = true) : n ≤ sizeLine := by rw [sizeLine_eq]; exact of_decide_eq_true h
def gAdd (d e : D) : Option D := match d, e with
  | .int i, .int j => some (.int (i + j))
  | .tup a, .tup b => if szB (a.length + b.length) then some (.tup (a ++ b)) else none
  | .lst a, .lst b => if szB (a.length + b.length) then some (.lst (a ++ b)) else none
  | .str a, .str b => if szB (a.length + b.length) then some (.str (a ++ b)) else none
  | _, _ => none
def rAddA (K : PySem.W.Frag) : R2 := fun x y H Q => rI0 (fun i j => .int (i + j)) x y H Q ∨ rCatA K x y H Q ∨ rCat x y H Q ∨ (∃ i j, x = .str i ∧ y = .str j ∧ i.length + j.length ≤ sizeLine ∧ Q (.str (i ++ j)) H)
theorem op_addA {X : Cx} : OpR X (binaryOp .Add) (rAddA X.K) := op_add.or (op_catA.or (op_cat.or op_add_str))
theorem Reps.nil_iff {K : PySem.W.Frag} {G : Hp} {ds : List D} {vs : List V} (r : Reps K G ds vs) : ds = [] ↔ vs = [] := by
  cases r with
  | nil => simp
  | cons _ _ => simp
theorem r2_add {K : PySem.W.Frag} : R2ok K (rAddA K) gAdd := fun G H x y d e z Q l rx ry q k => by
  cases d <;> cases e <;> first | cases q | skip
  case int.int i j =>
    rw [rx.int_inv, ry.int_inv]
    exact .inl ⟨_, _, rfl, rfl, k _ G H (.refl l) (.int _)⟩
  case str.str i j =>
    rw [rx.str_inv, ry.str_inv]
    simp only [gAdd] at q
    split at q
    · rename_i hz; cases q
      exact .inr (.inr (.inr ⟨_, _, rfl, rfl, szB_le hz, k _ G H (.refl l) (.str _)⟩))
    · cases q
  case lst.lst a b =>
    obtain ⟨p, vs, rfl, hp, rp⟩ := rx.lst_inv l
    obtain ⟨p', vs', rfl, hp', rp'⟩ := ry.lst_inv l
    simp only [gAdd] at q
    split at q
    · rename_i hz; cases q
      refine .inr (.inr (.inl ⟨p, p', vs, vs', rfl, rfl, hp, hp', by rw [← rp.length, ← rp'.length]; exact szB_le hz, fun n hn => ?_⟩))
      exact k _ _ _ (.pure l hn) (.lst upd_same ((rp.append rp').mono (.new (l.free hn))))
    · cases q
  case tup.tup a b =>
    obtain ⟨p, vs, rfl, hp, rp⟩ := rx.tup_inv
    obtain ⟨p', vs', rfl, hp', rp'⟩ := ry.tup_inv
    simp only [gAdd] at q
    split at q
    · rename_i hz; cases q
      refine .inr (.inl ⟨p, p', vs, vs', rfl, rfl, .of (l _ _ hp), .of (l _ _ hp'), by rw [← rp.length, ← rp'.length]; exact szB_le hz, fun h0 => ?_, fun h0 h1 => ?_, fun h0 h1 n hn => ?_⟩)
      · have e : a = [] := rp.nil_iff.mpr h0
        subst e
        exact k _ G H (.refl l) (.tup hp' rp')
      · have e : b = [] := rp'.nil_iff.mpr h1
        subst e
        rw [List.append_nil] at k
        exact k _ G H (.refl l) (.tup hp rp)
      · exact k _ _ _ (.pure l hn) (.tup upd_same ((rp.append rp').mono (.new (l.free hn))))
    · cases q
def gSub : D → D → Option D := gII fun i j => some (.int (i - j))
theorem r2_sub {K : PySem.W.Frag} : R2ok K (rI0 fun i j => .int (i - j)) gSub := r2_I0 fun i j G => .int _
/-- products: one factor below 2^64, or both of moderate size -/
def mulB (i j : Int) : Bool := decide (i.natAbs < 18446744073709551616) || decide (j.natAbs < 18446744073709551616)
def gMul : D → D → Option D := gII fun i j => if mulB i j then some (.int (i * j)) else none
theorem r2_mul {K : PySem.W.Frag} : R2ok K (rI CMul fun i j => .int (i * j)) gMul := r2_I fun i j z q => by
  unfold mulB at q
  split at q
  · rename_i h
    cases q
    refine ⟨?_, fun G => .int _⟩
    unfold CMul
    rw [Bool.or_eq_true, decide_eq_true_iff, decide_eq_true_iff] at h
    have e : (2 : Int) ^ 64 = 18446744073709551616 := by decide
    rw [e]
    rcases h with h | h
    · exact .inl ⟨by omega, by omega⟩
    · exact .inr ⟨by omega, by omega⟩
  · cases q
/-- // and % by a positive number -/
def gDiv : D → D → Option D := gII fun i j => if 0 < j ∧ j < 4294967296 then some (.int (i / j)) else none
theorem r2_div {K : PySem.W.Frag} : R2ok K (rI CDivW fun i j => .int (i / j)) gDiv := r2_I fun i j z q => by
  split at q
  · rename_i h
    cases q
    refine ⟨wide_div h.1 (b := 32) ?_ (by decide) (by decide), fun G => .int _⟩
    have e : (2 : Nat) ^ 32 = 4294967296 := by decide
    rw [e]; omega
  · cases q
def gMod : D → D → Option D := gII fun i j => if 0 < j then some (.int (i % j)) else none
theorem r2_mod {K : PySem.W.Frag} : R2ok K (rI (fun _ j => 0 < j) fun i j => .int (i % j)) gMod := r2_I fun i j z q => by
  split at q
  · rename_i h
    cases q
    exact ⟨h, fun G => .int _⟩
  · cases q
def gPow : D → D → Option D := gII fun i j => if 0 ≤ j ∧ j ≤ 1000 ∧ i.natAbs < 1000 then some (.int (i ^ j.toNat)) else none
theorem r2_pow {K : PySem.W.Frag} : R2ok K (rI CPow fun i j => .int (i ^ j.toNat)) gPow := r2_I fun i j z q => by
  split at q
  · rename_i h
    cases q
    exact ⟨⟨h.1, by omega, Nat.lt_trans h.2.2 (by decide)⟩, fun G => .int _⟩
  · cases q
def gLt : D → D → Option D := gII fun i j => some (.bl (decide (i < j)))
def gLe : D → D → Option D := gII fun i j => some (.bl (decide (i ≤ j)))
def gGt : D → D → Option D := gII fun i j => some (.bl (decide (j < i)))
def gGe : D → D → Option D := gII fun i j => some (.bl (decide (j ≤ i)))
theorem r2_lt {K : PySem.W.Frag} : R2ok K (rI0 fun i j => .bl (decide (i < j))) gLt := r2_I0 fun i j G => .bl _
theorem r2_le {K : PySem.W.Frag} : R2ok K (rI0 fun i j => .bl (decide (i ≤ j))) gLe := r2_I0 fun i j G => .bl _
theorem r2_gt {K : PySem.W.Frag} : R2ok K (rI0 fun i j => .bl (decide (j < i))) gGt := r2_I0 fun i j G => .bl _
theorem r2_ge {K : PySem.W.Frag} : R2ok K (rI0 fun i j => .bl (decide (j ≤ i))) gGe := r2_I0 fun i j G => .bl _

section
variable {X : Cx} {a b c : Expr} {fa fb fc : DE} {pos : Pos}
theorem pu_bin {op : Operator} {r : R2} {g : D → D → Option D} (ho : OpR X (binaryOp op) r) (hg : R2ok X.K r g) (ha : RdE X a fa) (hb : RdE X b fb) : PuE X (.BinOp a op b pos) (e2 g fa fb) :=
  let ⟨_, a1, a2⟩ := ha.ex; let ⟨_, b1, b2⟩ := hb.ex; ⟨_, pe_op ho a1 b1, te_op a2 b2 hg⟩
theorem pu_add (ha : RdE X a fa) (hb : RdE X b fb) : PuE X (.BinOp a .Add b pos) (e2 gAdd fa fb) := pu_bin op_addA r2_add ha hb
theorem pu_sub (ha : RdE X a fa) (hb : RdE X b fb) : PuE X (.BinOp a .Sub b pos) (e2 gSub fa fb) := pu_bin op_sub r2_sub ha hb
theorem pu_mul (ha : RdE X a fa) (hb : RdE X b fb) : PuE X (.BinOp a .Mult b pos) (e2 gMul fa fb) := pu_bin op_mul r2_mul ha hb
theorem pu_div (ha : RdE X a fa) (hb : RdE X b fb) : PuE X (.BinOp a .FloorDiv b pos) (e2 gDiv fa fb) := pu_bin op_fdivW r2_div ha hb
theorem pu_mod (ha : RdE X a fa) (hb : RdE X b fb) : PuE X (.BinOp a .Mod b pos) (e2 gMod fa fb) := pu_bin op_mod r2_mod ha hb
theorem pu_pow (ha : RdE X a fa) (hb : RdE X b fb) : PuE X (.BinOp a .Pow b pos) (e2 gPow fa fb) := pu_bin op_pow r2_pow ha hb

/-! ## a comparison -/
structure CmpR (X : Cx) (op : CmpOp) (g : D → D → Option D) : Prop where
  ex : ∃ r, OpR X (compareOp op) r ∧ R2ok X.K r g
theorem c_lt : CmpR X .Lt gLt := ⟨_, op_lt, r2_lt⟩
theorem c_le : CmpR X .LtE gLe := ⟨_, op_le, r2_le⟩
theorem c_gt : CmpR X .Gt gGt := ⟨_, op_gt, r2_gt⟩
theorem c_ge : CmpR X .GtE gGe := ⟨_, op_ge, r2_ge⟩
theorem c_eq (hu : X.A.units + 64 < cLine) : CmpR X .Eq gEq := ⟨_, op_eqD hu, r2_eq⟩
theorem c_ne (hu : X.A.units + 64 < cLine) : CmpR X .NotEq gNe := ⟨_, op_neD hu, r2_ne⟩
def gIsN (neg : Bool) (d e : D) : Option D := match e with | .non => some (.bl (match d with | .non => !neg | _ => neg)) | _ => none
theorem rep_non_dec {K : PySem.W.Frag} {G H : Hp} {d : D} {x : V} (h : RepT K G H d x) : decide (x = .non) = (match d with | .non => true | _ => false) := by
  rcases h with h | ⟨a, vs, ds, rfl, rfl, e, r⟩ | ⟨a, kvs, rfl, rfl, e⟩
  · cases h <;> rfl
  · rfl
  · rfl
theorem c_isN : CmpR X .Is (gIsN false) := ⟨_, op_isN, fun G H x y d e z Q l rx ry q k => by
  cases e <;> first | cases q | skip
  refine ⟨ry.non_inv, ?_⟩
  rw [rep_non_dec rx]
  refine k _ G H (.refl l) ?_
  cases d <;> exact .bl _⟩
theorem c_notN : CmpR X .IsNot (gIsN true) := ⟨_, op_notN, fun G H x y d e z Q l rx ry q k => by
  cases e <;> first | cases q | skip
  refine ⟨ry.non_inv, ?_⟩
  rw [rep_non_dec rx]
  refine k _ G H (.refl l) ?_
  cases d <;> exact .bl _⟩
def gIsB (neg : Bool) (d e : D) : Option D := match d, e with | .bl a, .bl b => some (.bl (if neg then !decide (a = b) else decide (a = b))) | _, _ => none
theorem c_isB : CmpR X .Is (gIsB false) := ⟨_, op_isBl, fun G H x y d e z Q l rx ry q k => by
  cases d <;> cases e <;> first | cases q | skip
  rw [rx.bl_inv, ry.bl_inv]
  exact ⟨_, _, rfl, rfl, k _ G H (.refl l) (.bl _)⟩⟩
theorem c_notB : CmpR X .IsNot (gIsB true) := ⟨_, op_notBl, fun G H x y d e z Q l rx ry q k => by
  cases d <;> cases e <;> first | cases q | skip
  rw [rx.bl_inv, ry.bl_inv]
  exact ⟨_, _, rfl, rfl, k _ G H (.refl l) (.bl _)⟩⟩
theorem pu_cmp {op : CmpOp} {g : D → D → Option D} (hc : CmpR X op g) (ha : RdE X a fa) (hb : RdE X b fb) (hm : behindInMarks op b = false := by first | exact nomark _ | rfl) : PuE X (.Compare a [op] [b] pos) (e2 g fa fb) :=
  let ⟨_, o1, o2⟩ := hc.ex; let ⟨_, a1, a2⟩ := ha.ex; let ⟨_, b1, b2⟩ := hb.ex; ⟨_, pe_cmpR o1 a1 b1 hm, te_op a2 b2 o2⟩
/-! ## tests -/
def tV (f : DE) : DB := fun ρ => (f ρ).bind fun d => match d with | .bl b => some b | _ => none
theorem tt_val {K : PySem.W.Frag} {nn : Nat} {t : TE} {f : DE} (h : TEok K nn t f) : TTok K nn (tB t) (tV f) := fun ρ σ G H Q b l r q k => by
  unfold tV at q
  cases z : f ρ with
  | none => rw [z] at q; cases q
  | some d =>
    rw [z] at q
    cases d <;> first | cases q | skip
    refine h ρ σ G H _ _ l r z fun v G' H' u rv => ?_
    cases rv
    exact ⟨_, rfl, k G' H' u⟩
theorem pt_valU {e : Expr} {f : DE} (h : PuE X e f) (he : ∀ whole, isTrue e X.env whole = (do let v ← whole; standAt e.pos; holding [v] (truthy v)) := by intro _; rfl) : PuT X e (tV f) :=
  let ⟨_, a1, a2⟩ := h.ex; ⟨_, pt_val a1 he, tt_val a2⟩
theorem pt_cmpU {op : CmpOp} {g : D → D → Option D} (hc : CmpR X op g) (ha : RdE X a fa) (hb : RdE X b fb) (hm : behindInMarks op b = false := by first | exact nomark _ | rfl) : PuT X (.Compare a [op] [b] pos) (tV (e2 g fa fb)) :=
  let ⟨_, o1, o2⟩ := hc.ex; let ⟨_, a1, a2⟩ := ha.ex; let ⟨_, b1, b2⟩ := hb.ex; ⟨_, pt_cmpR o1 a1 b1 hm, tt_val (te_op a2 b2 o2)⟩
def bNot (f : DB) : DB := fun ρ => (f ρ).map fun b => !b
def bAnd (f g : DB) : DB := fun ρ => (f ρ).bind fun b => if b = true then g ρ else some false
def bOr (f g : DB) : DB := fun ρ => (f ρ).bind fun b => if b = true then some true else g ρ
variable {A B : DB} {rest : List Expr}
theorem pt_notU (h : PuT X a A) : PuT X (.UnaryOp .Not a pos) (bNot A) := let ⟨_, a1, a2⟩ := h.ex; ⟨_, pt_not a1, fun ρ σ G H Q b l r q k => by
  unfold bNot at q
  cases z : A ρ with
  | none => rw [z] at q; cases q
  | some d => rw [z] at q; cases q; exact a2 ρ σ G H _ _ l r z k⟩
theorem pw_and1U (h : PuT X a A) : PuW X (.BoolOp .And [a] pos) A := let ⟨_, a1, a2⟩ := h.ex; ⟨_, pw_and1 a1, a2⟩
theorem pw_or1U (h : PuT X a A) : PuW X (.BoolOp .Or [a] pos) A := let ⟨_, a1, a2⟩ := h.ex; ⟨_, pw_or1 a1, a2⟩
theorem tt_and {K : PySem.W.Frag} {nn : Nat} {t u : TT} (ha : TTok K nn t A) (hb : TTok K nn u B) : TTok K nn (tAnd t u) (bAnd A B) := fun ρ σ G H Q b l r q k => by
  unfold bAnd at q
  cases z : A ρ with
  | none => rw [z] at q; cases q
  | some d =>
    rw [z] at q
    refine ha ρ σ G H _ _ l r z fun G' H' u' => ?_
    cases d with
    | true => exact hb ρ σ G' H' _ _ u'.le (r.up u') q fun G2 H2 u2 => k G2 H2 (u'.trans u2)
    | false => cases q; exact k G' H' u'
theorem tt_or {K : PySem.W.Frag} {nn : Nat} {t u : TT} (ha : TTok K nn t A) (hb : TTok K nn u B) : TTok K nn (tOr t u) (bOr A B) := fun ρ σ G H Q b l r q k => by
  unfold bOr at q
  cases z : A ρ with
  | none => rw [z] at q; cases q
  | some d =>
    rw [z] at q
    refine ha ρ σ G H _ _ l r z fun G' H' u' => ?_
    cases d with
    | false => exact hb ρ σ G' H' _ _ u'.le (r.up u') q fun G2 H2 u2 => k G2 H2 (u'.trans u2)
    | true => cases q; exact k G' H' u'
theorem pw_andU (ha : PuT X a A) (hb : PuW X (.BoolOp .And (b :: rest) pos) B) : PuW X (.BoolOp .And (a :: b :: rest) pos) (bAnd A B) :=
  let ⟨_, a1, a2⟩ := ha.ex; let ⟨_, b1, b2⟩ := hb.ex; ⟨_, pw_and a1 b1, tt_and a2 b2⟩
theorem pw_orU (ha : PuT X a A) (hb : PuW X (.BoolOp .Or (b :: rest) pos) B) : PuW X (.BoolOp .Or (a :: b :: rest) pos) (bOr A B) :=
  let ⟨_, a1, a2⟩ := ha.ex; let ⟨_, b1, b2⟩ := hb.ex; ⟨_, pw_or a1 b1, tt_or a2 b2⟩
theorem PuW.pt {e : Expr} (h : PuW X e A) : PuT X e A := let ⟨_, a1, a2⟩ := h.ex; ⟨_, a1.pt, a2⟩
/-! ### as values -/
def eAnd (f g : DE) : DE := fun ρ => (f ρ).bind fun d => match d with | .bl true => g ρ | .bl false => some (.bl false) | _ => none
def eOr (f g : DE) : DE := fun ρ => (f ρ).bind fun d => match d with | .bl false => g ρ | .bl true => some (.bl true) | _ => none
def eNot (f : DE) : DE := fun ρ => (f ρ).bind fun d => match d with | .bl b => some (.bl (!b)) | _ => none
theorem pu_one {op} (h : PuE X a fa) : PuE X (.BoolOp op [a] pos) fa := let ⟨_, a1, a2⟩ := h.ex; ⟨_, pe_one a1, a2⟩
theorem pu_and (ha : PuE X a fa) (hb : PuE X (.BoolOp .And (b :: rest) pos) fb) : PuE X (.BoolOp .And (a :: b :: rest) pos) (eAnd fa fb) :=
  let ⟨_, a1, a2⟩ := ha.ex; let ⟨_, b1, b2⟩ := hb.ex; ⟨_, pe_and a1 b1, fun ρ σ G H Q d l r q k => by
    unfold eAnd at q
    cases z : fa ρ with
    | none => rw [z] at q; cases q
    | some e =>
      rw [z] at q
      cases e <;> first | cases q | skip
      rename_i bb
      refine a2 ρ σ G H _ _ l r z fun v G' H' u rv => ?_
      cases rv
      refine ⟨_, rfl, ?_⟩
      cases bb with
      | true => exact b2 ρ σ G' H' _ _ u.le (r.up u) q fun w G2 H2 u2 rw => k w G2 H2 (u.trans u2) rw
      | false => cases q; exact k _ G' H' u (.bl _)⟩
theorem pu_or (ha : PuE X a fa) (hb : PuE X (.BoolOp .Or (b :: rest) pos) fb) : PuE X (.BoolOp .Or (a :: b :: rest) pos) (eOr fa fb) :=
  let ⟨_, a1, a2⟩ := ha.ex; let ⟨_, b1, b2⟩ := hb.ex; ⟨_, pe_or a1 b1, fun ρ σ G H Q d l r q k => by
    unfold eOr at q
    cases z : fa ρ with
    | none => rw [z] at q; cases q
    | some e =>
      rw [z] at q
      cases e <;> first | cases q | skip
      rename_i bb
      refine a2 ρ σ G H _ _ l r z fun v G' H' u rv => ?_
      cases rv
      refine ⟨_, rfl, ?_⟩
      cases bb with
      | false => exact b2 ρ σ G' H' _ _ u.le (r.up u) q fun w G2 H2 u2 rw => k w G2 H2 (u.trans u2) rw
      | true => cases q; exact k _ G' H' u (.bl _)⟩
theorem pu_not (ha : PuE X a fa) : PuE X (.UnaryOp .Not a pos) (eNot fa) := let ⟨_, a1, a2⟩ := ha.ex; ⟨_, pe_not a1, fun ρ σ G H Q d l r q k => by
    unfold eNot at q
    cases z : fa ρ with
    | none => rw [z] at q; cases q
    | some e =>
      rw [z] at q
      cases e <;> first | cases q | skip
      refine a2 ρ σ G H _ _ l r z fun v G' H' u rv => ?_
      cases rv
      exact ⟨_, rfl, k _ G' H' u (.bl _)⟩⟩
def eNeg (f : DE) : DE := fun ρ => (f ρ).bind fun d => match d with | .int i => some (.int (-i)) | _ => none
theorem pu_neg (ha : PuE X a fa) : PuE X (.UnaryOp .USub a pos) (eNeg fa) := let ⟨_, a1, a2⟩ := ha.ex; ⟨_, pe_un un_neg a1, fun ρ σ G H Q d l r q k => by
    unfold eNeg at q
    cases z : fa ρ with
    | none => rw [z] at q; cases q
    | some e =>
      rw [z] at q
      cases e <;> first | cases q | skip
      refine a2 ρ σ G H _ _ l r z fun v G' H' u rv => ?_
      cases rv
      exact ⟨_, rfl, k _ G' H' u (.int _)⟩⟩
def eIf (c : DB) (f g : DE) : DE := fun ρ => (c ρ).bind fun b => if b = true then f ρ else g ρ
theorem pu_if (hc : PuT X c A) (ha : PuE X a fa) (hb : PuE X b fb) : PuE X (.IfExp c a b pos) (eIf A fa fb) :=
  let ⟨_, c1, c2⟩ := hc.ex; let ⟨_, a1, a2⟩ := ha.ex; let ⟨_, b1, b2⟩ := hb.ex; ⟨_, pe_ifExp c1 a1 b1, fun ρ σ G H Q d l r q k => by
    unfold eIf at q
    cases z : A ρ with
    | none => rw [z] at q; cases q
    | some e =>
      rw [z] at q
      refine c2 ρ σ G H _ _ l r z fun G' H' u => ?_
      cases e with
      | true => exact a2 ρ σ G' H' _ _ u.le (r.up u) q fun w G2 H2 u2 rw => k w G2 H2 (u.trans u2) rw
      | false => exact b2 ρ σ G' H' _ _ u.le (r.up u) q fun w G2 H2 u2 rw => k w G2 H2 (u.trans u2) rw⟩
/-- a < b < c -/
def eChain (g g' : D → D → Option D) (fa fb fc : DE) : DE := fun ρ => (fa ρ).bind fun x => (fb ρ).bind fun y => (g x y).bind fun z => match z with
  | .bl true => (fc ρ).bind fun w => g' y w | .bl false => some (.bl false) | _ => none
theorem te_chain {K : PySem.W.Frag} {nn : Nat} {ta tb tc : TE} {r r' : R2} {g g' : D → D → Option D} (ha : TRok K nn ta fa) (hb : TRok K nn tb fb) (hc : TRok K nn tc fc) (hr : R2ok K r g) (hr' : R2ok K r' g') : TEok K nn (tChain r r' ta tb tc) (eChain g g' fa fb fc) := fun ρ σ G H Q z l r0 q k => by
  unfold eChain at q
  cases q1 : fa ρ with
  | none => rw [q1] at q; cases q
  | some d =>
    rw [q1] at q
    cases q2 : fb ρ with
    | none => rw [q2] at q; cases q
    | some e =>
      rw [q2] at q
      change ((g d e).bind _) = _ at q
      cases q3 : g d e with
      | none => rw [q3] at q; cases q
      | some t =>
        rw [q3] at q
        refine ha ρ σ G H _ d l r0 q1 fun x G1 H1 u1 rx => ?_
        refine hb ρ σ G1 H1 _ e u1.le (r0.up u1) q2 fun y G2 H2 u2 ry => ?_
        refine hr G2 H2 x y d e t _ u2.le (rx.mono u2.g u2.h) ry q3 fun v G3 H3 u3 rv => ?_
        cases t <;> first | cases q | skip
        rename_i bb
        cases rv
        refine ⟨bb, rfl, ?_⟩
        cases bb with
        | true =>
          have q : ((fc ρ).bind fun w => g' e w) = some z := q
          cases q4 : fc ρ with
          | none => rw [q4] at q; cases q
          | some w =>
            rw [q4] at q
            refine hc ρ σ G3 H3 _ w u3.le (r0.up ((u1.trans u2).trans u3)) q4 fun w' G4 H4 u4 rw' => ?_
            exact hr' G4 H4 y w' e w z Q u4.le (ry.mono (u3.trans u4).g (u3.trans u4).h) rw' q fun v G5 H5 u5 rv => k v G5 H5 ((((u1.trans u2).trans u3).trans u4).trans u5) rv
        | false => cases q; exact k _ G3 H3 ((u1.trans u2).trans u3) (.bl _)
theorem pu_chain {op op' : CmpOp} {g g' : D → D → Option D} (h1 : CmpR X op g) (h2 : CmpR X op' g') (ha : RdE X a fa) (hb : RdE X b fb) (hc : RdE X c fc) (hm : lastMarks [op, op'] [b, c] = false := by with_unfolding_all rfl) : PuE X (.Compare a [op, op'] [b, c] pos) (eChain g g' fa fb fc) :=
  let ⟨_, o1, o2⟩ := h1.ex; let ⟨_, o3, o4⟩ := h2.ex; let ⟨_, a1, a2⟩ := ha.ex; let ⟨_, b1, b2⟩ := hb.ex; let ⟨_, c1, c2⟩ := hc.ex; ⟨_, pe_chain o1 o3 a1 b1 c1 hm, te_chain a2 b2 c2 o2 o4⟩
theorem pt_chainU {op op' : CmpOp} {g g' : D → D → Option D} (h1 : CmpR X op g) (h2 : CmpR X op' g') (ha : RdE X a fa) (hb : RdE X b fb) (hc : RdE X c fc) (hm : lastMarks [op, op'] [b, c] = false := by with_unfolding_all rfl) : PuT X (.Compare a [op, op'] [b, c] pos) (tV (eChain g g' fa fb fc)) :=
  let ⟨_, o1, o2⟩ := h1.ex; let ⟨_, o3, o4⟩ := h2.ex; let ⟨_, a1, a2⟩ := ha.ex; let ⟨_, b1, b2⟩ := hb.ex; let ⟨_, c1, c2⟩ := hc.ex; ⟨_, pt_chain o1 o3 a1 b1 c1 hm, tt_val (te_chain a2 b2 c2 o2 o4)⟩
end
end PL

namespace PL
open PySem PySem.Spec PyProof.Rows L2

/-! ## subscripts -/
def gIx (d e : D) : Option D := match d, e with
  | .lst xs, .int i => atI xs i
  | .tup xs, .int i => atI xs i
  | .scr ns, .int i => (atI ns i).map D.int
  | .str z, .int i => if szB z.length then (atI z.cps.toList i).map fun c => .str ⟨#[c]⟩ else none
  | _, _ => none
theorem atI_rep {K : PySem.W.Frag} {G : Hp} {ds : List D} {vs : List V} {i : Int} {d : D} (r : Reps K G ds vs) (h : atI ds i = some d) : ∃ v, atI vs i = some v ∧ Rep K G d v := by
  unfold atI at h ⊢
  rw [r.length] at h
  cases q : ixN vs.length i with
  | none => rw [q] at h; cases h
  | some j => rw [q] at h; exact r.get h
theorem atI_map {α β : Type} (f : α → β) (xs : List α) (i : Int) : atI (xs.map f) i = (atI xs i).map f := by
  unfold atI
  rw [List.length_map]
  cases ixN xs.length i with
  | none => rfl
  | some j => simp
theorem r2_ix {K : PySem.W.Frag} : R2ok K (rIx K) gIx := fun G H x y d e z Q l rx ry q k => by
  cases d <;> cases e <;> first | cases q | skip
  case lst.int xs i =>
    obtain ⟨p, vs, rfl, hp, rp⟩ := rx.lst_inv l
    rw [ry.int_inv]
    obtain ⟨v, h1, h2⟩ := atI_rep rp q
    exact .inl ⟨p, vs, i, v, rfl, rfl, .of hp, h1, k v G H (.refl l) h2⟩
  case tup.int xs i =>
    obtain ⟨p, vs, rfl, hp, rp⟩ := rx.tup_inv
    rw [ry.int_inv]
    obtain ⟨v, h1, h2⟩ := atI_rep rp q
    exact .inr (.inl ⟨p, vs, i, v, rfl, rfl, .of (l _ _ hp), h1, k v G H (.refl l) h2⟩)
  case scr.int ns i =>
    obtain ⟨p, rfl, hp⟩ := rx.scr_inv l
    rw [ry.int_inv]
    have q : (atI ns i).map D.int = some z := q
    cases z1 : atI ns i with
    | none => rw [z1] at q; cases q
    | some m =>
      rw [z1] at q; cases q
      exact .inl ⟨p, _, i, .int m, rfl, rfl, hp, by rw [atI_map, z1]; rfl, k _ G H (.refl l) (.int m)⟩
  case str.int w i =>
    rw [rx.str_inv, ry.int_inv]
    simp only [gIx] at q
    split at q
    · rename_i hz
      cases z1 : atI w.cps.toList i with
      | none => rw [z1] at q; cases q
      | some m =>
        rw [z1] at q; cases q
        exact .inr (.inr ⟨w, i, m, rfl, rfl, szB_le hz, z1, k _ G H (.refl l) (.str _)⟩)
    · cases q
section
variable {X : Cx} {a b c : Expr} {fa fb fc : DE} {pos : Pos}
theorem pu_ix (ha : RdE X a fa) (hb : RdE X b fb) (hs : PlainIx b := by exact fun _ _ => rfl) : PuE X (.Subscript a b pos) (e2 gIx fa fb) :=
  let ⟨_, a1, a2⟩ := ha.ex; let ⟨_, b1, b2⟩ := hb.ex; ⟨_, pe_ix ix_seq a1 b1 hs, te_op a2 b2 r2_ix⟩
/-- an item of an own list of lists -/
def eIxLL (i : Nat) (fb : DE) : DE := fun ρ => match ρ i, fb ρ with
  | some (.oll xss), some (.int k) => (atI xss k).map D.lst
  | _, _ => none
theorem paired_get {α β : Type} {F : α → β → Prop} : ∀ {l₁ : List α} {l₂ : List β} {i : Nat} {y : β}, Paired F l₁ l₂ → l₂[i]? = some y → ∃ x, l₁[i]? = some x ∧ F x y
  | _, _, _, _, .nil, e => by simp at e
  | _, _, 0, _, .cons r _, e => by simp at e; subst e; exact ⟨_, rfl, r⟩
  | _, _, i + 1, _, .cons _ t, e => by
    obtain ⟨u, h1, h2⟩ := paired_get (i := i) t (by simpa using e)
    exact ⟨u, by simpa using h1, h2⟩
theorem rd_ixLL (i : Nat) {x : Str} {xp : Pos} (hb : RdE X b fb) (hN : X.N[i]? = some x := by rfl) (hv : Vis X.env.scope x := by first | exact Or.inl rfl | exact Or.inr (Or.inl rfl) | exact Or.inr (Or.inr rfl)) (hd : (x == ("__debug__" : Str)) = false := by decide)
    (hcd : (x == ("__classdict__" : Str)) = false := by decide) (hs : PlainIx b := by exact fun _ _ => rfl) : RdE X (.Subscript (.Name x xp) b pos) (eIxLL i fb) :=
  let ⟨_, b1, b2⟩ := hb.ex; ⟨_, pe_ix ix_list (pe_var hN hv hd hcd) b1 hs, fun ρ σ G H Q d l r q k => by
    unfold eIxLL at q
    cases z : ρ i with
    | none => rw [z] at q; cases q
    | some cc =>
      rw [z] at q
      cases cc <;> first | cases q | skip
      rename_i xss
      cases z2 : fb ρ with
      | none => rw [z2] at q; cases q
      | some dd =>
        rw [z2] at q
        cases dd <;> first | cases q | skip
        rename_i kk
        obtain ⟨v, h1, h2⟩ := r.at_ i _ z
        refine ⟨v, h1, ?_⟩
        refine b2 ρ σ G H _ _ l r z2 fun w G' H' u rw' => ?_
        obtain ⟨p, bs, rfl, hp, hb'⟩ := h2.mono u.g u.h
        rw [rw'.int_inv]
        have q : (atI xss kk).map D.lst = some d := q
        cases z3 : atI xss kk with
        | none => rw [z3] at q; cases q
        | some xs =>
          rw [z3] at q; cases q
          have hl : bs.length = xss.length := Paired.length hb'
          unfold atI at z3
          cases z4 : ixN xss.length kk with
          | none => rw [z4] at z3; cases z3
          | some j =>
            rw [z4] at z3
            obtain ⟨bb, y1, vs, y2, y3⟩ := paired_get hb' z3
            refine ⟨p, bs.map V.ref, kk, .ref bb, rfl, rfl, .of hp, ?_, k _ G' H' u (.inr (.inl ⟨bb, vs, xs, rfl, rfl, y2, y3⟩))⟩
            unfold atI
            rw [List.length_map, hl, z4]
            show (bs.map V.ref)[j]? = _
            rw [List.getElem?_map, y1]; rfl⟩

/-! ## slices -/
def cutD (xs : List D) (lo hi : Option Int) : List D := (xs.drop (HT.sIx xs.length 0 lo)).take (HT.sIx xs.length xs.length hi - HT.sIx xs.length 0 lo)
theorem cut_rep {K : PySem.W.Frag} {G : Hp} {ds : List D} {vs : List V} (lo hi : Option Int) (r : Reps K G ds vs) : Reps K G (cutD ds lo hi) (cutV vs lo hi) := by
  unfold cutD cutV
  rw [← r.length]
  exact (r.drop _).take _
/-- a part of a slice -/
abbrev DO := DEnv → Option (Option Int)
def oNo : DO := fun _ => some none
def oSome (f : DE) : DO := fun ρ => (f ρ).bind fun d => match d with | .int i => some (some i) | _ => none
def TOok (K : PySem.W.Frag) (nn : Nat) (t : TO) (f : DO) : Prop := ∀ ρ σ G H (Q : Option Int → Hp → Prop) d, Ex G H → ER K nn ρ σ G H → f ρ = some d →
  (∀ G' H', Up G H G' H' → Q d H') → t σ H Q
structure PuO (X : Cx) (e : Option Expr) (f : DO) : Prop where
  ex : ∃ t, PO X e t ∧ TOok X.K X.N.length t f
theorem po_no : PuO X none oNo := ⟨_, po_none, fun ρ σ G H Q d l r q k => by cases q; exact k G H (.refl l)⟩
theorem po_so {e : Expr} {f : DE} (h : RdE X e f) : PuO X (some e) (oSome f) := let ⟨_, a1, a2⟩ := h.ex; ⟨_, po_some a1, fun ρ σ G H Q d l r q k => by
  unfold oSome at q
  cases z : f ρ with
  | none => rw [z] at q; cases q
  | some dd =>
    rw [z] at q
    cases dd <;> first | cases q | skip
    refine a2 ρ σ G H _ _ l r z fun v G' H' u rv => ?_
    exact ⟨_, rv.int_inv, k G' H' u⟩⟩
def gCut (d : D) (lo hi : Option Int) : Option D := match d with
  | .lst xs => some (.lst (cutD xs lo hi))
  | .tup xs => some (.tup (cutD xs lo hi))
  | _ => none
def rSlLT (K : PySem.W.Frag) : V → Option Int → Option Int → Hp → VK → Prop := fun x lo hi H Q => rSlL K x lo hi H Q ∨ rSlA K x lo hi H Q
def eCut (f : DE) (lo hi : DO) : DE := fun ρ => (f ρ).bind fun d => (lo ρ).bind fun l => (hi ρ).bind fun h => gCut d l h
theorem cutD_whole {xs : List D} {lo hi : Option Int} (h : HT.sIx xs.length 0 lo = 0 ∧ HT.sIx xs.length xs.length hi = xs.length) : cutD xs lo hi = xs := by
  unfold cutD
  rw [h.1, h.2]; simp
theorem pu_slice {lo hi : Option Expr} {fl fh : DO} {p2 : Pos} (ha : RdE X a fa) (hl : PuO X lo fl) (hh : PuO X hi fh) : PuE X (.Subscript a (.Slice lo hi none p2) pos) (eCut fa fl fh) :=
  let ⟨_, a1, a2⟩ := ha.ex; let ⟨_, b1, b2⟩ := hl.ex; let ⟨_, c1, c2⟩ := hh.ex; ⟨_, pe_slice (sl_list.or sl_tupA) a1 b1 c1, fun ρ σ G H Q d l r q k => by
    unfold eCut at q
    cases z : fa ρ with
    | none => rw [z] at q; cases q
    | some dd =>
      rw [z] at q
      cases z2 : fl ρ with
      | none => rw [z2] at q; cases q
      | some lo' =>
        rw [z2] at q
        cases z3 : fh ρ with
        | none => rw [z3] at q; cases q
        | some hi' =>
          rw [z3] at q
          have q : gCut dd lo' hi' = some d := q
          refine a2 ρ σ G H _ _ l r z fun v G1 H1 u1 rv => ?_
          refine b2 ρ σ G1 H1 _ _ u1.le (r.up u1) z2 fun G2 H2 u2 => ?_
          refine c2 ρ σ G2 H2 _ _ u2.le (r.up (u1.trans u2)) z3 fun G3 H3 u3 => ?_
          have rv := rv.mono (u2.trans u3).g (u2.trans u3).h
          have uu := (u1.trans u2).trans u3
          cases dd <;> first | cases q | skip
          · obtain ⟨p, vs, rfl, hp, rp⟩ := rv.lst_inv u3.le
            cases q
            exact .inl ⟨p, vs, rfl, .of hp, fun n hn => k _ _ _ (uu.trans (.pure u3.le hn)) (.lst upd_same ((cut_rep lo' hi' rp).mono (.new (u3.le.free hn))))⟩
          · obtain ⟨p, vs, rfl, hp, rp⟩ := rv.tup_inv
            cases q
            refine .inr ⟨p, vs, rfl, .of (u3.le _ _ hp), fun hw => ?_, fun hw n hn => k _ _ _ (uu.trans (.pure u3.le hn)) (.tup upd_same ((cut_rep lo' hi' rp).mono (.new (u3.le.free hn))))⟩
            rw [← rp.length] at hw
            rw [cutD_whole hw] at k
            exact k _ _ _ uu (.tup hp rp)⟩

/-! ## argument lists, displays -/
def dNil : DL := fun _ => some []
def dCons (f : DE) (g : DL) : DL := fun ρ => (f ρ).bind fun d => (g ρ).map fun ds => d :: ds
theorem pa_nilU : PuA X [] dNil := ⟨_, pa_nil, fun ρ σ G H Q ds l r q k => by cases q; exact k _ G H (.refl l) .nil⟩
theorem pa_consU {es : List Expr} {g : DL} (ha : PuE X a fa) (hr : PuA X es g) (hs : starEach (a :: es) X.env = (false, eval a X.env) :: starEach es X.env := by rfl) : PuA X (a :: es) (dCons fa g) :=
  let ⟨_, a1, a2⟩ := ha.ex; let ⟨_, b1, b2⟩ := hr.ex; ⟨_, pa_cons a1 b1 hs, fun ρ σ G H Q ds l r q k => by
    unfold dCons at q
    cases z : fa ρ with
    | none => rw [z] at q; cases q
    | some d =>
      rw [z] at q
      cases z2 : g ρ with
      | none => rw [z2] at q; cases q
      | some es' =>
        rw [z2] at q; cases q
        refine a2 ρ σ G H _ _ l r z fun v G1 H1 u1 rv => ?_
        exact b2 ρ σ G1 H1 _ _ u1.le (r.up u1) z2 fun vs G2 H2 u2 rvs => k _ G2 H2 (u1.trans u2) (.cons (rv.mono u2.g) rvs)⟩
def eTup (g : DL) : DE := fun ρ => (g ρ).bind fun ds => if szB ds.length then some (.tup ds) else none
theorem pu_tup {es : List Expr} {g : DL} {k : Nat} (h : PuA X es g) : PuE X (.Tuple es k pos) (eTup g) := let ⟨_, a1, a2⟩ := h.ex; ⟨_, pe_tup a1, fun ρ σ G H Q d l r q k => by
  unfold eTup at q
  cases z : g ρ with
  | none => rw [z] at q; cases q
  | some ds =>
    rw [z] at q
    have q : (if szB ds.length then some (D.tup ds) else none) = some d := q
    split at q
    · rename_i hz
      cases q
      refine a2 ρ σ G H _ _ l r z fun vs G1 H1 u1 rvs => ⟨by rw [← rvs.length]; exact szB_le hz, fun p hp => ?_⟩
      exact k _ _ _ (u1.trans (.pure u1.le hp)) (.tup upd_same (rvs.mono (.new (u1.le.free hp))))
    · cases q⟩
def dSz (g : DL) : DL := fun ρ => (g ρ).bind fun ds => if szB ds.length then some ds else none
theorem nw_lst {es : List Expr} {g : DL} (h : PuA X es g) : NwE X (.List es pos) (dSz g) := let ⟨_, a1, a2⟩ := h.ex; ⟨_, pe_lst a1, fun ρ σ G H Q d l r q k => by
  unfold dSz at q
  cases z : g ρ with
  | none => rw [z] at q; cases q
  | some ds =>
    rw [z] at q
    have q : (if szB ds.length then some ds else none) = some d := q
    split at q
    · rename_i hz
      cases q
      refine a2 ρ σ G H _ _ l r z fun vs G1 H1 u1 rvs => ⟨by rw [← rvs.length]; exact szB_le hz, fun p hp => ?_⟩
      exact k _ _ _ _ (u1.trans (.own u1.le hp)) (u1.h.free hp) (u1.le.free hp) upd_same rvs
    · cases q⟩

/-! ## calls of built-ins -/
def RepTs (K : PySem.W.Frag) (G H : Hp) : List D → List V → Prop := Paired (RepT K G H)
theorem RepTs.mono {K : PySem.W.Frag} {G H G' H' : Hp} (g : Ex G G') (h : Ex H H') {ds : List D} {vs : List V} (r : RepTs K G H ds vs) : RepTs K G' H' ds vs := Paired.map2 r fun _ _ z => z.mono g h
def TAr (K : PySem.W.Frag) (nn : Nat) (t : TA) (f : DL) : Prop := ∀ ρ σ G H (Q : List V → Hp → Prop) ds, Ex G H → ER K nn ρ σ G H → f ρ = some ds →
  (∀ vs G' H', Up G H G' H' → RepTs K G' H' ds vs → Q vs H') → t σ H Q
structure RdA (X : Cx) (es : List Expr) (f : DL) : Prop where
  ex : ∃ t, PA X es t ∧ TAr X.K X.N.length t f
theorem ra_nil : RdA X [] dNil := ⟨_, pa_nil, fun ρ σ G H Q ds l r q k => by cases q; exact k _ G H (.refl l) .nil⟩
theorem ra_cons {es : List Expr} {g : DL} (ha : RdE X a fa) (hr : RdA X es g) (hs : starEach (a :: es) X.env = (false, eval a X.env) :: starEach es X.env := by rfl) : RdA X (a :: es) (dCons fa g) :=
  let ⟨_, a1, a2⟩ := ha.ex; let ⟨_, b1, b2⟩ := hr.ex; ⟨_, pa_cons a1 b1 hs, fun ρ σ G H Q ds l r q k => by
    unfold dCons at q
    cases z : fa ρ with
    | none => rw [z] at q; cases q
    | some d =>
      rw [z] at q
      cases z2 : g ρ with
      | none => rw [z2] at q; cases q
      | some es' =>
        rw [z2] at q; cases q
        refine a2 ρ σ G H _ _ l r z fun v G1 H1 u1 rv => ?_
        exact b2 ρ σ G1 H1 _ _ u1.le (r.up u1) z2 fun vs G2 H2 u2 rvs => k _ G2 H2 (u1.trans u2) (.cons (rv.mono u2.g u2.h) rvs)⟩
/-- a built-in's answer by data -/
def Cok (K : PySem.W.Frag) (r : List V → Hp → VK → Prop) (g : List D → Option D) : Prop := ∀ G H vs ds z (Q : VK), Ex G H → RepTs K G H ds vs → g ds = some z →
  (∀ v G' H', Up G H G' H' → Rep K G' z v → Q v H') → r vs H Q
/-- .. a new list -/
def CNok (K : PySem.W.Frag) (r : List V → Hp → VK → Prop) (g : List D → Option (List D)) : Prop := ∀ G H vs ds zs (Q : VK), Ex G H → RepTs K G H ds vs → g ds = some zs →
  (∀ p ws G' H', Up G H G' H' → H p = none → G' p = none → H' p = some (.lst ws) → Reps K G' zs ws → Q (.ref p) H') → r vs H Q
structure Blt (X : Cx) (x : Str) (u : Value) (g : List D → Option D) : Prop where
  ex : ∃ r, CallR X u r ∧ Cok X.K r g
  boot : bootBuiltins x = some u
structure BltN (X : Cx) (x : Str) (u : Value) (g : List D → Option (List D)) : Prop where
  ex : ∃ r, CallR X u r ∧ CNok X.K r g
  boot : bootBuiltins x = some u
def eBlt (g : List D → Option D) (f : DL) : DE := fun ρ => (f ρ).bind g
def dBlt (g : List D → Option (List D)) (f : DL) : DL := fun ρ => (f ρ).bind g
variable {x : Str} {es : List Expr} {p : Pos} {fs : DL}
theorem pu_callB {id : String} {g : List D → Option D} (B : Blt X x (.builtin id) g) (hm : X.mg x = none) (ha : RdA X (a :: es) fs) (hg : Gl X x := by rfl) (hn : x ≠ "__name__" := by decide) (hdb : (x == ("__debug__" : Str)) = false := by decide)
    (he : starEach (a :: es) X.env = (false, eval a X.env) :: starEach es X.env := by rfl) (hpl : (backTo pos (starEach es X.env)).any (·.1) = false := by rfl) : PuE X (.Call (.Name x p) (a :: es) [] pos) (eBlt g fs) :=
  let ⟨_, c1, c2⟩ := B.ex; let ⟨_, a1, a2⟩ := ha.ex; ⟨_, pe_callB c1 hg hm B.boot a1 hn hdb he hpl, fun ρ σ G H Q d l r q k => by
    unfold eBlt at q
    cases z : fs ρ with
    | none => rw [z] at q; cases q
    | some ds =>
      rw [z] at q
      refine a2 ρ σ G H _ _ l r z fun vs G1 H1 u1 rvs => ?_
      exact c2 G1 H1 vs ds d Q u1.le rvs q fun v G2 H2 u2 rv => k v G2 H2 (u1.trans u2) rv⟩
theorem pu_callT {T : String} {g : List D → Option D} (B : Blt X x (.type T) g) (hm : X.mg x = none) (ha : RdA X (a :: es) fs) (hg : Gl X x := by rfl) (hn : x ≠ "__name__" := by decide) (hdb : (x == ("__debug__" : Str)) = false := by decide)
    (he : starEach (a :: es) X.env = (false, eval a X.env) :: starEach es X.env := by rfl) (hpl : (backTo pos (starEach es X.env)).any (·.1) = false := by rfl) : PuE X (.Call (.Name x p) (a :: es) [] pos) (eBlt g fs) :=
  let ⟨_, c1, c2⟩ := B.ex; let ⟨_, a1, a2⟩ := ha.ex; ⟨_, pe_callTy c1 hg hm B.boot a1 hn hdb he hpl, fun ρ σ G H Q d l r q k => by
    unfold eBlt at q
    cases z : fs ρ with
    | none => rw [z] at q; cases q
    | some ds =>
      rw [z] at q
      refine a2 ρ σ G H _ _ l r z fun vs G1 H1 u1 rvs => ?_
      exact c2 G1 H1 vs ds d Q u1.le rvs q fun v G2 H2 u2 rv => k v G2 H2 (u1.trans u2) rv⟩
theorem nw_callB {id : String} {g : List D → Option (List D)} (B : BltN X x (.builtin id) g) (hm : X.mg x = none) (ha : RdA X (a :: es) fs) (hg : Gl X x := by rfl) (hn : x ≠ "__name__" := by decide) (hdb : (x == ("__debug__" : Str)) = false := by decide)
    (he : starEach (a :: es) X.env = (false, eval a X.env) :: starEach es X.env := by rfl) (hpl : (backTo pos (starEach es X.env)).any (·.1) = false := by rfl) : NwE X (.Call (.Name x p) (a :: es) [] pos) (dBlt g fs) :=
  let ⟨_, c1, c2⟩ := B.ex; let ⟨_, a1, a2⟩ := ha.ex; ⟨_, pe_callB c1 hg hm B.boot a1 hn hdb he hpl, fun ρ σ G H Q d l r q k => by
    unfold dBlt at q
    cases z : fs ρ with
    | none => rw [z] at q; cases q
    | some ds =>
      rw [z] at q
      refine a2 ρ σ G H _ _ l r z fun vs G1 H1 u1 rvs => ?_
      exact c2 G1 H1 vs ds d Q u1.le rvs q fun p vs G2 H2 u2 n1 n2 h rv => k p vs G2 H2 (u1.trans u2) (u1.h.free n1) n2 h rv⟩
theorem nw_callT {T : String} {g : List D → Option (List D)} (B : BltN X x (.type T) g) (hm : X.mg x = none) (ha : RdA X (a :: es) fs) (hg : Gl X x := by rfl) (hn : x ≠ "__name__" := by decide) (hdb : (x == ("__debug__" : Str)) = false := by decide)
    (he : starEach (a :: es) X.env = (false, eval a X.env) :: starEach es X.env := by rfl) (hpl : (backTo pos (starEach es X.env)).any (·.1) = false := by rfl) : NwE X (.Call (.Name x p) (a :: es) [] pos) (dBlt g fs) :=
  let ⟨_, c1, c2⟩ := B.ex; let ⟨_, a1, a2⟩ := ha.ex; ⟨_, pe_callTy c1 hg hm B.boot a1 hn hdb he hpl, fun ρ σ G H Q d l r q k => by
    unfold dBlt at q
    cases z : fs ρ with
    | none => rw [z] at q; cases q
    | some ds =>
      rw [z] at q
      refine a2 ρ σ G H _ _ l r z fun vs G1 H1 u1 rvs => ?_
      exact c2 G1 H1 vs ds d Q u1.le rvs q fun p vs G2 H2 u2 n1 n2 h rv => k p vs G2 H2 (u1.trans u2) (u1.h.free n1) n2 h rv⟩

/-! ### the built-ins -/
def b1 (g : D → Option D) (ds : List D) : Option D := match ds with | [d] => g d | _ => none
theorem RepTs.one {K : PySem.W.Frag} {G H : Hp} {d : D} {vs : List V} (h : RepTs K G H [d] vs) : ∃ v, vs = [v] ∧ RepT K G H d v := by
  cases h with
  | cons r t => cases t; exact ⟨_, rfl, r⟩
theorem RepTs.two {K : PySem.W.Frag} {G H : Hp} {d e : D} {vs : List V} (h : RepTs K G H [d, e] vs) : ∃ v w, vs = [v, w] ∧ RepT K G H d v ∧ RepT K G H e w := by
  cases h with
  | cons r t => cases t with | cons r' t => cases t; exact ⟨_, _, rfl, r, r'⟩
theorem cok1 {K : PySem.W.Frag} {r : List V → Hp → VK → Prop} {g : D → Option D} (h : ∀ G H v d z (Q : VK), Ex G H → RepT K G H d v → g d = some z → (∀ v G' H', Up G H G' H' → Rep K G' z v → Q v H') → r [v] H Q) : Cok K r (b1 g) := fun G H vs ds z Q l rs q k => by
  match ds, q with
  | [d], q =>
    obtain ⟨v, rfl, rv⟩ := rs.one
    exact h G H v d z Q l rv q k
def gLen (d : D) : Option D := match d with
  | .lst xs => some (.int xs.length) | .tup xs => some (.int xs.length) | .scr ns => some (.int ns.length)
  | .str z => if szB z.length then some (.int z.length) else none | _ => none
theorem b_len : Blt X "len" (.builtin "len") (b1 gLen) := ⟨⟨_, call_len_seq.or call_len_str, cok1 fun G H v d z Q l rv q k => by
  cases d <;> first | cases q | skip
  · rw [rv.str_inv]
    simp only [gLen] at q
    split at q
    · rename_i hz; cases q; exact .inr ⟨_, rfl, szB_le hz, k _ G H (.refl l) (.int _)⟩
    · cases q
  · obtain ⟨p, rfl, hp⟩ := rv.scr_inv l
    refine .inl ⟨p, _, rfl, .inl hp, k _ G H (.refl l) ?_⟩
    rw [List.length_map]; exact .int _
  · obtain ⟨p, vs, rfl, hp, rp⟩ := rv.lst_inv l
    refine .inl ⟨p, vs, rfl, .inl (.of hp), k _ G H (.refl l) ?_⟩
    rw [← rp.length]; exact .int _
  · obtain ⟨p, vs, rfl, hp, rp⟩ := rv.tup_inv
    refine .inl ⟨p, vs, rfl, .inr (.of (l _ _ hp)), k _ G H (.refl l) ?_⟩
    rw [← rp.length]; exact .int _⟩, PySem.boot_len⟩
def gAbs (d : D) : Option D := match d with | .int i => some (.int (if i < 0 then -i else i)) | _ => none
theorem b_abs : Blt X "abs" (.builtin "abs") (b1 gAbs) := ⟨⟨_, call_abs, cok1 fun G H v d z Q l rv q k => by
  cases d <;> first | cases q | skip
  rw [rv.int_inv]
  exact ⟨_, rfl, k _ G H (.refl l) (.int _)⟩⟩, boot_abs⟩
/-- list(x), tuple(x) -/
def gList (ds : List D) : Option (List D) := match ds with | [.lst xs] => some xs | [.tup xs] => some xs | _ => none
theorem b_list : BltN X "list" (.type "list") gList := ⟨⟨_, call_list_of, fun G H vs ds z Q l rs q k => by
  match ds, q with
  | [.lst xs], q =>
    cases q
    obtain ⟨v, rfl, rv⟩ := rs.one
    obtain ⟨p, vs, rfl, hp, rp⟩ := rv.lst_inv l
    exact ⟨p, vs, rfl, .inl (.of hp), fun n hn => k n vs _ _ (.own l hn) hn (l.free hn) upd_same rp⟩
  | [.tup xs], q =>
    cases q
    obtain ⟨v, rfl, rv⟩ := rs.one
    obtain ⟨p, vs, rfl, hp, rp⟩ := rv.tup_inv
    exact ⟨p, vs, rfl, .inr (.of (l _ _ hp)), fun n hn => k n vs _ _ (.own l hn) hn (l.free hn) upd_same rp⟩⟩, boot_list⟩
def gTuple (d : D) : Option D := match d with | .lst xs => some (.tup xs) | .tup xs => some (.tup xs) | _ => none
theorem b_tuple : Blt X "tuple" (.type "tuple") (b1 gTuple) := ⟨⟨_, call_tuple_of, cok1 fun G H v d z Q l rv q k => by
  cases d <;> first | cases q | skip
  · obtain ⟨p, vs, rfl, hp, rp⟩ := rv.lst_inv l
    exact ⟨p, vs, rfl, .inl ⟨.of hp, fun n hn => k _ _ _ (.pure l hn) (.tup upd_same (rp.mono (.new (l.free hn))))⟩⟩
  · obtain ⟨p, vs, rfl, hp, rp⟩ := rv.tup_inv
    exact ⟨p, vs, rfl, .inr ⟨.of (l _ _ hp), k _ G H (.refl l) (.tup hp rp)⟩⟩⟩, boot_tuple⟩
end
end PL

namespace PL
open PySem PySem.Spec PyProof.Rows L2

/-! ## targets -/
theorem slots_ok {is : List Nat} {n : Nat} (h : is.all (fun i => decide (i < n)) = true) : ∀ i ∈ is, i < n := fun i hi => of_decide_eq_true (List.all_eq_true.mp h i hi)
inductive Tg where
  | nm (i : Nat)
  | tp (is : List Nat)
def Tg.slots : Tg → List Nat | .nm i => [i] | .tp is => is
def setAll : List Nat → List D → DEnv → Option DEnv
  | [], [], ρ => some ρ
  | i :: is, d :: ds, ρ => setAll is ds (ρ.set i (.p d))
  | _, _, _ => none
def bindT : Tg → Cell → DEnv → Option DEnv
  | .nm i, c, ρ => some (ρ.set i c)
  | .tp is, .p (.tup ds), ρ => setAll is ds ρ
  | .tp _, _, _ => none
def gNames : List Nat → TGs
  | [] => gNil
  | i :: is => gCons (gName i) (gNames is)
def tgTG (K : PySem.W.Frag) : Tg → TG
  | .nm i => gName i
  | .tp is => gTup K is.length (gNames is)
def stAll : List Nat → List V → L2.St → L2.St
  | i :: is, v :: vs, σ => stAll is vs (σ.set i (some v))
  | _, _, σ => σ
/-- what a target's stores do to the slots -/
inductive StTo (K : PySem.W.Frag) (G : Hp) : Tg → Cell → V → L2.St → L2.St → Prop
  | nm {i : Nat} {c : Cell} {v : V} {σ : L2.St} : StTo K G (.nm i) c v σ (σ.set i (some v))
  | tp {is : List Nat} {ds : List D} {v : V} {vs : List V} {σ : L2.St} : Reps K G ds vs → ds.length = is.length → StTo K G (.tp is) (.p (.tup ds)) v σ (stAll is vs σ)
theorem gNames_ok {K : PySem.W.Frag} {G H : Hp} {Q : L2.St → Hp → Prop} : ∀ {is : List Nat} {ds : List D} {vs : List V} {σ : L2.St}, Reps K G ds vs → ds.length = is.length → Q (stAll is vs σ) H → gNames is vs σ H Q
  | [], [], _, σ, .nil, _, q => ⟨rfl, q⟩
  | i :: is, _ :: _, _, σ, .cons r t, h, q => ⟨_, _, rfl, gNames_ok (is := is) t (by simpa using h) q⟩
theorem setAll_len : ∀ {is : List Nat} {ds : List D} {ρ ρ' : DEnv}, setAll is ds ρ = some ρ' → ds.length = is.length
  | [], [], _, _, _ => rfl
  | i :: is, d :: ds, _, _, h => by rw [List.length_cons, List.length_cons, setAll_len (is := is) (ds := ds) h]
  | [], _ :: _, _, _, h => by cases h
  | _ :: _, [], _, _, h => by cases h
theorem tg_ok {K : PySem.W.Frag} {G H : Hp} (l : Ex G H) {tg : Tg} {c : Cell} {v : V} {ρ ρ' : DEnv} {σ : L2.St} {Q : L2.St → Hp → Prop} (hc : CellE K G H c v) (hb : bindT tg c ρ = some ρ')
    (q : ∀ σ', StTo K G tg c v σ σ' → Q σ' H) : tgTG K tg v σ H Q := by
  cases tg with
  | nm i => exact q _ .nm
  | tp is =>
    cases c <;> first | cases hb | skip
    rename_i d
    cases d <;> first | cases hb | skip
    rename_i ds
    cases hc with
    | tup h r =>
      have e := setAll_len (show setAll is ds ρ = some ρ' from hb)
      exact ⟨_, _, rfl, .of (l _ _ h), by rw [← r.length]; exact e, gNames_ok r e (q _ (.tp r e))⟩
theorem stAll_er {K : PySem.W.Frag} {n : Nat} {G H : Hp} : ∀ {is : List Nat} {ds : List D} {vs : List V} {ρ ρ' : DEnv} {σ : L2.St}, ER K n ρ σ G H → Reps K G ds vs → (∀ i ∈ is, i < n) → setAll is ds ρ = some ρ' → ER K n ρ' (stAll is vs σ) G H
  | [], _, _, _, _, _, r, .nil, _, h => by cases h; exact r
  | i :: is, _, _, _, _, _, r, .cons a t, hl, h =>
    stAll_er (is := is) (r.set (hl i List.mem_cons_self) (show CellE K G H (.p _) _ from a)) t (fun j hj => hl j (List.mem_cons_of_mem _ hj)) h
  | [], _, _, _, _, _, r, .cons _ _, _, h => by cases h
  | _ :: _, _, _, _, _, _, r, .nil, _, h => by cases h
theorem StTo.er {K : PySem.W.Frag} {n : Nat} {G H : Hp} {tg : Tg} {c : Cell} {v : V} {ρ ρ' : DEnv} {σ σ' : L2.St} (s : StTo K G tg c v σ σ') (r : ER K n ρ σ G H) (hc : CellE K G H c v) (hl : ∀ i ∈ tg.slots, i < n) (hb : bindT tg c ρ = some ρ') : ER K n ρ' σ' G H := by
  cases s with
  | nm => cases hb; exact r.set (hl _ (by simp [Tg.slots])) hc
  | tp a e => exact stAll_er r a hl hb
theorem wipe_at (σ : L2.St) (j : Nat) : ∀ vs : List Nat, (wipe σ vs)[j]? = if j ∈ vs ∧ j < σ.length then some none else σ[j]?
  | [] => by simp [wipe]
  | v :: vs => by
    unfold wipe
    by_cases h : v = j
    · subst h
      by_cases hv : v < σ.length
      · rw [List.getElem?_set_self (by rw [wipe_length]; exact hv), if_pos ⟨List.mem_cons_self, hv⟩]
      · rw [if_neg (fun z => hv z.2), List.getElem?_eq_none (by rw [List.length_set, wipe_length]; omega), List.getElem?_eq_none (by omega)]
    · rw [List.getElem?_set_ne h, wipe_at σ j vs]
      have : (j ∈ v :: vs) ↔ j ∈ vs := by
        rw [List.mem_cons]
        exact ⟨fun z => z.elim (fun e => absurd e.symm h) id, .inr⟩
      simp only [this]
theorem wipe_set {σ : L2.St} {vs : List Nat} {i : Nat} {x : Option V} (h : i ∈ vs) : wipe (σ.set i x) vs = wipe σ vs := by
  apply List.ext_getElem?
  intro j
  rw [wipe_at, wipe_at, List.length_set]
  by_cases hj : j ∈ vs ∧ j < σ.length
  · rw [if_pos hj, if_pos hj]
  · rw [if_neg hj, if_neg hj]
    by_cases e : i = j
    · subst e
      rw [List.getElem?_eq_none (by rw [List.length_set]; exact Nat.le_of_not_lt fun z => hj ⟨h, z⟩), List.getElem?_eq_none (Nat.le_of_not_lt fun z => hj ⟨h, z⟩)]
    · rw [List.getElem?_set_ne e]
theorem wipe_wipe {σ : L2.St} {vs : List Nat} : wipe (wipe σ vs) vs = wipe σ vs := by
  apply List.ext_getElem?
  intro j
  rw [wipe_at, wipe_length, wipe_at]
  split <;> rfl
theorem stAll_wipe {vs : List Nat} : ∀ {is : List Nat} {xs : List V} {σ : L2.St}, (∀ i ∈ is, i ∈ vs) → wipe (stAll is xs σ) vs = wipe σ vs
  | [], _, _, _ => by unfold stAll; rfl
  | _ :: _, [], _, _ => by unfold stAll; rfl
  | i :: is, x :: xs, σ, h => by
    unfold stAll
    rw [stAll_wipe (is := is) (fun j hj => h j (List.mem_cons_of_mem _ hj)), wipe_set (h i List.mem_cons_self)]
theorem StTo.wipe {K : PySem.W.Frag} {G : Hp} {tg : Tg} {c : Cell} {v : V} {σ σ' : L2.St} (s : StTo K G tg c v σ σ') {vs : List Nat} (hv : ∀ i ∈ tg.slots, i ∈ vs) : L2.wipe σ' vs = L2.wipe σ vs := by
  cases s with
  | nm => exact wipe_set (hv _ (by simp [Tg.slots]))
  | tp a e => exact stAll_wipe hv

/-! ## what is walked -/
/-- strong: while the frozen part grows | weak: while the heap grows -/
def WalksG (K : PySem.W.Frag) (J : It) (cs : List Cell) (G' : Hp) : Prop := ∀ i G2 H2, Ex G' G2 → Ex G2 H2 →
  (∀ c, cs[i]? = some c → J.go i H2 ∧ ∀ v H3, J.yld i H2 v H3 → ∃ G3, Up G2 H2 G3 H3 ∧ CellE K G3 H3 c v) ∧ (i = cs.length → J.stop i H2)
def WalksH (K : PySem.W.Frag) (J : It) (cs : List Cell) (G' H' : Hp) : Prop := ∀ i G2 H2, Ex G' G2 → Ex H' H2 → Ex G2 H2 →
  (∀ c, cs[i]? = some c → J.go i H2 ∧ ∀ v H3, J.yld i H2 v H3 → ∃ G3, Up G2 H2 G3 H3 ∧ CellE K G3 H3 c v) ∧ (i = cs.length → J.stop i H2)
theorem WalksG.weak {K : PySem.W.Frag} {J : It} {cs : List Cell} {G' H' : Hp} (h : WalksG K J cs G') : WalksH K J cs G' H' := fun i G2 H2 a _ c => h i G2 H2 a c
abbrev DI := DEnv → Option (List Cell)
def TIg (K : PySem.W.Frag) (nn : Nat) (w : TI) (f : DI) : Prop := ∀ ρ σ G H (R : It → Hp → Prop) cs, Ex G H → ER K nn ρ σ G H → f ρ = some cs →
  (∀ J G' H', Up G H G' H' → WalksG K J cs G' → R J H') → w σ H R
def TIh (K : PySem.W.Frag) (nn : Nat) (w : TI) (f : DI) : Prop := ∀ ρ σ G H (R : It → Hp → Prop) cs, Ex G H → ER K nn ρ σ G H → f ρ = some cs →
  (∀ J G' H', Up G H G' H' → WalksH K J cs G' H' → R J H') → w σ H R
structure ItG (X : Cx) (tg iter : Expr) (f : DI) : Prop where
  ex : ∃ w, PI X tg iter w ∧ TIg X.K X.N.length w f
structure ItH (X : Cx) (tg iter : Expr) (f : DI) : Prop where
  ex : ∃ w, PI X tg iter w ∧ TIh X.K X.N.length w f
theorem ItG.weak {X : Cx} {tg iter : Expr} {f : DI} (h : ItG X tg iter f) : ItH X tg iter f := let ⟨_, a, b⟩ := h.ex; ⟨_, a, fun ρ σ G H R cs l r q k => b ρ σ G H R cs l r q fun J G' H' u w => k J G' H' u w.weak⟩

def asL (d : D) : Option (List Cell) := match d with | .lst xs => some (xs.map .p) | _ => none
def asT (d : D) : Option (List Cell) := match d with | .tup xs => some (xs.map .p) | _ => none
def iOf (g : D → Option (List Cell)) (f : DE) : DI := fun ρ => (f ρ).bind g
theorem walks_list {K : PySem.W.Frag} {a : Addr} {vs : List V} {ds : List D} {G' : Hp} (h : G' a = some (.lst vs)) (r : Reps K G' ds vs) : WalksG K (Itl K a) (ds.map .p) G' := fun i G2 H2 g l => by
  have h2 : H2 a = some (.lst vs) := l _ _ (g _ _ h)
  refine ⟨fun c hc => ?_, fun hi => ⟨vs, .of h2, by rw [← r.length]; simpa using Nat.le_of_eq hi.symm⟩⟩
  rw [List.getElem?_map] at hc
  cases z : ds[i]? with
  | none => rw [z] at hc; cases hc
  | some d =>
    rw [z] at hc; cases hc
    obtain ⟨v, h3, h4⟩ := r.get z
    refine ⟨⟨vs, v, .of h2, h3⟩, fun w H3 y => ?_⟩
    obtain ⟨rfl, y⟩ := y
    have e := y vs (.of h2)
    rw [h3] at e; cases e
    exact ⟨G2, .refl l, h4.mono g⟩
theorem walks_tup {K : PySem.W.Frag} {a : Addr} {vs : List V} {ds : List D} {G' : Hp} (h : G' a = some (.tup vs)) (r : Reps K G' ds vs) : WalksG K (Itt K a) (ds.map .p) G' := fun i G2 H2 g l => by
  have h2 : H2 a = some (.tup vs) := l _ _ (g _ _ h)
  refine ⟨fun c hc => ?_, fun hi => ⟨vs, .of h2, by rw [← r.length]; simpa using Nat.le_of_eq hi.symm⟩⟩
  rw [List.getElem?_map] at hc
  cases z : ds[i]? with
  | none => rw [z] at hc; cases hc
  | some d =>
    rw [z] at hc; cases hc
    obtain ⟨v, h3, h4⟩ := r.get z
    refine ⟨⟨vs, v, .of h2, h3⟩, fun w H3 y => ?_⟩
    obtain ⟨rfl, y⟩ := y
    have e := y vs (.of h2)
    rw [h3] at e; cases e
    exact ⟨G2, .refl l, h4.mono g⟩
theorem walks_listH {K : PySem.W.Frag} {a : Addr} {vs : List V} {ds : List D} {G' H' : Hp} (h : H' a = some (.lst vs)) (r : Reps K G' ds vs) : WalksH K (Itl K a) (ds.map .p) G' H' := fun i G2 H2 g hh l => by
  have h2 : H2 a = some (.lst vs) := hh _ _ h
  refine ⟨fun c hc => ?_, fun hi => ⟨vs, .of h2, by rw [← r.length]; simpa using Nat.le_of_eq hi.symm⟩⟩
  rw [List.getElem?_map] at hc
  cases z : ds[i]? with
  | none => rw [z] at hc; cases hc
  | some d =>
    rw [z] at hc; cases hc
    obtain ⟨v, h3, h4⟩ := r.get z
    refine ⟨⟨vs, v, .of h2, h3⟩, fun w H3 y => ?_⟩
    obtain ⟨rfl, y⟩ := y
    have e := y vs (.of h2)
    rw [h3] at e; cases e
    exact ⟨G2, .refl l, h4.mono g⟩
section
variable {X : Cx} {tg e : Expr} {f : DE}
theorem ig_list (h : PuE X e f) : ItG X tg e (iOf asL f) := let ⟨_, a1, a2⟩ := h.ex; ⟨_, pi_list a1, fun ρ σ G H R cs l r q k => by
  unfold iOf at q
  cases z : f ρ with
  | none => rw [z] at q; cases q
  | some d =>
    rw [z] at q
    cases d <;> first | cases q | skip
    refine a2 ρ σ G H _ _ l r z fun v G1 H1 u1 rv => ?_
    cases rv with
    | lst hp rp => exact ⟨_, rfl, ⟨_, .of (u1.le _ _ hp)⟩, k _ G1 H1 u1 (walks_list hp rp)⟩⟩
theorem ig_tup (h : PuE X e f) : ItG X tg e (iOf asT f) := let ⟨_, a1, a2⟩ := h.ex; ⟨_, pi_tup a1, fun ρ σ G H R cs l r q k => by
  unfold iOf at q
  cases z : f ρ with
  | none => rw [z] at q; cases q
  | some d =>
    rw [z] at q
    cases d <;> first | cases q | skip
    refine a2 ρ σ G H _ _ l r z fun v G1 H1 u1 rv => ?_
    cases rv with
    | tup hp rp => exact ⟨_, rfl, ⟨_, .of (u1.le _ _ hp)⟩, k _ G1 H1 u1 (walks_tup hp rp)⟩⟩
theorem ih_list (h : RdE X e f) : ItH X tg e (iOf asL f) := let ⟨_, a1, a2⟩ := h.ex; ⟨_, pi_list a1, fun ρ σ G H R cs l r q k => by
  unfold iOf at q
  cases z : f ρ with
  | none => rw [z] at q; cases q
  | some d =>
    rw [z] at q
    cases d <;> first | cases q | skip
    refine a2 ρ σ G H _ _ l r z fun v G1 H1 u1 rv => ?_
    obtain ⟨p, vs, rfl, hp, rp⟩ := rv.lst_inv u1.le
    exact ⟨_, rfl, ⟨_, .of hp⟩, k _ G1 H1 u1 (walks_listH hp rp)⟩⟩
/-- an own list of lists, in a comprehension -/
def iLL (i : Nat) : DI := fun ρ => match ρ i with | some (.oll xss) => some (xss.map .ol) | _ => none
theorem ih_LL (i : Nat) {x : Str} {pos : Pos} (hN : X.N[i]? = some x := by rfl) (hv : Vis X.env.scope x := by first | exact Or.inl rfl | exact Or.inr (Or.inl rfl) | exact Or.inr (Or.inr rfl)) (hd : (x == ("__debug__" : Str)) = false := by decide)
    (hcd : (x == ("__classdict__" : Str)) = false := by decide) : ItH X tg (.Name x pos) (iLL i) := ⟨_, pi_list (pe_var hN hv hd hcd), fun ρ σ G H R cs l r q k => by
  unfold iLL at q
  cases z : ρ i with
  | none => rw [z] at q; cases q
  | some c =>
    rw [z] at q
    cases c <;> first | cases q | skip
    rename_i xss
    obtain ⟨v, h1, p, bs, rfl, hp, hb⟩ := r.at_ i _ z
    refine ⟨_, h1, p, rfl, ⟨_, .of hp⟩, k _ G H (.refl l) fun j G2 H2 g hh l2 => ?_⟩
    have h2 : H2 p = some (.lst (bs.map V.ref)) := hh _ _ hp
    have hl : bs.length = xss.length := Paired.length hb
    refine ⟨fun c hc => ?_, fun hi => ⟨_, .of h2, by simpa [hl] using Nat.le_of_eq hi.symm⟩⟩
    rw [List.getElem?_map] at hc
    cases z2 : xss[j]? with
    | none => rw [z2] at hc; cases hc
    | some xs =>
      rw [z2] at hc; cases hc
      obtain ⟨b, y1, vs, y2, y3⟩ := paired_get hb z2
      have y4 : (bs.map V.ref)[j]? = some (.ref b) := by rw [List.getElem?_map, y1]; rfl
      refine ⟨⟨_, _, .of h2, y4⟩, fun w H3 y => ?_⟩
      obtain ⟨rfl, y⟩ := y
      have e := y _ (.of h2)
      rw [y4] at e; cases e
      exact ⟨G2, .refl l2, ⟨b, vs, rfl, hh _ _ y2, y3.mono g⟩⟩⟩
/-! ### ranges -/
def rngCells (lo : Int) (n : Nat) : List Cell := (List.range n).map fun i => .p (.int (lo + (i : Nat)))
def iRng (lo hi : DE) : DI := fun ρ => match lo ρ, hi ρ with
  | some (.int a), some (.int b) => if -1000000000 ≤ a ∧ a ≤ 1000000000 ∧ -1000000000 ≤ b ∧ b ≤ 1000000000 then some (rngCells a (b - a).toNat) else none
  | _, _ => none
theorem walks_rng {K : PySem.W.Frag} {lo : Int} {n : Nat} {G' : Hp} : WalksG K (Itr lo n) (rngCells lo n) G' := fun i G2 H2 g l => by
  refine ⟨fun c hc => ?_, fun hi => (show n ≤ i by simpa [rngCells] using Nat.le_of_eq hi.symm)⟩
  unfold rngCells at hc
  rw [List.getElem?_map] at hc
  by_cases hi : i < n
  · rw [List.getElem?_range hi] at hc; cases hc
    exact ⟨hi, fun w H3 y => by obtain ⟨rfl, rfl⟩ := y; exact ⟨G2, .refl l, .int _⟩⟩
  · rw [List.getElem?_eq_none (by simp; omega)] at hc; cases hc
theorem pow62 : (2 : Int) ^ 62 = 4611686018427387904 := by decide
variable {a b : Expr} {fa fb : DE} {p pos : Pos}
theorem ig_range2 (hm : X.mg "range" = none) (ha : RdE X a fa) (hb : RdE X b fb) (hg : Gl X "range" := by rfl) (hs : starEach [a, b] X.env = [(false, eval a X.env), (false, eval b X.env)] := by rfl) (hs2 : starEach [b] X.env = [(false, eval b X.env)] := by rfl)
    (hs3 : starEach (a :: [b]) X.env = (false, eval a X.env) :: starEach [b] X.env := by rfl) (hs4 : starEach (b :: []) X.env = (false, eval b X.env) :: starEach [] X.env := by rfl) : ItG X tg (.Call (.Name "range" p) [a, b] [] pos) (iRng fa fb) :=
  let ⟨_, a1, a2⟩ := (ra_cons ha (ra_cons hb ra_nil hs4) hs3).ex; ⟨_, pi_range2 hg hm a1 hs hs2, fun ρ σ G H R cs l r q k => by
  unfold iRng at q
  split at q
  · rename_i x y e1 e2
    split at q
    · rename_i hB
      cases q
      refine a2 ρ σ G H _ [.int x, .int y] l r (by simp [dCons, dNil, e1, e2]) fun vs G1 H1 u1 rvs => ?_
      obtain ⟨v, w, rfl, rv, rw'⟩ := rvs.two
      rw [rv.int_inv, rw'.int_inv]
      refine ⟨x, y, rfl, ?_, k _ G1 H1 u1 walks_rng⟩
      rw [pow62]; omega
    · cases q
  · cases q⟩
theorem ig_range1 (hm : X.mg "range" = none) (ha : RdE X a fa) (hg : Gl X "range" := by rfl) (hs : starEach [a] X.env = [(false, eval a X.env)] := by rfl) 
    (hs3 : starEach (a :: []) X.env = (false, eval a X.env) :: starEach [] X.env := by rfl) : ItG X tg (.Call (.Name "range" p) [a] [] pos) (iRng (eC (.int 0)) fa) :=
  let ⟨_, a1, a2⟩ := (ra_cons ha ra_nil hs3).ex; ⟨_, pi_range1 hg hm a1 hs, fun ρ σ G H R cs l r q k => by
  unfold iRng at q
  split at q
  · rename_i x y e1 e2
    cases e1
    split at q
    · rename_i hB
      cases q
      refine a2 ρ σ G H _ [.int y] l r (by simp [dCons, dNil, e2]) fun vs G1 H1 u1 rvs => ?_
      obtain ⟨v, rfl, rv⟩ := rvs.one
      rw [rv.int_inv]
      refine ⟨y, rfl, by rw [pow62]; omega, by rw [pow62]; omega, ?_⟩
      have e : (y - 0).toNat = y.toNat := by simp
      rw [e] at k
      exact k _ G1 H1 u1 walks_rng
    · cases q
  · cases q⟩
end

/-! ## comprehensions -/
def compL (tg : Tg) (ws : List Nat) (cond : DB) (elt : DE) (ρ : DEnv) : List Cell → Option (List D)
  | [] => some []
  | c :: cs => (bindT tg c (ρ.wipe ws)).bind fun ρ1 => (cond ρ1).bind fun b => if b = true then (elt ρ1).bind fun d => (compL tg ws cond elt ρ cs).map fun ds => d :: ds else compL tg ws cond elt ρ cs
def eComp (it : DI) (tg : Tg) (ws : List Nat) (cond : DB) (elt : DE) : DL := fun ρ => (it ρ).bind fun cs => (compL tg ws cond elt ρ cs).bind fun ds => if szB ds.length then some ds else none
def bYes : DB := fun _ => some true
structure PuTs (X : Cx) (ifs : List Expr) (f : DB) : Prop where
  ex : ∃ t, PTs X ifs t ∧ TTok X.K X.N.length t f
theorem pts_no {X : Cx} : PuTs X [] bYes := ⟨_, pts_nil, fun ρ σ G H Q b l r q k => by cases q; exact k G H (.refl l)⟩
theorem pts_if {X : Cx} {c : Expr} {f : DB} (h : PuT X c f) : PuTs X [c] f := let ⟨_, a1, a2⟩ := h.ex; ⟨_, pts_one a1, a2⟩
theorem te_comp {K : PySem.W.Frag} {nn : Nat} {wi : TI} {it : DI} {tt : TT} {cond : DB} {te : TE} {elt : DE} {tg : Tg} {ws : List Nat} (hi : TIh K nn wi it) (ht : TTok K nn tt cond) (he : TEok K nn te elt) (hs : ∀ i ∈ tg.slots, i < nn) (hw : ∀ i ∈ tg.slots, i ∈ ws) :
    TNok K nn (tLc wi (tgTG K tg) tt te ws) (eComp it tg ws cond elt) := fun ρ σ G H Q ds l r q k => by
  unfold eComp at q
  cases z : it ρ with
  | none => rw [z] at q; cases q
  | some cs =>
    rw [z] at q
    cases z2 : compL tg ws cond elt ρ cs with
    | none => simp only [Option.bind_some, z2] at q; cases q
    | some out =>
      simp only [Option.bind_some, z2] at q
      split at q
      · rename_i hz
        cases q
        refine hi ρ σ G H _ cs l r z fun J G1 H1 u1 wk => ?_
        intro Dl hD
        have r1 := r.up u1
        -- the invariant: a heap that grows but for Dl
        let Inv : Nat → Hp → Prop := fun i H' => ∃ G' vs done rest, Up G1 H1 G' H' ∧ G' Dl = none ∧ H' Dl = some (.lst vs) ∧ Reps K G' done vs ∧ ds = done ++ rest ∧ compL tg ws cond elt ρ (cs.drop i) = some rest
        refine ⟨fun i m H' => m = cs.length - i ∧ i ≤ cs.length ∧ Inv i H', ⟨cs.length, by simp, Nat.zero_le _, G1, [], [], ds, .own u1.le hD, u1.le.free hD, upd_same, .nil, by simp, by simpa using z2⟩, ?_⟩
        rintro i m H' ⟨rfl, hi, G', vs, done, rest, u, gD, hd, rv, e, cr⟩
        have w := wk i G' H' u.g u.h u.le
        by_cases hlt : i < cs.length
        · right
          obtain ⟨go, yl⟩ := w.1 cs[i] (List.getElem?_eq_getElem hlt)
          refine ⟨go, fun H2 => Inv (i + 1) H2, fun H2 q => ⟨cs.length - (i + 1), by omega, rfl, hlt, q⟩, fun x H2 y => ?_⟩
          obtain ⟨G3, u3, cx⟩ := yl x H2 y
          rw [List.drop_eq_getElem_cons hlt] at cr
          unfold compL at cr
          cases z3 : bindT tg cs[i] (ρ.wipe ws) with
          | none => rw [z3] at cr; cases cr
          | some ρ1 =>
            rw [z3] at cr
            refine tg_ok u3.le cx z3 fun σ2 st => ?_
            refine ⟨(st.wipe hw).trans wipe_wipe, ?_⟩
            have r2 : ER K nn ρ1 σ2 G3 H2 := st.er ((r1.up (u.trans u3)).wipe) cx hs z3
            cases z4 : cond ρ1 with
            | none => simp only [Option.bind_some, z4] at cr; cases cr
            | some b =>
              simp only [Option.bind_some, z4] at cr
              refine ht ρ1 σ2 G3 H2 _ b u3.le r2 z4 fun G4 H4 u4 => ?_
              have u5 := u3.trans u4
              cases b with
              | false =>
                rw [if_neg Bool.false_ne_true] at cr ⊢
                exact ⟨G4, vs, done, rest, u.trans u5, u5.new _ _ hd gD, u5.h _ _ hd, rv.mono u5.g, e, cr⟩
              | true =>
                rw [if_pos rfl] at cr ⊢
                cases z5 : elt ρ1 with
                | none => rw [z5] at cr; cases cr
                | some d =>
                  rw [z5] at cr
                  refine he ρ1 σ2 G4 H4 _ d u4.le (r2.up u4) z5 fun v G6 H6 u6 rv6 => ?_
                  have u7 := u5.trans u6
                  cases z6 : compL tg ws cond elt ρ (cs.drop (i + 1)) with
                  | none => simp only [Option.bind_some, z6] at cr; cases cr
                  | some rest' =>
                    simp only [Option.bind_some, z6, Option.map_some] at cr
                    cases cr
                    have g6 : G6 Dl = none := u7.new _ _ hd gD
                    refine ⟨vs, u7.h _ _ hd, ?_, G6, vs ++ [v], done ++ [d], rest', ?_, g6, upd_same, (rv.mono u7.g).append (.cons rv6 .nil), by rw [e]; simp, z6⟩
                    · have h1 : ds.length ≤ sizeLine := szB_le hz
                      rw [← rv.length]
                      rw [e, List.length_append, List.length_cons] at h1
                      omega
                    · exact ⟨(u.trans u7).g, (u.trans u7).h.updR hD, u7.le.updR g6, (u.trans u7).new⟩
        · left
          have ei : i = cs.length := by omega
          subst ei
          refine ⟨w.2 rfl, ?_⟩
          rw [List.drop_length] at cr
          cases cr
          rw [List.append_nil] at e
          subst e
          exact k Dl vs G' H' (u1.trans u) (u1.h.free hD) gD hd rv
      · cases q
section
variable {X : Cx} {elt tgE iter : Expr} {ifs : List Expr} {scope : Scope} {own : List (Str × Nat)} {pos : Pos} {it : DI} {tg : Tg} {cond : DB} {fe : DE}
theorem nw_comp (tg : Tg) (hc : X.calm = true) (hN : X.N.Nodup) (hi : ItH X tgE iter it) (ok : blkC X.N X.env.scope scope own = true)
    (hg : ∀ (s : Shared) (H : Hp) (C : Addr) (cl : List (Str × Addr)) (fp : List Addr), PG (X.blk s H scope (compEnvC scope cl C X.env) fp) tgE (tgTG X.K tg))
    (ht : ∀ (s : Shared) (H : Hp) (C : Addr) (cl : List (Str × Addr)) (fp : List Addr), PuTs (X.blk s H scope (compEnvC scope cl C X.env) fp) ifs cond)
    (he : ∀ (s : Shared) (H : Hp) (C : Addr) (cl : List (Str × Addr)) (fp : List Addr), PuE (X.blk s H scope (compEnvC scope cl C X.env) fp) elt fe)
    (hsl : ∀ i ∈ tg.slots, i < X.N.length) (hw : ∀ i ∈ tg.slots, i ∈ own.map (·.2)) (hs : ∀ x, foldedSetIterable iter X.env x = pure x := by intro _; rfl) :
    NwE X (.ListComp elt [⟨tgE, iter, ifs, 0⟩] scope pos) (eComp it tg (own.map (·.2)) cond fe) := by
  obtain ⟨wi, i1, i2⟩ := hi.ex
  -- one reading for every block: the weakest that all parts share
  refine ⟨tLc wi (tgTG X.K tg) (fun σ H Q => ∀ t, (∀ (s : Shared) (H : Hp) (C : Addr) (cl : List (Str × Addr)) (fp : List Addr), True) → TTok X.K X.N.length t cond → t σ H Q) (fun σ H Q => ∀ t, TEok X.K X.N.length t fe → t σ H Q) (own.map (·.2)), ?_, ?_⟩
  · refine pe_lc hc hN i1 (blkOk_by ok) hg (fun s H C cl fp => ?_) (fun s H C cl fp => ?_) hs
    · obtain ⟨t, a1, a2⟩ := (ht s H C cl fp).ex
      exact ⟨fun pins s' σ H' Q I h => a1.run pins s' σ H' Q I (h t (fun _ _ _ _ _ => trivial) a2)⟩
    · obtain ⟨t, a1, a2⟩ := (he s H C cl fp).ex
      exact ⟨fun pins s' σ H' Q I h => a1.run pins s' σ H' Q I (h t a2)⟩
  · exact te_comp i2 (fun ρ σ G H Q b l r q k t _ ok => ok ρ σ G H Q b l r q k) (fun ρ σ G H Q d l r q k t ok => ok ρ σ G H Q d l r q k) hsl hw
end
end PL

namespace PL
open PySem PySem.Spec PyProof.Rows L2

/-! ## the state of a body -/
/-- what an own cell stands on: fresh to the frozen part and to the caller -/
def OwnC (G H H0 : Hp) : Cell → V → Prop
  | .p _, _ => True
  | .oll _, v => ∀ (p : Addr) (bs : List Addr), v = .ref p → H p = some (.lst (bs.map V.ref)) → (G p = none ∧ H0 p = none) ∧ bs.Nodup ∧ p ∉ bs ∧ ∀ b ∈ bs, G b = none ∧ H0 b = none
  | .rb b _, _ => ∃ u, H0 b = some u
  | .rf _, _ => True
  | _, v => ∀ a : Addr, v = .ref a → G a = none ∧ H0 a = none
def Foot (H : Hp) : Cell → V → Addr → Prop
  | .p _, _, _ => False
  | .rb _ _, _, _ => False
  | .rf _, _, _ => False
  | .oll _, v, a => v = .ref a ∨ ∃ (p : Addr) (bs : List Addr), v = .ref p ∧ H p = some (.lst (bs.map V.ref)) ∧ a ∈ bs
  | _, v, a => v = .ref a
structure SR (K : PySem.W.Frag) (nn : Nat) (G0 H0 : Hp) (ρ : DEnv) (σ : L2.St) (G H : Hp) : Prop where
  er : ER K nn ρ σ G H
  up : Up G0 H0 G H
  own : ∀ i c v, ρ i = some c → σ[i]? = some (some v) → OwnC G H H0 c v
  dist : ∀ i j c c' v v' a, ρ i = some c → ρ j = some c' → σ[i]? = some (some v) → σ[j]? = some (some v') → Foot H c v a → Foot H c' v' a → i = j
theorem refs_inj : ∀ {bs bs' : List Addr}, bs.map V.ref = bs'.map V.ref → bs = bs'
  | [], [], _ => rfl
  | [], _ :: _, h => by cases h
  | _ :: _, [], h => by cases h
  | b :: bs, b' :: bs', h => by
    rw [List.map_cons, List.map_cons] at h
    injection h with h1 h2
    injection h1 with h1
    rw [h1, refs_inj h2]
theorem lst_inj {H : Hp} {a : Addr} {vs ws : List V} (h : H a = some (.lst vs)) (h' : H a = some (.lst ws)) : vs = ws := by
  rw [h] at h'; exact HO.lst.inj (Option.some.inj h')
/-- an own cell's objects stand in the heap -/
theorem foot_there {K : PySem.W.Frag} {G H : Hp} {c : Cell} {v : V} {a : Addr} (h : CellE K G H c v) (f : Foot H c v a) : ∃ o, H a = some o := by
  cases c with
  | p _ => exact f.elim
  | ol _ => obtain ⟨p, vs, rfl, e, _⟩ := h; cases f; exact ⟨_, e⟩
  | ob _ => obtain ⟨p, vs, rfl, e, _⟩ := h; cases f; exact ⟨_, e⟩
  | rb _ _ => exact f.elim
  | rf _ => exact f.elim
  | od _ => obtain ⟨p, rfl, e⟩ := h; cases f; exact ⟨_, e⟩
  | oi _ => obtain ⟨p, rfl, e⟩ := h; cases f; exact ⟨_, e⟩
  | oll xss =>
    obtain ⟨p, bs, rfl, e, hb⟩ := h
    rcases f with f | ⟨p', bs', f, e', m⟩
    · cases f; exact ⟨_, e⟩
    · cases f
      have := refs_inj (lst_inj e e')
      subst this
      obtain ⟨j, hj, ej⟩ := List.mem_iff_getElem.mp m
      have hl : bs.length = xss.length := Paired.length hb
      obtain ⟨b, y1, vs, y2, _⟩ := paired_get hb (List.getElem?_eq_getElem (by omega : j < xss.length))
      rw [List.getElem?_eq_getElem hj, ej] at y1
      cases y1
      exact ⟨_, y2⟩
theorem foot_up {K : PySem.W.Frag} {G H H' : Hp} (h : Ex H H') {c : Cell} {v : V} {a : Addr} (hc : CellE K G H c v) (f : Foot H' c v a) : Foot H c v a := by
  cases c with
  | p _ => exact f
  | ol _ => exact f
  | ob _ => exact f
  | rb _ _ => exact f
  | rf _ => exact f
  | od _ => exact f
  | oi _ => exact f
  | oll xss =>
    obtain ⟨p, bs, rfl, e, hb⟩ := hc
    rcases f with f | ⟨p', bs', f, e', m⟩
    · exact .inl f
    · cases f
      have := refs_inj (lst_inj (h _ _ e) e')
      subst this
      exact .inr ⟨p, bs, rfl, e, m⟩
section
variable {K : PySem.W.Frag} {nn : Nat} {G0 H0 G H G' H' : Hp} {ρ : DEnv} {σ : L2.St}
theorem OwnC.step {c : Cell} {v : V} (hc : CellE K G H c v) (u : Up G H G' H') (o : OwnC G H H0 c v) : OwnC G' H' H0 c v := by
  cases c with
  | p _ => trivial
  | ol _ => obtain ⟨p, vs, rfl, e, _⟩ := hc; intro a ea; cases ea; have := o p rfl; exact ⟨u.new _ _ e this.1, this.2⟩
  | ob _ => obtain ⟨p, vs, rfl, e, _⟩ := hc; intro a ea; cases ea; have := o p rfl; exact ⟨u.new _ _ e this.1, this.2⟩
  | rb _ _ => exact o
  | rf _ => exact o
  | od _ => obtain ⟨p, rfl, e⟩ := hc; intro a ea; cases ea; have := o p rfl; exact ⟨u.new _ _ e this.1, this.2⟩
  | oi _ => obtain ⟨p, rfl, e⟩ := hc; intro a ea; cases ea; have := o p rfl; exact ⟨u.new _ _ e this.1, this.2⟩
  | oll xss =>
    have hc' := hc
    obtain ⟨p, bs, rfl, e, hb⟩ := hc
    intro p' bs' ep e'
    cases ep
    have := refs_inj (lst_inj (u.h _ _ e) e')
    subst this
    obtain ⟨q1, q2, q3, q4⟩ := o p bs rfl e
    refine ⟨⟨u.new _ _ e q1.1, q1.2⟩, q2, q3, fun b hbm => ?_⟩
    obtain ⟨o', eo⟩ := foot_there hc' (.inr ⟨p, bs, rfl, e, hbm⟩)
    exact ⟨u.new _ _ eo (q4 b hbm).1, (q4 b hbm).2⟩
/-- behind an expression -/
theorem SR.step (s : SR K nn G0 H0 ρ σ G H) (u : Up G H G' H') : SR K nn G0 H0 ρ σ G' H' where
  er := s.er.up u
  up := s.up.trans u
  own := fun i c v h1 h2 => by
    obtain ⟨v', e, hc⟩ := s.er.at_ i c h1
    rw [h2] at e; cases e
    exact (s.own i c v h1 h2).step hc u
  dist := fun i j c c' v v' a h1 h2 h3 h4 f f' => by
    obtain ⟨w, e, hc⟩ := s.er.at_ i c h1
    rw [h3] at e; cases e
    obtain ⟨w', e', hc'⟩ := s.er.at_ j c' h2
    rw [h4] at e'; cases e'
    exact s.dist i j c c' v v' a h1 h2 h3 h4 (foot_up u.h hc f) (foot_up u.h hc' f')
theorem DEnv.set_self (ρ : DEnv) (i : Nat) (c : Cell) : ρ.set i c i = some c := by unfold DEnv.set; rw [if_pos rfl]
theorem DEnv.set_ne (ρ : DEnv) {i j : Nat} (c : Cell) (h : j ≠ i) : ρ.set i c j = ρ j := by unfold DEnv.set; rw [if_neg h]
/-- a slot is stored -/
theorem SR.set {i : Nat} {c : Cell} {v : V} (s : SR K nn G0 H0 ρ σ G H) (hi : i < nn) (hc : CellE K G H c v) (ho : OwnC G H H0 c v)
    (hd : ∀ j c' v' a, j ≠ i → ρ j = some c' → σ[j]? = some (some v') → Foot H c v a → Foot H c' v' a → False) : SR K nn G0 H0 (ρ.set i c) (σ.set i (some v)) G H := by
  have hg : ∀ j, j ≠ i → (σ.set i (some v))[j]? = σ[j]? := fun j hj => List.getElem?_set_ne (Ne.symm hj)
  have hs : (σ.set i (some v))[i]? = some (some v) := List.getElem?_set_self (by rw [s.er.len]; exact hi)
  refine ⟨s.er.set hi hc, s.up, fun j c' v' h1 h2 => ?_, fun j k c1 c2 v1 v2 a h1 h2 h3 h4 f1 f2 => ?_⟩
  · by_cases e : j = i
    · subst e
      rw [DEnv.set_self] at h1; cases h1
      rw [hs] at h2; cases h2
      exact ho
    · rw [DEnv.set_ne _ _ e] at h1
      rw [hg j e] at h2
      exact s.own j c' v' h1 h2
  · by_cases ej : j = i
    · by_cases ek : k = i
      · rw [ej, ek]
      · subst ej
        rw [DEnv.set_self] at h1; cases h1
        rw [hs] at h3; cases h3
        rw [DEnv.set_ne _ _ ek] at h2
        rw [hg k ek] at h4
        exact (hd k c2 v2 a ek h2 h4 f1 f2).elim
    · by_cases ek : k = i
      · subst ek
        rw [DEnv.set_self] at h2; cases h2
        rw [hs] at h4; cases h4
        rw [DEnv.set_ne _ _ ej] at h1
        rw [hg j ej] at h3
        exact (hd j c1 v1 a ej h1 h3 f2 f1).elim
      · rw [DEnv.set_ne _ _ ej] at h1
        rw [DEnv.set_ne _ _ ek] at h2
        rw [hg j ej] at h3
        rw [hg k ek] at h4
        exact s.dist j k c1 c2 v1 v2 a h1 h2 h3 h4 f1 f2
theorem SR.setP {i : Nat} {d : D} {v : V} (s : SR K nn G0 H0 ρ σ G H) (hi : i < nn) (hc : Rep K G d v) : SR K nn G0 H0 (ρ.set i (.p d)) (σ.set i (some v)) G H :=
  s.set hi hc trivial fun _ _ _ _ _ _ _ f _ => f.elim
theorem SR.stAll : ∀ {is : List Nat} {ds : List D} {vs : List V} {ρ ρ' : DEnv} {σ : L2.St}, SR K nn G0 H0 ρ σ G H → Reps K G ds vs → (∀ i ∈ is, i < nn) → setAll is ds ρ = some ρ' → SR K nn G0 H0 ρ' (stAll is vs σ) G H
  | [], _, _, _, _, _, r, .nil, _, h => by cases h; exact r
  | i :: is, _, _, _, _, _, r, .cons a t, hl, h =>
    SR.stAll (is := is) (r.setP (hl i List.mem_cons_self) a) t (fun j hj => hl j (List.mem_cons_of_mem _ hj)) h
  | [], _, _, _, _, _, r, .cons _ _, _, h => by cases h
  | _ :: _, _, _, _, _, _, r, .nil, _, h => by cases h
theorem StTo.sr {tg : Tg} {d : D} {v : V} {ρ' : DEnv} {σ' : L2.St} (s : StTo K G tg (.p d) v σ σ') (r : SR K nn G0 H0 ρ σ G H) (hc : Rep K G d v) (hl : ∀ i ∈ tg.slots, i < nn) (hb : bindT tg (.p d) ρ = some ρ') : SR K nn G0 H0 ρ' σ' G H := by
  cases s with
  | nm => cases hb; exact r.setP (hl _ (by simp [Tg.slots])) hc
  | tp a e => exact SR.stAll r a hl hb
/-- an own object at a is written -/
theorem SR.write {i : Nat} {c : Cell} {a : Addr} {o : HO} (s : SR K nn G0 H0 ρ σ G H) (hi : i < nn) {c0 : Cell} {v : V} (h0 : ρ i = some c0) (hv : σ[i]? = some (some v)) (hf : Foot H c0 v a) (ha : G a = none ∧ H0 a = none)
    (hc : CellE K G (upd H a o) c v) (ho : OwnC G (upd H a o) H0 c v) (hF : ∀ b, Foot (upd H a o) c v b → Foot H c0 v b)
    (hk : ∀ xss, c0 = .oll xss → ∀ (p : Addr) (bs : List Addr), v = .ref p → H p = some (.lst (bs.map V.ref)) → True) : SR K nn G0 H0 (ρ.set i c) σ G (upd H a o) := by
  have hne : ∀ j c' v' b, j ≠ i → ρ j = some c' → σ[j]? = some (some v') → Foot H c' v' b → b ≠ a := fun j c' v' b hj h1 h2 f e => by
    subst e
    exact hj (s.dist j i c' c0 v' v b h1 h0 h2 hv f hf)
  have hcell : ∀ j c' v', j ≠ i → ρ j = some c' → σ[j]? = some (some v') → CellE K G H c' v' → CellE K G (upd H a o) c' v' := fun j c' v' hj h1 h2 hE => by
    cases c' with
    | p _ => exact hE
    | ol _ => obtain ⟨p, vs, rfl, e, r⟩ := hE; exact ⟨p, vs, rfl, by rw [upd_ne (hne j _ _ p hj h1 h2 rfl)]; exact e, r⟩
    | ob _ => obtain ⟨p, vs, rfl, e, r⟩ := hE; exact ⟨p, vs, rfl, by rw [upd_ne (hne j _ _ p hj h1 h2 rfl)]; exact e, r⟩
    | rb b _ =>
      obtain ⟨rfl, z, e, r⟩ := hE
      have hb : b ≠ a := fun eb => by
        obtain ⟨u, hu⟩ := s.own j _ _ h1 h2
        rw [eb, ha.2] at hu; cases hu
      exact ⟨rfl, z, by rw [upd_ne hb]; exact e, r⟩
    | rf _ => exact hE
    | od _ => obtain ⟨p, rfl, e⟩ := hE; exact ⟨p, rfl, by rw [upd_ne (hne j _ _ p hj h1 h2 rfl)]; exact e⟩
    | oi _ => obtain ⟨p, rfl, e⟩ := hE; exact ⟨p, rfl, by rw [upd_ne (hne j _ _ p hj h1 h2 rfl)]; exact e⟩
    | oll xss =>
      obtain ⟨p, bs, rfl, e, hb⟩ := hE
      refine ⟨p, bs, rfl, by rw [upd_ne (hne j _ _ p hj h1 h2 (.inl rfl))]; exact e, ?_⟩
      have hmem : ∀ b ∈ bs, b ≠ a := fun b hb' => hne j _ _ b hj h1 h2 (.inr ⟨p, bs, rfl, e, hb'⟩)
      clear e h1
      induction hb with
      | nil => exact .nil
      | cons r t ih =>
        obtain ⟨vs, y1, y2⟩ := r
        exact .cons ⟨vs, by rw [upd_ne (hmem _ List.mem_cons_self)]; exact y1, y2⟩ (ih fun b hb' => hmem b (List.mem_cons_of_mem _ hb'))
  have hfoot : ∀ j c' v' b, j ≠ i → ρ j = some c' → σ[j]? = some (some v') → CellE K G H c' v' → Foot (upd H a o) c' v' b → Foot H c' v' b := fun j c' v' b hj h1 h2 hE f => by
    cases c' with
    | p _ => exact f
    | ol _ => exact f
    | ob _ => exact f
    | rb _ _ => exact f
    | rf _ => exact f
    | od _ => exact f
    | oi _ => exact f
    | oll xss =>
      obtain ⟨p, bs, rfl, e, hb⟩ := hE
      rcases f with f | ⟨p', bs', f, e', m⟩
      · exact .inl f
      · cases f
        rw [upd_ne (hne j _ _ p hj h1 h2 (.inl rfl))] at e'
        exact .inr ⟨p, bs', rfl, e', m⟩
  have hown : ∀ j c' v', j ≠ i → ρ j = some c' → σ[j]? = some (some v') → OwnC G H H0 c' v' → OwnC G (upd H a o) H0 c' v' := fun j c' v' hj h1 h2 hO => by
    cases c' with
    | p _ => trivial
    | ol _ => exact hO
    | ob _ => exact hO
    | rb _ _ => exact hO
    | rf _ => exact hO
    | od _ => exact hO
    | oi _ => exact hO
    | oll xss =>
      intro p bs ep e
      subst ep
      rw [upd_ne (hne j _ _ p hj h1 h2 (.inl rfl))] at e
      exact hO p bs rfl e
  refine ⟨⟨s.er.len, fun j c' h1 => ?_⟩, ⟨s.up.g, s.up.h.updR ha.2, s.up.le.updR ha.1, s.up.new⟩, fun j c' v' h1 h2 => ?_, fun j k c1 c2 v1 v2 b h1 h2 h3 h4 f1 f2 => ?_⟩
  · by_cases e : j = i
    · subst e
      rw [DEnv.set_self] at h1; cases h1
      exact ⟨v, hv, hc⟩
    · rw [DEnv.set_ne _ _ e] at h1
      obtain ⟨w, h2, h3⟩ := s.er.at_ j c' h1
      exact ⟨w, h2, hcell j c' w e h1 h2 h3⟩
  · by_cases e : j = i
    · subst e
      rw [DEnv.set_self] at h1; cases h1
      rw [hv] at h2; cases h2
      exact ho
    · rw [DEnv.set_ne _ _ e] at h1
      exact hown j c' v' e h1 h2 (s.own j c' v' h1 h2)
  · have conv : ∀ j c' v', (ρ.set i c) j = some c' → σ[j]? = some (some v') → Foot (upd H a o) c' v' b → ∃ c'', ρ j = some c'' ∧ Foot H c'' v' b := fun j c' v' y1 y2 f => by
      by_cases e : j = i
      · subst e
        rw [DEnv.set_self] at y1; cases y1
        rw [hv] at y2; cases y2
        exact ⟨c0, h0, hF b f⟩
      · rw [DEnv.set_ne _ _ e] at y1
        obtain ⟨w, y2', y3⟩ := s.er.at_ j c' y1
        rw [y2] at y2'; cases y2'
        exact ⟨c', y1, hfoot j c' v' b e y1 y2 y3 f⟩
    obtain ⟨d1, g1, g2⟩ := conv j c1 v1 h1 h3 f1
    obtain ⟨d2, g3, g4⟩ := conv k c2 v2 h2 h4 f2
    exact s.dist j k d1 d2 v1 v2 b g1 g3 h3 h4 g2 g4
/-- freezing -/
def freeze (i : Nat) (ρ : DEnv) : DEnv := match ρ i with
  | some (.ol xs) => ρ.set i (.p (.lst xs))
  | some (.od kvs) => ρ.set i (.p (.dct kvs))
  | _ => ρ
theorem ER.lt (r : ER K nn ρ σ G H) {i : Nat} {c : Cell} (h : ρ i = some c) : i < nn := by
  obtain ⟨v, e, _⟩ := r.at_ i c h
  have := (List.getElem?_eq_some_iff.mp e).1
  rw [r.len] at this
  exact this
/-- an object of the heap is frozen -/
theorem SR.frz1 {i : Nat} {c0 : Cell} {d : D} {a : Addr} {o : HO} (s : SR K nn G0 H0 ρ σ G H) (h0 : ρ i = some c0) (hv : σ[i]? = some (some (.ref a))) (hf : ∀ b, b = a → Foot H c0 (.ref a) b) (ha : G a = none ∧ H0 a = none) (ho : H a = some o) (hr : Rep K (upd G a o) d (.ref a)) :
    SR K nn G0 H0 (ρ.set i (.p d)) σ (upd G a o) H := by
  have hne : ∀ j c' v' b, j ≠ i → ρ j = some c' → σ[j]? = some (some v') → Foot H c' v' b → b ≠ a := fun j c' v' b hj h1 h2 f e => by
    subst e
    exact hj (s.dist j i c' c0 v' _ b h1 h0 h2 hv f (hf b rfl))
  have gx : Ex G (upd G a o) := .new ha.1
  refine ⟨⟨s.er.len, fun j c' h1 => ?_⟩, ⟨s.up.g.trans gx, s.up.h, fun x u e => ?_, fun x u e n => ?_⟩, fun j c' v' h1 h2 => ?_, fun j k c1 c2 v1 v2 b h1 h2 h3 h4 f1 f2 => ?_⟩
  · by_cases e : j = i
    · subst e
      rw [DEnv.set_self] at h1; cases h1
      exact ⟨_, hv, hr⟩
    · rw [DEnv.set_ne _ _ e] at h1
      obtain ⟨w, h2, h3⟩ := s.er.at_ j c' h1
      exact ⟨w, h2, h3.mono gx (.refl H)⟩
  · by_cases e' : x = a
    · subst e'; rw [upd_same] at e; cases e; exact ho
    · rw [upd_ne e'] at e; exact s.up.le x u e
  · rw [upd_ne (ne_of_none e ha.2)]
    exact s.up.new x u e n
  · by_cases e : j = i
    · subst e
      rw [DEnv.set_self] at h1; cases h1
      trivial
    · rw [DEnv.set_ne _ _ e] at h1
      have hO := s.own j c' v' h1 h2
      obtain ⟨w, h2', h3⟩ := s.er.at_ j c' h1
      rw [h2] at h2'; cases h2'
      cases c' with
      | p _ => trivial
      | ol _ => intro b eb; have := hO b eb; exact ⟨by rw [upd_ne (hne j _ _ b e h1 h2 eb)]; exact this.1, this.2⟩
      | ob _ => intro b eb; have := hO b eb; exact ⟨by rw [upd_ne (hne j _ _ b e h1 h2 eb)]; exact this.1, this.2⟩
      | rb _ _ => exact hO
      | rf _ => exact hO
      | od _ => intro b eb; have := hO b eb; exact ⟨by rw [upd_ne (hne j _ _ b e h1 h2 eb)]; exact this.1, this.2⟩
      | oi _ => intro b eb; have := hO b eb; exact ⟨by rw [upd_ne (hne j _ _ b e h1 h2 eb)]; exact this.1, this.2⟩
      | oll xss =>
        intro p bs ep e2
        obtain ⟨q1, q2, q3, q4⟩ := hO p bs ep e2
        exact ⟨⟨by rw [upd_ne (hne j _ _ p e h1 h2 (.inl ep))]; exact q1.1, q1.2⟩, q2, q3, fun b hb => ⟨by rw [upd_ne (hne j _ _ b e h1 h2 (.inr ⟨p, bs, ep, e2, hb⟩))]; exact (q4 b hb).1, (q4 b hb).2⟩⟩
  · by_cases ej : j = i
    · subst ej
      rw [DEnv.set_self] at h1; cases h1
      exact f1.elim
    · by_cases ek : k = i
      · subst ek
        rw [DEnv.set_self] at h2; cases h2
        exact f2.elim
      · rw [DEnv.set_ne _ _ ej] at h1
        rw [DEnv.set_ne _ _ ek] at h2
        exact s.dist j k c1 c2 v1 v2 b h1 h2 h3 h4 f1 f2
theorem SR.frz (s : SR K nn G0 H0 ρ σ G H) (i : Nat) : ∃ G', Ex G G' ∧ SR K nn G0 H0 (freeze i ρ) σ G' H := by
  unfold freeze
  cases z : ρ i with
  | none => exact ⟨G, .refl G, s⟩
  | some c =>
    obtain ⟨v, h1, h2⟩ := s.er.at_ i c z
    have ho := s.own i c v z h1
    cases c with
    | p _ => exact ⟨G, .refl G, s⟩
    | oll _ => exact ⟨G, .refl G, s⟩
    | oi _ => exact ⟨G, .refl G, s⟩
    | ob _ => exact ⟨G, .refl G, s⟩
    | rb _ _ => exact ⟨G, .refl G, s⟩
    | rf _ => exact ⟨G, .refl G, s⟩
    | ol xs =>
      obtain ⟨a, vs, rfl, e, r⟩ := h2
      have hg := ho a rfl
      exact ⟨_, .new hg.1, s.frz1 z h1 (fun b e => by subst e; rfl) hg e (.lst upd_same (r.mono (.new hg.1)))⟩
    | od kvs =>
      obtain ⟨a, rfl, e⟩ := h2
      have hg := ho a rfl
      exact ⟨_, .new hg.1, s.frz1 z h1 (fun b e => by subst e; rfl) hg e (.dct upd_same)⟩
end

/-! ## statements -/
inductive DRes where
  | nx (ρ : DEnv) | rt (d : D) | bk (ρ : DEnv) | ct (ρ : DEnv)
abbrev DS := DEnv → Option DRes
def DOk (K : PySem.W.Frag) (nn : Nat) (G0 H0 G : Hp) (E : Ends) : DRes → Prop
  | .nx ρ' => ∀ σ' G' H', SR K nn G0 H0 ρ' σ' G' H' → Ex G G' → E.nx σ' H'
  | .bk ρ' => ∀ σ' G' H', SR K nn G0 H0 ρ' σ' G' H' → Ex G G' → E.bk σ' H'
  | .ct ρ' => ∀ σ' G' H', SR K nn G0 H0 ρ' σ' G' H' → Ex G G' → E.ct σ' H'
  | .rt d => ∀ v G' H', Up G0 H0 G' H' → Rep K G' d v → E.rt v H'
theorem DOk.weak {K : PySem.W.Frag} {nn : Nat} {G0 H0 G G' : Hp} {E : Ends} {r : DRes} (h : DOk K nn G0 H0 G E r) (e : Ex G G') : DOk K nn G0 H0 G' E r := by
  cases r with
  | nx ρ => exact fun σ' G2 H2 s x => h σ' G2 H2 s (e.trans x)
  | bk ρ => exact fun σ' G2 H2 s x => h σ' G2 H2 s (e.trans x)
  | ct ρ => exact fun σ' G2 H2 s x => h σ' G2 H2 s (e.trans x)
  | rt d => exact h
def TSok (K : PySem.W.Frag) (nn : Nat) (t : TS) (f : DS) : Prop := ∀ G0 H0 ρ σ G H (E : Ends) r, SR K nn G0 H0 ρ σ G H → f ρ = some r → DOk K nn G0 H0 G E r → t E σ H
structure PuS (X : Cx) (st : Stmt) (f : DS) : Prop where
  ex : ∃ t, PS X st t ∧ TSok X.K X.N.length t f
structure PuSs (X : Cx) (sts : List Stmt) (f : DS) : Prop where
  ex : ∃ t, PSs X sts t ∧ TSok X.K X.N.length t f
def sSkip : DS := fun ρ => some (.nx ρ)
def sSeq (f g : DS) : DS := fun ρ => (f ρ).bind fun r => match r with | .nx ρ' => g ρ' | r => some r
def sPre (i : Nat) (f : DS) : DS := fun ρ => f (freeze i ρ)
section
variable {X : Cx} {st : Stmt} {rest : List Stmt} {f g : DS} {e a b : Expr} {fe fa fb : DE} {pos : Pos}
theorem ss_nil : PuSs X [] sSkip := ⟨_, pss_nil, fun G0 H0 ρ σ G H E r s q k => by cases q; exact k σ G H s (.refl G)⟩
theorem ss_one (h : PuS X st f) : PuSs X [st] f := let ⟨_, a1, a2⟩ := h.ex; ⟨_, pss_one a1, a2⟩
theorem ss_cons (h : PuS X st f) (h2 : PuSs X rest g) : PuSs X (st :: rest) (sSeq f g) := let ⟨_, a1, a2⟩ := h.ex; let ⟨_, b1, b2⟩ := h2.ex; ⟨_, pss_cons a1 b1, fun G0 H0 ρ σ G H E r s q k => by
  unfold sSeq at q
  cases z : f ρ with
  | none => rw [z] at q; cases q
  | some r1 =>
    rw [z] at q
    refine a2 G0 H0 ρ σ G H _ r1 s z ?_
    cases r1 with
    | nx ρ' => exact fun σ' G' H' s' x => b2 G0 H0 ρ' σ' G' H' E r s' q (k.weak x)
    | bk ρ' => cases q; exact k
    | ct ρ' => cases q; exact k
    | rt d => cases q; exact k⟩
/-- the slot i is frozen first -/
theorem st_pre (i : Nat) (h : PuS X st f) : PuS X st (sPre i f) := let ⟨_, a1, a2⟩ := h.ex; ⟨_, a1, fun G0 H0 ρ σ G H E r s q k => by
  obtain ⟨G', x, s'⟩ := s.frz i
  exact a2 G0 H0 _ σ G' H E r s' q (k.weak x)⟩
theorem st_pass : PuS X (.Pass pos) sSkip := ⟨_, ps_pass, fun G0 H0 ρ σ G H E r s q k => by cases q; exact k σ G H s (.refl G)⟩
theorem st_break : PuS X (.Break pos) (fun ρ => some (.bk ρ)) := ⟨_, ps_break, fun G0 H0 ρ σ G H E r s q k => by cases q; exact k σ G H s (.refl G)⟩
theorem st_continue : PuS X (.Continue pos) (fun ρ => some (.ct ρ)) := ⟨_, ps_continue, fun G0 H0 ρ σ G H E r s q k => by cases q; exact k σ G H s (.refl G)⟩
/-! ### stores -/
def sAsg (tg : Tg) (f : DE) : DS := fun ρ => (f ρ).bind fun d => (bindT tg (.p d) ρ).map .nx
theorem ts_asg {K : PySem.W.Frag} {nn : Nat} {te : TE} {f : DE} {tg : Tg} (h : TEok K nn te f) (hl : ∀ i ∈ tg.slots, i < nn) : TSok K nn (tAsg te (tgTG K tg)) (sAsg tg f) := fun G0 H0 ρ σ G H E r s q k => by
  unfold sAsg at q
  cases z : f ρ with
  | none => rw [z] at q; cases q
  | some d =>
    rw [z] at q
    cases z2 : bindT tg (.p d) ρ with
    | none => simp only [Option.bind_some, z2] at q; cases q
    | some ρ' =>
      simp only [Option.bind_some, z2, Option.map_some] at q
      cases q
      refine h ρ σ G H _ d s.up.le s.er z fun v G' H' u rv => ?_
      exact tg_ok u.le (c := .p d) rv z2 fun σ' st => k σ' G' H' (st.sr (s.step u) rv hl z2) u.g
theorem st_set (i : Nat) {x : Str} {pos' : Pos} (he : PuE X e fe) (hN : X.N.Nodup) (hi : X.N[i]? = some x := by rfl) (hx : Loc X.env.scope x := by first | exact .inl rfl | exact .inr rfl) (hs : swapsWith e (some (.Name x pos')) pos.line X.env = pure false := by rfl)
    (hf : X.fn x = true ∨ X.env.scope.names.lookup x = some .local := by first | exact .inl rfl | exact .inr rfl) : PuS X (.Assign [.Name x pos'] e pos) (sAsg (.nm i) fe) :=
  let ⟨_, a1, a2⟩ := he.ex; ⟨_, ps_set hN hi hx a1 hs hf, ts_asg (tg := .nm i) a2 (by simp [Tg.slots]; exact (List.getElem?_eq_some_iff.mp hi).1)⟩
/-- a new list of one's own -/
def sOwn (i : Nat) (f : DL) : DS := fun ρ => (f ρ).map fun ds => .nx (ρ.set i (.ol ds))
theorem ts_own {K : PySem.W.Frag} {nn : Nat} {te : TE} {f : DL} {i : Nat} (h : TNok K nn te f) (hl : i < nn) : TSok K nn (tAsg te (gName i)) (sOwn i f) := fun G0 H0 ρ σ G H E r s q k => by
  unfold sOwn at q
  cases z : f ρ with
  | none => rw [z] at q; cases q
  | some ds =>
    rw [z] at q; cases q
    refine h ρ σ G H _ ds s.up.le s.er z fun p vs G' H' u n1 n2 hp rv => ?_
    refine k _ G' H' ((s.step u).set hl ⟨p, vs, rfl, hp, rv⟩ (fun a e => by cases e; exact ⟨n2, s.up.h.free n1⟩) fun j c' v' b hj h1 h2 f1 f2 => ?_) u.g
    cases f1
    obtain ⟨w, h3, h4⟩ := s.er.at_ j c' h1
    rw [h2] at h3; cases h3
    obtain ⟨o, ho⟩ := foot_there h4 (foot_up u.h h4 f2)
    rw [n1] at ho; cases ho
theorem st_own (i : Nat) {x : Str} {pos' : Pos} {fl : DL} (he : NwE X e fl) (hN : X.N.Nodup) (hi : X.N[i]? = some x := by rfl) (hx : Loc X.env.scope x := by first | exact .inl rfl | exact .inr rfl) (hs : swapsWith e (some (.Name x pos')) pos.line X.env = pure false := by rfl)
    (hf : X.fn x = true ∨ X.env.scope.names.lookup x = some .local := by first | exact .inl rfl | exact .inr rfl) : PuS X (.Assign [.Name x pos'] e pos) (sOwn i fl) :=
  let ⟨_, a1, a2⟩ := he.ex; ⟨_, ps_set hN hi hx a1 hs hf, ts_own a2 (List.getElem?_eq_some_iff.mp hi).1⟩
/-- a, b = e -/
theorem st_tup {is : List Nat} {es : List Expr} {k : Nat} {tpos : Pos} (he : PuE X e fe) (hg : PG X (.Tuple es k tpos) (tgTG X.K (.tp is))) (hl : ∀ i ∈ is, i < X.N.length) (hs : swapsWithSole [.Tuple es k tpos] e pos.line X.env = pure false := by rfl) (hw : swappedStores [.Tuple es k tpos] e X.env = pure none := by rfl)
    (h1 : (assignEach [.Tuple es k tpos] X.env).map (·.2) = [assign (.Tuple es k tpos) X.env] := by rfl) : PuS X (.Assign [.Tuple es k tpos] e pos) (sAsg (.tp is) fe) :=
  let ⟨_, a1, a2⟩ := he.ex; ⟨_, ps_asg a1 hg hs hw h1, ts_asg (tg := .tp is) a2 hl⟩
/-- a, b = x, y -/
def sPar (i j : Nat) (fa fb : DE) : DS := fun ρ => (fa ρ).bind fun d => (fb ρ).map fun e => .nx ((ρ.set i (.p d)).set j (.p e))
theorem st_par (i j : Nat) {x y : Str} {px py pt : Pos} {kt k2 pt2} (ha : PuE X a fa) (hb : PuE X b fb) (hc : X.calm = true) (hN : X.N.Nodup) (hi : X.N[i]? = some x := by rfl) (hj : X.N[j]? = some y := by rfl) (hij : i ≠ j := by decide)
    (hx : X.env.scope.names.lookup x = some .local := by rfl) (hy : X.env.scope.names.lookup y = some .local := by rfl)
    (hw : swappedStores [.Tuple [.Name x px, .Name y py] kt pt] (.Tuple [a, b] k2 pt2) X.env = pure (some [x, y]) := by rfl)
    (hs : swapsWithSole [.Tuple [.Name x px, .Name y py] kt pt] (.Tuple [a, b] k2 pt2) pos.line X.env = pure false := by rfl)
    (hs1 : starEach (a :: [b]) X.env = (false, eval a X.env) :: starEach [b] X.env := by rfl) (hs2 : starEach (b :: []) X.env = (false, eval b X.env) :: starEach [] X.env := by rfl) :
    PuS X (.Assign [.Tuple [.Name x px, .Name y py] kt pt] (.Tuple [a, b] k2 pt2) pos) (sPar i j fa fb) :=
  let ⟨_, a1, a2⟩ := (pa_consU ha (pa_consU hb pa_nilU hs2) hs1).ex; ⟨_, ps_par hc hN hi hj hij hx hy a1 hw hs, fun G0 H0 ρ σ G H E r s q k => by
    unfold sPar at q
    cases z : fa ρ with
    | none => rw [z] at q; cases q
    | some d =>
      rw [z] at q
      cases z2 : fb ρ with
      | none => rw [z2] at q; cases q
      | some d2 =>
        rw [z2] at q; cases q
        refine a2 ρ σ G H _ [d, d2] s.up.le s.er (by simp [dCons, dNil, z, z2]) fun vs G' H' u rvs => ?_
        cases rvs with
        | cons r1 t =>
          cases t with
          | cons r2 t =>
            cases t
            exact ⟨_, _, rfl, k _ G' H' (((s.step u).setP (List.getElem?_eq_some_iff.mp hi).1 r1).setP (List.getElem?_eq_some_iff.mp hj).1 r2) u.g⟩⟩
/-! ### return, if, expressions -/
def sRet (f : DE) : DS := fun ρ => (f ρ).map .rt
theorem st_ret (he : PuE X e fe) : PuS X (.Return (some e) pos) (sRet fe) := let ⟨_, a1, a2⟩ := he.ex; ⟨_, ps_ret a1, fun G0 H0 ρ σ G H E r s q k => by
  unfold sRet at q
  cases z : fe ρ with
  | none => rw [z] at q; cases q
  | some d =>
    rw [z] at q; cases q
    exact a2 ρ σ G H _ d s.up.le s.er z fun v G' H' u rv => k v G' H' (s.up.trans u) rv⟩
theorem st_retN : PuS X (.Return none pos) (sRet (eC .non)) := ⟨_, ps_retN, fun G0 H0 ρ σ G H E r s q k => by cases q; exact k _ G H s.up .non⟩
def sIf (c : DB) (f g : DS) : DS := fun ρ => (c ρ).bind fun b => if b = true then f ρ else g ρ
theorem st_if {c : Expr} {B : DB} {sa sb : List Stmt} (hc : PuT X c B) (ha : PuSs X sa f) (hb : PuSs X sb g) : PuS X (.If c sa sb pos) (sIf B f g) :=
  let ⟨_, c1, c2⟩ := hc.ex; let ⟨_, a1, a2⟩ := ha.ex; let ⟨_, b1, b2⟩ := hb.ex; ⟨_, ps_if c1 a1 b1, fun G0 H0 ρ σ G H E r s q k => by
  unfold sIf at q
  cases z : B ρ with
  | none => rw [z] at q; cases q
  | some b =>
    rw [z] at q
    refine c2 ρ σ G H _ b s.up.le s.er z fun G' H' u => ?_
    cases b with
    | true => exact a2 G0 H0 ρ σ G' H' E r (s.step u) q (k.weak u.g)
    | false => exact b2 G0 H0 ρ σ G' H' E r (s.step u) q (k.weak u.g)⟩
def sDrop (f : DE) : DS := fun ρ => (f ρ).map fun _ => .nx ρ
theorem st_expr (he : PuE X e fe) (hs : swapsWith e none pos.line X.env = pure false := by rfl) : PuS X (.Expr e pos) (sDrop fe) := let ⟨_, a1, a2⟩ := he.ex; ⟨_, ps_expr a1 hs, fun G0 H0 ρ σ G H E r s q k => by
  unfold sDrop at q
  cases z : fe ρ with
  | none => rw [z] at q; cases q
  | some d =>
    rw [z] at q; cases q
    exact a2 ρ σ G H _ d s.up.le s.er z fun v G' H' u rv => k σ G' H' (s.step u) u.g⟩
/-! ### own objects changed -/
def sApp (i : Nat) (f : DE) : DS := fun ρ => match ρ i, f ρ with
  | some (.ol xs), some d => if szB (xs.length + 1) then some (.nx (ρ.set i (.ol (xs ++ [d])))) else none
  | _, _ => none
theorem st_app (i : Nat) {x : Str} {xp ap cp : Pos} (he : PuE X e fe) (hN : X.N[i]? = some x := by rfl) (hv : Vis X.env.scope x := by first | exact Or.inl rfl | exact Or.inr (Or.inl rfl) | exact Or.inr (Or.inr rfl)) (hd : (x == ("__debug__" : Str)) = false := by decide)
    (hcd : (x == ("__classdict__" : Str)) = false := by decide) (hs : swapsWith (.Call (.Attribute (.Name x xp) "append" ap) [e] [] cp) none pos.line X.env = pure false := by rfl)
    (hb : attributeBase (.Name x xp) "append" X.env (eval (.Name x xp) X.env) = eval (.Name x xp) X.env := by rfl) (hs1 : starEach (e :: []) X.env = (false, eval e X.env) :: starEach [] X.env := by rfl) (hln : (ap.endLine == cp.line) = true := by rfl) 
    (hfew : ((backTo cp (starEach (e :: []) X.env)).all (fun x => !x.1) && (backToKw cp (keywordEach [] X.env)).all (fun x => x.1.isSome)
      && decide ((e :: ([] : List Expr)).length + ([] : List Keyword).length + (if ([] : List Keyword).isEmpty then 0 else 1) < 30)) = true := by rfl)
    (hpl : (backTo cp (starEach [] X.env)).any (·.1) = false := by rfl) : PuS X (.Expr (.Call (.Attribute (.Name x xp) "append" ap) [e] [] cp) pos) (sApp i fe) :=
  let ⟨_, a1, a2⟩ := he.ex; ⟨_, ps_expr (pe_bm PySem.F.plainAttrs_list PySem.F.slot_list_append PySem.F.type_list_append mt_append (pe_var hN hv hd hcd) (pa_cons a1 pa_nil hs1) hb hfew hln hs1 hpl) hs, fun G0 H0 ρ σ G H E r s q k => by
    unfold sApp at q
    split at q
    · rename_i xs d e1 e2
      split at q
      · rename_i hz
        cases q
        obtain ⟨v, h1, h2⟩ := s.er.at_ i _ e1
        obtain ⟨p, vs, rfl, hp, rp⟩ := id h2
        refine ⟨_, h1, .inl ⟨rfl, _, .inl (.inl hp)⟩, ?_⟩
        refine a2 ρ σ G H _ d s.up.le s.er e2 fun w G' H' u rw' => ?_
        have s' := s.step u
        have hg := s'.own i _ _ e1 h1 p rfl
        refine ⟨p, vs, w, rfl, rfl, u.h _ _ hp, ?_, ?_⟩
        · have h1 := szB_le hz
          rw [← rp.length]
          omega
        · refine k σ G' _ (s'.write (s.er.lt e1) e1 h1 rfl hg ⟨p, vs ++ [w], rfl, upd_same, (rp.mono u.g).append (.cons rw' .nil)⟩ (fun a ea => by cases ea; exact hg) (fun b f => f) (fun _ _ _ _ _ _ => trivial)) u.g
      · cases q
    · cases q⟩
/-- x[k] = e of an own list -/
def sSetL (i : Nat) (fk fe : DE) : DS := fun ρ => match ρ i, fe ρ, fk ρ with
  | some (.ol xs), some d, some (.int k) => (ixN xs.length k).map fun j => .nx (ρ.set i (.ol (xs.set j d)))
  | _, _, _ => none
theorem st_setL (i : Nat) {x : Str} {xp sp : Pos} (he : PuE X e fe) (hb : PuE X b fb) (hN : X.N[i]? = some x := by rfl) (hv : Vis X.env.scope x := by first | exact Or.inl rfl | exact Or.inr (Or.inl rfl) | exact Or.inr (Or.inr rfl)) (hd : (x == ("__debug__" : Str)) = false := by decide)
    (hcd : (x == ("__classdict__" : Str)) = false := by decide) (hs : swapsWithSole [.Subscript (.Name x xp) b sp] e pos.line X.env = pure false := by rfl) (hw : swappedStores [.Subscript (.Name x xp) b sp] e X.env = pure none := by rfl)
    (h1 : (assignEach [.Subscript (.Name x xp) b sp] X.env).map (·.2) = [assign (.Subscript (.Name x xp) b sp) X.env] := by rfl)
    (ha : ∀ v, assign (.Subscript (.Name x xp) b sp) X.env v = (do
      let ov ← holding [v] (eval (.Name x xp) X.env)
      let iv ← holding [v, ov] (eval b X.env)
      standAt sp
      holding [v, ov, iv] (setItem ov iv v)
      release [v, ov, iv] []) := by intro _; rfl) : PuS X (.Assign [.Subscript (.Name x xp) b sp] e pos) (sSetL i fb fe) :=
  let ⟨_, a1, a2⟩ := he.ex; let ⟨_, b1, b2⟩ := hb.ex; ⟨_, ps_asg a1 (pg_sub (pe_var hN hv hd hcd) b1 set_list ha) hs hw h1, fun G0 H0 ρ σ G H E r s q k => by
    unfold sSetL at q
    split at q
    · rename_i xs d kk e1 e2 e3
      cases z : ixN xs.length kk with
      | none => rw [z] at q; cases q
      | some j =>
        rw [z] at q; cases q
        obtain ⟨v, h1, h2⟩ := s.er.at_ i _ e1
        obtain ⟨p, vs, rfl, hp, rp⟩ := id h2
        refine a2 ρ σ G H _ d s.up.le s.er e2 fun w G1 H1 u1 rw1 => ?_
        refine ⟨_, h1, ?_⟩
        refine b2 ρ σ G1 H1 _ _ u1.le (s.er.up u1) e3 fun w2 G2 H2 u2 rw2 => ?_
        cases rw2
        have u := u1.trans u2
        have s' := s.step u
        have hg := s'.own i _ _ e1 h1 p rfl
        refine ⟨p, vs, kk, j, rfl, rfl, u.h _ _ hp, by rw [← rp.length]; exact z, ?_⟩
        exact k σ G2 _ (s'.write (s.er.lt e1) e1 h1 rfl hg ⟨p, _, rfl, upd_same, (rp.mono u.g).set (rw1.mono u2.g) j⟩ (fun a ea => by cases ea; exact hg) (fun b f => f) (fun _ _ _ _ _ _ => trivial)) u.g
    · cases q⟩
/-! ### loops -/
def forL (tg : Tg) (body : DS) : List Cell → DEnv → Option DRes
  | [], ρ => some (.nx ρ)
  | .p d :: cs, ρ => (bindT tg (.p d) ρ).bind fun ρ1 => (body ρ1).bind fun r => match r with
    | .nx ρ2 => forL tg body cs ρ2 | .ct ρ2 => forL tg body cs ρ2 | .bk ρ2 => some (.nx ρ2) | .rt d => some (.rt d)
  | _ :: _, _ => none
def sFor (it : DI) (tg : Tg) (body : DS) : DS := fun ρ => (it ρ).bind fun cs => forL tg body cs ρ
theorem ts_for {K : PySem.W.Frag} {nn : Nat} {wi : TI} {it : DI} {tb : TS} {body : DS} {tg : Tg} (hi : TIg K nn wi it) (hb : TSok K nn tb body) (hl : ∀ i ∈ tg.slots, i < nn) : TSok K nn (tFor wi (tgTG K tg) tb) (sFor it tg body) := fun G0 H0 ρ σ G H E r s q k => by
  unfold sFor at q
  cases z : it ρ with
  | none => rw [z] at q; cases q
  | some cs =>
    rw [z] at q
    have q : forL tg body cs ρ = some r := q
    refine hi ρ σ G H _ cs s.up.le s.er z fun J G1 H1 u1 wk => ?_
    let Wp : Nat → L2.St → Hp → Prop := fun i σ' H' => ∃ ρ' G', SR K nn G0 H0 ρ' σ' G' H' ∧ Ex G1 G' ∧ forL tg body (cs.drop i) ρ' = some r
    refine ⟨fun i m σ' H' => m = cs.length - i ∧ i ≤ cs.length ∧ Wp i σ' H', ⟨cs.length, by simp, Nat.zero_le _, ρ, G1, s.step u1, .refl _, by simpa using q⟩, ?_⟩
    rintro i m σ' H' ⟨rfl, hi', ρ', G', s', x', fq⟩
    have w := wk i G' H' x' s'.up.le
    by_cases hlt : i < cs.length
    · right
      obtain ⟨go, yl⟩ := w.1 cs[i] (List.getElem?_eq_getElem hlt)
      refine ⟨go, Wp (i + 1), fun σ2 H2 hq => ⟨cs.length - (i + 1), by omega, rfl, hlt, hq⟩, fun v H2 y => ?_⟩
      obtain ⟨G3, u3, cx⟩ := yl v H2 y
      rw [List.drop_eq_getElem_cons hlt] at fq
      cases zc : cs[i] with
      | ol _ => rw [zc] at fq; cases fq
      | ob _ => rw [zc] at fq; cases fq
      | rb _ _ => rw [zc] at fq; cases fq
      | rf _ => rw [zc] at fq; cases fq
      | oll _ => rw [zc] at fq; cases fq
      | od _ => rw [zc] at fq; cases fq
      | oi _ => rw [zc] at fq; cases fq
      | p d =>
        rw [zc] at fq cx
        unfold forL at fq
        cases z3 : bindT tg (.p d) ρ' with
        | none => rw [z3] at fq; cases fq
        | some ρ1 =>
          rw [z3] at fq
          refine tg_ok u3.le cx z3 fun σ2 st => ?_
          have s2 := st.sr (s'.step u3) cx hl z3
          cases z4 : body ρ1 with
          | none => simp only [Option.bind_some, z4] at fq; cases fq
          | some r1 =>
            simp only [Option.bind_some, z4] at fq
            refine hb G0 H0 ρ1 σ2 G3 H2 _ r1 s2 z4 ?_
            cases r1 with
            | nx ρ2 => exact fun σ3 G4 H4 s4 x4 => ⟨ρ2, G4, s4, (x'.trans u3.g).trans x4, fq⟩
            | ct ρ2 => exact fun σ3 G4 H4 s4 x4 => ⟨ρ2, G4, s4, (x'.trans u3.g).trans x4, fq⟩
            | bk ρ2 => cases fq; exact fun σ3 G4 H4 s4 x4 => k σ3 G4 H4 s4 (((u1.g.trans x').trans u3.g).trans x4)
            | rt dd => cases fq; exact k
    · left
      have ei : i = cs.length := by omega
      subst ei
      refine ⟨w.2 rfl, ?_⟩
      rw [List.drop_length] at fq
      cases fq
      exact k σ' G' H' s' (u1.g.trans x')
theorem st_for {tgE iter : Expr} {body : List Stmt} {it : DI} (tg : Tg) (hp : PassesOwn (model X.prog X.w) X.A X.env X.xe) (hc : X.calm = true) (hi : ItG X tgE iter it) (hg : PG X tgE (tgTG X.K tg)) (hb : PuSs X body f) (hl : ∀ i ∈ tg.slots, i < X.N.length)
    (hs : ∀ x, foldedSetIterable iter X.env x = pure x := by intro _; rfl) : PuS X (.For tgE iter body [] pos) (sFor it tg f) :=
  let ⟨_, i1, i2⟩ := hi.ex; let ⟨_, b1, b2⟩ := hb.ex; ⟨_, ps_for hp hc i1 hg b1 hs, ts_for i2 b2 hl⟩
/-- y = [.. for ..], y a local name on its line -/
theorem st_compTS {i : Nat} {y : Str} {py spos : Pos} {elt tgE iter : Expr} {ifs : List Expr} {scope : Scope} {own : List (Str × Nat)} {it : DI} {cond : DB} {fe : DE} (tg : Tg) (hc : X.calm = true) (hN : X.N.Nodup) (hi : ItH X tgE iter it) (ok : blkC X.N X.env.scope scope own = true)
    (hg : ∀ (s : Shared) (H : Hp) (C : Addr) (cl : List (Str × Addr)) (fp : List Addr), PG (X.blk s H scope (compEnvC scope cl C X.env) fp) tgE (tgTG X.K tg))
    (ht : ∀ (s : Shared) (H : Hp) (C : Addr) (cl : List (Str × Addr)) (fp : List Addr), PuTs (X.blk s H scope (compEnvC scope cl C X.env) fp) ifs cond)
    (he : ∀ (s : Shared) (H : Hp) (C : Addr) (cl : List (Str × Addr)) (fp : List Addr), PuE (X.blk s H scope (compEnvC scope cl C X.env) fp) elt fe)
    (hsl : ∀ i ∈ tg.slots, i < X.N.length) (hw : ∀ i ∈ tg.slots, i ∈ own.map (·.2)) (hy : X.N[i]? = some y) (hyl : X.env.scope.names.lookup y = some .local)
    (hsw : swapsWith (.ListComp elt [⟨tgE, iter, ifs, 0⟩] scope pos) (some (.Name y py)) spos.line X.env = pure true) (hs : ∀ x, foldedSetIterable iter X.env x = pure x) :
    ∃ te, PS X (.Assign [.Name y py] (.ListComp elt [⟨tgE, iter, ifs, 0⟩] scope pos) spos) (tAsg te (gName i)) ∧ TNok X.K X.N.length te (eComp it tg (own.map (·.2)) cond fe) := by
  obtain ⟨wi, i1, i2⟩ := hi.ex
  refine ⟨tLc wi (tgTG X.K tg) (fun σ H Q => ∀ t, TTok X.K X.N.length t cond → t σ H Q) (fun σ H Q => ∀ t, TEok X.K X.N.length t fe → t σ H Q) (own.map (·.2)), ?_, ?_⟩
  · refine ps_setLc hc hN hy hyl hsw i1 (blkOk_by ok) hg (fun s H C cl fp => ?_) (fun s H C cl fp => ?_) hs
    · obtain ⟨t, a1, a2⟩ := (ht s H C cl fp).ex
      exact ⟨fun pins s' σ H' Q I h => a1.run pins s' σ H' Q I (h t a2)⟩
    · obtain ⟨t, a1, a2⟩ := (he s H C cl fp).ex
      exact ⟨fun pins s' σ H' Q I h => a1.run pins s' σ H' Q I (h t a2)⟩
  · exact te_comp i2 (fun ρ σ G H Q b l r q k t ok => ok ρ σ G H Q b l r q k) (fun ρ σ G H Q d l r q k t ok => ok ρ σ G H Q d l r q k) hsl hw
end
theorem TNok.te {K : PySem.W.Frag} {nn : Nat} {t : TE} {f : DL} (h : TNok K nn t f) : TEok K nn t (eNew f) := fun ρ σ G H Q d l r q k => by
  unfold eNew at q
  cases z : f ρ with
  | none => rw [z] at q; cases q
  | some ds =>
    rw [z] at q; cases q
    refine h ρ σ G H Q ds l r z fun p vs G' H' u np ng hp rp => k _ (upd G' p (.lst vs)) H' ⟨u.g.trans (.new ng), u.h, fun x o e => ?_, fun x o e n => ?_⟩ (.lst upd_same (rp.mono (.new ng)))
    · by_cases y : x = p
      · subst y; rw [upd_same] at e; cases e; exact hp
      · rw [upd_ne y] at e; exact u.le x o e
    · rw [upd_ne (ne_of_none e np)]; exact u.new x o e n
section
variable {X : Cx} {i : Nat} {y : Str} {py spos pos : Pos} {elt tgE iter : Expr} {ifs : List Expr} {scope : Scope} {own : List (Str × Nat)} {it : DI} {cond : DB} {fe : DE}
/-- .. kept as one's own | frozen -/
theorem st_ownC (i : Nat) (tg : Tg) (hc : X.calm = true) (hN : X.N.Nodup) (hi : ItH X tgE iter it) (ok : blkC X.N X.env.scope scope own = true)
    (hg : ∀ (s : Shared) (H : Hp) (C : Addr) (cl : List (Str × Addr)) (fp : List Addr), PG (X.blk s H scope (compEnvC scope cl C X.env) fp) tgE (tgTG X.K tg))
    (ht : ∀ (s : Shared) (H : Hp) (C : Addr) (cl : List (Str × Addr)) (fp : List Addr), PuTs (X.blk s H scope (compEnvC scope cl C X.env) fp) ifs cond)
    (he : ∀ (s : Shared) (H : Hp) (C : Addr) (cl : List (Str × Addr)) (fp : List Addr), PuE (X.blk s H scope (compEnvC scope cl C X.env) fp) elt fe)
    (hsl : ∀ i ∈ tg.slots, i < X.N.length) (hw : ∀ i ∈ tg.slots, i ∈ own.map (·.2)) (hy : X.N[i]? = some y := by rfl) (hyl : X.env.scope.names.lookup y = some .local := by rfl)
    (hsw : swapsWith (.ListComp elt [⟨tgE, iter, ifs, 0⟩] scope pos) (some (.Name y py)) spos.line X.env = pure true := by exact sw_true rfl rfl rfl (by decide +kernel)) (hs : ∀ x, foldedSetIterable iter X.env x = pure x := by intro _; rfl) :
    PuS X (.Assign [.Name y py] (.ListComp elt [⟨tgE, iter, ifs, 0⟩] scope pos) spos) (sOwn i (eComp it tg (own.map (·.2)) cond fe)) :=
  let ⟨_, a1, a2⟩ := st_compTS (i := i) (py := py) (spos := spos) (pos := pos) tg hc hN hi ok hg ht he hsl hw hy hyl hsw hs; ⟨_, a1, ts_own a2 (List.getElem?_eq_some_iff.mp hy).1⟩
theorem st_setC (i : Nat) (tg : Tg) (hc : X.calm = true) (hN : X.N.Nodup) (hi : ItH X tgE iter it) (ok : blkC X.N X.env.scope scope own = true)
    (hg : ∀ (s : Shared) (H : Hp) (C : Addr) (cl : List (Str × Addr)) (fp : List Addr), PG (X.blk s H scope (compEnvC scope cl C X.env) fp) tgE (tgTG X.K tg))
    (ht : ∀ (s : Shared) (H : Hp) (C : Addr) (cl : List (Str × Addr)) (fp : List Addr), PuTs (X.blk s H scope (compEnvC scope cl C X.env) fp) ifs cond)
    (he : ∀ (s : Shared) (H : Hp) (C : Addr) (cl : List (Str × Addr)) (fp : List Addr), PuE (X.blk s H scope (compEnvC scope cl C X.env) fp) elt fe)
    (hsl : ∀ i ∈ tg.slots, i < X.N.length) (hw : ∀ i ∈ tg.slots, i ∈ own.map (·.2)) (hy : X.N[i]? = some y := by rfl) (hyl : X.env.scope.names.lookup y = some .local := by rfl)
    (hsw : swapsWith (.ListComp elt [⟨tgE, iter, ifs, 0⟩] scope pos) (some (.Name y py)) spos.line X.env = pure true := by exact sw_true rfl rfl rfl (by decide +kernel)) (hs : ∀ x, foldedSetIterable iter X.env x = pure x := by intro _; rfl) :
    PuS X (.Assign [.Name y py] (.ListComp elt [⟨tgE, iter, ifs, 0⟩] scope pos) spos) (sAsg (.nm i) (eNew (eComp it tg (own.map (·.2)) cond fe))) :=
  let ⟨_, a1, a2⟩ := st_compTS (i := i) (py := py) (spos := spos) (pos := pos) tg hc hN hi ok hg ht he hsl hw hy hyl hsw hs; ⟨_, a1, ts_asg (tg := .nm i) a2.te (by simp [Tg.slots]; exact (List.getElem?_eq_some_iff.mp hy).1)⟩
end

/-! ## defs -/
/-- the built-in names that the texts use are not the module's own -/
structure BN (mg : Str → Option Value) : Prop where
  len : mg "len" = none
  range : mg "range" = none
  abs : mg "abs" = none
  max : mg "max" = none
  min : mg "min" = none
  sum : mg "sum" = none
  sorted : mg "sorted" = none
  set : mg "set" = none
  all : mg "all" = none
  list : mg "list" = none
  tuple : mg "tuple" = none
  zip : mg "zip" = none
  enumerate : mg "enumerate" = none
  isinstance : mg "isinstance" = none
  int : mg "int" = none
  bool : mg "bool" = none
  str : mg "str" = none
def spF (K : PySem.W.Frag) (F : List D → Option D) : Sp := fun vs H Q _ => ∃ G ds d, Ex G H ∧ Reps K G ds vs ∧ F ds = some d ∧ ∀ v G' H', Up G H G' H' → Rep K G' d v → Q v H'
def env0 (ds : List D) : DEnv := fun i => (ds[i]?).map .p
def endD : DRes → Option D | .rt d => some d | .nx _ => some .non | _ => none
def fnD (n : Nat) (body : DS) : List D → Option D := fun ds => if ds.length = n then (body (env0 ds)).bind endD else none
structure FnD (P : Program) (w : World) (K : PySem.W.Frag) (mg : Str → Option Value) (base : Heap) (k : Nat) (x : Str) (F : List D → Option D) : Prop where
  ex : ∃ f fd ps, mg x = some (.ref f) ∧ PySem.W.keepIn K (.ref f) = true ∧ Binds K fd ps [] ∧ FnOk P w K mg base CX0 k f fd ps (spF K F)
theorem FnD.mono {P : Program} {w : World} {K : PySem.W.Frag} {mg : Str → Option Value} {base : Heap} {j k : Nat} {x : Str} {F : List D → Option D} (h : FnD P w K mg base j x F) (hk : j ≤ k) : FnD P w K mg base k x F :=
  let ⟨f, fd, ps, a, b, c, d⟩ := h.ex; ⟨f, fd, ps, a, b, c, d.mono hk⟩
theorem start_len {N : List Str} {vs : List V} (h : vs.length ≤ N.length) : (L2.start N vs).length = N.length := by
  unfold L2.start
  rw [List.length_append, List.length_map, List.length_replicate]; omega
theorem start_sr {K : PySem.W.Frag} {N : List Str} {G H : Hp} {ds : List D} {vs : List V} (l : Ex G H) (r : Reps K G ds vs) (h : vs.length ≤ N.length) : SR K N.length G H (env0 ds) (L2.start N vs) G H := by
  have at0 : ∀ i c, env0 ds i = some c → ∃ d v, c = .p d ∧ (L2.start N vs)[i]? = some (some v) ∧ Rep K G d v := fun i c e => by
    unfold env0 at e
    cases z : ds[i]? with
    | none => rw [z] at e; cases e
    | some d =>
      rw [z] at e; cases e
      obtain ⟨v, h1, h2⟩ := r.get z
      refine ⟨d, v, rfl, ?_, h2⟩
      unfold L2.start
      have hi := (List.getElem?_eq_some_iff.mp h1).1
      rw [List.getElem?_append_left (by rw [List.length_map]; exact hi), List.getElem?_map, h1]; rfl
  refine ⟨⟨start_len h, fun i c e => ?_⟩, .refl l, fun i c v e _ => ?_, fun i j c c' v v' a e _ _ _ f _ => ?_⟩
  · obtain ⟨d, v, rfl, h1, h2⟩ := at0 i c e
    exact ⟨v, h1, h2⟩
  · obtain ⟨d, v, rfl, h1, h2⟩ := at0 i c e
    trivial
  · obtain ⟨d, v, rfl, h1, h2⟩ := at0 i c e
    exact f.elim
section
variable {P : Program} {w : World} {K : PySem.W.Frag} {mg : Str → Option Value} {base : Heap}
/-- THE RULE for a def -/
theorem pure_ok {x qual : Str} {st : Stmt} {f : Addr} {fd : FuncData} {N ps : List Str} {k : Nat} {body : DS} (F : Fun K x qual st f fd) (S : FnScope N ps (defScope st)) (hl : ps.length ≤ N.length)
    (hb : ∀ (cdv : Value) (A : Around) (outer : List Env) (s : Shared) (H : Hp) (E : XK), Room k (A.deeper (envOfC qual (defScope st) s.heap.objs.size f cdv)) →
      PuSs (cxOf CX0 P w K mg base N qual (defScope st) f cdv A outer s H E).nox (defBody st) body) : FnOk P w K mg base CX0 (k + 1) f fd ps (spF K (fnD ps.length body)) := by
  refine F.ok S (fun vs H Q E h => ?_) (fun cdv A outer s H vs Q E hr h => ?_)
  · obtain ⟨G, ds, d, l, r, q, _⟩ := h
    unfold fnD at q
    split at q
    · rename_i e; rw [← e, r.length]
    · cases q
  · obtain ⟨G, ds, d, l, r, q, kq⟩ := h
    unfold fnD at q
    split at q
    · rename_i e
      obtain ⟨t, a1, a2⟩ := (hb cdv A outer s H E hr).ex
      refine ⟨t, a1, ?_⟩
      cases z : body (env0 ds) with
      | none => rw [z] at q; cases q
      | some rr =>
        rw [z] at q
        have q : endD rr = some d := q
        refine a2 G H (env0 ds) (L2.start N vs) G H _ rr (start_sr l r (by rw [← r.length, e]; exact hl)) z ?_
        cases rr with
        | nx ρ' => cases q; exact fun σ' G' H' s' _ => kq _ G' H' s'.up .non
        | rt d' => cases q; exact fun v G' H' u rv => kq v G' H' u rv
        | bk _ => cases q
        | ct _ => cases q
    · cases q
end
/-- a call of such a def -/
def eCall (F : List D → Option D) (fs : DL) : DE := fun ρ => (fs ρ).bind F
section
variable {X : Cx} {x : Str} {p pos : Pos} {e : Expr} {es : List Expr} {fs : DL} {F : List D → Option D} {k : Nat}
theorem pu_call {j : Nat} (B : FnD X.prog X.w X.K X.mg X.base j x F) (hr : Room k X.A) (ha : PuA X (e :: es) fs) (hjk : j ≤ k := by decide) (hg : Gl X x := by rfl) (hdb : (x == ("__debug__" : Str)) = false := by decide)
    (he : starEach (e :: es) X.env = (false, eval e X.env) :: starEach es X.env := by rfl) (hpl : (backTo pos (starEach es X.env)).any (·.1) = false := by rfl) : PuE X (.Call (.Name x p) (e :: es) [] pos) (eCall F fs) :=
  let ⟨f, fd, ps, b1, b2, b3, b4⟩ := B.ex; let ⟨_, a1, a2⟩ := ha.ex; ⟨_, pe_call b4 (hr.mono hjk) hg b1 b2 b3 .nil pass0 a1 hdb he hpl, fun ρ σ G H Q d l r q kk => by
    unfold eCall at q
    cases z : fs ρ with
    | none => rw [z] at q; cases q
    | some ds =>
      rw [z] at q
      refine a2 ρ σ G H _ ds l r z fun vs G1 H1 u1 rvs => ?_
      show spF X.K F (vs ++ []) H1 Q E0
      rw [List.append_nil]
      exact ⟨G1, ds, d, u1.le, rvs, q, fun v G2 H2 u2 rv => kk v G2 H2 (u1.trans u2) rv⟩⟩
end
end PL

namespace PL
open PySem PySem.Spec PyProof.Rows L2

/-! ## lists, tuples, texts, walked -/
theorem pi_both {X : Cx} {tg e : Expr} {w1 w2 : TI} (h1 : PI X tg e w1) (h2 : PI X tg e w2) : PI X tg e (fun σ H R => w1 σ H R ∨ w2 σ H R) :=
  ⟨fun pins s σ H R I h => h.elim (h1.run pins s σ H R I) (h2.run pins s σ H R I)⟩
def asS (d : D) : Option (List Cell) := match d with
  | .lst xs => some (xs.map .p) | .tup xs => some (xs.map .p)
  | .str z => some (z.cps.toList.map fun c => .p (.str ⟨#[c]⟩)) | _ => none
theorem walks_strG {K : PySem.W.Frag} {z : Str} {G' : Hp} : WalksG K (Its z) (z.cps.toList.map fun c => .p (.str ⟨#[c]⟩)) G' := fun i G2 H2 g l => by
  refine ⟨fun c hc => ?_, fun hi => (show z.cps.size ≤ i by simpa using Nat.le_of_eq hi.symm)⟩
  rw [List.getElem?_map] at hc
  cases q : z.cps.toList[i]? with
  | none => rw [q] at hc; cases hc
  | some c' =>
    rw [q] at hc; cases hc
    have hi : i < z.cps.size := by have := (List.getElem?_eq_some_iff.mp q).1; simpa using this
    refine ⟨hi, fun v H3 y => ?_⟩
    obtain ⟨rfl, c2, e, rfl⟩ := y
    have e2 : z.cps.toList[i]? = some c2 := by simpa using e
    rw [q] at e2; cases e2
    exact ⟨G2, .refl l, .str _⟩
theorem ig_seq {X : Cx} {tg e : Expr} {f : DE} (h : PuE X e f) : ItG X tg e (iOf asS f) := let ⟨_, a1, a2⟩ := h.ex; ⟨_, pi_both (pi_list a1) (pi_both (pi_tup a1) (pi_str a1)), fun ρ σ G H R cs l r q k => by
  unfold iOf at q
  cases z : f ρ with
  | none => rw [z] at q; cases q
  | some d =>
    rw [z] at q
    cases d <;> cases q
    · exact .inr (.inr (a2 ρ σ G H _ _ l r z fun v G1 H1 u1 rv => by
        cases rv
        exact ⟨_, rfl, k _ G1 H1 u1 walks_strG⟩))
    · exact .inl (a2 ρ σ G H _ _ l r z fun v G1 H1 u1 rv => by
        cases rv with
        | lst hp rp => exact ⟨_, rfl, ⟨_, .of (u1.le _ _ hp)⟩, k _ G1 H1 u1 (walks_list hp rp)⟩)
    · exact .inr (.inl (a2 ρ σ G H _ _ l r z fun v G1 H1 u1 rv => by
        cases rv with
        | tup hp rp => exact ⟨_, rfl, ⟨_, .of (u1.le _ _ hp)⟩, k _ G1 H1 u1 (walks_tup hp rp)⟩))⟩

/-! ## zip and enumerate over lists and tuples in any mix -/
/-- a sequence at a, by its kind (true: a list) -/
def SqX (K : PySem.W.Frag) (b : Bool) (H : Hp) (a : Addr) (xs : List V) : Prop := if b = true then SqL K H a xs else SqT K H a xs
def ItX (b : Bool) (h : Heap) (it a : Addr) (i : Nat) : Prop := if b = true then h.IsListIter it a i else h.IsTupleIter it a i
def obX (b : Bool) (a : Addr) : Obj := { cls := .type (if b = true then "list_iterator" else "tuple_iterator"), data := .fields #[.ref a, .int 0 0] }
theorem itx_ob {b : Bool} {h : Heap} {it a : Addr} {i : Nat} (x : ItX b h it a i) : ∃ o, h.get? it = some o ∧ ∀ v, o.data ≠ .cell v := by
  cases b with
  | true => obtain ⟨o, e, _, d⟩ := (show h.IsListIter it a i from x); exact ⟨o, e, fun v z => by rw [d] at z; cases z⟩
  | false => obtain ⟨o, e, _, d⟩ := (show h.IsTupleIter it a i from x); exact ⟨o, e, fun v z => by rw [d] at z; cases z⟩
theorem itx_lt {b : Bool} {h : Heap} {it a : Addr} {i : Nat} (x : ItX b h it a i) : it < h.objs.size := let ⟨_, e, _⟩ := itx_ob x; Heap.lt_size e
theorem itx_at {b : Bool} {h h' : Heap} {it a : Addr} {i : Nat} (x : ItX b h it a i) (k : ∀ o, h.get? it = some o → h'.get? it = some o) : ItX b h' it a i := by
  cases b with
  | true => exact (show h.IsListIter it a i from x).at k
  | false => exact (show h.IsTupleIter it a i from x).at k
theorem itx_ne {b : Bool} {h : Heap} {it a a' : Addr} {i : Nat} {its : Array Value} (x : ItX b h it a i) (c : if b = true then h.IsList a' its else h.IsTuple a' its) : a' ≠ it := fun e => by
  subst e
  cases b with
  | true =>
    obtain ⟨o, e1, k1, _⟩ := (show h.IsListIter a' a i from x)
    obtain ⟨o', e2, k2, _⟩ := (show h.IsList a' its from c)
    rw [e1] at e2; cases e2; rw [k1] at k2; exact absurd k2 (by decide)
  | false =>
    obtain ⟨o, e1, k1, _⟩ := (show h.IsTupleIter a' a i from x)
    obtain ⟨o', e2, k2, _⟩ := (show h.IsTuple a' its from c)
    rw [e1] at e2; cases e2; rw [k1] at k2; exact absurd k2 (by decide)
theorem itx_new {b : Bool} {h : Heap} {it a : Addr} (e : h.get? it = some (obX b a)) : ItX b h it a 0 := by
  cases b with
  | true => exact ⟨_, e, rfl, rfl⟩
  | false => exact ⟨_, e, rfl, rfl⟩
section
variable {X : Cx} {pins : List (Addr × Obj)} {σ : L2.St} {H : Hp} {s : Shared}
/-- what stands in the heap of such a sequence -/
theorem sqx_in {b : Bool} {a : Addr} {xs : List V} (I : Inv X pins σ H s) (h : SqX X.K b H a xs) : ∃ its : List Value, Vals xs its ∧ (if b = true then s.heap.IsList a its.toArray else s.heap.IsTuple a its.toArray) := by
  cases b with
  | true => obtain ⟨its, r, p, _⟩ := I.list (show SqL X.K H a xs from h); exact ⟨its, r, p.isList⟩
  | false => obtain ⟨its, r, p, _⟩ := I.tuple (show SqT X.K H a xs from h); exact ⟨its, r, p⟩
theorem sqx_inj {b : Bool} {a : Addr} {xs ys : List V} (I : Inv X pins σ H s) (h : SqX X.K b H a xs) (h' : SqX X.K b H a ys) : xs = ys := by
  cases b with
  | true => exact I.list_inj h h'
  | false => exact I.tuple_inj h h'
def CnX (b : Bool) (a : Addr) (its : Array Value) (h : Heap) : Prop := if b = true then h.IsList a its else h.IsTuple a its
theorem draws_x {prog : Program} {w : World} {A : Around} (b : Bool) (hh : A.handled = none) (it a : Addr) (hne : a ≠ it) (its : Array Value) :
    Draws prog w A it [it, a] its.size (fun i v => its[i]? = some v) (fun i h => ItX b h it a i ∧ CnX b a its h) := by
  cases b with
  | true => exact .list hh it a hne its
  | false => exact .tuple hh it a hne its
theorem begins_x (b : Bool) (a : Addr) (its : Array Value) : Begins (.ref a) (obX b a) (CnX b a its) := by
  cases b with
  | true => exact begins_list a its
  | false => exact begins_tuple a its
end
theorem SqX.mono {K : PySem.W.Frag} {b : Bool} {H H' : Hp} {a : Addr} {xs : List V} (e : Ex H H') (h : SqX K b H a xs) : SqX K b H' a xs := by
  cases b with
  | true => exact e.sql h
  | false =>
    rcases (show SqT K H a xs from h) with (h | ⟨o, h⟩) | h
    · exact .inl (.inl (e _ _ h))
    · exact .inl (.inr ⟨o, e _ _ h⟩)
    · exact .inr h

/-- the turns of zip over three -/
def Itz3 (K : PySem.W.Frag) (b1 b2 b3 : Bool) (a1 a2 a3 : Addr) : It :=
  ⟨fun i H => ∃ (xs ys zs : List V) (x y z : V), SqX K b1 H a1 xs ∧ SqX K b2 H a2 ys ∧ SqX K b3 H a3 zs ∧ xs[i]? = some x ∧ ys[i]? = some y ∧ zs[i]? = some z,
   fun i H v H' => ∃ T x y z, v = .ref T ∧ H T = none ∧ H' = upd H T (.tup [x, y, z]) ∧ (∀ xs, SqX K b1 H a1 xs → xs[i]? = some x) ∧ (∀ ys, SqX K b2 H a2 ys → ys[i]? = some y) ∧ (∀ zs, SqX K b3 H a3 zs → zs[i]? = some z),
   fun i H => ∃ xs ys zs : List V, SqX K b1 H a1 xs ∧ SqX K b2 H a2 ys ∧ SqX K b3 H a3 zs ∧ i = min (min xs.length ys.length) zs.length⟩
theorem vals_size {xs : List V} {its : List Value} (r : Vals xs its) : its.toArray.size = xs.length := by rw [List.size_toArray]; exact r.length.symm
theorem turn_zip3 {P : Program} {w : World} {K : PySem.W.Frag} {elts : List Expr} {kk : Nat} {tpos : Pos} {b1 b2 b3 : Bool} {a1 a2 a3 z TI TO i1 i2 i3 : Addr} (S : ZipSep3 z TI TO i1 i2 i3 [i1, a1] [i2, a2] [i3, a3]) :
    Turn P w K (.Tuple elts kk tpos) (Itz3 K b1 b2 b3 a1 a2 a3) [z, TI, TO, i1, i2, i3] z
      (fun i h => IsZip h z TI TO .none ∧ IsTupOf3 h TI (.ref i1) (.ref i2) (.ref i3) ∧ (∃ x y u, IsTupOf3 h TO x y u) ∧ ItX b1 h i1 a1 i ∧ ItX b2 h i2 a2 i ∧ ItX b3 h i3 a3 i) where
  mem := by simp
  obj := fun i h st c hc => by
    obtain ⟨hz, hTI, ⟨x, y, u, hTO⟩, h1, h2, h3⟩ := st
    have e' : c = z ∨ c = TI ∨ c = TO ∨ c = i1 ∨ c = i2 ∨ c = i3 := by simpa using hc
    rcases e' with q | q | q | q | q | q
    · rw [q]; exact ⟨_, hz, fun v q => nomatch q⟩
    · rw [q]; exact ⟨_, hTI, fun v q => nomatch q⟩
    · rw [q]; exact ⟨_, hTO, fun v q => nomatch q⟩
    · rw [q]; exact itx_ob h1
    · rw [q]; exact itx_ob h2
    · rw [q]; exact itx_ob h3
  keep := fun i h h' st k => by
    obtain ⟨hz, hTI, ⟨x, y, u, hTO⟩, h1, h2, h3⟩ := st
    exact ⟨k z (by simp) _ hz, k TI (by simp) _ hTI, ⟨x, y, u, k TO (by simp) _ hTO⟩, itx_at h1 fun o q => k i1 (by simp) o q, itx_at h2 fun o q => k i2 (by simp) o q, itx_at h3 fun o q => k i3 (by simp) o q⟩
  item := by
    intro X hP hw hK hc i pins s σ H E I hf st hg
    subst hP hw hK
    obtain ⟨xs, ys, zs, x, y, u, hqx, hqy, hqz, hx, hy, hu⟩ := hg
    obtain ⟨js1, r1, c1⟩ := sqx_in I hqx
    obtain ⟨js2, r2, c2⟩ := sqx_in I hqy
    obtain ⟨js3, r3, c3⟩ := sqx_in I hqz
    obtain ⟨hz, hTI, hTO, h1, h2, h3⟩ := st
    have n1 := itx_ne h1 c1
    have n2 := itx_ne h2 c2
    have n3 := itx_ne h3 c3
    have hh : X.A.in1.handled = none := I.ok.hd hc
    have W := GoesN.zip3 (prog := X.prog) (w := X.w) (A := X.A) (elts := elts) (x1 := kk) (pos := tpos) S (draws_x b1 hh i1 a1 n1 js1.toArray) (draws_x b2 hh i2 a2 n2 js2.toArray) (draws_x b3 hh i3 a3 n3 js3.toArray)
    have l1 := (List.getElem?_eq_some_iff.mp hx).1
    have l2 := (List.getElem?_eq_some_iff.mp hy).1
    have l3 := (List.getElem?_eq_some_iff.mp hu).1
    have hzl : z < s.heap.objs.size := Heap.lt_size hz
    have hin : i < min (min js1.toArray.size js2.toArray.size) js3.toArray.size := by rw [vals_size r1, vals_size r2, vals_size r3]; omega
    refine W.goes i s _ E hin ⟨hz, hTI, hTO, ⟨h1, c1⟩, ⟨h2, c2⟩, ⟨h3, c3⟩⟩ fun v h' tk hY st' hk htk => ?_
    obtain ⟨T, v1, v2, v3, rfl, hT, e1, e2, e3, hTt⟩ := hY
    obtain ⟨w1, q1, p1⟩ := r1.get hx
    obtain ⟨w2, q2, p2⟩ := r2.get hy
    obtain ⟨w3, q3, p3⟩ := r3.get hu
    have x1 : v1 = w1 := by have z1 : js1[i]? = some v1 := by simpa using e1
                            rw [q1] at z1; exact (Option.some.inj z1).symm
    have x2 : v2 = w2 := by have z1 : js2[i]? = some v2 := by simpa using e2
                            rw [q2] at z1; exact (Option.some.inj z1).symm
    have x3 : v3 = w3 := by have z1 : js3[i]? = some v3 := by simpa using e3
                            rw [q3] at z1; exact (Option.some.inj z1).symm
    subst x1 x2 x3
    have new : ObjOk X.prog X.w (upd H T (.tup [x, y, u])) h' T (.tup [x, y, u]) := ⟨by show 3 ≤ sizeLine; rw [sizeLine_eq]; decide, [v1, v2, v3], .cons p1 (.cons p2 (.cons p3 .nil)), hTt⟩
    have I1 : Inv X pins σ (upd H T (.tup [x, y, u])) { s with heap := h', toks := tk } :=
      I.turnedNew (ch := [z, TI, TO, i1, i2, i3]) (fun b o hb q => hk b o (fun m => hb (by simp at m ⊢; rcases m with m | m | m | m | m <;> simp [m])) q) hf hT new
    refine ⟨.ref T, _, I1, rfl, ⟨T, x, y, u, rfl, I.hok.fresh hT, rfl, fun l hl => by rw [sqx_inj I hl hqx]; exact hx, fun l hl => by rw [sqx_inj I hl hqy]; exact hy, fun l hl => by rw [sqx_inj I hl hqz]; exact hu⟩, ?_, fun b hb => ?_⟩
    · obtain ⟨g1, g2, g3, g4, g5, g6⟩ := st'
      exact ⟨g1, g2, g3, g4.1, g5.1, g6.1⟩
    · have hlt : b < s.heap.objs.size := by
        obtain ⟨ax, ay, au, hTO⟩ := hTO
        have e' : b = z ∨ b = TI ∨ b = TO ∨ b = i1 ∨ b = i2 ∨ b = i3 := by simpa using hb
        rcases e' with q | q | q | q | q | q
        · rw [q]; exact hzl
        · rw [q]; exact Heap.lt_size hTI
        · rw [q]; exact Heap.lt_size hTO
        · rw [q]; exact itx_lt h1
        · rw [q]; exact itx_lt h2
        · rw [q]; exact itx_lt h3
      rw [upd_ne (Nat.ne_of_lt (Nat.lt_of_lt_of_le hlt hT))]
      exact (hf b hb).1
  done := by
    intro X hP hw hK hc i pins s σ H E I hf st hg
    subst hP hw hK
    obtain ⟨xs, ys, zs, hqx, hqy, hqz, hi⟩ := hg
    obtain ⟨js1, r1, c1⟩ := sqx_in I hqx
    obtain ⟨js2, r2, c2⟩ := sqx_in I hqy
    obtain ⟨js3, r3, c3⟩ := sqx_in I hqz
    obtain ⟨hz, hTI, hTO, h1, h2, h3⟩ := st
    have n1 := itx_ne h1 c1
    have n2 := itx_ne h2 c2
    have n3 := itx_ne h3 c3
    have hh : X.A.in1.handled = none := I.ok.hd hc
    have W := GoesN.zip3 (prog := X.prog) (w := X.w) (A := X.A) (elts := elts) (x1 := kk) (pos := tpos) S (draws_x b1 hh i1 a1 n1 js1.toArray) (draws_x b2 hh i2 a2 n2 js2.toArray) (draws_x b3 hh i3 a3 n3 js3.toArray)
    rw [vals_size r1, vals_size r2, vals_size r3, ← hi] at W
    refine W.stops s _ E ⟨hz, hTI, hTO, ⟨h1, c1⟩, ⟨h2, c2⟩, ⟨h3, c3⟩⟩ fun h' tk hk htk => ?_
    exact I.turnedL (ch := [z, TI, TO, i1, i2, i3]) (fun b o hb q => hk b o (fun m => hb (by simp at m ⊢; rcases m with m | m | m | m | m <;> simp [m])) q) hf
  self := fun A i s Q E st h => wpAny_pyIter_zip st.1 h

def iZip3 (K : PySem.W.Frag) (ta : TA) : TI := fun σ H R => ta σ H fun vs H1 => ∃ b1 b2 b3 a1 a2 a3 xs ys zs, vs = [.ref a1, .ref a2, .ref a3] ∧ SqX K b1 H1 a1 xs ∧ SqX K b2 H1 a2 ys ∧ SqX K b3 H1 a3 zs ∧ R (Itz3 K b1 b2 b3 a1 a2 a3) H1
theorem vals3 {x y z : V} {us : List Value} (r : Vals [x, y, z] us) : ∃ u v w, us = [u, v, w] ∧ RelV x u ∧ RelV y v ∧ RelV z w := by
  cases r with
  | cons r1 t => cases t with
    | cons r2 t => cases t with
      | cons r3 t => cases t; exact ⟨_, _, _, rfl, r1, r2, r3⟩
theorem pi_zip3 {X : Cx} {e e2 e3 : Expr} {ta : TA} {p pos tpos : Pos} {elts : List Expr} {kk : Nat} (hg : Gl X "zip") (hm : X.mg "zip" = none) (ha : PA X [e, e2, e3] ta)
    (hs : starEach [e, e2, e3] X.env = (false, eval e X.env) :: starEach [e2, e3] X.env := by rfl) (hpl : (backTo pos (starEach [e2, e3] X.env)).any (·.1) = false := by rfl) :
    PI X (.Tuple elts kk tpos) (.Call (.Name "zip" p) [e, e2, e3] [] pos) (iZip3 X.K ta) := by
  refine ⟨fun pins s σ H R I h => ?_⟩
  refine Call_ (ld_blt I hg hm PyProof.Rows.boot_zip (PyProof.Rows.callWith_type1 (thn (ha.run pos pins s σ H _ I h) fun us s1 ⟨vs, H1, I1, r1, q1⟩ => ?_) hs hpl))
  obtain ⟨b1, b2, b3, a1, a2, a3, xs, ys, zs, ex, hq1, hq2, hq3, q⟩ := q1
  subst ex
  obtain ⟨u1, u2, u3, rfl, r1, r2, r3⟩ := vals3 r1
  cases r1
  cases r2
  cases r3
  obtain ⟨js1, w1, c1⟩ := sqx_in I1 hq1
  obtain ⟨js2, w2, c2⟩ := sqx_in I1 hq2
  obtain ⟨js3, w3, c3⟩ := sqx_in I1 hq3
  have lt : ∀ {b : Bool} {a : Addr} {its : Array Value}, CnX b a its s1.heap → a < s1.heap.objs.size := fun {b a its} c => by
    cases b with
    | true => obtain ⟨o, e, _⟩ := (show s1.heap.IsList a its from c); exact Heap.lt_size e
    | false => obtain ⟨o, e, _⟩ := (show s1.heap.IsTuple a its from c); exact Heap.lt_size e
  refine zip_begins3 (begins_x b1 a1 js1.toArray) (begins_x b2 a2 js2.toArray) (begins_x b3 a3 js3.toArray) c1 c2 c3 fun h' hz hTI hTO h1 h2 h3 hsz hk => wpAny_pyIter_zip hz ?_
  have I2 : Inv X pins σ H1 { s1 with heap := h' } := I1.kept (t' := s1.toks) hk
  have S := zip_sep3 (N := s1.heap.objs.size) (fp1 := [a1]) (fp2 := [a2]) (fp3 := [a3]) (fun b hb => by rw [List.mem_singleton.mp hb]; exact lt c1) (fun b hb => by rw [List.mem_singleton.mp hb]; exact lt c2) (fun b hb => by rw [List.mem_singleton.mp hb]; exact lt c3)
  refine ⟨s1.heap.objs.size + 5, [s1.heap.objs.size + 5, s1.heap.objs.size + 3, s1.heap.objs.size + 4, s1.heap.objs.size, s1.heap.objs.size + 1, s1.heap.objs.size + 2], _, _, H1, rfl, I2, turn_zip3 (b1 := b1) (b2 := b2) (b3 := b3) S, ⟨hz, hTI, ⟨_, _, _, hTO⟩, itx_new h1, itx_new h2, itx_new h3⟩, fun b hb => ?_, q⟩
  have hle : s1.heap.objs.size ≤ b := by
    have e' : b = s1.heap.objs.size + 5 ∨ b = s1.heap.objs.size + 3 ∨ b = s1.heap.objs.size + 4 ∨ b = s1.heap.objs.size ∨ b = s1.heap.objs.size + 1 ∨ b = s1.heap.objs.size + 2 := by simpa using hb
    rcases e' with z | z | z | z | z | z
    all_goals (rw [z])
    all_goals first | exact Nat.le_refl _ | exact Nat.le_add_right _ _
  exact I1.fpOk hle (I1.hok.fresh hle)

/-! ### two -/
def Itz2 (K : PySem.W.Frag) (b1 b2 : Bool) (a1 a2 : Addr) : It :=
  ⟨fun i H => ∃ (xs ys : List V) (x y : V), SqX K b1 H a1 xs ∧ SqX K b2 H a2 ys ∧ xs[i]? = some x ∧ ys[i]? = some y,
   fun i H v H' => ∃ T x y, v = .ref T ∧ H T = none ∧ H' = upd H T (.tup [x, y]) ∧ (∀ xs, SqX K b1 H a1 xs → xs[i]? = some x) ∧ (∀ ys, SqX K b2 H a2 ys → ys[i]? = some y),
   fun i H => ∃ xs ys : List V, SqX K b1 H a1 xs ∧ SqX K b2 H a2 ys ∧ i = min xs.length ys.length⟩
theorem turn_zip2 {P : Program} {w : World} {K : PySem.W.Frag} {elts : List Expr} {kk : Nat} {tpos : Pos} {b1 b2 : Bool} {a1 a2 z TI TO i1 i2 : Addr} (S : ZipSep2 z TI TO i1 i2 [i1, a1] [i2, a2]) :
    Turn P w K (.Tuple elts kk tpos) (Itz2 K b1 b2 a1 a2) [z, TI, TO, i1, i2] z
      (fun i h => IsZip h z TI TO .none ∧ IsTupOf2 h TI (.ref i1) (.ref i2) ∧ (∃ x y, IsTupOf2 h TO x y) ∧ ItX b1 h i1 a1 i ∧ ItX b2 h i2 a2 i) where
  mem := by simp
  obj := fun i h st c hc => by
    obtain ⟨hz, hTI, ⟨x, y, hTO⟩, h1, h2⟩ := st
    have e' : c = z ∨ c = TI ∨ c = TO ∨ c = i1 ∨ c = i2 := by simpa using hc
    rcases e' with q | q | q | q | q
    · rw [q]; exact ⟨_, hz, fun v q => nomatch q⟩
    · rw [q]; exact ⟨_, hTI, fun v q => nomatch q⟩
    · rw [q]; exact ⟨_, hTO, fun v q => nomatch q⟩
    · rw [q]; exact itx_ob h1
    · rw [q]; exact itx_ob h2
  keep := fun i h h' st k => by
    obtain ⟨hz, hTI, ⟨x, y, hTO⟩, h1, h2⟩ := st
    exact ⟨k z (by simp) _ hz, k TI (by simp) _ hTI, ⟨x, y, k TO (by simp) _ hTO⟩, itx_at h1 fun o q => k i1 (by simp) o q, itx_at h2 fun o q => k i2 (by simp) o q⟩
  item := by
    intro X hP hw hK hc i pins s σ H E I hf st hg
    subst hP hw hK
    obtain ⟨xs, ys, x, y, hqx, hqy, hx, hy⟩ := hg
    obtain ⟨js1, r1, c1⟩ := sqx_in I hqx
    obtain ⟨js2, r2, c2⟩ := sqx_in I hqy
    obtain ⟨hz, hTI, hTO, h1, h2⟩ := st
    have hh : X.A.in1.handled = none := I.ok.hd hc
    have W := GoesN.zip2 (prog := X.prog) (w := X.w) (A := X.A) (elts := elts) (x1 := kk) (pos := tpos) S (draws_x b1 hh i1 a1 (itx_ne h1 c1) js1.toArray) (draws_x b2 hh i2 a2 (itx_ne h2 c2) js2.toArray)
    have l1 := (List.getElem?_eq_some_iff.mp hx).1
    have l2 := (List.getElem?_eq_some_iff.mp hy).1
    have hzl : z < s.heap.objs.size := Heap.lt_size hz
    have hin : i < min js1.toArray.size js2.toArray.size := by rw [vals_size r1, vals_size r2]; omega
    refine W.goes i s _ E hin ⟨hz, hTI, hTO, ⟨h1, c1⟩, ⟨h2, c2⟩⟩ fun v h' tk hY st' hk htk => ?_
    obtain ⟨T, v1, v2, rfl, hT, e1, e2, hTt⟩ := hY
    obtain ⟨w1, q1, p1⟩ := r1.get hx
    obtain ⟨w2, q2, p2⟩ := r2.get hy
    have x1 : v1 = w1 := by
      have z1 : js1[i]? = some v1 := by simpa using e1
      rw [q1] at z1; exact (Option.some.inj z1).symm
    have x2 : v2 = w2 := by
      have z1 : js2[i]? = some v2 := by simpa using e2
      rw [q2] at z1; exact (Option.some.inj z1).symm
    subst x1 x2
    have new : ObjOk X.prog X.w (upd H T (.tup [x, y])) h' T (.tup [x, y]) := ⟨by show 2 ≤ sizeLine; rw [sizeLine_eq]; decide, [v1, v2], .cons p1 (.cons p2 .nil), hTt⟩
    have I1 : Inv X pins σ (upd H T (.tup [x, y])) { s with heap := h', toks := tk } :=
      I.turnedNew (ch := [z, TI, TO, i1, i2]) (fun b o hb q => hk b o (fun m => hb (by simp at m ⊢; rcases m with m | m | m | m <;> simp [m])) q) hf hT new
    refine ⟨.ref T, _, I1, rfl, ⟨T, x, y, rfl, I.hok.fresh hT, rfl, fun l hl => by rw [sqx_inj I hl hqx]; exact hx, fun l hl => by rw [sqx_inj I hl hqy]; exact hy⟩, ?_, fun b hb => ?_⟩
    · obtain ⟨g1, g2, g3, g4, g5⟩ := st'
      exact ⟨g1, g2, g3, g4.1, g5.1⟩
    · have hlt : b < s.heap.objs.size := by
        obtain ⟨ax, ay, hTO⟩ := hTO
        have e' : b = z ∨ b = TI ∨ b = TO ∨ b = i1 ∨ b = i2 := by simpa using hb
        rcases e' with q | q | q | q | q
        · rw [q]; exact hzl
        · rw [q]; exact Heap.lt_size hTI
        · rw [q]; exact Heap.lt_size hTO
        · rw [q]; exact itx_lt h1
        · rw [q]; exact itx_lt h2
      rw [upd_ne (Nat.ne_of_lt (Nat.lt_of_lt_of_le hlt hT))]
      exact (hf b hb).1
  done := by
    intro X hP hw hK hc i pins s σ H E I hf st hg
    subst hP hw hK
    obtain ⟨xs, ys, hqx, hqy, hi⟩ := hg
    obtain ⟨js1, r1, c1⟩ := sqx_in I hqx
    obtain ⟨js2, r2, c2⟩ := sqx_in I hqy
    obtain ⟨hz, hTI, hTO, h1, h2⟩ := st
    have hh : X.A.in1.handled = none := I.ok.hd hc
    have W := GoesN.zip2 (prog := X.prog) (w := X.w) (A := X.A) (elts := elts) (x1 := kk) (pos := tpos) S (draws_x b1 hh i1 a1 (itx_ne h1 c1) js1.toArray) (draws_x b2 hh i2 a2 (itx_ne h2 c2) js2.toArray)
    rw [vals_size r1, vals_size r2, ← hi] at W
    refine W.stops s _ E ⟨hz, hTI, hTO, ⟨h1, c1⟩, ⟨h2, c2⟩⟩ fun h' tk hk htk => ?_
    exact I.turnedL (ch := [z, TI, TO, i1, i2]) (fun b o hb q => hk b o (fun m => hb (by simp at m ⊢; rcases m with m | m | m | m <;> simp [m])) q) hf
  self := fun A i s Q E st h => wpAny_pyIter_zip st.1 h
def iZip2 (K : PySem.W.Frag) (ta : TA) : TI := fun σ H R => ta σ H fun vs H1 => ∃ b1 b2 a1 a2 xs ys, vs = [.ref a1, .ref a2] ∧ SqX K b1 H1 a1 xs ∧ SqX K b2 H1 a2 ys ∧ R (Itz2 K b1 b2 a1 a2) H1
theorem cnx_lt {b : Bool} {a : Addr} {its : Array Value} {h : Heap} (c : CnX b a its h) : a < h.objs.size := by
  cases b with
  | true => obtain ⟨o, e, _⟩ := (show h.IsList a its from c); exact Heap.lt_size e
  | false => obtain ⟨o, e, _⟩ := (show h.IsTuple a its from c); exact Heap.lt_size e
theorem pi_zip2 {X : Cx} {e e2 : Expr} {ta : TA} {p pos tpos : Pos} {elts : List Expr} {kk : Nat} (hg : Gl X "zip") (hm : X.mg "zip" = none) (ha : PA X [e, e2] ta)
    (hs : starEach [e, e2] X.env = (false, eval e X.env) :: starEach [e2] X.env := by rfl) (hpl : (backTo pos (starEach [e2] X.env)).any (·.1) = false := by rfl) :
    PI X (.Tuple elts kk tpos) (.Call (.Name "zip" p) [e, e2] [] pos) (iZip2 X.K ta) := by
  refine ⟨fun pins s σ H R I h => ?_⟩
  refine Call_ (ld_blt I hg hm PyProof.Rows.boot_zip (PyProof.Rows.callWith_type1 (thn (ha.run pos pins s σ H _ I h) fun us s1 ⟨vs, H1, I1, r1, q1⟩ => ?_) hs hpl))
  obtain ⟨b1, b2, a1, a2, xs, ys, ex, hq1, hq2, q⟩ := q1
  subst ex
  obtain ⟨u1, u2, rfl, r1, r2⟩ := vals2 r1
  cases r1
  cases r2
  obtain ⟨js1, w1, c1⟩ := sqx_in I1 hq1
  obtain ⟨js2, w2, c2⟩ := sqx_in I1 hq2
  refine zip_begins2 (begins_x b1 a1 js1.toArray) (begins_x b2 a2 js2.toArray) c1 c2 fun h' hz hTI hTO h1 h2 hsz hk => wpAny_pyIter_zip hz ?_
  have I2 : Inv X pins σ H1 { s1 with heap := h' } := I1.kept (t' := s1.toks) hk
  have S := zip_sep2 (N := s1.heap.objs.size) (fp1 := [a1]) (fp2 := [a2]) (fun b hb => by rw [List.mem_singleton.mp hb]; exact cnx_lt c1) (fun b hb => by rw [List.mem_singleton.mp hb]; exact cnx_lt c2)
  refine ⟨s1.heap.objs.size + 4, [s1.heap.objs.size + 4, s1.heap.objs.size + 2, s1.heap.objs.size + 3, s1.heap.objs.size, s1.heap.objs.size + 1], _, _, H1, rfl, I2, turn_zip2 (b1 := b1) (b2 := b2) S, ⟨hz, hTI, ⟨_, _, hTO⟩, itx_new h1, itx_new h2⟩, fun b hb => ?_, q⟩
  have hle : s1.heap.objs.size ≤ b := by
    have e' : b = s1.heap.objs.size + 4 ∨ b = s1.heap.objs.size + 2 ∨ b = s1.heap.objs.size + 3 ∨ b = s1.heap.objs.size ∨ b = s1.heap.objs.size + 1 := by simpa using hb
    rcases e' with z | z | z | z | z
    all_goals (rw [z])
    all_goals first | exact Nat.le_refl _ | exact Nat.le_add_right _ _
  exact I1.fpOk hle (I1.hok.fresh hle)

/-! ### enumerate -/
def Ite1 (K : PySem.W.Frag) (b : Bool) (a : Addr) : It :=
  ⟨fun i H => ∃ (xs : List V) (x : V), SqX K b H a xs ∧ xs[i]? = some x, fun i H v H' => ∃ T x, v = .ref T ∧ H T = none ∧ H' = upd H T (.tup [.int (i : Nat), x]) ∧ ∀ xs, SqX K b H a xs → xs[i]? = some x, fun i H => ∃ xs : List V, SqX K b H a xs ∧ i = xs.length⟩
theorem turn_enum1 {P : Program} {w : World} {K : PySem.W.Frag} {elts : List Expr} {kk : Nat} {tpos : Pos} {b : Bool} {a e it : Addr} (hei : e ≠ it) (hea : e ≠ a) :
    Turn P w K (.Tuple elts kk tpos) (Ite1 K b a) [e, it] e (fun i h => (∃ old, IsEnum h e it ((0 : Int) + (i : Int)) old) ∧ ItX b h it a i) where
  mem := by simp
  obj := fun i h st c hc => by
    obtain ⟨⟨old, he⟩, h1⟩ := st
    have e' : c = e ∨ c = it := by simpa using hc
    rcases e' with z | z
    · rw [z]; exact ⟨_, he, fun v q => nomatch q⟩
    · rw [z]; exact itx_ob h1
  keep := fun i h h' st k => let ⟨⟨old, he⟩, h1⟩ := st; ⟨⟨old, k e (by simp) _ he⟩, itx_at h1 fun o q => k it (by simp) o q⟩
  item := by
    intro X hP hw hK hc i pins s σ H E I hf st hg
    subst hP hw hK
    obtain ⟨xs, x, hq, hx⟩ := hg
    obtain ⟨js, r, c⟩ := sqx_in I hq
    obtain ⟨he, h1⟩ := st
    have hh : X.A.in1.handled = none := I.ok.hd hc
    have W := GoesN.enumFrom (prog := X.prog) (w := X.w) (A := X.A) (elts := elts) (x1 := kk) (pos := tpos) 0 (draws_x b hh it a (itx_ne h1 c) js.toArray) e hei (by simp [hei, hea]) (by simp)
    have l1 := (List.getElem?_eq_some_iff.mp hx).1
    have hin : i < js.toArray.size := by rw [vals_size r]; omega
    refine W.goes i s _ E hin ⟨he, h1, c⟩ fun v h' tk hY st' hk htk => ?_
    obtain ⟨T, t, v1, rfl, hT, e1, hTt⟩ := hY
    obtain ⟨w1, q1, p1⟩ := r.get hx
    have x1 : v1 = w1 := by
      have z1 : js[i]? = some v1 := by simpa using e1
      rw [q1] at z1; exact (Option.some.inj z1).symm
    subst x1
    have new : ObjOk X.prog X.w (upd H T (.tup [.int (i : Nat), x])) h' T (.tup [.int (i : Nat), x]) := ⟨by show 2 ≤ sizeLine; rw [sizeLine_eq]; decide, [.int (0 + (i : Int)) t, v1], .cons ⟨t, by rw [Int.zero_add]⟩ (.cons p1 .nil), hTt⟩
    have I1 : Inv X pins σ (upd H T (.tup [.int (i : Nat), x])) { s with heap := h', toks := tk } := I.turnedNew (ch := [e, it]) hk hf hT new
    refine ⟨.ref T, _, I1, rfl, ⟨T, x, rfl, I.hok.fresh hT, rfl, fun l hl => by rw [sqx_inj I hl hq]; exact hx⟩, ⟨st'.1, st'.2.1⟩, fun c' hb => ?_⟩
    have hlt : c' < s.heap.objs.size := by
      have e' : c' = e ∨ c' = it := by simpa using hb
      rcases e' with z | z
      · rw [z]; obtain ⟨old, he⟩ := he; exact Heap.lt_size he
      · rw [z]; exact itx_lt h1
    rw [upd_ne (Nat.ne_of_lt (Nat.lt_of_lt_of_le hlt hT))]
    exact (hf c' hb).1
  done := by
    intro X hP hw hK hc i pins s σ H E I hf st hg
    subst hP hw hK
    obtain ⟨xs, hq, hi⟩ := hg
    obtain ⟨js, r, c⟩ := sqx_in I hq
    obtain ⟨he, h1⟩ := st
    have hh : X.A.in1.handled = none := I.ok.hd hc
    have W := GoesN.enumFrom (prog := X.prog) (w := X.w) (A := X.A) (elts := elts) (x1 := kk) (pos := tpos) 0 (draws_x b hh it a (itx_ne h1 c) js.toArray) e hei (by simp [hei, hea]) (by simp)
    rw [vals_size r, ← hi] at W
    refine W.stops s _ E ⟨he, h1, c⟩ fun h' tk hk htk => ?_
    exact I.turnedL (ch := [e, it]) hk hf
  self := fun A i s Q E st h => let ⟨⟨_, he⟩, _⟩ := st; wpAny_pyIter_enum he h
theorem enum1_meets {v : Value} {o : Obj} {Hh : Heap → Prop} (B : Begins v o Hh) :
    Meets (Builtin.«enumerate.__new__» ⟨[.type "enumerate", v], []⟩) (fun _ R s => Hh s.heap ∧
      R (.ok (.ret (.ref (s.heap.push o).objs.size))) { s with heap := (s.heap.push o).push { cls := .type "enumerate", data := .fields #[.none, .bool false, .ref s.heap.objs.size, rawInt 0, .none, .none] } }) :=
  .of_wp fun prog w A R s h => by
    obtain ⟨hp, g, d, tk, os⟩ := s; obtain ⟨h1, h⟩ := h
    have hsub := sub_enumerate
    have go : ∀ {A' : Around} {E : Value → Shared → Prop} {Q : Value → Shared → Prop}, Q (.ref hp.objs.size) ⟨hp.push o, g, d, tk, os⟩ → wpAny (model prog w) A' (pyIter v) Q E ⟨hp, g, d, tk, os⟩ :=
      fun q => B.iter prog w _ _ ⟨hp, g, d, tk, os⟩ _ h1 q
    wp_walk using go
    refine wpAny_stack_any fun st => wpAny_pure ?_
    split
    · rename_i c _ _ _ _ _
      cases (c == Value.type "enumerate") <;> (wp_walk using go; exact ⟨_, rfl, h⟩)
    · wp_walk using go
      exact ⟨_, rfl, h⟩
theorem enum1_call {prog : Program} {w : World} {A : Around} {E : Value → Shared → Prop} {s : Shared} {v : Value} {o : Obj} {Hh : Heap → Prop} {Q : Value → Shared → Prop} (B : Begins v o Hh) (h1 : Hh s.heap)
    (h : ∀ h', IsEnum h' (s.heap.objs.size + 1) s.heap.objs.size 0 .none → h'.get? s.heap.objs.size = some o → (∀ b o, s.heap.get? b = some o → h'.get? b = some o) → Q (.ref (s.heap.objs.size + 1)) { s with heap := h' }) :
    wpAny (model prog w) A (call (.type "enumerate") [v]) Q E s := by
  refine callType_new F.called_enumerate (by decide) (F.typeCall_enumerate_1 _) (F.newCall_enumerate_1 _) (fun obj => F.args_object_init_2 obj _) F.entry_enumerate_new (enum1_meets B) ⟨h1, ?_⟩
  have hz : (s.heap.push o).objs.size = s.heap.objs.size + 1 := Heap.size_push ..
  show _ ∧ _
  rw [hz]
  have he := Heap.get?_push_size (s.heap.push o) (o := { cls := .type "enumerate", data := .fields #[.none, .bool false, .ref s.heap.objs.size, rawInt 0, .none, .none] }) rfl
  rw [hz] at he
  exact ⟨⟨_, he, rfl⟩, h _ he (Heap.get?_push_of_some _ (Heap.get?_push_size _ B.free)) fun b o' x => Heap.get?_push_of_some _ (Heap.get?_push_of_some _ x)⟩
def iEnum1 (K : PySem.W.Frag) (ta : TA) : TI := fun σ H R => ta σ H fun vs H1 => ∃ b a xs, vs = [.ref a] ∧ SqX K b H1 a xs ∧ R (Ite1 K b a) H1
theorem pi_enum1 {X : Cx} {e : Expr} {ta : TA} {p pos tpos : Pos} {elts : List Expr} {kk : Nat} (hg : Gl X "enumerate") (hm : X.mg "enumerate" = none) (ha : PA X [e] ta) (hs : starEach [e] X.env = [(false, eval e X.env)] := by rfl) :
    PI X (.Tuple elts kk tpos) (.Call (.Name "enumerate" p) [e] [] pos) (iEnum1 X.K ta) := by
  refine ⟨fun pins s σ H R I h => ?_⟩
  refine Call_ (ld_blt I hg hm boot_enumerate (PyProof.Rows.callWith_type1 (thn (ha.run pos pins s σ H _ I h) fun us s1 ⟨vs, H1, I1, r1, q1⟩ => ?_) hs rfl))
  obtain ⟨b, a, xs, ex, hq, q⟩ := q1
  subst ex
  obtain ⟨u, rfl, r⟩ := vals1 r1
  cases r
  obtain ⟨js, w, c⟩ := sqx_in I1 hq
  refine enum1_call (begins_x b a js.toArray) c fun h' he h1 hk => wpAny_pyIter_enum he ?_
  have I2 : Inv X pins σ H1 { s1 with heap := h' } := I1.kept (t' := s1.toks) hk
  have hlt := cnx_lt c
  refine ⟨s1.heap.objs.size + 1, [s1.heap.objs.size + 1, s1.heap.objs.size], _, _, H1, rfl, I2, turn_enum1 (b := b) (a := a) (Nat.succ_ne_self _) (Nat.ne_of_gt (Nat.lt_succ_of_lt hlt)), ⟨⟨.none, he⟩, itx_new h1⟩, fun c' hb => ?_, q⟩
  have hle : s1.heap.objs.size ≤ c' := by
    have e' : c' = s1.heap.objs.size + 1 ∨ c' = s1.heap.objs.size := by simpa using hb
    rcases e' with z | z
    all_goals (rw [z])
    all_goals first | exact Nat.le_refl _ | exact Nat.le_add_right _ _
  exact I1.fpOk hle (I1.hok.fresh hle)

/-! ### by data -/
def seqD (d : D) : Option (Bool × List D) := match d with | .lst xs => some (true, xs) | .tup xs => some (false, xs) | _ => none
theorem seq_rep {K : PySem.W.Frag} {G : Hp} {d : D} {v : V} {b : Bool} {xs : List D} (h : Rep K G d v) (q : seqD d = some (b, xs)) : ∃ a vs, v = .ref a ∧ SqX K b G a vs ∧ Reps K G xs vs := by
  cases d <;> cases q
  · cases h with | lst h r => exact ⟨_, _, rfl, .of h, r⟩
  · cases h with | tup h r => exact ⟨_, _, rfl, .of h, r⟩
theorem sqx_fun {K : PySem.W.Frag} {b : Bool} {G H : Hp} {a : Addr} {vs : List V} : SqX K b G a vs → Ex G H → SqX K b H a vs := fun h e => h.mono e
def iEn (f : DE) : DI := fun ρ => (f ρ).bind fun d => (seqD d).map fun q => (List.range q.2.length).map fun i => .p (.tup [.int (i : Nat), q.2.getD i .non])
def zip2D : List D → List D → List Cell
  | a :: as, b :: bs => .p (.tup [a, b]) :: zip2D as bs
  | _, _ => []
def zip3D : List D → List D → List D → List Cell
  | a :: as, b :: bs, c :: cs => .p (.tup [a, b, c]) :: zip3D as bs cs
  | _, _, _ => []
theorem zip2D_len : ∀ (as bs : List D), (zip2D as bs).length = min as.length bs.length
  | [], _ => by simp [zip2D]
  | _ :: _, [] => by simp [zip2D]
  | a :: as, b :: bs => by simp only [zip2D, List.length_cons, zip2D_len as bs]; omega
theorem zip3D_len : ∀ (as bs cs : List D), (zip3D as bs cs).length = min (min as.length bs.length) cs.length
  | [], _, _ => by simp [zip3D]
  | _ :: _, [], _ => by simp [zip3D]
  | _ :: _, _ :: _, [] => by simp [zip3D]
  | a :: as, b :: bs, c :: cs => by simp only [zip3D, List.length_cons, zip3D_len as bs cs]; omega
theorem zip2D_get : ∀ (as bs : List D) (i : Nat) (c : Cell), (zip2D as bs)[i]? = some c → ∃ a b, c = .p (.tup [a, b]) ∧ as[i]? = some a ∧ bs[i]? = some b
  | [], _, _, _, h => by simp [zip2D] at h
  | _ :: _, [], _, _, h => by simp [zip2D] at h
  | a :: as, b :: bs, 0, c, h => by simp [zip2D] at h; exact ⟨a, b, h.symm, rfl, rfl⟩
  | a :: as, b :: bs, i + 1, c, h => by simpa using zip2D_get as bs i c (by simpa [zip2D] using h)
theorem zip3D_get : ∀ (as bs cs : List D) (i : Nat) (x : Cell), (zip3D as bs cs)[i]? = some x → ∃ a b c, x = .p (.tup [a, b, c]) ∧ as[i]? = some a ∧ bs[i]? = some b ∧ cs[i]? = some c
  | [], _, _, _, _, h => by simp [zip3D] at h
  | _ :: _, [], _, _, _, h => by simp [zip3D] at h
  | _ :: _, _ :: _, [], _, _, h => by simp [zip3D] at h
  | a :: as, b :: bs, c :: cs, 0, x, h => by simp [zip3D] at h; exact ⟨a, b, c, h.symm, rfl, rfl, rfl⟩
  | a :: as, b :: bs, c :: cs, i + 1, x, h => by simpa using zip3D_get as bs cs i x (by simpa [zip3D] using h)
theorem Up.pair {G H : Hp} {T : Addr} {o : HO} (l : Ex G H) (h : H T = none) : Up G H (upd G T o) (upd H T o) := .pure l h
def iZ2 (fa fb : DE) : DI := fun ρ => (fa ρ).bind fun d => (fb ρ).bind fun e => (seqD d).bind fun p => (seqD e).map fun q => zip2D p.2 q.2
def iZ3 (fa fb fc : DE) : DI := fun ρ => (fa ρ).bind fun d => (fb ρ).bind fun e => (fc ρ).bind fun f => (seqD d).bind fun p => (seqD e).bind fun q => (seqD f).map fun r => zip3D p.2 q.2 r.2
section
variable {X : Cx} {a b c : Expr} {fa fb fc : DE} {elts : List Expr} {kk : Nat} {p pos tpos : Pos}
theorem ig_enum (hm : X.mg "enumerate" = none) (ha : PuE X a fa) (hg : Gl X "enumerate" := by rfl) (hs : starEach [a] X.env = [(false, eval a X.env)] := by rfl) (hs1 : starEach (a :: []) X.env = (false, eval a X.env) :: starEach [] X.env := by rfl) :
    ItG X (.Tuple elts kk tpos) (.Call (.Name "enumerate" p) [a] [] pos) (iEn fa) :=
  let ⟨_, a1, a2⟩ := (pa_consU ha pa_nilU hs1).ex; ⟨_, pi_enum1 hg hm a1 hs, fun ρ σ G H R cs l r q k => by
    unfold iEn at q
    cases z : fa ρ with
    | none => rw [z] at q; cases q
    | some d =>
      rw [z] at q
      have q : ((seqD d).map fun q => (List.range q.2.length).map fun i => Cell.p (.tup [.int (i : Nat), q.2.getD i .non])) = some cs := q
      cases z2 : seqD d with
      | none => rw [z2] at q; cases q
      | some bx =>
        obtain ⟨bb, xs⟩ := bx
        rw [z2] at q; cases q
        refine a2 ρ σ G H _ [d] l r (by simp [dCons, dNil, z]) fun vs G1 H1 u1 rvs => ?_
        cases rvs with
        | cons r1 t =>
          cases t
          obtain ⟨ad, ws, rfl, hx, rw'⟩ := seq_rep r1 z2
          refine ⟨bb, ad, ws, rfl, hx.mono u1.le, k _ G1 H1 u1 fun i G2 H2 g l2 => ?_⟩
          have hx2 : SqX X.K bb H2 ad ws := (hx.mono g).mono l2
          refine ⟨fun cc hc => ?_, fun hi => ⟨ws, hx2, ?_⟩⟩
          · rw [List.getElem?_map] at hc
            by_cases hi : i < xs.length
            · rw [List.getElem?_range hi] at hc; cases hc
              have e1 : xs[i]? = some xs[i] := List.getElem?_eq_getElem hi
              obtain ⟨w, h1, h2⟩ := rw'.get e1
              refine ⟨⟨ws, w, hx2, h1⟩, fun v H3 y => ?_⟩
              obtain ⟨T, x, rfl, nT, rfl, f1⟩ := y
              have e := f1 ws hx2
              rw [h1] at e; cases e
              refine ⟨_, .pair l2 nT, .tup upd_same (.cons (.int _) (.cons ?_ .nil))⟩
              rw [List.getD_eq_getElem?_getD, e1]
              exact h2.mono (g.trans (.new (l2.free nT)))
            · rw [List.getElem?_eq_none (by simp; omega)] at hc; cases hc
          · rw [hi, ← rw'.length]; simp⟩
theorem ig_zip2 (hm : X.mg "zip" = none) (ha : PuE X a fa) (hb : PuE X b fb) (hg : Gl X "zip" := by rfl) (hs : starEach [a, b] X.env = (false, eval a X.env) :: starEach [b] X.env := by rfl) (hs1 : starEach (b :: []) X.env = (false, eval b X.env) :: starEach [] X.env := by rfl)
    (hpl : (backTo pos (starEach [b] X.env)).any (·.1) = false := by rfl) : ItG X (.Tuple elts kk tpos) (.Call (.Name "zip" p) [a, b] [] pos) (iZ2 fa fb) :=
  let ⟨_, a1, a2⟩ := (pa_consU ha (pa_consU hb pa_nilU hs1) hs).ex; ⟨_, pi_zip2 hg hm a1 hs hpl, fun ρ σ G H R cs l r q k => by
    unfold iZ2 at q
    cases z : fa ρ with
    | none => rw [z] at q; cases q
    | some d =>
      cases y : fb ρ with
      | none => simp [z, y] at q
      | some e =>
        simp only [z, y, Option.bind_some] at q
        cases z2 : seqD d with
        | none => simp [z2] at q
        | some bx =>
          obtain ⟨b1, xs⟩ := bx
          cases y2 : seqD e with
          | none => simp [z2, y2] at q
          | some by' =>
            obtain ⟨b2, ys⟩ := by'
            simp only [z2, y2, Option.bind_some, Option.map_some] at q
            cases q
            refine a2 ρ σ G H _ [d, e] l r (by simp [dCons, dNil, z, y]) fun vs G1 H1 u1 rvs => ?_
            cases rvs with
            | cons r1 t => cases t with
              | cons r2 t =>
                cases t
                obtain ⟨ad, ws, rfl, hx, rw1⟩ := seq_rep r1 z2
                obtain ⟨ae, us, rfl, hy, rw2⟩ := seq_rep r2 y2
                refine ⟨b1, b2, ad, ae, ws, us, rfl, hx.mono u1.le, hy.mono u1.le, k _ G1 H1 u1 fun i G2 H2 g l2 => ?_⟩
                have hx2 : SqX X.K b1 H2 ad ws := (hx.mono g).mono l2
                have hy2 : SqX X.K b2 H2 ae us := (hy.mono g).mono l2
                refine ⟨fun cc hc => ?_, fun hi => ⟨ws, us, hx2, hy2, by rw [hi, zip2D_len, rw1.length, rw2.length]⟩⟩
                obtain ⟨x, w, rfl, e1, e2⟩ := zip2D_get _ _ _ _ hc
                obtain ⟨v1, g1, p1⟩ := rw1.get e1
                obtain ⟨v2, g2, p2⟩ := rw2.get e2
                refine ⟨⟨ws, us, v1, v2, hx2, hy2, g1, g2⟩, fun v H3 yy => ?_⟩
                obtain ⟨T, x', y', rfl, nT, rfl, f1, f2⟩ := yy
                have e1 := f1 ws hx2
                have e2 := f2 us hy2
                rw [g1] at e1; cases e1
                rw [g2] at e2; cases e2
                have gg := g.trans (Ex.new (o := .tup [v1, v2]) (l2.free nT))
                exact ⟨_, .pair l2 nT, .tup upd_same (.cons (p1.mono gg) (.cons (p2.mono gg) .nil))⟩⟩
theorem ig_zip3 (hm : X.mg "zip" = none) (ha : PuE X a fa) (hb : PuE X b fb) (hc : PuE X c fc) (hg : Gl X "zip" := by rfl) (hs : starEach [a, b, c] X.env = (false, eval a X.env) :: starEach [b, c] X.env := by rfl) (hs1 : starEach (b :: [c]) X.env = (false, eval b X.env) :: starEach [c] X.env := by rfl)
    (hs2 : starEach (c :: []) X.env = (false, eval c X.env) :: starEach [] X.env := by rfl) (hpl : (backTo pos (starEach [b, c] X.env)).any (·.1) = false := by rfl) : ItG X (.Tuple elts kk tpos) (.Call (.Name "zip" p) [a, b, c] [] pos) (iZ3 fa fb fc) :=
  let ⟨_, a1, a2⟩ := (pa_consU ha (pa_consU hb (pa_consU hc pa_nilU hs2) hs1) hs).ex; ⟨_, pi_zip3 hg hm a1 hs hpl, fun ρ σ G H R cs l r q k => by
    unfold iZ3 at q
    cases z : fa ρ with
    | none => rw [z] at q; cases q
    | some d =>
      cases y : fb ρ with
      | none => simp [z, y] at q
      | some e =>
        cases t : fc ρ with
        | none => simp [z, y, t] at q
        | some f =>
          simp only [z, y, t, Option.bind_some] at q
          cases z2 : seqD d with
          | none => simp [z2] at q
          | some bx =>
            obtain ⟨b1, xs⟩ := bx
            cases y2 : seqD e with
            | none => simp [z2, y2] at q
            | some by' =>
              obtain ⟨b2, ys⟩ := by'
              cases t2 : seqD f with
              | none => simp [z2, y2, t2] at q
              | some bt =>
                obtain ⟨b3, zs⟩ := bt
                simp only [z2, y2, t2, Option.bind_some, Option.map_some] at q
                cases q
                refine a2 ρ σ G H _ [d, e, f] l r (by simp [dCons, dNil, z, y, t]) fun vs G1 H1 u1 rvs => ?_
                cases rvs with
                | cons r1 t => cases t with
                  | cons r2 t => cases t with
                    | cons r3 t =>
                      cases t
                      obtain ⟨ad, ws, rfl, hx, rw1⟩ := seq_rep r1 z2
                      obtain ⟨ae, us, rfl, hy, rw2⟩ := seq_rep r2 y2
                      obtain ⟨af, ts, rfl, hz, rw3⟩ := seq_rep r3 t2
                      refine ⟨b1, b2, b3, ad, ae, af, ws, us, ts, rfl, hx.mono u1.le, hy.mono u1.le, hz.mono u1.le, k _ G1 H1 u1 fun i G2 H2 g l2 => ?_⟩
                      have hx2 : SqX X.K b1 H2 ad ws := (hx.mono g).mono l2
                      have hy2 : SqX X.K b2 H2 ae us := (hy.mono g).mono l2
                      have hz2 : SqX X.K b3 H2 af ts := (hz.mono g).mono l2
                      refine ⟨fun cc hc => ?_, fun hi => ⟨ws, us, ts, hx2, hy2, hz2, by rw [hi, zip3D_len, rw1.length, rw2.length, rw3.length]⟩⟩
                      obtain ⟨x, w, o, rfl, e1, e2, e3⟩ := zip3D_get _ _ _ _ _ hc
                      obtain ⟨v1, g1, p1⟩ := rw1.get e1
                      obtain ⟨v2, g2, p2⟩ := rw2.get e2
                      obtain ⟨v3, g3, p3⟩ := rw3.get e3
                      refine ⟨⟨ws, us, ts, v1, v2, v3, hx2, hy2, hz2, g1, g2, g3⟩, fun v H3 yy => ?_⟩
                      obtain ⟨T, x', y', z', rfl, nT, rfl, f1, f2, f3⟩ := yy
                      have e1 := f1 ws hx2
                      have e2 := f2 us hy2
                      have e3 := f3 ts hz2
                      rw [g1] at e1; cases e1
                      rw [g2] at e2; cases e2
                      rw [g3] at e3; cases e3
                      have gg := g.trans (Ex.new (o := .tup [v1, v2, v3]) (l2.free nT))
                      exact ⟨_, .pair l2 nT, .tup upd_same (.cons (p1.mono gg) (.cons (p2.mono gg) (.cons (p3.mono gg) .nil)))⟩⟩
end
end PL

namespace PL
open PySem PySem.Spec PyProof.Rows L2 PySem.W

/-! ## sums, least and greatest -/
/-- all ints -/
def intsD : List D → Option (List Int)
  | [] => some []
  | .int i :: ds => (intsD ds).map fun is => i :: is
  | _ :: _ => none
theorem intsD_eq : ∀ {ds : List D} {ns : List Int}, intsD ds = some ns → ds = ns.map D.int
  | [], _, h => by cases h; rfl
  | d :: ds, ns, h => by
    cases d <;> try (cases h; done)
    rename_i i
    have h : (intsD ds).map (fun is => i :: is) = some ns := h
    cases z : intsD ds with
    | none => rw [z] at h; cases h
    | some ms => rw [z] at h; cases h; rw [intsD_eq z]; rfl
theorem intsD_map : ∀ ns : List Int, intsD (ns.map D.int) = some ns
  | [] => rfl
  | n :: ns => by rw [List.map_cons, intsD, intsD_map ns]; rfl
def blsD : List D → Option (List Bool)
  | [] => some []
  | .bl i :: ds => (blsD ds).map fun is => i :: is
  | _ :: _ => none
theorem blsD_eq : ∀ {ds : List D} {ns : List Bool}, blsD ds = some ns → ds = ns.map D.bl
  | [], _, h => by cases h; rfl
  | d :: ds, ns, h => by
    cases d <;> try (cases h; done)
    rename_i i
    have h : (blsD ds).map (fun is => i :: is) = some ns := h
    cases z : blsD ds with
    | none => rw [z] at h; cases h
    | some ms => rw [z] at h; cases h; rw [blsD_eq z]; rfl
theorem blsD_map : ∀ ns : List Bool, blsD (ns.map D.bl) = some ns
  | [] => rfl
  | n :: ns => by rw [List.map_cons, blsD, blsD_map ns]; rfl
def gSum (d : D) : Option D := match d with | .lst xs => (intsD xs).map fun ns => .int ns.sum | _ => none
def gAll (d : D) : Option D := match d with | .lst xs => (blsD xs).map fun bs => .bl (bs.all id) | _ => none
section
variable {X : Cx}
theorem b_sum (hc : X.calm = true) : Blt X "sum" (.builtin "sum") (b1 gSum) := ⟨⟨_, cr_sum hc, cok1 fun G H v d z Q l rv q k => by
  cases d <;> try (cases q; done)
  rename_i xs
  have q : ((intsD xs).map fun ns => D.int ns.sum) = some z := q
  cases e : intsD xs with
  | none => rw [e] at q; cases q
  | some ns =>
    rw [e] at q; cases q
    have := intsD_eq e
    subst this
    obtain ⟨p, vs, rfl, hp, rp⟩ := rv.lst_inv l
    have := rp.ints
    subst this
    exact ⟨p, ns, rfl, .of hp, k _ G H (.refl l) (.int _)⟩⟩, by decide +kernel⟩
theorem b_all (hc : X.calm = true) : Blt X "all" (.builtin "all") (b1 gAll) := ⟨⟨_, cr_all hc, cok1 fun G H v d z Q l rv q k => by
  cases d <;> try (cases q; done)
  rename_i xs
  have q : ((blsD xs).map fun bs => D.bl (bs.all id)) = some z := q
  cases e : blsD xs with
  | none => rw [e] at q; cases q
  | some ns =>
    rw [e] at q; cases q
    have := blsD_eq e
    subst this
    obtain ⟨p, vs, rfl, hp, rp⟩ := rv.lst_inv l
    have := rp.bls
    subst this
    exact ⟨p, ns, rfl, .of hp, k _ G H (.refl l) (.bl _)⟩⟩, by decide +kernel⟩
/-- of a tuple of ints -/
def rMaxT (K : PySem.W.Frag) : List V → Hp → VK → Prop := fun vs H Q => ∃ (a : Addr) (n : Int) (ns : List Int), vs = [V.ref a] ∧ SqT K H a ((n :: ns).map V.int) ∧ Q (.int (ns.foldl max n)) H
def rMinT (K : PySem.W.Frag) : List V → Hp → VK → Prop := fun vs H Q => ∃ (a : Addr) (n : Int) (ns : List Int), vs = [V.ref a] ∧ SqT K H a ((n :: ns).map V.int) ∧ Q (.int (ns.foldl min n)) H
theorem alike_ints (ns : List Int) : AlikeAll (ns.map PyData.int) := ⟨fun x hx y hy => by
    obtain ⟨i, _, rfl⟩ := List.mem_map.mp hx
    obtain ⟨j, _, rfl⟩ := List.mem_map.mp hy
    rfl, fun x hx e => by
    obtain ⟨i, _, rfl⟩ := List.mem_map.mp hx
    cases e⟩
theorem cr_maxT (hc : X.calm = true) (hu : X.A.units + 64 < cLine) : CallR X (.builtin "max") (rMaxT X.K) := by
  intro pins s σ H vs us Q I r h
  obtain ⟨a, n, ns, rfl, hq, q⟩ := h
  obtain ⟨its, rv, p, _⟩ := I.tuple hq
  obtain ⟨as, hr⟩ := Dp.readsAll I ((n :: ns).map PyData.int) _ its (dpAll_ints (n :: ns)) rv
  rw [Vals.ref1 r]
  refine max_tuple_data (x := .int n) (xs := ns.map PyData.int) (I.ok.hd hc) (show s.heap.IsTuple a its.toArray from p) (by simpa using hr) (alike_ints (n :: ns)) (by have := dep_ints (n :: ns); simp only [List.map_cons] at this; omega) fun i v h' tk bs hv hrd hk => ?_
  rw [maxD_ints] at hrd
  cases hrd
  exact ⟨.int _, H, I.kept hk, ⟨_, rfl⟩, q⟩
theorem cr_minT (hc : X.calm = true) (hu : X.A.units + 64 < cLine) : CallR X (.builtin "min") (rMinT X.K) := by
  intro pins s σ H vs us Q I r h
  obtain ⟨a, n, ns, rfl, hq, q⟩ := h
  obtain ⟨its, rv, p, _⟩ := I.tuple hq
  obtain ⟨as, hr⟩ := Dp.readsAll I ((n :: ns).map PyData.int) _ its (dpAll_ints (n :: ns)) rv
  rw [Vals.ref1 r]
  refine min_tuple_data (x := .int n) (xs := ns.map PyData.int) (I.ok.hd hc) (show s.heap.IsTuple a its.toArray from p) (by simpa using hr) (alike_ints (n :: ns)) (by have := dep_ints (n :: ns); simp only [List.map_cons] at this; omega) fun i v h' tk bs hv hrd hk => ?_
  rw [minD_ints] at hrd
  cases hrd
  exact ⟨.int _, H, I.kept hk, ⟨_, rfl⟩, q⟩
theorem foldl_max_ge : ∀ (ns : List Int) (n : Int), n ≤ ns.foldl max n ∧ ∀ m ∈ ns, m ≤ ns.foldl max n
  | [], n => ⟨Int.le_refl n, fun _ h => nomatch h⟩
  | a :: ns, n => by
    have h := foldl_max_ge ns (max n a)
    simp only [List.foldl_cons]
    refine ⟨by have := h.1; omega, fun m hm => ?_⟩
    rcases List.mem_cons.mp hm with e | hm
    · have := h.1; omega
    · exact h.2 m hm
theorem foldl_max_mem : ∀ (ns : List Int) (n : Int), ns.foldl max n ∈ n :: ns
  | [], n => by simp
  | a :: ns, n => by
    have h := foldl_max_mem ns (max n a)
    simp only [List.foldl_cons]
    rcases List.mem_cons.mp h with e | h
    · rw [e]
      by_cases q : n ≤ a
      · rw [Int.max_eq_right q]; simp
      · rw [Int.max_eq_left (by omega)]; simp
    · exact List.mem_cons_of_mem _ (List.mem_cons_of_mem _ h)
theorem foldl_min_le : ∀ (ns : List Int) (n : Int), ns.foldl min n ≤ n ∧ ∀ m ∈ ns, ns.foldl min n ≤ m
  | [], n => ⟨Int.le_refl n, fun _ h => nomatch h⟩
  | a :: ns, n => by
    have h := foldl_min_le ns (min n a)
    simp only [List.foldl_cons]
    refine ⟨by have := h.1; omega, fun m hm => ?_⟩
    rcases List.mem_cons.mp hm with e | hm
    · have := h.1; omega
    · exact h.2 m hm
theorem foldl_min_mem : ∀ (ns : List Int) (n : Int), ns.foldl min n ∈ n :: ns
  | [], n => by simp
  | a :: ns, n => by
    have h := foldl_min_mem ns (min n a)
    simp only [List.foldl_cons]
    rcases List.mem_cons.mp h with e | h
    · rw [e]
      by_cases q : n ≤ a
      · rw [Int.min_eq_left q]; simp
      · rw [Int.min_eq_right (by omega)]; simp
    · exact List.mem_cons_of_mem _ (List.mem_cons_of_mem _ h)
def maxL (ns : List Int) : Option Int := match ns with | [] => none | n :: ns => some (ns.foldl max n)
def minL (ns : List Int) : Option Int := match ns with | [] => none | n :: ns => some (ns.foldl min n)
def gMM (f : List Int → Option Int) (ds : List D) : Option D := match ds with
  | [.lst xs] => (intsD xs).bind fun ns => (f ns).map D.int
  | [.tup xs] => (intsD xs).bind fun ns => (f ns).map D.int
  | [.int i, .int j] => (f [i, j]).map D.int
  | _ => none
abbrev gMax := gMM maxL
abbrev gMin := gMM minL
theorem b_max (hc : X.calm = true) (hu : X.A.units + 64 < cLine) : Blt X "max" (.builtin "max") gMax := ⟨⟨_, (cr_max hc).or ((cr_maxT hc hu).or (call_max2 hc)), fun G H vs ds z Q l rs q k => by
  match ds, q with
  | [.lst xs], q =>
    obtain ⟨v, rfl, rv⟩ := rs.one
    have q : ((intsD xs).bind fun ns => (maxL ns).map D.int) = some z := q
    cases e : intsD xs with
    | none => rw [e] at q; cases q
    | some ns =>
      have := intsD_eq e
      subst this
      rw [e] at q
      obtain ⟨p, vs, rfl, hp, rp⟩ := rv.lst_inv l
      have := rp.ints
      subst this
      cases ns with
      | nil => cases q
      | cons n ns =>
        cases q
        refine .inl ⟨p, n :: ns, rfl, .of hp, by simp, fun m hm hle => ?_⟩
        have h1 := foldl_max_ge ns n
        have h2 := hle _ (foldl_max_mem ns n)
        have h3 : m = ns.foldl max n := by
          rcases List.mem_cons.mp hm with e | hm
          · have := h1.1; omega
          · have := h1.2 m hm; omega
        rw [h3]
        exact k _ G H (.refl l) (.int _)
  | [.tup xs], q =>
    obtain ⟨v, rfl, rv⟩ := rs.one
    have q : ((intsD xs).bind fun ns => (maxL ns).map D.int) = some z := q
    cases e : intsD xs with
    | none => rw [e] at q; cases q
    | some ns =>
      have := intsD_eq e
      subst this
      rw [e] at q
      obtain ⟨p, vs, rfl, hp, rp⟩ := rv.tup_inv
      have := rp.ints
      subst this
      cases ns with
      | nil => cases q
      | cons n ns =>
        cases q
        exact .inr (.inl ⟨p, n, ns, rfl, .of (l _ _ hp), k _ G H (.refl l) (.int _)⟩)
  | [.int i, .int j], q =>
    cases q
    obtain ⟨v, w, rfl, r1, r2⟩ := rs.two
    rw [r1.int_inv, r2.int_inv]
    refine .inr (.inr ⟨i, j, rfl, k _ G H (.refl l) ?_⟩)
    have e : (if j > i then j else i) = max i j := by
      split <;> omega
    rw [e]
    exact .int _⟩, by decide +kernel⟩
theorem b_min (hc : X.calm = true) (hu : X.A.units + 64 < cLine) : Blt X "min" (.builtin "min") gMin := ⟨⟨_, (cr_min hc).or ((cr_minT hc hu).or (call_min2 hc)), fun G H vs ds z Q l rs q k => by
  match ds, q with
  | [.lst xs], q =>
    obtain ⟨v, rfl, rv⟩ := rs.one
    have q : ((intsD xs).bind fun ns => (minL ns).map D.int) = some z := q
    cases e : intsD xs with
    | none => rw [e] at q; cases q
    | some ns =>
      have := intsD_eq e
      subst this
      rw [e] at q
      obtain ⟨p, vs, rfl, hp, rp⟩ := rv.lst_inv l
      have := rp.ints
      subst this
      cases ns with
      | nil => cases q
      | cons n ns =>
        cases q
        refine .inl ⟨p, n :: ns, rfl, .of hp, by simp, fun m hm hle => ?_⟩
        have h1 := foldl_min_le ns n
        have h2 := hle _ (foldl_min_mem ns n)
        have h3 : m = ns.foldl min n := by
          rcases List.mem_cons.mp hm with e | hm
          · have := h1.1; omega
          · have := h1.2 m hm; omega
        rw [h3]
        exact k _ G H (.refl l) (.int _)
  | [.tup xs], q =>
    obtain ⟨v, rfl, rv⟩ := rs.one
    have q : ((intsD xs).bind fun ns => (minL ns).map D.int) = some z := q
    cases e : intsD xs with
    | none => rw [e] at q; cases q
    | some ns =>
      have := intsD_eq e
      subst this
      rw [e] at q
      obtain ⟨p, vs, rfl, hp, rp⟩ := rv.tup_inv
      have := rp.ints
      subst this
      cases ns with
      | nil => cases q
      | cons n ns =>
        cases q
        exact .inr (.inl ⟨p, n, ns, rfl, .of (l _ _ hp), k _ G H (.refl l) (.int _)⟩)
  | [.int i, .int j], q =>
    cases q
    obtain ⟨v, w, rfl, r1, r2⟩ := rs.two
    rw [r1.int_inv, r2.int_inv]
    refine .inr (.inr ⟨i, j, rfl, k _ G H (.refl l) ?_⟩)
    have e : (if j < i then j else i) = min i j := by
      split <;> omega
    rw [e]
    exact .int _⟩, by decide +kernel⟩
/-! ### int, bool of ints and bools; str of an int -/
def gInt (d : D) : Option D := match d with | .int i => some (.int i) | .bl b => some (.int (if b then 1 else 0)) | _ => none
def gBool (d : D) : Option D := match d with | .int i => some (.bl (i != 0)) | .bl b => some (.bl b) | _ => none
def gStr (d : D) : Option D := match d with | .int i => if i.natAbs < 10 ^ 100 then some (.str (toString i)) else none | _ => none
theorem b_int : Blt X "int" (.type "int") (b1 gInt) := ⟨⟨_, call_int1, cok1 fun G H v d z Q l rv q k => by
  cases d <;> cases q
  · rw [rv.bl_inv]; exact .inr ⟨_, rfl, k _ G H (.refl l) (.int _)⟩
  · rw [rv.int_inv]; exact .inl ⟨_, rfl, k _ G H (.refl l) (.int _)⟩⟩, boot_int⟩
theorem b_bool : Blt X "bool" (.type "bool") (b1 gBool) := ⟨⟨_, call_bool1, cok1 fun G H v d z Q l rv q k => by
  cases d <;> cases q
  · rw [rv.bl_inv]; exact .inr ⟨_, rfl, k _ G H (.refl l) (.bl _)⟩
  · rw [rv.int_inv]; exact .inl ⟨_, rfl, k _ G H (.refl l) (.bl _)⟩⟩, boot_bool⟩
theorem b_str : Blt X "str" (.type "str") (b1 gStr) := ⟨⟨_, call_str_int, cok1 fun G H v d z Q l rv q k => by
  cases d <;> try (cases q; done)
  rename_i i
  have q : (if i.natAbs < 10 ^ 100 then some (D.str (toString i)) else none) = some z := q
  split at q
  · rename_i h
    cases q
    rw [rv.int_inv]
    refine ⟨_, rfl, ?_, k _ G H (.refl l) (.str _)⟩
    have : i.natAbs < 2 ^ 400 := Nat.lt_trans h (by decide +kernel)
    by_cases h0 : i.natAbs = 0
    · rw [h0]; decide
    · exact Nat.lt_trans ((Nat.log2_lt h0).mpr this) (by decide)
  · cases q⟩, boot_str⟩
end

/-! ## isinstance -/
inductive TyN where | tint | tbool | tstr | ttuple | tlist
  deriving DecidableEq
/-- a value's own type -/
def D.ty : D → String
  | .non => "NoneType" | .bl _ => "bool" | .int _ => "int" | .str _ => "str" | .scr _ => "list" | .lst _ => "list" | .tup _ => "tuple" | .dct _ => "dict"
def TyN.nm : TyN → String | .tint => "int" | .tbool => "bool" | .tstr => "str" | .ttuple => "tuple" | .tlist => "list"
def D.isTy (d : D) : TyN → Bool
  | .tint => match d with | .int _ => true | .bl _ => true | _ => false
  | .tbool => match d with | .bl _ => true | _ => false
  | .tstr => match d with | .str _ => true | _ => false
  | .ttuple => match d with | .tup _ => true | _ => false
  | .tlist => match d with | .lst _ => true | .scr _ => true | _ => false
theorem kit_all : ∀ t : TyN, kitB "NoneType" t.nm = some false ∧ kitB "bool" t.nm = some (match t with | .tint => true | .tbool => true | _ => false) ∧ kitB "int" t.nm = some (match t with | .tint => true | _ => false) ∧
    kitB "str" t.nm = some (match t with | .tstr => true | _ => false) ∧ kitB "list" t.nm = some (match t with | .tlist => true | _ => false) ∧ kitB "tuple" t.nm = some (match t with | .ttuple => true | _ => false) ∧ kitB "dict" t.nm = some false := by
  intro t
  cases t <;> decide +kernel
theorem kit_D (d : D) (t : TyN) : kitB d.ty t.nm = some (d.isTy t) := by
  have h := kit_all t
  cases d <;> cases t <;> first | exact h.1 | exact h.2.1 | exact h.2.2.1 | exact h.2.2.2.1 | exact h.2.2.2.2.1 | exact h.2.2.2.2.2.1 | exact h.2.2.2.2.2.2
theorem ty_x {K : PySem.W.Frag} {G H : Hp} {d : D} {v : V} (l : Ex G H) (h : RepT K G H d v) : TyX K H v (.type d.ty) := by
  cases d with
  | non => rw [h.non_inv]; exact .base .non
  | bl b => rw [h.bl_inv]; exact .base (.bl b)
  | int i => rw [h.int_inv]; exact .base (.int i)
  | str x => rw [h.str_inv]; exact .base (.str x)
  | scr ns =>
    obtain ⟨a, rfl, h2⟩ := h.scr_inv l
    rcases h2 with (h3 | ⟨o, h3⟩) | ⟨o, its, n, h3, hc, _⟩
    · exact .base (.lst h3)
    · exact .base (.frz h3)
    · exact .kList h3 hc
  | lst xs => obtain ⟨a, vs, rfl, h2, _⟩ := h.lst_inv l; exact .base (.lst h2)
  | tup xs => obtain ⟨a, vs, rfl, h2, _⟩ := h.tup_inv; exact .base (.tup (l _ _ h2))
  | dct kvs => obtain ⟨a, rfl, h2⟩ := h.dct_inv l; exact .base (.dT h2)
def e1 (g : D → Option D) (f : DE) : DE := fun ρ => (f ρ).bind g
def gIs (t : TyN) (d : D) : Option D := some (.bl (d.isTy t))
def gIsLT (d : D) : Option D := some (.bl (d.isTy .tlist || d.isTy .ttuple))
section
variable {X : Cx} {a : Expr} {fa : DE} {p p2 pos : Pos}
theorem pu_is (t : TyN) {x : Str} (hb : bootBuiltins x = some (.type t.nm)) (hm : X.mg "isinstance" = none) (hx : X.mg x = none) (ha : RdE X a fa) (hg : Gl X "isinstance") (hgx : Gl X x) (hn : x ≠ "__name__") (hd : (x == ("__debug__" : Str)) = false)
    (he : starEach [a, .Name x p2] X.env = (false, eval a X.env) :: starEach [.Name x p2] X.env) (he2 : starEach [.Name x p2] X.env = (false, eval (.Name x p2) X.env) :: starEach [] X.env) (hpl : (backTo pos (starEach [.Name x p2] X.env)).any (·.1) = false) :
    PuE X (.Call (.Name "isinstance" p) [a, .Name x p2] [] pos) (e1 (gIs t) fa) :=
  let ⟨_, a1, a2⟩ := ha.ex; ⟨_, pe_callB call_isi hg hm boot_isinstance (pa_cons a1 (pa_cons (pe_bltn (v := .ty t.nm) hgx hx hb rfl hn hd) pa_nil he2) he) (by decide) (by decide) he hpl, fun ρ σ G H Q d l r q k => by
    unfold PL.e1 at q
    cases z : fa ρ with
    | none => rw [z] at q; cases q
    | some dd =>
      rw [z] at q; cases q
      refine a2 ρ σ G H _ _ l r z fun v G1 H1 u1 rv => ?_
      exact ⟨v, .ty t.nm, _, _, _, rfl, .ty _, ty_x u1.le rv, kit_ty (kit_D dd t), k _ G1 H1 u1 (.bl _)⟩⟩
theorem pu_is_int (hm : X.mg "isinstance" = none) (hx : X.mg "int" = none) (ha : RdE X a fa) (hg : Gl X "isinstance" := by rfl) (hgx : Gl X "int" := by rfl)
    (he : starEach [a, .Name "int" p2] X.env = (false, eval a X.env) :: starEach [.Name "int" p2] X.env := by rfl) (he2 : starEach [.Name "int" p2] X.env = (false, eval (.Name "int" p2) X.env) :: starEach [] X.env := by rfl) (hpl : (backTo pos (starEach [.Name "int" p2] X.env)).any (·.1) = false := by rfl) :
    PuE X (.Call (.Name "isinstance" p) [a, .Name "int" p2] [] pos) (e1 (gIs .tint) fa) := pu_is .tint boot_int hm hx ha hg hgx (by decide) (by decide) he he2 hpl
theorem pu_is_bool (hm : X.mg "isinstance" = none) (hx : X.mg "bool" = none) (ha : RdE X a fa) (hg : Gl X "isinstance" := by rfl) (hgx : Gl X "bool" := by rfl)
    (he : starEach [a, .Name "bool" p2] X.env = (false, eval a X.env) :: starEach [.Name "bool" p2] X.env := by rfl) (he2 : starEach [.Name "bool" p2] X.env = (false, eval (.Name "bool" p2) X.env) :: starEach [] X.env := by rfl) (hpl : (backTo pos (starEach [.Name "bool" p2] X.env)).any (·.1) = false := by rfl) :
    PuE X (.Call (.Name "isinstance" p) [a, .Name "bool" p2] [] pos) (e1 (gIs .tbool) fa) := pu_is .tbool boot_bool hm hx ha hg hgx (by decide) (by decide) he he2 hpl
theorem pu_is_str (hm : X.mg "isinstance" = none) (hx : X.mg "str" = none) (ha : RdE X a fa) (hg : Gl X "isinstance" := by rfl) (hgx : Gl X "str" := by rfl)
    (he : starEach [a, .Name "str" p2] X.env = (false, eval a X.env) :: starEach [.Name "str" p2] X.env := by rfl) (he2 : starEach [.Name "str" p2] X.env = (false, eval (.Name "str" p2) X.env) :: starEach [] X.env := by rfl) (hpl : (backTo pos (starEach [.Name "str" p2] X.env)).any (·.1) = false := by rfl) :
    PuE X (.Call (.Name "isinstance" p) [a, .Name "str" p2] [] pos) (e1 (gIs .tstr) fa) := pu_is .tstr boot_str hm hx ha hg hgx (by decide) (by decide) he he2 hpl
theorem pu_is_tuple (hm : X.mg "isinstance" = none) (hx : X.mg "tuple" = none) (ha : RdE X a fa) (hg : Gl X "isinstance" := by rfl) (hgx : Gl X "tuple" := by rfl)
    (he : starEach [a, .Name "tuple" p2] X.env = (false, eval a X.env) :: starEach [.Name "tuple" p2] X.env := by rfl) (he2 : starEach [.Name "tuple" p2] X.env = (false, eval (.Name "tuple" p2) X.env) :: starEach [] X.env := by rfl) (hpl : (backTo pos (starEach [.Name "tuple" p2] X.env)).any (·.1) = false := by rfl) :
    PuE X (.Call (.Name "isinstance" p) [a, .Name "tuple" p2] [] pos) (e1 (gIs .ttuple) fa) := pu_is .ttuple boot_tuple hm hx ha hg hgx (by decide) (by decide) he he2 hpl
theorem pu_is_list (hm : X.mg "isinstance" = none) (hx : X.mg "list" = none) (ha : RdE X a fa) (hg : Gl X "isinstance" := by rfl) (hgx : Gl X "list" := by rfl)
    (he : starEach [a, .Name "list" p2] X.env = (false, eval a X.env) :: starEach [.Name "list" p2] X.env := by rfl) (he2 : starEach [.Name "list" p2] X.env = (false, eval (.Name "list" p2) X.env) :: starEach [] X.env := by rfl) (hpl : (backTo pos (starEach [.Name "list" p2] X.env)).any (·.1) = false := by rfl) :
    PuE X (.Call (.Name "isinstance" p) [a, .Name "list" p2] [] pos) (e1 (gIs .tlist) fa) := pu_is .tlist boot_list hm hx ha hg hgx (by decide) (by decide) he he2 hpl
/-- isinstance(x, (list, tuple)) -/
theorem pu_isLT {k : Nat} {p3 tp : Pos} (hm : X.mg "isinstance" = none) (hl : X.mg "list" = none) (ht : X.mg "tuple" = none) (ha : RdE X a fa) (hg : Gl X "isinstance" := by rfl) (hgl : Gl X "list" := by rfl) (hgt : Gl X "tuple" := by rfl)
    (he : starEach [a, .Tuple [.Name "list" p2, .Name "tuple" p3] k tp] X.env = (false, eval a X.env) :: starEach [.Tuple [.Name "list" p2, .Name "tuple" p3] k tp] X.env := by rfl)
    (he2 : starEach [.Tuple [.Name "list" p2, .Name "tuple" p3] k tp] X.env = (false, eval (.Tuple [.Name "list" p2, .Name "tuple" p3] k tp) X.env) :: starEach [] X.env := by rfl)
    (he3 : starEach [.Name "list" p2, .Name "tuple" p3] X.env = (false, eval (.Name "list" p2) X.env) :: starEach [.Name "tuple" p3] X.env := by rfl) (he4 : starEach [.Name "tuple" p3] X.env = (false, eval (.Name "tuple" p3) X.env) :: starEach [] X.env := by rfl)
    (hpl : (backTo pos (starEach [.Tuple [.Name "list" p2, .Name "tuple" p3] k tp] X.env)).any (·.1) = false := by rfl) :
    PuE X (.Call (.Name "isinstance" p) [a, .Tuple [.Name "list" p2, .Name "tuple" p3] k tp] [] pos) (e1 gIsLT fa) :=
  let ⟨_, a1, a2⟩ := ha.ex; ⟨_, pe_callB call_isiT hg hm boot_isinstance (pa_cons a1 (pa_cons (pe_tup (pa_cons (pe_bltn (v := .ty "list") hgl hl boot_list rfl) (pa_cons (pe_bltn (v := .ty "tuple") hgt ht boot_tuple rfl) pa_nil he4) he3)) pa_nil he2) he) (by decide) (by decide) he hpl, fun ρ σ G H Q d l r q kk => by
    unfold PL.e1 at q
    cases z : fa ρ with
    | none => rw [z] at q; cases q
    | some dd =>
      rw [z] at q; cases q
      refine a2 ρ σ G H _ _ l r z fun v G1 H1 u1 rv => ?_
      refine ⟨by show 2 ≤ sizeLine; rw [sizeLine_eq]; decide, fun T hT => ?_⟩
      refine ⟨v, T, [.ty "list", .ty "tuple"], .type dd.ty, [.type "list", .type "tuple"], _, rfl, upd_same, .cons (.ty _) (.cons (.ty _) .nil), ty_x (u1.le.trans (.new hT)) (rv.mono (.refl G1) (.new hT)), ?_, kk _ _ _ (u1.trans (.own u1.le hT)) (.bl _)⟩
      refine kitAny_cons (kit_ty (kit_D dd .tlist)) (fun hb => ?_) fun hb => by rw [hb]; rfl
      rw [hb, Bool.false_or]
      refine kitAny_cons (kit_ty (kit_D dd .ttuple)) (fun hb => by rw [hb]; rfl) fun hb => hb⟩
end
end PL

namespace PL
open PySem PySem.Spec PyProof.Rows L2

/-! ## in, not in, index -/
def rInA (K : PySem.W.Frag) (neg : Bool) : R2 := fun x y H Q => (∃ d ds, Dp K H x d ∧ (Dp K H y (.list ds) ∨ Dp K H y (.tuple ds)) ∧ SeqAt.shaped d = true ∧ PyData.canLayAll0 ds = true ∧ Q (.bl (if neg then !ds.any (fun z => PyData.eqv z d) else ds.any fun z => PyData.eqv z d)) H) ∨
  (∃ (c : Nat) (z : Str), x = .str ⟨#[c]⟩ ∧ y = .str z ∧ Q (.bl (if neg then !decide (c ∈ z.cps.toList) else decide (c ∈ z.cps.toList))) H)
theorem room_in1 {A : Around} {d : PyData} {ds : List PyData} (sd : SeqAt.shaped d = true) (hu : A.units + 65 < cLine) : A.units + 1 + min (PyData.depthAll ds) d.depth < cLine := by
  have := SeqAt.depth_of_shaped sd
  have : min (PyData.depthAll ds) d.depth ≤ d.depth := Nat.min_le_right _ _
  omega
theorem op_inA {X : Cx} (hu : X.A.units + 65 < cLine) : OpR X (compareOp .In) (rInA X.K false) := by
  intro pins s σ H x y v u Q I rx ry h
  rcases h with ⟨d, ds, hd, he | he, sd, se, q⟩ | ⟨c, z, rfl, rfl, q⟩
  · obtain ⟨as, r1⟩ := Dp.reads I d x v hd rx
    obtain ⟨bs, r2⟩ := Dp.reads I (.list ds) y u he ry
    exact SeqAt.in_list_reads r2 r1 se (SeqAt.canLay_of_shaped sd) (room_in1 sd hu) ⟨.bl _, H, I, rfl, q⟩
  · obtain ⟨as, r1⟩ := Dp.reads I d x v hd rx
    obtain ⟨bs, r2⟩ := Dp.reads I (.tuple ds) y u he ry
    exact SeqAt.in_tuple_reads r2 r1 se (SeqAt.canLay_of_shaped sd) (room_in1 sd hu) ⟨.bl _, H, I, rfl, q⟩
  · exact op_in_sign pins s σ H _ _ v u Q I rx ry ⟨c, z, rfl, rfl, q⟩
theorem op_notInA {X : Cx} (hu : X.A.units + 65 < cLine) : OpR X (compareOp .NotIn) (rInA X.K true) := by
  intro pins s σ H x y v u Q I rx ry h
  rcases h with ⟨d, ds, hd, he | he, sd, se, q⟩ | ⟨c, z, rfl, rfl, q⟩
  · obtain ⟨as, r1⟩ := Dp.reads I d x v hd rx
    obtain ⟨bs, r2⟩ := Dp.reads I (.list ds) y u he ry
    exact SeqAt.notIn_list_reads r2 r1 se (SeqAt.canLay_of_shaped sd) (room_in1 sd hu) ⟨.bl _, H, I, rfl, q⟩
  · obtain ⟨as, r1⟩ := Dp.reads I d x v hd rx
    obtain ⟨bs, r2⟩ := Dp.reads I (.tuple ds) y u he ry
    exact SeqAt.notIn_tuple_reads r2 r1 se (SeqAt.canLay_of_shaped sd) (room_in1 sd hu) ⟨.bl _, H, I, rfl, q⟩
  · exact op_notIn_sign pins s σ H _ _ v u Q I rx ry ⟨c, z, rfl, rfl, q⟩
def gInN (neg : Bool) (d e : D) : Option D := match e with
  | .lst ds => if d.ok 49 && ds.all (fun z => z.ok 49) then some (.bl (if neg then !ds.any (fun z => z.eqv d) else ds.any fun z => z.eqv d)) else none
  | .tup ds => if d.ok 49 && ds.all (fun z => z.ok 49) then some (.bl (if neg then !ds.any (fun z => z.eqv d) else ds.any fun z => z.eqv d)) else none
  | .str z => match d with
    | .str y => match y.cps.toList with
      | [c] => some (.bl (if neg then !decide (c ∈ z.cps.toList) else decide (c ∈ z.cps.toList)))
      | _ => none
    | _ => none
  | _ => none
abbrev gIn := gInN false
abbrev gNotIn := gInN true
theorem ok_weak {d : D} (h : d.ok 49 = true) : d.ok 50 = true := by
  have mono : ∀ (d : D) (n : Nat), d.ok n = true → d.ok (n + 1) = true := by
    intro d
    exact D.rec (motive_1 := fun d => ∀ n : Nat, d.ok n = true → d.ok (n + 1) = true) (motive_2 := fun ds => ∀ n : Nat, D.oks ds n = true → D.oks ds (n + 1) = true)
      (fun _ _ => rfl) (fun _ _ _ => rfl) (fun _ _ _ => rfl) (fun x n h => by simpa [D.ok] using h) (fun ns n h => by simp [D.ok] at h ⊢; omega)
      (fun xs ih n h => by cases n with | zero => simp [D.ok] at h | succ n => simp only [D.ok] at h ⊢; exact ih n h)
      (fun xs ih n h => by cases n with | zero => simp [D.ok] at h | succ n => simp only [D.ok] at h ⊢; exact ih n h)
      (fun _ n h => by simp [D.ok] at h)
      (fun _ _ => rfl)
      (fun d ds ih1 ih2 n h => by
        have h' : d.ok n = true ∧ D.oks ds n = true := by simpa [D.oks] using h
        simp [D.oks, ih1 n h'.1, ih2 n h'.2]) d
  exact mono d 49 h
theorem any_toP (ds : List D) (d : D) : ((D.toPs ds).any fun z => PyData.eqv z d.toP) = ds.any fun z => z.eqv d := by
  rw [toPs_map, List.any_map]; rfl
theorem r2_inN {K : PySem.W.Frag} (neg : Bool) : R2ok K (rInA K neg) (gInN neg) := fun G H x y d e z Q l rx ry q k => by
  have fin : ∀ {ds : List D}, ds.all (fun z => z.ok 49) = true → PyData.canLayAll0 (D.toPs ds) = true := fun {ds} h => (oks_lay ds 49 (by rw [oks_all]; exact h)).1
  cases e <;> try (cases q; done)
  · rename_i w
    cases d <;> try (cases q; done)
    rename_i y'
    have q : (match y'.cps.toList with
      | [c] => some (D.bl (if neg then !decide (c ∈ w.cps.toList) else decide (c ∈ w.cps.toList)))
      | _ => none) = some z := q
    split at q
    · rename_i c hc
      cases q
      have : y' = ⟨#[c]⟩ := by
        cases y' with | mk cps => simp at hc; congr 1; exact Array.toList_inj.mp (by simpa using hc)
      subst this
      rw [rx.str_inv, ry.str_inv]
      exact .inr ⟨c, w, rfl, rfl, k _ G H (.refl l) (.bl _)⟩
    · cases q
  · rename_i ds
    have q : (if d.ok 49 && ds.all (fun z => z.ok 49) then some (D.bl (if neg then !ds.any (fun z => z.eqv d) else ds.any fun z => z.eqv d)) else none) = some z := q
    split at q
    · rename_i h
      cases q
      have h' : d.ok 49 = true ∧ ds.all (fun z => z.ok 49) = true := by simpa using h
      refine .inl ⟨d.toP, D.toPs ds, rx.dp l (ok_weak h'.1), .inl ?_, ok_shaped (ok_weak h'.1), fin h'.2, ?_⟩
      · have := ry.dp l (show (D.lst ds).ok 50 = true by rw [ok_lst]; exact h'.2)
        rwa [D.toP] at this
      · rw [any_toP]; exact k _ G H (.refl l) (.bl _)
    · cases q
  · rename_i ds
    have q : (if d.ok 49 && ds.all (fun z => z.ok 49) then some (D.bl (if neg then !ds.any (fun z => z.eqv d) else ds.any fun z => z.eqv d)) else none) = some z := q
    split at q
    · rename_i h
      cases q
      have h' : d.ok 49 = true ∧ ds.all (fun z => z.ok 49) = true := by simpa using h
      refine .inl ⟨d.toP, D.toPs ds, rx.dp l (ok_weak h'.1), .inr ?_, ok_shaped (ok_weak h'.1), fin h'.2, ?_⟩
      · have := ry.dp l (show (D.tup ds).ok 50 = true by rw [ok_tup]; exact h'.2)
        rwa [D.toP] at this
      · rw [any_toP]; exact k _ G H (.refl l) (.bl _)
    · cases q
theorem units65 {k : Nat} {A : Around} (hr : Room k A) : A.units + 65 < cLine := by have := hr.un; omega
theorem c_in {X : Cx} (hu : X.A.units + 65 < cLine) : CmpR X .In gIn := ⟨_, op_inA hu, r2_inN false⟩
theorem c_notIn {X : Cx} (hu : X.A.units + 65 < cLine) : CmpR X .NotIn gNotIn := ⟨_, op_notInA hu, r2_inN true⟩

/-! ## list(range(..)) -/
def dRng (lo hi : DE) : DL := fun ρ => match lo ρ, hi ρ with
  | some (.int a), some (.int b) => if -1000000000 ≤ a ∧ a ≤ 1000000000 ∧ -1000000000 ≤ b ∧ b ≤ 1000000000 ∧ (b - a).toNat ≤ 16777216 then some ((List.range (b - a).toNat).map fun i => .int (a + (i : Nat))) else none
  | _, _ => none

/-! ## own lists of lists -/
def compLL (tg : Tg) (ws : List Nat) (cond : DB) (elt : DL) (ρ : DEnv) : List Cell → Option (List (List D))
  | [] => some []
  | c :: cs => (bindT tg c (ρ.wipe ws)).bind fun ρ1 => (cond ρ1).bind fun b => if b = true then (elt ρ1).bind fun d => (compLL tg ws cond elt ρ cs).map fun ds => d :: ds else compLL tg ws cond elt ρ cs
def eCompLL (it : DI) (tg : Tg) (ws : List Nat) (cond : DB) (elt : DL) : DEnv → Option (List (List D)) := fun ρ => (it ρ).bind fun cs => (compLL tg ws cond elt ρ cs).bind fun ds => if szB ds.length then some ds else none
def TLok (K : PySem.W.Frag) (nn : Nat) (t : TE) (f : DEnv → Option (List (List D))) : Prop := ∀ ρ σ G H (Q : VK) xss, Ex G H → ER K nn ρ σ G H → f ρ = some xss →
  (∀ (p : Addr) (bs : List Addr) G' H', Up G H G' H' → H p = none → G' p = none → H' p = some (.lst (bs.map V.ref)) → Paired (fun b xs => ∃ vs, H' b = some (.lst vs) ∧ Reps K G' xs vs) bs xss → bs.Nodup → p ∉ bs →
    (∀ b ∈ bs, H b = none ∧ G' b = none) → Q (.ref p) H') → t σ H Q
theorem te_compLL {K : PySem.W.Frag} {nn : Nat} {wi : TI} {it : DI} {tt : TT} {cond : DB} {te : TE} {elt : DL} {tg : Tg} {ws : List Nat} (hi : TIh K nn wi it) (ht : TTok K nn tt cond) (he : TNok K nn te elt) (hs : ∀ i ∈ tg.slots, i < nn) (hw : ∀ i ∈ tg.slots, i ∈ ws) :
    TLok K nn (tLc wi (tgTG K tg) tt te ws) (eCompLL it tg ws cond elt) := fun ρ σ G H Q ds l r q k => by
  unfold eCompLL at q
  cases z : it ρ with
  | none => rw [z] at q; cases q
  | some cs =>
    rw [z] at q
    cases z2 : compLL tg ws cond elt ρ cs with
    | none => simp only [Option.bind_some, z2] at q; cases q
    | some out =>
      simp only [Option.bind_some, z2] at q
      split at q
      · rename_i hz
        cases q
        refine hi ρ σ G H _ cs l r z fun J G1 H1 u1 wk => ?_
        intro Dl hD
        have r1 := r.up u1
        let Inv : Nat → Hp → Prop := fun i H' => ∃ G' bs done rest, Up G1 H1 G' H' ∧ G' Dl = none ∧ H' Dl = some (.lst (bs.map V.ref)) ∧ Paired (fun b xs => ∃ vs, H' b = some (.lst vs) ∧ Reps K G' xs vs) bs done ∧ bs.Nodup ∧ Dl ∉ bs ∧
          (∀ b ∈ bs, H1 b = none ∧ G' b = none) ∧ ds = done ++ rest ∧ compLL tg ws cond elt ρ (cs.drop i) = some rest
        refine ⟨fun i m H' => m = cs.length - i ∧ i ≤ cs.length ∧ Inv i H', ⟨cs.length, by simp, Nat.zero_le _, G1, [], [], ds, .own u1.le hD, u1.le.free hD, upd_same, .nil, .nil, (by simp), (fun _ h => nomatch h), by simp, by simpa using z2⟩, ?_⟩
        rintro i m H' ⟨rfl, hi, G', bs, done, rest, u, gD, hd, rv, nd, nD, fr, e, cr⟩
        have w := wk i G' H' u.g u.h u.le
        have keep : ∀ {G2 H2 : Hp}, Ex G' G2 → Ex H' H2 → Paired (fun b xs => ∃ vs, H2 b = some (.lst vs) ∧ Reps K G2 xs vs) bs done := fun {G2 H2} g h => Paired.map2 rv fun b xs ⟨vs, a1, a2⟩ => ⟨vs, h _ _ a1, a2.mono g⟩
        have there : ∀ b ∈ bs, ∃ o, H' b = some o := fun b hb => by
          obtain ⟨j, hj, ej⟩ := List.mem_iff_getElem.mp hb
          have hl : bs.length = done.length := Paired.length rv
          obtain ⟨b', y1, vs, y2, _⟩ := paired_get rv (List.getElem?_eq_getElem (by omega : j < done.length))
          rw [List.getElem?_eq_getElem hj, ej] at y1
          cases y1
          exact ⟨_, y2⟩
        by_cases hlt : i < cs.length
        · right
          obtain ⟨go, yl⟩ := w.1 cs[i] (List.getElem?_eq_getElem hlt)
          refine ⟨go, fun H2 => Inv (i + 1) H2, fun H2 q => ⟨cs.length - (i + 1), by omega, rfl, hlt, q⟩, fun x H2 y => ?_⟩
          obtain ⟨G3, u3, cx⟩ := yl x H2 y
          rw [List.drop_eq_getElem_cons hlt] at cr
          unfold compLL at cr
          cases z3 : bindT tg cs[i] (ρ.wipe ws) with
          | none => rw [z3] at cr; cases cr
          | some ρ1 =>
            rw [z3] at cr
            refine tg_ok u3.le cx z3 fun σ2 st => ?_
            refine ⟨(st.wipe hw).trans wipe_wipe, ?_⟩
            have r2 : ER K nn ρ1 σ2 G3 H2 := st.er ((r1.up (u.trans u3)).wipe) cx hs z3
            cases z4 : cond ρ1 with
            | none => simp only [Option.bind_some, z4] at cr; cases cr
            | some b =>
              simp only [Option.bind_some, z4] at cr
              refine ht ρ1 σ2 G3 H2 _ b u3.le r2 z4 fun G4 H4 u4 => ?_
              have u5 := u3.trans u4
              cases b with
              | false =>
                rw [if_neg Bool.false_ne_true] at cr ⊢
                exact ⟨G4, bs, done, rest, u.trans u5, u5.new _ _ hd gD, u5.h _ _ hd, keep u5.g u5.h, nd, nD, fun b hb => ⟨(fr b hb).1, let ⟨o, ho⟩ := there b hb; u5.new _ _ ho (fr b hb).2⟩, e, cr⟩
              | true =>
                rw [if_pos rfl] at cr ⊢
                cases z5 : elt ρ1 with
                | none => rw [z5] at cr; cases cr
                | some d =>
                  rw [z5] at cr
                  refine he ρ1 σ2 G4 H4 _ d u4.le (r2.up u4) z5 fun p vs G6 H6 u6 np gp hp rp => ?_
                  have u7 := u5.trans u6
                  cases z6 : compLL tg ws cond elt ρ (cs.drop (i + 1)) with
                  | none => simp only [Option.bind_some, z6] at cr; cases cr
                  | some rest' =>
                    simp only [Option.bind_some, z6, Option.map_some] at cr
                    cases cr
                    have g6 : G6 Dl = none := u7.new _ _ hd gD
                    have h4D : H4 Dl = some (.lst (bs.map V.ref)) := u5.h _ _ hd
                    have pD : p ≠ Dl := fun e => by rw [e, h4D] at np; cases np
                    have pbs : p ∉ bs := fun hb => by
                      obtain ⟨o, ho⟩ := there p hb
                      have := u5.h _ _ ho
                      rw [np] at this; cases this
                    have hup : ∀ b, b ≠ Dl → ∀ o, H6 b = some o → (upd H6 Dl (.lst ((bs ++ [p]).map V.ref))) b = some o := fun b hb o ho => by rw [upd_ne hb]; exact ho
                    refine ⟨bs.map V.ref, u7.h _ _ hd, ?_, G6, bs ++ [p], done ++ [d], rest', ?_, g6, by rw [List.map_append]; exact upd_same, ?_, ?_, ?_, fun b hb => ?_, by rw [e]; simp, z6⟩
                    · have h1 : ds.length ≤ sizeLine := szB_le hz
                      have hl : bs.length = done.length := Paired.length rv
                      rw [List.length_map, hl]
                      rw [e, List.length_append, List.length_cons] at h1
                      omega
                    · exact ⟨(u.trans u7).g, (u.trans u7).h.updR hD, u7.le.updR g6, (u.trans u7).new⟩
                    · have app : ∀ {l1 l1' : List Addr} {l2 l2' : List (List D)} {R : Addr → List D → Prop}, Paired R l1 l2 → Paired R l1' l2' → Paired R (l1 ++ l1') (l2 ++ l2') := by
                        intro l1 l1' l2 l2' R h1 h2
                        induction h1 with
                        | nil => exact h2
                        | cons r t ih => exact .cons r ih
                      have hh : ∀ b ∈ bs, b ≠ Dl := fun b hb e => nD (e ▸ hb)
                      have k1 := keep u7.g u7.h
                      have k2 : Paired (fun b xs => ∃ vs, (upd H6 Dl (.lst (bs.map V.ref ++ [V.ref p]))) b = some (.lst vs) ∧ Reps K G6 xs vs) bs done := by
                        have gen : ∀ {l1 : List Addr} {l2 : List (List D)}, Paired (fun b xs => ∃ vs, H6 b = some (.lst vs) ∧ Reps K G6 xs vs) l1 l2 → (∀ b ∈ l1, b ≠ Dl) → Paired (fun b xs => ∃ vs, (upd H6 Dl (.lst (bs.map V.ref ++ [V.ref p]))) b = some (.lst vs) ∧ Reps K G6 xs vs) l1 l2 := by
                          intro l1 l2 h1
                          induction h1 with
                          | nil => exact fun _ => .nil
                          | cons r t ih =>
                            intro hh
                            obtain ⟨vs, y1, y2⟩ := r
                            exact .cons ⟨vs, by rw [upd_ne (hh _ List.mem_cons_self)]; exact y1, y2⟩ (ih fun b hb => hh b (List.mem_cons_of_mem _ hb))
                        exact gen k1 hh
                      exact app k2 (.cons ⟨vs, by rw [upd_ne pD]; exact hp, rp⟩ .nil)
                    · rw [List.nodup_append]
                      refine ⟨nd, by simp, fun a ha b hb => ?_⟩
                      rw [List.mem_singleton.mp hb]
                      exact fun e => pbs (e ▸ ha)
                    · simp [nD, Ne.symm pD]
                    · rcases List.mem_append.mp hb with hb | hb
                      · exact ⟨(fr b hb).1, let ⟨o, ho⟩ := there b hb; u7.new _ _ ho (fr b hb).2⟩
                      · rw [List.mem_singleton.mp hb]
                        exact ⟨(u.trans u5).h.free np, gp⟩
        · left
          have ei : i = cs.length := by omega
          subst ei
          refine ⟨w.2 rfl, ?_⟩
          rw [List.drop_length] at cr
          cases cr
          rw [List.append_nil] at e
          subst e
          exact k Dl bs G' H' (u1.trans u) (u1.h.free hD) gD hd rv nd nD fun b hb => ⟨u1.h.free (fr b hb).1, (fr b hb).2⟩
      · cases q
def sOwnLL (i : Nat) (f : DEnv → Option (List (List D))) : DS := fun ρ => (f ρ).map fun xss => .nx (ρ.set i (.oll xss))
theorem ts_ownLL {K : PySem.W.Frag} {nn : Nat} {te : TE} {f : DEnv → Option (List (List D))} {i : Nat} (h : TLok K nn te f) (hl : i < nn) : TSok K nn (tAsg te (gName i)) (sOwnLL i f) := fun G0 H0 ρ σ G H E r s q k => by
  unfold sOwnLL at q
  cases z : f ρ with
  | none => rw [z] at q; cases q
  | some xss =>
    rw [z] at q; cases q
    refine h ρ σ G H _ xss s.up.le s.er z fun p bs G' H' u n1 n2 hp hb nd nD fr => ?_
    refine k _ G' H' ((s.step u).set hl ⟨p, bs, rfl, hp, hb⟩ (fun p' bs' e e' => ?_) fun j c' v' b hj h1 h2 f1 f2 => ?_) u.g
    · cases e
      have := refs_inj (lst_inj hp e')
      subst this
      exact ⟨⟨n2, s.up.h.free n1⟩, nd, nD, fun b hb => ⟨(fr b hb).2, s.up.h.free (fr b hb).1⟩⟩
    · obtain ⟨w, h3, h4⟩ := s.er.at_ j c' h1
      rw [h2] at h3; cases h3
      obtain ⟨o, ho⟩ := foot_there h4 (foot_up u.h h4 f2)
      rcases f1 with f1 | ⟨p', bs', f1, e', m⟩
      · cases f1; rw [n1] at ho; cases ho
      · cases f1
        have := refs_inj (lst_inj hp e')
        subst this
        rw [(fr b m).1] at ho; cases ho
section
variable {X : Cx} {i : Nat} {y : Str} {py spos pos : Pos} {elt tgE iter : Expr} {ifs : List Expr} {scope : Scope} {own : List (Str × Nat)} {it : DI} {cond : DB} {fe : DL}
theorem st_ownLL (i : Nat) (tg : Tg) (hc : X.calm = true) (hN : X.N.Nodup) (hi : ItH X tgE iter it) (ok : blkC X.N X.env.scope scope own = true)
    (hg : ∀ (s : Shared) (H : Hp) (C : Addr) (cl : List (Str × Addr)) (fp : List Addr), PG (X.blk s H scope (compEnvC scope cl C X.env) fp) tgE (tgTG X.K tg))
    (ht : ∀ (s : Shared) (H : Hp) (C : Addr) (cl : List (Str × Addr)) (fp : List Addr), PuTs (X.blk s H scope (compEnvC scope cl C X.env) fp) ifs cond)
    (he : ∀ (s : Shared) (H : Hp) (C : Addr) (cl : List (Str × Addr)) (fp : List Addr), NwE (X.blk s H scope (compEnvC scope cl C X.env) fp) elt fe)
    (hsl : ∀ i ∈ tg.slots, i < X.N.length) (hw : ∀ i ∈ tg.slots, i ∈ own.map (·.2)) (hy : X.N[i]? = some y := by rfl) (hyl : X.env.scope.names.lookup y = some .local := by rfl)
    (hsw : swapsWith (.ListComp elt [⟨tgE, iter, ifs, 0⟩] scope pos) (some (.Name y py)) spos.line X.env = pure true := by exact sw_true rfl rfl rfl (by decide +kernel)) (hs : ∀ x, foldedSetIterable iter X.env x = pure x := by intro _; rfl) :
    PuS X (.Assign [.Name y py] (.ListComp elt [⟨tgE, iter, ifs, 0⟩] scope pos) spos) (sOwnLL i (eCompLL it tg (own.map (·.2)) cond fe)) := by
  obtain ⟨wi, i1, i2⟩ := hi.ex
  refine ⟨_, ps_setLc (te := fun σ H Q => ∀ t, TNok X.K X.N.length t fe → t σ H Q) (tt := fun σ H Q => ∀ t, TTok X.K X.N.length t cond → t σ H Q) hc hN hy hyl hsw i1 (blkOk_by ok) hg (fun s H C cl fp => ?_) (fun s H C cl fp => ?_) hs, ts_ownLL (te_compLL i2 (fun ρ σ G H Q b l r q k t ok => ok ρ σ G H Q b l r q k) (fun ρ σ G H Q d l r q k t ok => ok ρ σ G H Q d l r q k) hsl hw) (List.getElem?_eq_some_iff.mp hy).1⟩
  · obtain ⟨t, a1, a2⟩ := (ht s H C cl fp).ex
    exact ⟨fun pins s' σ H' Q I h => a1.run pins s' σ H' Q I (h t a2)⟩
  · obtain ⟨t, a1, a2⟩ := (he s H C cl fp).ex
    exact ⟨fun pins s' σ H' Q I h => a1.run pins s' σ H' Q I (h t a2)⟩
end
/-- x[i][j] = e -/
def sSetLL (i : Nat) (f1 f2 fe : DE) : DS := fun ρ => match ρ i, fe ρ, f1 ρ, f2 ρ with
  | some (.oll xss), some d, some (.int k1), some (.int k2) => (ixN xss.length k1).bind fun j1 => (xss[j1]?).bind fun xs => (ixN xs.length k2).map fun j2 => .nx (ρ.set i (.oll (xss.set j1 (xs.set j2 d))))
  | _, _, _, _ => none
theorem paired_set {α β : Type} {R R' : α → β → Prop} {b : α} {y : β} : ∀ {l1 : List α} {l2 : List β} {j : Nat}, Paired R l1 l2 → l1.Nodup → l1[j]? = some b → R' b y → (∀ a x, a ∈ l1 → a ≠ b → R a x → R' a x) → Paired R' l1 (l2.set j y)
  | _, _, _, .nil, _, h, _, _ => by simp at h
  | a :: l1, x :: l2, 0, .cons r t, nd, h, hy, hk => by
    have e : a = b := by simpa using h
    subst e
    obtain ⟨h1, h2⟩ := List.nodup_cons.mp nd
    have gen : ∀ {l1 : List α} {l2 : List β}, Paired R l1 l2 → (∀ a' ∈ l1, a' ≠ a ∧ ∀ x, R a' x → R' a' x) → Paired R' l1 l2 := by
      intro l1 l2 t
      induction t with
      | nil => exact fun _ => .nil
      | cons r t ih => exact fun hh => .cons ((hh _ List.mem_cons_self).2 _ r) (ih fun a' ha => hh a' (List.mem_cons_of_mem _ ha))
    exact .cons hy (gen t fun a' ha => ⟨fun e => h1 (e ▸ ha), fun x => hk a' x (List.mem_cons_of_mem _ ha) fun e => h1 (e ▸ ha)⟩)
  | a :: l1, x :: l2, j + 1, .cons r t, nd, h, hy, hk => by
    obtain ⟨h1, h2⟩ := List.nodup_cons.mp nd
    have hm : b ∈ l1 := List.mem_of_getElem? (by simpa using h)
    exact .cons (hk a x List.mem_cons_self (fun e => h1 (e ▸ hm)) r) (paired_set t h2 (by simpa using h) hy fun a' x' ha => hk a' x' (List.mem_cons_of_mem _ ha))
section
variable {X : Cx} {e b1 b2 : Expr} {fe f1 f2 : DE} {pos : Pos}
theorem st_setLL (i : Nat) {x : Str} {xp ip sp : Pos} (he : PuE X e fe) (h1' : PuE X b1 f1) (h2' : PuE X b2 f2) (hN : X.N[i]? = some x := by rfl) (hv : Vis X.env.scope x := by first | exact Or.inl rfl | exact Or.inr (Or.inl rfl) | exact Or.inr (Or.inr rfl)) (hd : (x == ("__debug__" : Str)) = false := by decide)
    (hcd : (x == ("__classdict__" : Str)) = false := by decide) (hpl : PlainIx b1 := by exact fun _ _ => rfl) (hs : swapsWithSole [.Subscript (.Subscript (.Name x xp) b1 ip) b2 sp] e pos.line X.env = pure false := by rfl) (hw : swappedStores [.Subscript (.Subscript (.Name x xp) b1 ip) b2 sp] e X.env = pure none := by rfl)
    (ha1 : (assignEach [.Subscript (.Subscript (.Name x xp) b1 ip) b2 sp] X.env).map (·.2) = [assign (.Subscript (.Subscript (.Name x xp) b1 ip) b2 sp) X.env] := by rfl)
    (ha : ∀ v, assign (.Subscript (.Subscript (.Name x xp) b1 ip) b2 sp) X.env v = (do
      let ov ← holding [v] (eval (.Subscript (.Name x xp) b1 ip) X.env)
      let iv ← holding [v, ov] (eval b2 X.env)
      standAt sp
      holding [v, ov, iv] (setItem ov iv v)
      release [v, ov, iv] []) := by intro _; rfl) : PuS X (.Assign [.Subscript (.Subscript (.Name x xp) b1 ip) b2 sp] e pos) (sSetLL i f1 f2 fe) :=
  let ⟨_, a1, a2⟩ := he.ex; let ⟨_, c1, c2⟩ := h1'.ex; let ⟨_, d1, d2⟩ := h2'.ex; ⟨_, ps_asg a1 (pg_sub (pe_ix ix_list (pe_var hN hv hd hcd) c1 hpl) d1 set_list ha) hs hw ha1, fun G0 H0 ρ σ G H E r s q k => by
    unfold sSetLL at q
    split at q
    · rename_i xss d k1 k2 e1 e2 e3 e4
      cases z : ixN xss.length k1 with
      | none => rw [z] at q; cases q
      | some j1 =>
        cases z2 : xss[j1]? with
        | none => simp [z, z2] at q
        | some xs =>
          cases z3 : ixN xs.length k2 with
          | none => simp [z, z2, z3] at q
          | some j2 =>
            simp only [z, z2, z3, Option.bind_some, Option.map_some] at q
            cases q
            obtain ⟨v, h1, h2⟩ := s.er.at_ i _ e1
            refine a2 ρ σ G H _ d s.up.le s.er e2 fun w G1 H1 u1 rw1 => ?_
            refine ⟨_, h1, ?_⟩
            refine c2 ρ σ G1 H1 _ _ u1.le (s.er.up u1) e3 fun w2 G2 H2 u2 rw2 => ?_
            cases rw2
            have u12 := u1.trans u2
            obtain ⟨p, bs, rfl, hp, hb⟩ := h2.mono u12.g u12.h
            have hl : bs.length = xss.length := Paired.length hb
            obtain ⟨bb, y1, vs, y2, y3⟩ := paired_get hb z2
            refine ⟨p, bs.map V.ref, k1, .ref bb, rfl, rfl, .of hp, ?_, ?_⟩
            · unfold atI
              rw [List.length_map, hl, z]
              show (bs.map V.ref)[j1]? = _
              rw [List.getElem?_map, y1]; rfl
            · refine d2 ρ σ G2 H2 _ _ u2.le (s.er.up u12) e4 fun w3 G3 H3 u3 rw3 => ?_
              cases rw3
              have u := u12.trans u3
              have s' := s.step u
              have hp3 := u3.h _ _ hp
              obtain ⟨o1, o2, o3, o4⟩ := s'.own i _ _ e1 h1 p bs rfl hp3
              have hbm : bb ∈ bs := List.mem_of_getElem? y1
              have hg := o4 bb hbm
              have pb : p ≠ bb := fun e => o3 (e ▸ hbm)
              refine ⟨bb, vs, k2, j2, rfl, rfl, u3.h _ _ y2, by rw [← y3.length]; exact z3, ?_⟩
              refine k σ G3 _ (s'.write (s.er.lt e1) e1 h1 (.inr ⟨p, bs, rfl, hp3, hbm⟩) hg ⟨p, bs, rfl, by rw [upd_ne pb]; exact hp3, ?_⟩ (fun p' bs' ep e' => ?_) (fun b f => ?_) (fun _ _ _ _ _ _ => trivial)) u.g
              · exact paired_set hb o2 y1 ⟨_, upd_same, (y3.mono u3.g).set (rw1.mono (u2.trans u3).g) j2⟩ fun a x ha hne ⟨vs', a1, a2⟩ => ⟨vs', by rw [upd_ne hne]; exact u3.h _ _ a1, a2.mono u3.g⟩
              · cases ep
                rw [upd_ne pb] at e'
                have := refs_inj (lst_inj hp3 e')
                subst this
                exact ⟨o1, o2, o3, o4⟩
              · rcases f with f | ⟨p', bs', f, e', m⟩
                · exact .inl f
                · cases f
                  rw [upd_ne pb] at e'
                  exact .inr ⟨p, bs', rfl, e', m⟩
    · cases q⟩
end
section
variable {X : Cx}
/-- len of an own list of lists -/
def eLenLL (i : Nat) : DE := fun ρ => match ρ i with | some (.oll xss) => some (.int xss.length) | _ => none
theorem pu_lenLL (i : Nat) {x : Str} {p xp pos : Pos} (hm : X.mg "len" = none) (hN : X.N[i]? = some x := by rfl) (hv : Vis X.env.scope x := by first | exact Or.inl rfl | exact Or.inr (Or.inl rfl) | exact Or.inr (Or.inr rfl)) (hd : (x == ("__debug__" : Str)) = false := by decide)
    (hcd : (x == ("__classdict__" : Str)) = false := by decide) (hg : Gl X "len" := by rfl) (he : starEach [Expr.Name x xp] X.env = [(false, eval (Expr.Name x xp) X.env)] := by rfl) (hpl : (backTo pos (starEach [] X.env)).any (·.1) = false := by rfl) :
    PuE X (.Call (.Name "len" p) [.Name x xp] [] pos) (eLenLL i) :=
  ⟨_, pe_callB call_len_seq hg hm PySem.boot_len (pa_cons (pe_var hN hv hd hcd) pa_nil he) (by decide) (by decide) he hpl, fun ρ σ G H Q d l r q k => by
    unfold eLenLL at q
    cases z : ρ i with
    | none => rw [z] at q; cases q
    | some cc =>
      rw [z] at q
      cases cc <;> first | cases q | skip
      rename_i xss
      obtain ⟨v, h1, p, bs, rfl, hp, hb⟩ := r.at_ i _ z
      refine ⟨_, h1, p, bs.map V.ref, rfl, .inl (.of hp), ?_⟩
      rw [List.length_map, Paired.length hb]
      exact k _ G H (.refl l) (.int _)⟩
end
end PL

namespace PL
open PySem PySem.Spec PyProof.Rows L2

/-! ## comprehensions of two clauses -/
def compL2 (tg : Tg) (ws : List Nat) (it2 : DI) (tg2 : Tg) (ws2 : List Nat) (cond : DB) (elt : DE) (ρ : DEnv) : List Cell → Option (List D)
  | [] => some []
  | .p d :: cs => (bindT tg (.p d) (ρ.wipe ws)).bind fun ρ1 => (it2 ρ1).bind fun cs2 => (compL tg2 ws2 cond elt ρ1 cs2).bind fun ds => (compL2 tg ws it2 tg2 ws2 cond elt ρ cs).map fun es => ds ++ es
  | _ :: _ => none
def eComp2 (it : DI) (tg : Tg) (ws : List Nat) (it2 : DI) (tg2 : Tg) (ws2 : List Nat) (cond : DB) (elt : DE) : DL := fun ρ => (it ρ).bind fun cs => (compL2 tg ws it2 tg2 ws2 cond elt ρ cs).bind fun ds => if szB ds.length then some ds else none
theorem te_comp2 {K : PySem.W.Frag} {nn : Nat} {wi wi1 : TI} {it it2 : DI} {tt0 tt : TT} {cond : DB} {te : TE} {elt : DE} {tg tg2 : Tg} {ws ws2 : List Nat} (hi : TIh K nn wi it) (hi1 : TIg K nn wi1 it2) (ht0 : TTok K nn tt0 bYes) (ht : TTok K nn tt cond) (he : TEok K nn te elt)
    (hs : ∀ i ∈ tg.slots, i < nn) (hs2 : ∀ i ∈ tg2.slots, i < nn) (hw : ∀ i ∈ tg.slots, i ∈ ws) (hw2 : ∀ i ∈ tg2.slots, i ∈ ws2) :
    TNok K nn (tLc2 wi (tgTG K tg) tt0 wi1 (tgTG K tg2) tt te ws ws2) (eComp2 it tg ws it2 tg2 ws2 cond elt) := fun ρ σ G H Q ds l r q k => by
  unfold eComp2 at q
  cases z : it ρ with
  | none => rw [z] at q; cases q
  | some cs =>
    rw [z] at q
    cases z2 : compL2 tg ws it2 tg2 ws2 cond elt ρ cs with
    | none => simp only [Option.bind_some, z2] at q; cases q
    | some out =>
      simp only [Option.bind_some, z2] at q
      split at q
      · rename_i hz
        cases q
        refine hi ρ σ G H _ cs l r z fun J G1 H1 u1 wk => ?_
        intro Dl hD
        have r1 := r.up u1
        let Inv : Nat → Hp → Prop := fun i H' => ∃ G' vs done rest, Up G1 H1 G' H' ∧ G' Dl = none ∧ H' Dl = some (.lst vs) ∧ Reps K G' done vs ∧ ds = done ++ rest ∧ compL2 tg ws it2 tg2 ws2 cond elt ρ (cs.drop i) = some rest
        refine ⟨fun i m H' => m = cs.length - i ∧ i ≤ cs.length ∧ Inv i H', ⟨cs.length, by simp, Nat.zero_le _, G1, [], [], ds, .own u1.le hD, u1.le.free hD, upd_same, .nil, by simp, by simpa using z2⟩, ?_⟩
        rintro i m H' ⟨rfl, hi, G', vs, done, rest, u, gD, hd, rv, e, cr⟩
        have w := wk i G' H' u.g u.h u.le
        by_cases hlt : i < cs.length
        · right
          obtain ⟨go, yl⟩ := w.1 cs[i] (List.getElem?_eq_getElem hlt)
          refine ⟨go, fun H2 => Inv (i + 1) H2, fun H2 q => ⟨cs.length - (i + 1), by omega, rfl, hlt, q⟩, fun x H2 y => ?_⟩
          obtain ⟨G3, u3, cx⟩ := yl x H2 y
          rw [List.drop_eq_getElem_cons hlt] at cr
          cases hcell : cs[i] with
          | ol _ => rw [hcell] at cr; cases cr
          | ob _ => rw [hcell] at cr; cases cr
          | rb _ _ => rw [hcell] at cr; cases cr
          | rf _ => rw [hcell] at cr; cases cr
          | oll _ => rw [hcell] at cr; cases cr
          | od _ => rw [hcell] at cr; cases cr
          | oi _ => rw [hcell] at cr; cases cr
          | p dc =>
          rw [hcell] at cr cx
          unfold compL2 at cr
          cases z3 : bindT tg (.p dc) (ρ.wipe ws) with
          | none => rw [z3] at cr; cases cr
          | some ρ1 =>
            rw [z3] at cr
            refine tg_ok u3.le cx z3 fun σ2 st => ?_
            refine ⟨(st.wipe hw).trans wipe_wipe, ?_⟩
            have er1 : ∀ G4 H4, Up G1 H1 G4 H4 → Ex G3 G4 → ER K nn ρ1 σ2 G4 H4 := fun G4 H4 u4 e34 => by
              have st' : StTo K G4 tg (.p dc) x (L2.wipe σ ws) σ2 := by
                cases st with
                | nm => exact .nm
                | tp a b => exact .tp (a.mono e34) b
              exact st'.er ((r1.up u4).wipe) (show Rep K G4 dc x from (show Rep K G3 dc x from cx).mono e34) hs z3
            have u13 : Up G1 H1 G3 H2 := u.trans u3
            refine ht0 ρ1 σ2 G3 H2 _ true u3.le (er1 _ _ u13 (.refl _)) rfl fun G4 H4 u4 => ?_
            rw [if_pos rfl]
            have u14 := u13.trans u4
            cases z4 : it2 ρ1 with
            | none => simp only [Option.bind_some, z4] at cr; cases cr
            | some cs2 =>
              simp only [Option.bind_some, z4] at cr
              refine hi1 ρ1 σ2 G4 H4 _ cs2 u4.le (er1 _ _ u14 u4.g) z4 fun J1 G5 H5 u5 wk1 => ?_
              have u15 := u14.trans u5
              cases z5 : compL tg2 ws2 cond elt ρ1 cs2 with
              | none => simp only [Option.bind_some, z5] at cr; cases cr
              | some d1 =>
                simp only [Option.bind_some, z5] at cr
                cases z6 : compL2 tg ws it2 tg2 ws2 cond elt ρ (cs.drop (i + 1)) with
                | none => rw [z6] at cr; cases cr
                | some restO =>
                  rw [z6] at cr
                  have cr : rest = d1 ++ restO := by cases cr; rfl
                  have u35 := (u3.trans u4).trans u5
                  let Inv1 : Nat → Hp → Prop := fun j H' => ∃ G' vs done rest1, Up G1 H1 G' H' ∧ Ex G5 G' ∧ G' Dl = none ∧ H' Dl = some (.lst vs) ∧ Reps K G' done vs ∧ ds = done ++ (rest1 ++ restO) ∧ compL tg2 ws2 cond elt ρ1 (cs2.drop j) = some rest1
                  refine ⟨fun j k H' => k = cs2.length - j ∧ j ≤ cs2.length ∧ Inv1 j H', ⟨cs2.length, by simp, Nat.zero_le _, G5, vs, done, d1, u15, .refl _, u35.new _ _ hd gD, u35.h _ _ hd, rv.mono u35.g, by rw [e, cr], by simpa using z5⟩, ?_⟩
                  rintro j kk H6 ⟨rfl, hj, G6, vs6, done6, rest6, u6, g56, gD6, hd6, rv6, e6, cr6⟩
                  have w1 := wk1 j G6 H6 g56 u6.le
                  by_cases hlt2 : j < cs2.length
                  · right
                    obtain ⟨go1, yl1⟩ := w1.1 cs2[j] (List.getElem?_eq_getElem hlt2)
                    refine ⟨go1, fun H2 => Inv1 (j + 1) H2, fun H2 q => ⟨cs2.length - (j + 1), by omega, rfl, hlt2, q⟩, fun x1 H7 y1 => ?_⟩
                    obtain ⟨G7, u7, cx1⟩ := yl1 x1 H7 y1
                    rw [List.drop_eq_getElem_cons hlt2] at cr6
                    unfold compL at cr6
                    cases z7 : bindT tg2 cs2[j] (ρ1.wipe ws2) with
                    | none => rw [z7] at cr6; cases cr6
                    | some ρ2 =>
                      rw [z7] at cr6
                      refine tg_ok u7.le cx1 z7 fun σ3 st1 => ?_
                      refine ⟨(st1.wipe hw2).trans wipe_wipe, ?_⟩
                      have e37 : Ex G3 G6 := (u4.g.trans u5.g).trans g56
                      have r2 : ER K nn ρ2 σ3 G7 H7 := st1.er ((er1 G7 H7 (u6.trans u7) (e37.trans u7.g)).wipe) cx1 hs2 z7
                      cases z8 : cond ρ2 with
                      | none => simp only [Option.bind_some, z8] at cr6; cases cr6
                      | some b =>
                        simp only [Option.bind_some, z8] at cr6
                        refine ht ρ2 σ3 G7 H7 _ b u7.le r2 z8 fun G8 H8 u8 => ?_
                        have u78 := u7.trans u8
                        cases b with
                        | false =>
                          rw [if_neg Bool.false_ne_true] at cr6 ⊢
                          exact ⟨G8, vs6, done6, rest6, u6.trans u78, g56.trans u78.g, u78.new _ _ hd6 gD6, u78.h _ _ hd6, rv6.mono u78.g, e6, cr6⟩
                        | true =>
                          rw [if_pos rfl] at cr6 ⊢
                          cases z9 : elt ρ2 with
                          | none => rw [z9] at cr6; cases cr6
                          | some d =>
                            rw [z9] at cr6
                            refine he ρ2 σ3 G8 H8 _ d u8.le (r2.up u8) z9 fun v G9 H9 u9 rv9 => ?_
                            have u79 := u78.trans u9
                            cases z10 : compL tg2 ws2 cond elt ρ1 (cs2.drop (j + 1)) with
                            | none => simp only [Option.bind_some, z10] at cr6; cases cr6
                            | some rest' =>
                              simp only [Option.bind_some, z10, Option.map_some] at cr6
                              cases cr6
                              have g9 : G9 Dl = none := u79.new _ _ hd6 gD6
                              refine ⟨vs6, u79.h _ _ hd6, ?_, G9, vs6 ++ [v], done6 ++ [d], rest', ?_, g56.trans u79.g, g9, upd_same, (rv6.mono u79.g).append (.cons rv9 .nil), by rw [e6]; simp, z10⟩
                              · have h1 : ds.length ≤ sizeLine := szB_le hz
                                rw [← rv6.length]
                                rw [e6, List.length_append, List.length_append, List.length_cons] at h1
                                omega
                              · exact ⟨(u6.trans u79).g, (u6.trans u79).h.updR hD, u79.le.updR g9, (u6.trans u79).new⟩
                  · left
                    have ej : j = cs2.length := by omega
                    subst ej
                    refine ⟨w1.2 rfl, ?_⟩
                    rw [List.drop_length] at cr6
                    cases cr6
                    exact ⟨G6, vs6, done6, restO, u6, gD6, hd6, rv6, by rw [e6]; rfl, z6⟩
        · left
          have ei : i = cs.length := by omega
          subst ei
          refine ⟨w.2 rfl, ?_⟩
          rw [List.drop_length] at cr
          cases cr
          rw [List.append_nil] at e
          subst e
          exact k Dl vs G' H' (u1.trans u) (u1.h.free hD) gD hd rv
      · cases q
section
variable {X : Cx} {elt tgE iter tgE2 iter2 : Expr} {ifs2 : List Expr} {scope : Scope} {own : List (Str × Nat)} {vs1 : List Nat} {pos : Pos} {it it2 : DI} {cond : DB} {fe : DE}
theorem nw_comp2 (tg tg2 : Tg) (hc : X.calm = true) (hN : X.N.Nodup) (hi : ItH X tgE iter it) (ok : blkC X.N X.env.scope scope own = true)
    (hg : ∀ (s : Shared) (H : Hp) (C : Addr) (cl : List (Str × Addr)) (fp : List Addr), PG (X.blk s H scope (compEnvC scope cl C X.env) fp) tgE (tgTG X.K tg))
    (hi2 : ∀ (s : Shared) (H : Hp) (C : Addr) (cl : List (Str × Addr)) (fp : List Addr), ItG (X.blk s H scope (compEnvC scope cl C X.env) fp) tgE2 iter2 it2)
    (hg2 : ∀ (s : Shared) (H : Hp) (C : Addr) (cl : List (Str × Addr)) (fp : List Addr), PG (X.blk s H scope (compEnvC scope cl C X.env) fp) tgE2 (tgTG X.K tg2))
    (ht : ∀ (s : Shared) (H : Hp) (C : Addr) (cl : List (Str × Addr)) (fp : List Addr), PuTs (X.blk s H scope (compEnvC scope cl C X.env) fp) ifs2 cond)
    (he : ∀ (s : Shared) (H : Hp) (C : Addr) (cl : List (Str × Addr)) (fp : List Addr), PuE (X.blk s H scope (compEnvC scope cl C X.env) fp) elt fe)
    (hsl : ∀ i ∈ tg.slots, i < X.N.length) (hsl2 : ∀ i ∈ tg2.slots, i < X.N.length) (hw : ∀ i ∈ tg.slots, i ∈ own.map (·.2)) (hw2 : ∀ i ∈ tg2.slots, i ∈ vs1) (hv : ∀ i ∈ vs1, i ∈ own.map (·.2)) (hs : ∀ x, foldedSetIterable iter X.env x = pure x := by intro _; rfl) (hs2 : ∀ env x, foldedSetIterable iter2 env x = pure x := by intro _ _; rfl) :
    NwE X (.ListComp elt [⟨tgE, iter, [], 0⟩, ⟨tgE2, iter2, ifs2, 0⟩] scope pos) (eComp2 it tg (own.map (·.2)) it2 tg2 vs1 cond fe) := by
  obtain ⟨wi, i1, i2⟩ := hi.ex
  refine ⟨tLc2 wi (tgTG X.K tg) (fun σ H Q => ∀ t, (∀ (s : Shared) (H : Hp) (C : Addr) (cl : List (Str × Addr)) (fp : List Addr), True) → TTok X.K X.N.length t bYes → t σ H Q) (fun σ H R => ∀ t, TIg X.K X.N.length t it2 → t σ H R) (tgTG X.K tg2)
    (fun σ H Q => ∀ t, (∀ (s : Shared) (H : Hp) (C : Addr) (cl : List (Str × Addr)) (fp : List Addr), True) → TTok X.K X.N.length t cond → t σ H Q) (fun σ H Q => ∀ t, TEok X.K X.N.length t fe → t σ H Q) (own.map (·.2)) vs1, ?_, ?_⟩
  · refine pe_lc2 hc hN i1 (blkOk_by ok) hv hg (fun s H C cl fp => ?_) (fun s H C cl fp => ?_) hg2 (fun s H C cl fp => ?_) (fun s H C cl fp => ?_) hs hs2
    · obtain ⟨t, a1, a2⟩ := (pts_no (X := X.blk s H scope (compEnvC scope cl C X.env) fp)).ex
      exact ⟨fun pins s' σ H' Q I h => a1.run pins s' σ H' Q I (h t (fun _ _ _ _ _ => trivial) a2)⟩
    · obtain ⟨t, a1, a2⟩ := (hi2 s H C cl fp).ex
      exact ⟨fun pins s' σ H' R I h => a1.run pins s' σ H' R I (h t a2)⟩
    · obtain ⟨t, a1, a2⟩ := (ht s H C cl fp).ex
      exact ⟨fun pins s' σ H' Q I h => a1.run pins s' σ H' Q I (h t (fun _ _ _ _ _ => trivial) a2)⟩
    · obtain ⟨t, a1, a2⟩ := (he s H C cl fp).ex
      exact ⟨fun pins s' σ H' Q I h => a1.run pins s' σ H' Q I (h t a2)⟩
  · exact te_comp2 i2 (fun ρ σ G H R cs l r q k t ok => ok ρ σ G H R cs l r q k) (fun ρ σ G H Q b l r q k t _ ok => ok ρ σ G H Q b l r q k) (fun ρ σ G H Q b l r q k t _ ok => ok ρ σ G H Q b l r q k) (fun ρ σ G H Q d l r q k t ok => ok ρ σ G H Q d l r q k) hsl hsl2 hw hw2
end
end PL

namespace PL
open PySem PySem.Spec PyProof.Rows L2

/-! ## set(xs) of a list of ints, with its table's order -/
abbrev obS (w : World) : Obj := { cls := .type "set", dict := none, data := .set #[] 0 (.fresh 0 0 (!w.params.followText "set-order")) }
abbrev hpS (w : World) (s : Shared) : Heap := s.heap.push (obS w)
section
variable {P : Program} {w : World} {A : Around} {E : Value → Shared → Prop} {s : Shared}
/-- what is true behind: the set stands behind all that was -/
def MadeS (w : World) (s : Shared) (ns : List Int) (h' : Heap) : Prop := ∃ c, c ≤ ns.length ∧ SetR w h' s.heap.objs.size (fun j => decide (j ∈ ns)) c ∧ ∀ b o, s.heap.get? b = some o → h'.get? b = some o
theorem set_of_list {l : Addr} {xs : Array Value} (ns : List Int) {Q : Value → Shared → Prop} (hA : A.handled = none) (hl : s.heap.IsList l xs) (hn : IntsAre xs.toList ns) (hb : ns.length + 1 < scanBound)
    (h : ∀ (h' : Heap) (tk : Nat), MadeS w s ns h' → Q (.ref s.heap.objs.size) { s with heap := h', toks := tk }) : wpAny (model P w) A (call (.type "set") [.ref l]) Q E s := by
  have lx : xs.size = ns.length := (Array.length_toList (xs := xs)).symm.trans (IntsAre.length hn)
  have ⟨mc, mt, m1⟩ := F.called_set.mro
  have m2 := F.called_set.made
  have m3 := F.called_set.sub
  have m4 := F.called_set.notType
  have m5 := F.called_set.canCreate
  have m6 := F.typeCall_set_1 (.ref l)
  have m7 := F.called_set.init.lookup
  have m8 := F.called_set.init.bind (.ref s.heap.objs.size)
  have g0 : (hpS w s).get? s.heap.objs.size = some (obS w) := Heap.get?_push_size _ rfl
  have ty : Shared.TypeIs { s with heap := hpS w s } (.ref s.heap.objs.size) "set" := ⟨_, g0, rfl⟩
  refine wpAny_call (codeAny_of_tree (show wpAny _ _ (callAny (.type "set") _) _ _ _ from wpAny_pure ⟨Code.quiet_builtin _ (by decide +kernel), codeAny_builtin F.entry_type_call ?_⟩))
  rw [Around.under_plain (weight_type_call_type "set" [.ref l] []) rfl]
  repeat (any_goals (first | assumption | wp_step))
  refine codeAny_mono (code_set_led1 (.ref l) (E := E) (Q₁ := fun v s₁ => v = .ref s.heap.objs.size ∧ s₁ = { s with heap := hpS w s }) ⟨rfl, rfl⟩) fun r s₁ hr => ?_
  rcases r with e | fl
  · exact hr
  cases fl <;> first | exact hr.elim | skip
  obtain ⟨rfl, rfl⟩ := hr
  repeat (any_goals (first | assumption | wp_step))
  refine codeAny_mono (codeAny_call_builtin (R := wants (fun r s₂ => r = .none ∧ ∃ h' tk, s₂ = { s with heap := h', toks := tk } ∧ MadeS w s ns h') E) F.called_set.init.plain F.entry_set_init (check_set_init_1 ty ?_)) fun r s₂ hr => ?_
  · -- the list is walked
    obtain ⟨⟨oc, od, odt, os⟩, ho, hcl, nl, hdt⟩ := hl
    obtain rfl : oc = _ := hcl
    obtain rfl : odt = _ := hdt
    have ho' : (hpS w s).get? l = some { cls := .type "list", dict := od, data := .seq xs nl, slots := os } := Heap.get?_push_of_some _ ho
    have f1 := F.sub_list_set
    have f2 := F.sub_list_frozenset
    have f3 : (Value.type "list" == Value.type "dict") = false := by decide
    have il : (hpS w s).IsList l xs := ⟨_, ho', rfl, nl, rfl⟩
    have sz : (hpS w s).objs.size = s.heap.objs.size + 1 := Heap.size_push ..
    have ll : l < s.heap.objs.size := Heap.lt_size ho
    have nI : l ≠ (hpS w s).objs.size := Nat.ne_of_lt (by rw [sz]; exact Nat.lt_succ_of_lt ll)
    have nS : s.heap.objs.size ∉ [(hpS w s).objs.size, l] := by
      intro z
      rcases List.mem_cons.mp z with z | z
      · exact absurd (z.trans sz) (Nat.ne_of_lt (Nat.lt_succ_self _))
      · exact absurd (List.mem_singleton.mp z) (Nat.ne_of_gt ll)
    have a4 : A.in1.in1.in1.handled = none := by simp [hA]
    have vals : ∀ (i : Nat) (v : Value), xs[i]? = some v → ∃ k t, ns[i]? = some k ∧ v = .int k t := fun i v hv => by
      have hi : i < ns.length := lx ▸ (Array.getElem?_eq_some_iff.mp hv).1
      have ⟨t, e⟩ := PyProof.Rows.IntsAre.int_at hn i v ((Array.getElem?_toList ..).trans hv)
      exact ⟨ns[i], t, List.getElem?_eq_getElem hi, by rw [e]; simp [hi]⟩
    unfold Builtin.«set.__init__» noKeywords Builtin.Frozenset.updateFrom
    generalize hPy : pyIter = PY
    wp_walk
    subst hPy
    refine wpAny_pyIter_list il (wpAny_bind (wpAny_runValue ?_))
    refine set_update_ints ((Walks.list a4 _ l nI xs).toS) s.heap.objs.size nS ns lx hb vals (xs.size - 0) 0 _ (by omega) (Nat.zero_le _) ⟨⟨_, Heap.get?_push_size _ rfl, rfl, rfl⟩, il.push _⟩ ⟨0, Nat.le_refl 0, setR_new_at (Heap.get?_push_of_some _ g0)⟩ ?_
    rintro ⟨h', gg, dd, tk, oo⟩ c mv hc R
    obtain rfl : gg = _ := mv.gens
    obtain rfl : dd = _ := mv.drawn
    obtain rfl : oo = _ := mv.os
    refine wpAny_pure (wpAny_pure ⟨rfl, h', tk, rfl, c, lx ▸ hc, R, fun b o e => ?_⟩)
    have hlt : b < s.heap.objs.size := Heap.lt_size e
    refine mv.heap b o (fun z => ?_) (Heap.get?_push_of_some _ (Heap.get?_push_of_some _ e))
    rcases List.mem_cons.mp z with z | z
    · exact absurd z (Nat.ne_of_lt hlt)
    · exact absurd ((List.mem_singleton.mp z).trans sz) (Nat.ne_of_lt (Nat.lt_succ_of_lt hlt))
  · rcases r with e | fl
    · exact hr
    cases fl <;> first | exact hr.elim | skip
    obtain ⟨rfl, h', tk, rfl, hm⟩ := hr
    repeat (any_goals (first | assumption | wp_step))
    exact h _ _ hm
end
end PL

namespace PL
open PySem PySem.Spec PyProof.Rows L2
/-- the members in rising order -/
def insI (k : Int) : List Int → List Int
  | [] => [k]
  | x :: xs => if k < x then k :: x :: xs else if k = x then x :: xs else x :: insI k xs
def sset (ns : List Int) : List Int := ns.foldr insI []
theorem insI_mem {k j : Int} : ∀ {xs : List Int}, j ∈ insI k xs ↔ j = k ∨ j ∈ xs
  | [] => by simp [insI]
  | x :: xs => by
    unfold insI
    split
    · simp
    · split
      · rename_i h; subst h; simp
      · rw [List.mem_cons, insI_mem, List.mem_cons]
        constructor
        · rintro (h | h | h) <;> simp [h]
        · rintro (h | h | h) <;> simp [h]
theorem insI_lt {k : Int} : ∀ {xs : List Int}, xs.Pairwise (· < ·) → (insI k xs).Pairwise (· < ·)
  | [], _ => by simp [insI]
  | x :: xs, h => by
    have ⟨h1, h2⟩ := List.pairwise_cons.mp h
    unfold insI
    split
    · rename_i hk
      exact List.pairwise_cons.mpr ⟨fun y hy => by
        rcases List.mem_cons.mp hy with rfl | hy
        · exact hk
        · exact Int.lt_trans hk (h1 y hy), h⟩
    · split
      · exact h
      · rename_i ha hb
        refine List.pairwise_cons.mpr ⟨fun y hy => ?_, insI_lt h2⟩
        rcases insI_mem.mp hy with rfl | hy
        · omega
        · exact h1 y hy
theorem sset_mem {ns : List Int} {j : Int} : j ∈ sset ns ↔ j ∈ ns := by
  unfold sset
  induction ns with
  | nil => simp
  | cons n ns ih => rw [List.foldr_cons, insI_mem, ih, List.mem_cons]
theorem sset_lt (ns : List Int) : (sset ns).Pairwise (· < ·) := by
  unfold sset
  induction ns with
  | nil => exact .nil
  | cons n ns ih => rw [List.foldr_cons]; exact insI_lt ih
theorem lt_unique : ∀ {xs ys : List Int}, xs.Pairwise (· < ·) → ys.Pairwise (· < ·) → (∀ k, k ∈ xs ↔ k ∈ ys) → xs = ys
  | [], [], _, _, _ => rfl
  | [], y :: ys, _, _, h => absurd ((h y).mpr List.mem_cons_self) (by simp)
  | x :: xs, [], _, _, h => absurd ((h x).mp List.mem_cons_self) (by simp)
  | x :: xs, y :: ys, hx, hy, h => by
    have ⟨x1, x2⟩ := List.pairwise_cons.mp hx
    have ⟨y1, y2⟩ := List.pairwise_cons.mp hy
    have e : x = y := by
      rcases List.mem_cons.mp ((h x).mp List.mem_cons_self) with e | e
      · exact e
      · rcases List.mem_cons.mp ((h y).mpr List.mem_cons_self) with e' | e'
        · exact e'.symm
        · exact absurd (x1 y e') (Int.lt_asymm (y1 x e))
    subst e
    rw [lt_unique x2 y2 fun k => ⟨fun hk => by
      rcases List.mem_cons.mp ((h k).mp (List.mem_cons_of_mem _ hk)) with e | e
      · subst e; exact absurd (x1 k hk) (Int.lt_irrefl k)
      · exact e, fun hk => by
      rcases List.mem_cons.mp ((h k).mpr (List.mem_cons_of_mem _ hk)) with e | e
      · subst e; exact absurd (y1 k hk) (Int.lt_irrefl k)
      · exact e⟩]
/-- sorted(set(xs)), fewer than 64 ints -/
def gSS (d : D) : Option (List D) := match d with
  | .lst xs => (intsD xs).bind fun ns => if ns.length < 64 then some ((sset ns).map .int) else none
  | _ => none
def dSortSet (f : DE) : DL := fun ρ => (f ρ).bind gSS
section
variable {X : Cx} {a : Expr} {fa : DE} {p p2 q pos : Pos}
theorem nw_sortset (hm : X.mg "sorted" = none) (hm2 : X.mg "set" = none) (hc : X.calm = true) (ha : RdE X a fa) (hg : Gl X "sorted" := by rfl) (hg2 : Gl X "set" := by rfl) (na : starEach [a] X.env = [(false, eval a X.env)] := by rfl) :
    NwE X (.Call (.Name "sorted" p) [.Call (.Name "set" p2) [a] [] q] [] pos) (dSortSet fa) := by
  obtain ⟨ta, a1, a2⟩ := ha.ex
  refine ⟨fun σ H Q => ta σ H fun x H1 => ∃ (l : Addr) (ns : List Int), x = .ref l ∧ SqL X.K H1 l (ns.map V.int) ∧ ns.length < 64 ∧ ∀ p0 o, H1 p0 = none → ∀ p, (upd H1 p0 o) p = none → Q (.ref p) (upd (upd H1 p0 o) p (.lst ((sset ns).map V.int))), ⟨fun pins s σ H Q I h => ?_⟩, fun ρ σ G H Q ds l r z k => ?_⟩
  · refine Call_ (ld_blt I hg hm boot_sorted ?_)
    refine PyProof.Rows.callWith_builtin1 (PyProof.Rows.args_cons ?_ rfl) rfl rfl
    refine Call_ (ld_blt I hg2 hm2 PyProof.Rows.boot_set ?_)
    refine PyProof.Rows.callWith_type1 (PyProof.Rows.args_cons (thn (a1.run pins s σ H _ I h) fun v s1 ⟨x, H1, I1, r1, q1⟩ => PyProof.Rows.args_nil ?_) na) na rfl
    obtain ⟨la, ns, rfl, hq, h64, q1⟩ := q1
    cases r1
    obtain ⟨its, r, pl, hz⟩ := I1.list hq
    refine set_of_list ns (I1.ok.hd hc) pl.isList (by simpa using r.ints) (by unfold scanBound; omega) fun h' tk ⟨c, hcn, R, k⟩ => ?_
    refine PyProof.Rows.args_nil ?_
    have I3 := I1.laid (t' := tk) k (Nat.le_refl _) (setO_new (P := X.prog) (H := upd H1 s1.heap.objs.size (SetO X.w s1.heap.objs.size _ c)) R)
    refine cr_sortedSet hc pins _ σ _ [.ref s1.heap.objs.size] _ Q I3 (.cons rfl .nil) ⟨_, _, c, rfl, upd_same, by omega, fun ns' p hs hm' hl hn => ?_⟩
    have e' : ns' = sset ns := lt_unique hs (sset_lt ns) fun k => by rw [hm' k, sset_mem]; simp
    subst e'
    exact q1 _ _ (I1.hok.fresh (Nat.le_refl _)) p hn
  · unfold dSortSet at z
    cases z1 : fa ρ with
    | none => rw [z1] at z; cases z
    | some d =>
      rw [z1] at z
      refine a2 ρ σ G H _ d l r z1 fun v G1 H1 u1 rv => ?_
      have z : gSS d = some ds := z
      match d, z with
      | .lst xs, z =>
      obtain ⟨la, vs, rfl, hp, rp⟩ := rv.lst_inv u1.le
      have z : ((intsD xs).bind fun ns => if ns.length < 64 then some ((sset ns).map D.int) else none) = some ds := z
      cases z2 : intsD xs with
      | none => rw [z2] at z; cases z
      | some ns =>
        rw [z2] at z
        have z : (if ns.length < 64 then some ((sset ns).map D.int) else none) = some ds := z
        split at z
        · rename_i h64
          cases z
          have e := intsD_eq z2
          subst e
          have e := rp.ints
          subst e
          refine ⟨la, ns, rfl, .of hp, h64, fun p0 o h0 p hp' => ?_⟩
          exact k p _ G1 _ (u1.trans ((Up.own u1.le h0).trans (.own (u1.le.trans (.new h0)) hp'))) (by
            cases e : H p with
            | none => rfl
            | some o' =>
              have := (Ex.new (o := o) h0) _ _ (u1.h _ _ e)
              rw [this] at hp'; cases hp') ((u1.le.trans (.new h0)).free hp') upd_same (Reps.ofInts (sset ns))
        · cases z
end
end PL

namespace PL
open PySem PySem.Spec PyProof.Rows L2

/-! ## {k: v, ..}[key], text keys -/
def pick3 (k1 k2 k3 : Str) (d1 d2 d3 : D) (k : D) : Option D := match k with
  | .str k => if k1 = k then some d1 else if k2 = k then some d2 else if k3 = k then some d3 else none
  | _ => none
def eDisp3 (k1 k2 k3 : Str) (f1 f2 f3 fk : DE) : DE := fun ρ => (f1 ρ).bind fun d1 => (f2 ρ).bind fun d2 => (f3 ρ).bind fun d3 => (fk ρ).bind fun k => pick3 k1 k2 k3 d1 d2 d3 k
theorem val3 (k1 k2 k3 k : Str) (v1 v2 v3 : V) (h12 : k1 ≠ k2) (h13 : k1 ≠ k3) (h23 : k2 ≠ k3) : valV (mergeK [] [(.inr k1, v1), (.inr k2, v2), (.inr k3, v3)]) (.inr k) = if k1 = k then some v1 else if k2 = k then some v2 else if k3 = k then some v3 else none := by
  have e1 : ¬ (Sum.inr k1 : Key) = .inr k2 := fun e => h12 (Sum.inr.inj e)
  have e2 : ¬ (Sum.inr k1 : Key) = .inr k3 := fun e => h13 (Sum.inr.inj e)
  have e3 : ¬ (Sum.inr k2 : Key) = .inr k3 := fun e => h23 (Sum.inr.inj e)
  have m : mergeK [] [(.inr k1, v1), (.inr k2, v2), (.inr k3, v3)] = [(.inr k1, v1), (.inr k2, v2), (.inr k3, v3)] := by
    simp [mergeK, putK, e1, e2, e3, h12, h13, h23]
  rw [m]
  by_cases c1 : k1 = k
  · subst c1; rw [if_pos rfl]; exact valV_pos rfl
  · rw [if_neg c1, valV_neg (by exact fun e => c1 (Sum.inr.inj e))]
    by_cases c2 : k2 = k
    · subst c2; rw [if_pos rfl]; exact valV_pos rfl
    · rw [if_neg c2, valV_neg (by exact fun e => c2 (Sum.inr.inj e))]
      by_cases c3 : k3 = k
      · subst c3; rw [if_pos rfl]; exact valV_pos rfl
      · rw [if_neg c3, valV_neg (by exact fun e => c3 (Sum.inr.inj e))]; rfl
section
variable {X : Cx} {e1 e2' e3 ek : Expr} {f1 f2 f3 fk : DE} {k1 k2 k3 : Str} {p1 p2 p3 q1 q2 q3 dp pos : Pos}
theorem pu_disp3 {j1 j2 j3 : Nat} (hu : X.A.units + 64 < cLine) (h1 : PuE X e1 f1) (h2 : PuE X e2' f2) (h3 : PuE X e3 f3) (hk : RdE X ek fk)
    (h12 : k1 ≠ k2 := by decide) (h13 : k1 ≠ k3 := by decide) (h23 : k2 ≠ k3 := by decide) (hs : NoSl ek := by intro _ _; rfl) :
    PuE X (.Subscript (.Dict [some (.Constant (.str k1) j1 p1), some (.Constant (.str k2) j2 p2), some (.Constant (.str k3) j3 p3)] [e1, e2', e3] dp) ek pos) (eDisp3 k1 k2 k3 f1 f2 f3 fk) := by
  obtain ⟨t1, a1, b1⟩ := h1.ex
  obtain ⟨t2, a2, b2⟩ := h2.ex
  obtain ⟨t3, a3, b3⟩ := h3.ex
  obtain ⟨tk, ak, bk⟩ := hk.ex
  refine ⟨_, pe_dget (by omega) (pe_disp (pps_cons pe_str a1 (pps_cons pe_str a2 (pps_cons pe_str a3 pps_nil))) rfl rfl (by simp) (by simp)) ak hs, fun ρ σ G H Q d l r q k => ?_⟩
  unfold eDisp3 at q
  cases z1 : f1 ρ with
  | none => rw [z1] at q; cases q
  | some d1 =>
  rw [z1] at q
  cases z2 : f2 ρ with
  | none => simp only [Option.bind_some, z2] at q; cases q
  | some d2 =>
  simp only [Option.bind_some, z2] at q
  cases z3 : f3 ρ with
  | none => rw [z3] at q; cases q
  | some d3 =>
  rw [z3] at q
  cases z4 : fk ρ with
  | none => simp only [Option.bind_some, z4] at q; cases q
  | some dk =>
  simp only [Option.bind_some, z4] at q
  intro p hp
  have u0 : Up G H G (upd H p (.dK [])) := .own l hp
  show t1 σ (upd H p (.dK [])) _
  refine b1 ρ σ G _ _ d1 u0.le (r.up u0) z1 fun v1 G1 H1 u1 rv1 => ?_
  show t2 σ H1 _
  refine b2 ρ σ G1 H1 _ d2 u1.le (r.up (u0.trans u1)) z2 fun v2 G2 H2 u2 rv2 => ?_
  show t3 σ H2 _
  refine b3 ρ σ G2 H2 _ d3 u2.le (r.up ((u0.trans u1).trans u2)) z3 fun v3 G3 H3 u3 rv3 => ?_
  have u03 := (u1.trans u2).trans u3
  have hp3 : H3 p = some (.dK []) := u03.h _ _ upd_same
  have gp3 : G3 p = none := u03.new _ _ upd_same (l.free hp)
  refine ⟨hp3, [(.inr k1, v1), (.inr k2, v2), (.inr k3, v3)], rfl, by simp, ?_⟩
  have u4 : Up G H G3 (upd H3 p (.dK (mergeK [] [(.inr k1, v1), (.inr k2, v2), (.inr k3, v3)]))) :=
    ⟨(u0.trans u03).g, (u0.trans u03).h.updR hp, u03.le.updR gp3, (u0.trans u03).new⟩
  refine bk ρ σ G3 _ _ dk u4.le (r.up u4) z4 fun y G5 H5 u5 ry => ?_
  have hp5 := u5.h _ _ (upd_same (H := H3) (a := p))
  have e : ∃ ks, dk = .str ks := by cases dk <;> first | exact ⟨_, rfl⟩ | cases q
  obtain ⟨ks, rfl⟩ := e
  have ey : y = .str ks := ry.str_inv
  subst ey
  have q : (if k1 = ks then some d1 else if k2 = ks then some d2 else if k3 = ks then some d3 else none) = some d := q
  have hv := val3 k1 k2 k3 ks v1 v2 v3 h12 h13 h23
  have fin : ∀ v, Rep X.K G5 d v → valV (mergeK [] [(.inr k1, v1), (.inr k2, v2), (.inr k3, v3)]) (.inr ks) = some v → ∃ a v, V.ref p = V.ref a ∧ DGet H5 a (.str ks) (some v) ∧ Q v H5 := fun v rv e =>
    ⟨p, v, rfl, .inl ⟨_, .inr ks, .inl hp5, rfl, e.symm⟩, k v G5 H5 (u4.trans u5) rv⟩
  by_cases c1 : k1 = ks
  · rw [if_pos c1] at q hv; cases q
    exact fin v1 (rv1.mono ((u2.trans u3).g.trans u5.g)) hv
  · rw [if_neg c1] at q hv
    by_cases c2 : k2 = ks
    · rw [if_pos c2] at q hv; cases q
      exact fin v2 (rv2.mono (u3.g.trans u5.g)) hv
    · rw [if_neg c2] at q hv
      by_cases c3 : k3 = ks
      · rw [if_pos c3] at q hv; cases q
        exact fin v3 (rv3.mono u5.g) hv
      · rw [if_neg c3] at q; cases q
end
end PL

namespace PL
open PySem PySem.Spec PyProof.Rows L2

/-! ## defs with one default, a text -/
structure FnD1 (P : Program) (w : World) (K : PySem.W.Frag) (mg : Str → Option Value) (base : Heap) (k : Nat) (x : Str) (F : List D → Option D) (z : Str) : Prop where
  ex : ∃ f fd ps, mg x = some (.ref f) ∧ PySem.W.keepIn K (.ref f) = true ∧ Binds K fd ps [] ∧ (∃ ds, Vals [V.str z] ds ∧ Binds K fd ps ds) ∧ FnOk P w K mg base CX0 k f fd ps (spF K F)
theorem FnD1.full {P : Program} {w : World} {K : PySem.W.Frag} {mg : Str → Option Value} {base : Heap} {k : Nat} {x : Str} {F : List D → Option D} {z : Str} (h : FnD1 P w K mg base k x F z) : FnD P w K mg base k x F :=
  let ⟨f, fd, ps, a, b, c, _, d⟩ := h.ex; ⟨f, fd, ps, a, b, c, d⟩
section
variable {P : Program} {w : World} {K : PySem.W.Frag} {mg : Str → Option Value} {base : Heap}
abbrev FunS (K : PySem.W.Frag) (x qual : Str) (st : Stmt) (z : Str) (f : Addr) (fd : FuncData) : Prop := FunD K x qual (defArgs st) (defBody st) (defScope st) [V.str z] [] f fd
theorem funS_mk {x qual z : Str} {st : Stmt} {f T : Addr} {oc tc : Value} {od an td : Option Addr} {osl tsl : Array (Option Value)} {kV doc pm cdv ct : Value} {tk : Tok} {tn : Nat} (l : K.lookup f = some ⟨oc, od, .func (PySem.W.fnOf x qual (defArgs st) (defBody st) (defScope st) (.ref T) kV doc pm an cdv ct), osl⟩)
    (lt : K.lookup T = some ⟨tc, td, .seq #[.str z tk] tn, tsl⟩) (c : PySem.W.codeIn K cdv qual = true) (k : PySem.W.keepIn K (.ref f) = true) : FunS K x qual st z f (PySem.W.fnOf x qual (defArgs st) (defBody st) (defScope st) (.ref T) kV doc pm an cdv ct) :=
  ⟨⟨oc, od, .ref T, kV, doc, pm, an, cdv, ct, osl, rfl, l, c, .inr ⟨by simp, T, _, [Value.str z tk], tn, rfl, lt, rfl, .cons ⟨tk, rfl⟩ .nil⟩, .inl rfl⟩, k⟩
theorem funS_all {x qual z : Str} {st : Stmt} {f : Addr} {fd : FuncData} {ps : List Str} (F : FunS K x qual st z f fd)
    (h : ∀ (T : Addr) (kV doc pm : Value) (an : Option Addr) (cdv ct : Value) (us its : List Value), us.length = ps.length → its.length = [V.str z].length →
      ∃ k, bindArgs (PySem.W.fnOf x qual (defArgs st) (defBody st) (defScope st) (.ref T) kV doc pm an cdv ct) ⟨us, []⟩ = seqItems? (.ref T) >>= k ∧ k (some its.toArray) = pure (ps.zip (us ++ its.drop 1))) : Binds K fd ps [] := by
  obtain ⟨ds, h1, h2⟩ := FunD.binds1 F (ps := ps) ps.length 1 (by simp) (by simp) h
  cases h1
  exact h2
theorem pureS_ok {x qual z : Str} {st : Stmt} {f : Addr} {fd : FuncData} {N ps : List Str} {k : Nat} {body : DS} (F : FunS K x qual st z f fd) (S : FnScope N ps (defScope st)) (hl : ps.length ≤ N.length)
    (hb : ∀ (cdv : Value) (A : Around) (outer : List Env) (s : Shared) (H : Hp) (E : XK), Room k (A.deeper (envOfC qual (defScope st) s.heap.objs.size f cdv)) →
      PuSs (cxOf CX0 P w K mg base N qual (defScope st) f cdv A outer s H E).nox (defBody st) body) : FnOk P w K mg base CX0 (k + 1) f fd ps (spF K (fnD ps.length body)) := by
  refine FunD.ok F S (fun vs H Q E h => ?_) (fun cdv A outer s H vs Q E hr h => ?_)
  · obtain ⟨G, ds, d, l, r, q, _⟩ := h
    unfold fnD at q
    split at q
    · rename_i e; rw [← e, r.length]
    · cases q
  · obtain ⟨G, ds, d, l, r, q, kq⟩ := h
    unfold fnD at q
    split at q
    · rename_i e
      obtain ⟨t, a1, a2⟩ := (hb cdv A outer s H E hr).ex
      refine ⟨t, a1.nox, ?_⟩
      cases z : body (env0 ds) with
      | none => rw [z] at q; cases q
      | some rr =>
        rw [z] at q
        have q : endD rr = some d := q
        refine a2 G H (env0 ds) (L2.start N vs) G H _ rr (start_sr l r (by rw [← r.length, e]; exact hl)) z ?_
        cases rr with
        | nx ρ' => cases q; exact fun σ' G' H' s' _ => kq _ G' H' s'.up .non
        | rt d' => cases q; exact fun v G' H' u rv => kq v G' H' u rv
        | bk _ => cases q
        | ct _ => cases q
    · cases q
end
def eCallD (F : List D → Option D) (dd : List D) (fs : DL) : DE := fun ρ => (fs ρ).bind fun ds => F (ds ++ dd)
section
variable {X : Cx} {x : Str} {p pos : Pos} {e : Expr} {es : List Expr} {fs : DL} {F : List D → Option D} {k : Nat} {z : Str}
theorem pu_callD1 {j : Nat} (B : FnD1 X.prog X.w X.K X.mg X.base j x F z) (hr : Room k X.A) (ha : PuA X (e :: es) fs) (hjk : j ≤ k := by decide) (hg : Gl X x := by rfl) (hdb : (x == ("__debug__" : Str)) = false := by decide)
    (he : starEach (e :: es) X.env = (false, eval e X.env) :: starEach es X.env := by rfl) (hpl : (backTo pos (starEach es X.env)).any (·.1) = false := by rfl) : PuE X (.Call (.Name x p) (e :: es) [] pos) (eCallD F [.str z] fs) :=
  let ⟨f, fd, ps, b1, b2, _, ⟨dsv, b3, b3'⟩, b4⟩ := B.ex; let ⟨_, a1, a2⟩ := ha.ex; ⟨_, pe_call b4 (hr.mono hjk) hg b1 b2 b3' b3 pass0 a1 hdb he hpl, fun ρ σ G H Q d l r q kk => by
    unfold eCallD at q
    cases z1 : fs ρ with
    | none => rw [z1] at q; cases q
    | some ds =>
      rw [z1] at q
      refine a2 ρ σ G H _ ds l r z1 fun vs G1 H1 u1 rvs => ?_
      show spF X.K F (vs ++ [V.str z]) H1 Q E0
      exact ⟨G1, ds ++ [.str z], d, u1.le, rvs.append (.cons (.str z) .nil), (show F (ds ++ [.str z]) = some d from q), fun v G2 H2 u2 rv => kk v G2 H2 (u1.trans u2) rv⟩⟩
end
end PL

namespace PL
open PySem PySem.Spec PyProof.Rows L2

/-! ## xs * k, xs.index(x), xs[::-1] -/
def gRep (d e : D) : Option D := match d, e with
  | .lst xs, .int k => if (-9223372036854775808 ≤ k ∧ k < 9223372036854775808) ∧ xs.length * k.toNat ≤ 16777216 then some (.lst (List.replicate k.toNat xs).flatten) else none
  | .tup xs, .int k => if (xs.length ≠ 0 ∧ xs.length ≤ 1000) ∧ 2 ≤ k ∧ k ≤ 1000 then some (.tup (List.replicate k.toNat xs).flatten) else none
  | _, _ => none
theorem Reps.rep {K : PySem.W.Frag} {G : Hp} {ds : List D} {vs : List V} (r : Reps K G ds vs) : ∀ n : Nat, Reps K G (List.replicate n ds).flatten (List.replicate n vs).flatten
  | 0 => .nil
  | n + 1 => by rw [List.replicate_succ, List.replicate_succ, List.flatten_cons, List.flatten_cons]; exact r.append (r.rep n)
theorem r2_rep {K : PySem.W.Frag} : R2ok K (fun x y H Q => rRep x y H Q ∨ rRepT K x y H Q) gRep := fun G H x y d e z Q l rx ry q k => by
  cases d <;> cases e <;> first | cases q | skip
  case lst.int a i =>
    obtain ⟨p, vs, rfl, hp, rp⟩ := rx.lst_inv l
    rw [ry.int_inv]
    simp only [gRep] at q
    split at q
    · rename_i hz; cases q
      refine .inl ⟨p, i, vs, rfl, rfl, hp, hz.1.1, hz.1.2, by rw [← rp.length]; exact Nat.le_trans hz.2 (by rw [sizeLine_eq]; decide), fun n hn => ?_⟩
      exact k _ _ _ (.pure l hn) (.lst upd_same ((rp.rep _).mono (.new (l.free hn))))
    · cases q
  case tup.int a i =>
    obtain ⟨p, vs, rfl, hp, rp⟩ := rx.tup_inv
    rw [ry.int_inv]
    simp only [gRep] at q
    split at q
    · rename_i hz; cases q
      refine .inr ⟨p, i, vs, rfl, rfl, .of (l _ _ hp), fun h0 => hz.1.1 (by rw [rp.length, h0]; rfl), hz.2.1, hz.2.2, by rw [← rp.length]; exact hz.1.2, fun n hn => ?_⟩
      exact k _ _ _ (.pure l hn) (.tup upd_same ((rp.rep _).mono (.new (l.free hn))))
    · cases q
/-- the first place of an equal one -/
def gIndex (d e : D) : Option D := match d with
  | .lst xs => if (D.lst xs).ok 50 && e.ok 50 then (xs.findIdx? fun z => z.eqv e).map fun j => .int (j : Nat) else none
  | _ => none
section
variable {X : Cx} {a b : Expr} {fa fb : DE} {pos ap : Pos}
theorem pu_rep (ha : RdE X a fa) (hb : RdE X b fb) : PuE X (.BinOp a .Mult b pos) (e2 gRep fa fb) := pu_bin (op_rep.or op_repT) r2_rep ha hb
theorem pu_index (hu : X.A.units + 65 < cLine) (ha : RdE X a fa) (hb : RdE X b fb) (hbase : attributeBase a "index" X.env (eval a X.env) = eval a X.env := by rfl)
    (hfew : ((backTo pos (starEach [b] X.env)).all (fun x => !x.1) && (backToKw pos (keywordEach [] X.env)).all (fun x => x.1.isSome) && decide (([b] : List Expr).length + ([] : List Keyword).length + (if ([] : List Keyword).isEmpty then 0 else 1) < 30)) = true := by rfl)
    (hline : (ap.endLine == pos.line) = true := by rfl) (hs : starEach [b] X.env = [(false, eval b X.env)] := by rfl) (hpl : (backTo pos (starEach [] X.env)).any (·.1) = false := by rfl) : PuE X (.Call (.Attribute a "index" ap) [b] [] pos) (e2 gIndex fa fb) := by
  obtain ⟨ta, a1, a2⟩ := ha.ex
  obtain ⟨tb, b1, b2⟩ := hb.ex
  refine ⟨_, pe_bm PySem.F.plainAttrs_list PySem.F.slot_list_index PySem.F.type_list_index (mt_indexD hu) a1 (pa_cons b1 pa_nil hs) hbase hfew hline hs hpl, fun ρ σ G H Q d l r q k => ?_⟩
  unfold e2 at q
  cases z1 : fa ρ with
  | none => rw [z1] at q; cases q
  | some x =>
  rw [z1] at q
  cases z2 : fb ρ with
  | none => simp only [Option.bind_some, z2] at q; cases q
  | some y =>
  simp only [Option.bind_some, z2] at q
  match x, q with
  | .lst xs, q =>
  refine a2 ρ σ G H _ _ l r z1 fun v G1 H1 u1 rv => ?_
  obtain ⟨p, vs, rfl, hp, rp⟩ := rv.lst_inv u1.le
  refine ⟨?_, ?_⟩
  · exact .inl ⟨rfl, _, .of hp⟩
  refine b2 ρ σ G1 H1 _ _ u1.le (r.up u1) z2 fun w G2 H2 u2 rw' => ?_
  simp only [gIndex] at q
  split at q
  · rename_i hok
    rw [Bool.and_eq_true] at hok
    cases z3 : xs.findIdx? fun z => z.eqv y with
    | none => rw [z3] at q; cases q
    | some j =>
      rw [z3] at q; cases q
      obtain ⟨hj, hjt, hjf⟩ := List.findIdx?_eq_some_iff_getElem.mp z3
      have rl : RepT X.K G2 H2 (.lst xs) (.ref p) := rv.mono u2.g u2.h
      refine ⟨p, w, y.toP, D.toPs xs, j, (xs[j]).toP, rfl, rfl, rl.dp u2.le hok.1, rw'.dp u2.le hok.2, ok_shaped hok.1, ok_shaped hok.2, ?_, hjt, fun m z' hm hz' => ?_, k _ G2 H2 (u1.trans u2) (.int _)⟩
      · rw [toPs_map, List.getElem?_map, List.getElem?_eq_getElem hj]; rfl
      · rw [toPs_map, List.getElem?_map, List.getElem?_eq_getElem (by omega : m < xs.length)] at hz'
        cases hz'
        have := hjf m hm
        simpa [D.eqv] using this
  · cases q
end
end PL

namespace PL
open PySem PySem.Spec PyProof.Rows L2

/-! ## list(range(..)), sorted(xs), xs[::-1] -/
theorem reps_rg {K : PySem.W.Frag} {G : Hp} (a b : Int) : Reps K G ((List.range (b - a).toNat).map fun i => D.int (a + (i : Nat))) (rgV a b) := by
  unfold rgV
  induction List.range (b - a).toNat with
  | nil => exact .nil
  | cons i l ih => exact .cons (.int _) ih
theorem dRng_some {ρ : DEnv} {fa fb : DE} {ds : List D} (q : dRng fa fb ρ = some ds) : ∃ a b : Int, fa ρ = some (.int a) ∧ fb ρ = some (.int b) ∧ RgOk a b ∧ ds = (List.range (b - a).toNat).map fun i => D.int (a + (i : Nat)) := by
  unfold dRng at q
  split at q
  · rename_i a b h1 h2
    split at q
    · rename_i h
      cases q
      exact ⟨a, b, h1, h2, ⟨by omega, by omega, by omega, by omega, by omega⟩, rfl⟩
    · cases q
  · cases q
section
variable {X : Cx} {a b : Expr} {fa fb : DE} {p p2 q pos : Pos}
theorem nw_range1 (hm : X.mg "list" = none) (hm2 : X.mg "range" = none) (ha : RdE X a fa) (hc : X.calm = true := by rfl) (hg : Gl X "list" := by rfl) (hg2 : Gl X "range" := by rfl) (na : starEach [a] X.env = [(false, eval a X.env)] := by rfl)
    (nr : starEach [Expr.Call (.Name "range" p2) [a] [] q] X.env = [(false, eval (Expr.Call (.Name "range" p2) [a] [] q) X.env)] := by rfl) : NwE X (.Call (.Name "list" p) [.Call (.Name "range" p2) [a] [] q] [] pos) (dRng (eC (.int 0)) fa) :=
  let ⟨_, a1, a2⟩ := ha.ex; ⟨_, pe_listRg hc hg hm (prg_1 hg2 hm2 a1 na) nr, fun ρ σ G H Q ds l r z k => by
    obtain ⟨i, j, h1, h2, ok, rfl⟩ := dRng_some z
    cases h1
    refine a2 ρ σ G H _ _ l r h2 fun v G1 H1 u1 rv => ?_
    rw [rv.int_inv]
    exact ⟨j, rfl, ok, fun n hn => k n _ G1 _ (u1.trans (.own u1.le hn)) (u1.h.free hn) (u1.le.free hn) upd_same (reps_rg 0 j)⟩⟩
theorem nw_range2 (hm : X.mg "list" = none) (hm2 : X.mg "range" = none) (ha : RdE X a fa) (hb : RdE X b fb) (hc : X.calm = true := by rfl) (hg : Gl X "list" := by rfl) (hg2 : Gl X "range" := by rfl) (na : starEach [a, b] X.env = (false, eval a X.env) :: starEach [b] X.env := by rfl) (nb : starEach [b] X.env = [(false, eval b X.env)] := by rfl)
    (hp : (backTo q (starEach [b] X.env)).any (·.1) = false := by rfl) (nr : starEach [Expr.Call (.Name "range" p2) [a, b] [] q] X.env = [(false, eval (Expr.Call (.Name "range" p2) [a, b] [] q) X.env)] := by rfl) :
    NwE X (.Call (.Name "list" p) [.Call (.Name "range" p2) [a, b] [] q] [] pos) (dRng fa fb) :=
  let ⟨_, a1, a2⟩ := ha.ex; let ⟨_, b1, b2⟩ := hb.ex; ⟨_, pe_listRg hc hg hm (prg_2 hg2 hm2 a1 b1 na nb hp) nr, fun ρ σ G H Q ds l r z k => by
    obtain ⟨i, j, h1, h2, ok, rfl⟩ := dRng_some z
    refine a2 ρ σ G H _ _ l r h1 fun v G1 H1 u1 rv => ?_
    refine b2 ρ σ G1 H1 _ _ u1.le (r.up u1) h2 fun w G2 H2 u2 rw' => ?_
    rw [rv.int_inv, rw'.int_inv]
    exact ⟨i, j, rfl, rfl, ok, fun n hn => k n _ G2 _ ((u1.trans u2).trans (.own u2.le hn)) ((u1.trans u2).h.free hn) (u2.le.free hn) upd_same (reps_rg i j)⟩⟩
end
/-- in rising order, equal ones kept -/
def insS (k : Int) : List Int → List Int
  | [] => [k]
  | x :: xs => if k ≤ x then k :: x :: xs else x :: insS k xs
def srt (ns : List Int) : List Int := ns.foldr insS []
theorem insS_perm (k : Int) : ∀ xs : List Int, (insS k xs).Perm (k :: xs)
  | [] => .refl _
  | x :: xs => by
    unfold insS
    split
    · exact .refl _
    · exact ((insS_perm k xs).cons x).trans (.swap k x xs)
theorem insS_le {k : Int} : ∀ {xs : List Int}, xs.Pairwise (· ≤ ·) → (insS k xs).Pairwise (· ≤ ·)
  | [], _ => by simp [insS]
  | x :: xs, h => by
    have ⟨h1, h2⟩ := List.pairwise_cons.mp h
    unfold insS
    split
    · rename_i hk
      exact List.pairwise_cons.mpr ⟨fun y hy => by
        rcases List.mem_cons.mp hy with rfl | hy
        · exact hk
        · exact Int.le_trans hk (h1 y hy), h⟩
    · rename_i hk
      refine List.pairwise_cons.mpr ⟨fun y hy => ?_, insS_le h2⟩
      rcases List.mem_cons.mp ((insS_perm k xs).mem_iff.mp hy) with rfl | hy
      · omega
      · exact h1 y hy
theorem srt_perm : ∀ ns : List Int, (srt ns).Perm ns
  | [] => .refl _
  | n :: ns => (insS_perm n (srt ns)).trans ((srt_perm ns).cons n)
theorem srt_le : ∀ ns : List Int, (srt ns).Pairwise (· ≤ ·)
  | [] => .nil
  | n :: ns => insS_le (srt_le ns)
theorem srt_unique : ∀ {xs ys : List Int}, xs.Pairwise (· ≤ ·) → ys.Pairwise (· ≤ ·) → xs.Perm ys → xs = ys
  | [], ys, _, _, p => by rw [List.Perm.nil_eq p]
  | x :: xs, [], _, _, p => absurd p.length_eq (by simp)
  | x :: xs, y :: ys, hx, hy, p => by
    have ⟨x1, x2⟩ := List.pairwise_cons.mp hx
    have ⟨y1, y2⟩ := List.pairwise_cons.mp hy
    have e : x = y := by
      have a : x ≤ y := by
        rcases List.mem_cons.mp (p.mem_iff.mpr List.mem_cons_self) with e | e
        · omega
        · exact x1 y e
      have b : y ≤ x := by
        rcases List.mem_cons.mp (p.mem_iff.mp List.mem_cons_self) with e | e
        · omega
        · exact y1 x e
      omega
    subst e
    rw [srt_unique x2 y2 (List.Perm.cons_inv p)]
def gSorted (ds : List D) : Option (List D) := match ds with
  | [.lst xs] => (intsD xs).map fun ns => (srt ns).map .int
  | _ => none
theorem b_sorted {X : Cx} : BltN X "sorted" (.builtin "sorted") gSorted := ⟨⟨_, cr_sortedI, fun G H vs ds z Q l rs q k => by
  match ds, q with
  | [.lst xs], q =>
    obtain ⟨v, rfl, rv⟩ := rs.one
    obtain ⟨p, us, rfl, hp, rp⟩ := rv.lst_inv l
    have q : ((intsD xs).map fun ns => (srt ns).map D.int) = some z := q
    cases e : intsD xs with
    | none => rw [e] at q; cases q
    | some ns =>
      rw [e] at q; cases q
      have := intsD_eq e
      subst this
      have := rp.ints
      subst this
      refine ⟨p, ns, rfl, .of hp, fun ns' n hpm hle hn => ?_⟩
      have : ns' = srt ns := srt_unique hle (srt_le ns) (hpm.trans (srt_perm ns).symm)
      subst this
      exact k n _ G _ (.own l hn) hn (l.free hn) upd_same (Reps.ofInts _)⟩, PyProof.Rows.boot_sorted⟩
/-- a list turned round -/
def eRevL (f : DE) : DE := fun ρ => (f ρ).bind fun d => match d with | .lst xs => some (.lst xs.reverse) | _ => none
theorem pu_revL {X : Cx} {e : Expr} {f : DE} {k : Nat} {p1 p2 p3 pos : Pos} (he : RdE X e f) : PuE X (.Subscript e (.Slice none none (some (.UnaryOp .USub (.Constant (.int 1) k p1) p2)) p3) pos) (eRevL f) :=
  let ⟨_, a1, a2⟩ := he.ex; ⟨_, pe_revL a1, fun ρ σ G H Q d l r q kk => by
    unfold eRevL at q
    cases z : f ρ with
    | none => rw [z] at q; cases q
    | some x =>
      rw [z] at q
      match x, q with
      | .lst xs, q =>
      cases q
      refine a2 ρ σ G H _ _ l r z fun v G1 H1 u1 rv => ?_
      obtain ⟨p, vs, rfl, hp, rp⟩ := rv.lst_inv u1.le
      exact ⟨p, vs, rfl, .of hp, fun n hn => kk _ _ _ (u1.trans (.pure u1.le hn)) (.lst upd_same ((Reps.reverse rp).mono (.new (u1.le.free hn))))⟩⟩
end PL

namespace PL
open PySem PySem.Spec PyProof.Rows L2 HT
/-! ## t[::-1], t a tuple -/
section
variable {prog : Program} {w : World} {A : Around} {E : Value → Shared → Prop} {s : Shared}
theorem adj_back (n : Nat) : Builtin.Slice.sliceAdjust none none (-1) (n : Int) = ((n : Int) - 1, -1) := by
  unfold Builtin.Slice.sliceAdjust
  simp
theorem places_back (n : Nat) : Builtin.Slice.slicePlaces ((n : Int) - 1) (-1) (-1) = n := by
  unfold Builtin.Slice.slicePlaces
  simp
  omega
theorem applied_back {sl : Addr} {u : Tok} {n : Nat} {Q : Int × Int × Nat → Shared → Prop} (hs : s.heap.IsSliceOf sl .none .none (.int (-1) u)) (h : Q ((n : Int) - 1, -1, n) s) : wpAny (model prog w) A (Builtin.Slice.sliceApplied (.ref sl) (pure (n : Int))) Q E s := by
  obtain ⟨os, hos, hcs, hds⟩ := id hs
  unfold Builtin.Slice.sliceApplied Builtin.Slice.sliceFields
  refine wpAny_bind (wpAny_bind (wpAny_field hos hds (x := .none) rfl (wpAny_bind (wpAny_field hos hds (x := .none) rfl (wpAny_bind (wpAny_field hos hds (x := .int (-1) u) rfl (wpAny_pure ?_)))))))
  refine wpAny_bind (slicePart_int ?_)
  show wpAny _ _ (if ((-1 : Int) == 0) = true then _ else _) _ _ s
  rw [if_neg (by decide)]
  refine wpAny_bind (slicePart_none (wpAny_bind (slicePart_none (wpAny_bind (wpAny_pure ?_)))))
  show wpAny _ _ (match Builtin.Slice.sliceAdjust none none (-1) (n : Int) with | (lo, hi) => pure (lo, (-1 : Int), Builtin.Slice.slicePlaces lo hi (-1))) _ _ s
  rw [adj_back]
  show wpAny _ _ (pure ((n : Int) - 1, (-1 : Int), Builtin.Slice.slicePlaces ((n : Int) - 1) (-1) (-1))) _ _ s
  rw [places_back]
  exact wpAny_pure h
theorem pick_back (xs : Array Value) : ((List.range xs.size).filterMap fun (m : Nat) => xs[((xs.size : Int) - 1 + (m : Int) * (-1)).toNat]?).toArray = xs.toList.reverse.toArray := by
  congr 1
  have main : ∀ k, k ≤ xs.size → (List.range k).filterMap (fun (m : Nat) => xs[((xs.size : Int) - 1 + (m : Int) * (-1)).toNat]?) = xs.toList.reverse.take k := by
    intro k
    induction k with
    | zero => intro _; rfl
    | succ k ih =>
      intro hk
      rw [List.range_succ, List.filterMap_append, ih (by omega), List.take_succ]
      congr 1
      have e : ((xs.size : Int) - 1 + (k : Int) * (-1)).toNat = xs.size - 1 - k := by omega
      rw [List.filterMap_cons, List.filterMap_nil, e, List.getElem?_reverse (by rw [Array.length_toList]; omega), Array.length_toList, Array.getElem?_toList]
      cases xs[xs.size - 1 - k]? <;> rfl
  rw [main xs.size (Nat.le_refl _), List.take_of_length_le (by rw [List.length_reverse, Array.length_toList]; exact Nat.le_refl _)]
theorem item_back {t sl : Addr} {items : Array Value} {u : Tok} {Q : Value → Shared → Prop} (ht : IsTup s.heap t items) (hs : s.heap.IsSliceOf sl .none .none (.int (-1) u))
    (h : Q (.ref s.heap.objs.size) { s with heap := s.heap.push { cls := .type "tuple", data := .seq items.toList.reverse.toArray } }) (hsz : items.size ≤ sizeLine) : wpAny (model prog w) A (getItem (.ref t) (.ref sl)) Q E s := by
  have fit : sizeOk (.seq items.toList.reverse.toArray) := by
    show items.toList.reverse.toArray.size ≤ sizeLine
    rw [List.size_toArray, List.length_reverse, Array.length_toList]; exact hsz
  have ⟨os, hos, hcs, hds⟩ := hs
  have ty : s.TypeIs (.ref sl) "slice" := ⟨os, hos, hcs⟩
  unfold getItem
  try with_reducible refine wpAny_holding ?_
  first | refine wpAny_bind (wpAny_pure ?_) | skip
  refine wpAny_bind (wpAny_sequenceKey ht.typeIs (by decide) (wpAny_bind (wpAny_callSpecial?_slot (name := Str.ofString "__getitem__") ht.typeIs PyProof.Rows.slot_tuple_getitem (wpAny_call_entry PyProof.Rows.slot_tuple_getitem ht.typeIs PyProof.Rows.entry_tuple_getitem ?_ (PyProof.Rows.args_tuple_getitem _ _)))))
  show wpAny _ _ (Builtin.Tuple.tupleItemsOf (.ref t) >>= _) _ _ s
  refine wpAny_bind (tupleItemsOf_ ht (wpAny_bind (wpAny_typeOf ty ?_)))
  rw [if_pos (by decide)]
  refine wpAny_bind (applied_back hs ?_)
  show wpAny _ _ (if (((items.size : Int) - 1) == 0 && (-1 : Int) == 1 && items.size == items.size) = true then _ else _) _ _ s
  rw [if_neg (by simp), pick_back]
  refine wpAny_bind (wpAny_newObj_type (wpAny_pure ?_) fit)
  exact ⟨_, rfl, wpAny_pure h⟩
end
section
variable {X : Cx} {e : Expr} {te : TE} {k : Nat} {p1 p2 p3 pos : Pos}
def tRevA (K : PySem.W.Frag) (te : TE) : TE := fun σ H Q => te σ H fun x H1 => ∃ a xs, x = .ref a ∧ ((SqL K H1 a xs ∧ ∀ p, H1 p = none → Q (.ref p) (upd H1 p (.lst xs.reverse))) ∨ (SqT K H1 a xs ∧ ∀ p, H1 p = none → Q (.ref p) (upd H1 p (.tup xs.reverse))))
theorem pe_revA (he : PE X e te) : PE X (.Subscript e (.Slice none none (some (.UnaryOp .USub (.Constant (.int 1) k p1) p2)) p3) pos) (tRevA X.K te) := ⟨fun pins s σ H Q I h => by
  have stp : PO X (some (.UnaryOp .USub (.Constant (.int 1) k p1) p2)) (tPart (tUn (rU fun i => .int (-i)) (tC (.int 1)))) := po_some (pe_un un_neg pe_int)
  refine Subscript_ (thn (he.run pins s σ H _ I h) fun v s1 ⟨x, H1, I1, rx, a, xs, ex, q⟩ => ?_)
  subst ex
  cases rx
  refine wpAny_Slice (thn (po_none.run pins s1 σ H1 (fun o H' => o = none ∧ H' = H1) I1 ⟨rfl, rfl⟩) fun u1 s2 ⟨o1, H2, I2, i1, eo1, eH2⟩ => thn (po_none.run pins s2 σ H2 (fun o H' => o = none ∧ H' = H2) I2 ⟨rfl, rfl⟩) fun u2 s3 ⟨o2, H3, I3, i2, eo2, eH3⟩ =>
    thn (stp.run pins s3 σ H3 (fun o H' => o = some (-1) ∧ H' = H3) I3 ⟨1, rfl, -1, rfl, rfl, rfl⟩) fun u3 s4 ⟨o3, H4, I4, i3, eo3, eH4⟩ => ?_)
  subst eo1 eo2 eo3 eH2 eH3 eH4
  cases i1
  cases i2
  obtain ⟨tk, rfl⟩ : ∃ tk, u3 = Value.int (-1) tk := by cases i3; exact ⟨_, rfl⟩
  have J := I4.kept (t' := s4.toks) (h' := s4.heap.push { cls := .type "slice", data := .fields #[.none, .none, .int (-1) tk] }) fun b ob z => Heap.get?_push_of_some _ z
  have sl : (s4.heap.push { cls := .type "slice", data := .fields #[.none, .none, .int (-1) tk] }).IsSliceOf s4.heap.objs.size .none .none (.int (-1) tk) := Heap.IsSliceOf.new _ _ _ _
  show wpAny (model X.prog X.w) X.A (subscriptTail e _ (.ref a) (.ref s4.heap.objs.size)) (EP X pins σ Q) X.xe { s4 with heap := s4.heap.push { cls := .type "slice", data := .fields #[.none, .none, .int (-1) tk] } }
  rcases q with ⟨hx, q⟩ | ⟨hx, q⟩
  · obtain ⟨us, rv, pl, hz⟩ := J.list hx
    have hlen := rv.length
    refine tail_any (ops := [.ref a, .ref s4.heap.objs.size]) pl.isList.typeIs PySem.slot_list_getitem.lookup (wpAny_getItem_list_slice pl.isList sl .none .none (.int _ _) (by decide) ?_ (by rw [List.size_toArray]; omega)) (by with_unfolding_all rfl)
    rw [PySem.W.krv_pick]
    have N := J.laid (a := _) (o := .lst xs.reverse) (t' := s4.toks) (h' := Heap.push _ { cls := .type "list", data := .seq us.reverse.toArray }) (fun b ob z => Heap.get?_push_of_some _ z) (Nat.le_refl _) ⟨by rw [List.length_reverse]; exact hz, _, 0, rv.reverse, Heap.get?_push_size _ rfl⟩
    exact ⟨.ref _, _, N, rfl, q _ (J.hok.fresh (Nat.le_refl _))⟩
  · obtain ⟨us, rv, pt, hz⟩ := J.tuple hx
    have hlen := rv.length
    refine tail_any (ops := [.ref a, .ref s4.heap.objs.size]) pt.typeIs PyProof.Rows.slot_tuple_getitem.lookup (item_back pt sl ?_ (by rw [List.size_toArray]; omega)) (by with_unfolding_all rfl)
    have N := J.laid (a := _) (o := .tup xs.reverse) (t' := s4.toks) (h' := Heap.push _ { cls := .type "tuple", data := .seq us.reverse.toArray }) (fun b ob z => Heap.get?_push_of_some _ z) (Nat.le_refl _) (show ObjOk X.prog X.w _ _ _ (.tup xs.reverse) from ⟨by rw [List.length_reverse]; exact hz, us.reverse, rv.reverse, IsTup.new _ _⟩)
    exact ⟨.ref _, _, N, rfl, q _ (J.hok.fresh (Nat.le_refl _))⟩⟩
end
/-- a list or a tuple turned round -/
def eRev (f : DE) : DE := fun ρ => (f ρ).bind fun d => match d with | .lst xs => some (.lst xs.reverse) | .tup xs => some (.tup xs.reverse) | _ => none
theorem pu_rev {X : Cx} {e : Expr} {f : DE} {k : Nat} {p1 p2 p3 pos : Pos} (he : RdE X e f) : PuE X (.Subscript e (.Slice none none (some (.UnaryOp .USub (.Constant (.int 1) k p1) p2)) p3) pos) (eRev f) :=
  let ⟨_, a1, a2⟩ := he.ex; ⟨_, pe_revA a1, fun ρ σ G H Q d l r q kk => by
    unfold eRev at q
    cases z : f ρ with
    | none => rw [z] at q; cases q
    | some x =>
      rw [z] at q
      match x, q with
      | .lst xs, q =>
        cases q
        refine a2 ρ σ G H _ _ l r z fun v G1 H1 u1 rv => ?_
        obtain ⟨p, vs, rfl, hp, rp⟩ := rv.lst_inv u1.le
        exact ⟨p, vs, rfl, .inl ⟨.of hp, fun n hn => kk _ _ _ (u1.trans (.pure u1.le hn)) (.lst upd_same ((Reps.reverse rp).mono (.new (u1.le.free hn))))⟩⟩
      | .tup xs, q =>
        cases q
        refine a2 ρ σ G H _ _ l r z fun v G1 H1 u1 rv => ?_
        obtain ⟨p, vs, rfl, hp, rp⟩ := rv.tup_inv
        exact ⟨p, vs, rfl, .inr ⟨.of (u1.le _ _ hp), fun n hn => kk _ _ _ (u1.trans (.pure u1.le hn)) (.tup upd_same ((Reps.reverse rp).mono (.new (u1.le.free hn))))⟩⟩⟩
end PL

namespace PL
open PySem PySem.Spec PyProof.Rows L2

/-! ## dicts whose keys are pairs of ints -/
def getK (kvs : List ((Int × Int) × Int)) (k : Int × Int) : Option Int := (kvs.find? fun p => decide (p.1 = k)).map (·.2)
def putD (kvs : List ((Int × Int) × Int)) (k : Int × Int) (v : Int) : List ((Int × Int) × Int) := if (kvs.any fun p => decide (p.1 = k)) = true then kvs.map (fun p => if p.1 = k then (p.1, v) else p) else kvs ++ [(k, v)]
def key2 (k : Int × Int) : List Key := [.inl k.1, .inl k.2]
theorem key2_inj {k l : Int × Int} : key2 k = key2 l ↔ k = l := by
  obtain ⟨a, b⟩ := k
  obtain ⟨c, d⟩ := l
  simp [key2]
theorem dK2_key (p : (Int × Int) × Int) : (dK2 p).1 = key2 p.1 := rfl
theorem val_get (kvs : List ((Int × Int) × Int)) (k : Int × Int) : valV (kvs.map dK2) (key2 k) = (getK kvs k).map V.int := by
  induction kvs with
  | nil => rfl
  | cons p kvs ih =>
    unfold getK at ih ⊢
    rw [List.map_cons, List.find?_cons]
    by_cases h : p.1 = k
    · rw [valV_pos (by rw [dK2_key, h]), decide_eq_true h]; rfl
    · rw [valV_neg (by rw [dK2_key]; exact fun e => h (key2_inj.mp e)), decide_eq_false h]; exact ih
theorem put_put (kvs : List ((Int × Int) × Int)) (k : Int × Int) (v : Int) : putK (kvs.map dK2) (key2 k) (V.int v) = (putD kvs k v).map dK2 := by
  unfold putK putD
  have e : ((kvs.map dK2).any fun kv => decide (kv.1 = key2 k)) = kvs.any fun p => decide (p.1 = k) := by
    rw [List.any_map]
    congr 1
    funext p
    show decide ((dK2 p).1 = key2 k) = _
    rw [dK2_key]
    exact decide_eq_decide.mpr key2_inj
  rw [e]
  split
  · rw [List.map_map, List.map_map]
    apply List.map_congr_left
    intro p _
    show (if (dK2 p).1 = key2 k then ((dK2 p).1, V.int v) else dK2 p) = dK2 (if p.1 = k then (p.1, v) else p)
    rw [dK2_key]
    by_cases h : p.1 = k
    · rw [if_pos (key2_inj.mpr h), if_pos h]; rfl
    · rw [if_neg fun e => h (key2_inj.mp e), if_neg h]
  · rw [List.map_append]; rfl
theorem rep_key {K : PySem.W.Frag} {G : Hp} {i j : Int} {v : V} (h : Rep K G (.tup [.int i, .int j]) v) : ∃ b, v = .ref b ∧ G b = some (.tup ((key2 (i, j)).map kV)) := by
  cases h with
  | tup hg r =>
    cases r with
    | cons a t =>
      cases t with
      | cons b t =>
        cases t
        cases a
        cases b
        exact ⟨_, rfl, hg⟩
def gDGet (d e : D) : Option D := match d, e with
  | .dct kvs, .tup [.int i, .int j] => (getK kvs (i, j)).map D.int
  | _, _ => none
def gDIn (e d : D) : Option D := match d, e with
  | .dct kvs, .tup [.int i, .int j] => some (.bl (getK kvs (i, j)).isSome)
  | _, _ => none
theorem gDGet_some {d e z : D} (q : gDGet d e = some z) : ∃ kvs i j v, d = .dct kvs ∧ e = .tup [.int i, .int j] ∧ getK kvs (i, j) = some v ∧ z = .int v := by
  unfold gDGet at q
  split at q
  · rename_i kvs i j
    cases h : getK kvs (i, j) with
    | none => rw [h] at q; cases q
    | some v => rw [h] at q; cases q; exact ⟨kvs, i, j, v, rfl, rfl, h, rfl⟩
  · cases q
theorem gDIn_some {d e z : D} (q : gDIn e d = some z) : ∃ kvs i j, d = .dct kvs ∧ e = .tup [.int i, .int j] ∧ z = .bl (getK kvs (i, j)).isSome := by
  unfold gDIn at q
  split at q
  · rename_i kvs i j
    cases q; exact ⟨kvs, i, j, rfl, rfl, rfl⟩
  · cases q
section
variable {X : Cx} {a b : Expr} {fa fb : DE} {pos : Pos}
theorem pu_dget (hu : X.A.units + 1 < cLine) (ha : RdE X a fa) (hb : PuE X b fb) (hs : NoSl b := by intro _ _; rfl) : PuE X (.Subscript a b pos) (e2 gDGet fa fb) :=
  let ⟨_, a1, a2⟩ := ha.ex; let ⟨_, b1, b2⟩ := hb.ex; ⟨_, pe_dget hu a1 b1 hs, fun ρ σ G H Q d l r q k => by
    unfold e2 at q
    cases z1 : fa ρ with
    | none => rw [z1] at q; cases q
    | some x =>
    rw [z1] at q
    cases z2 : fb ρ with
    | none => simp only [Option.bind_some, z2] at q; cases q
    | some y =>
    simp only [Option.bind_some, z2] at q
    obtain ⟨kvs, i, j, v, rfl, rfl, hv, rfl⟩ := gDGet_some q
    refine a2 ρ σ G H _ _ l r z1 fun u G1 H1 u1 ru => ?_
    refine b2 ρ σ G1 H1 _ _ u1.le (r.up u1) z2 fun w G2 H2 u2 rw' => ?_
    obtain ⟨p, rfl, hp⟩ := (ru.mono u2.g u2.h).dct_inv u2.le
    obtain ⟨c, rfl, hc⟩ := rep_key rw'
    exact ⟨p, .int v, rfl, .inr ⟨_, key2 (i, j), c, .inl hp, rfl, u2.le _ _ hc, by rw [val_get, hv]; rfl⟩, k _ G2 H2 (u1.trans u2) (.int v)⟩⟩
theorem te_din {K : PySem.W.Frag} {nn : Nat} {ta tb : TE} (a2 : TEok K nn ta fa) (b2 : TRok K nn tb fb) : TEok K nn (tDIn ta tb) (e2 gDIn fa fb) := fun ρ σ G H Q d l r q k => by
  unfold e2 at q
  cases z1 : fa ρ with
  | none => rw [z1] at q; cases q
  | some x =>
  rw [z1] at q
  cases z2 : fb ρ with
  | none => simp only [Option.bind_some, z2] at q; cases q
  | some y =>
  simp only [Option.bind_some, z2] at q
  obtain ⟨kvs, i, j, rfl, rfl, rfl⟩ := gDIn_some q
  refine a2 ρ σ G H _ _ l r z1 fun u G1 H1 u1 ru => ?_
  refine b2 ρ σ G1 H1 _ _ u1.le (r.up u1) z2 fun w G2 H2 u2 rw' => ?_
  obtain ⟨p, rfl, hp⟩ := rw'.dct_inv u2.le
  obtain ⟨c, rfl, hc⟩ := rep_key (ru.mono u2.g)
  exact ⟨p, (getK kvs (i, j)).map V.int, rfl, .inr ⟨_, key2 (i, j), c, .inl hp, rfl, u2.le _ _ hc, by rw [val_get]⟩, by
    have : ((getK kvs (i, j)).map V.int).isSome = (getK kvs (i, j)).isSome := by cases getK kvs (i, j) <;> rfl
    rw [this]
    exact k _ G2 H2 (u1.trans u2) (.bl _)⟩
theorem pu_din (hu : X.A.units + 1 < cLine) (ha : PuE X a fa) (hb : RdE X b fb) (hm : behindInMarks .In b = false := by rfl) : PuE X (.Compare a [.In] [b] pos) (e2 gDIn fa fb) :=
  let ⟨_, a1, a2⟩ := ha.ex; let ⟨_, b1, b2⟩ := hb.ex; ⟨_, pe_cmp (pc_din hu a1 b1) hm, te_din a2 b2⟩
theorem pt_dinU (hu : X.A.units + 1 < cLine) (ha : PuE X a fa) (hb : RdE X b fb) (hm : behindInMarks .In b = false := by rfl) : PuT X (.Compare a [.In] [b] pos) (tV (e2 gDIn fa fb)) :=
  let ⟨_, a1, a2⟩ := ha.ex; let ⟨_, b1, b2⟩ := hb.ex; ⟨_, pt_cmp (pc_din hu a1 b1) hm, tt_val (te_din a2 b2)⟩
/-- d.get(k, e) -/
def eDGetD (fd fk fe : DE) : DE := fun ρ => (fd ρ).bind fun d => (fk ρ).bind fun k => (fe ρ).bind fun e => match d, k, e with
  | .dct kvs, .tup [.int i, .int j], .int v => some (.int ((getK kvs (i, j)).getD v))
  | _, _, _ => none
end
section
variable {X : Cx} {o b c : Expr} {fd fk fe : DE} {pos ap : Pos}
theorem pu_dgetD (hu : X.A.units + 1 < cLine) (hd : RdE X o fd) (hk : PuE X b fk) (he : PuE X c fe) (m : M2 X o "get" ap b c pos := by exact ⟨rfl, rfl, rfl, rfl⟩) : PuE X (.Call (.Attribute o "get" ap) [b, c] [] pos) (eDGetD fd fk fe) :=
  let ⟨_, a1, a2⟩ := hd.ex; let ⟨_, b1, b2⟩ := hk.ex; let ⟨_, c1, c2⟩ := he.ex; ⟨_, pe_dget2 hu a1 b1 c1 m, fun ρ σ G H Q d l r q k => by
    unfold eDGetD at q
    cases z1 : fd ρ with
    | none => rw [z1] at q; cases q
    | some x =>
    rw [z1] at q
    cases z2 : fk ρ with
    | none => simp only [Option.bind_some, z2] at q; cases q
    | some y =>
    simp only [Option.bind_some, z2] at q
    cases z3 : fe ρ with
    | none => rw [z3] at q; cases q
    | some w =>
    rw [z3] at q
    simp only [Option.bind_some] at q
    split at q
    · rename_i kvs i j v
      cases q
      refine a2 ρ σ G H _ _ l r z1 fun u G1 H1 u1 ru => ?_
      obtain ⟨p, rfl, hp⟩ := ru.dct_inv u1.le
      refine ⟨p, rfl, .inr ⟨_, .inl hp⟩, ?_⟩
      refine b2 ρ σ G1 H1 _ _ u1.le (r.up u1) z2 fun y G2 H2 u2 ry => ?_
      refine c2 ρ σ G2 H2 _ _ u2.le (r.up (u1.trans u2)) z3 fun w G3 H3 u3 rw' => ?_
      cases rw'
      obtain ⟨c, rfl, hc⟩ := rep_key (ry.mono u3.g)
      have hp3 := (u2.trans u3).h _ _ hp
      refine ⟨(getK kvs (i, j)).map V.int, .inr ⟨_, key2 (i, j), c, .inl hp3, rfl, u3.le _ _ hc, by rw [val_get]⟩, ?_⟩
      have e : ((getK kvs (i, j)).map V.int).getD (.int v) = .int ((getK kvs (i, j)).getD v) := by cases getK kvs (i, j) <;> rfl
      rw [e]
      exact k _ G3 H3 ((u1.trans u2).trans u3) (.int _)
    · cases q⟩
end
/-! ### a dict of one's own -/
def sOwnD (i : Nat) : DS := fun ρ => some (.nx (ρ.set i (.od [])))
def sSetD (i : Nat) (fk fe : DE) : DS := fun ρ => match ρ i, fe ρ, fk ρ with
  | some (.od kvs), some (.int v), some (.tup [.int a, .int b]) => if szB (kvs.length + 1) then some (.nx (ρ.set i (.od (putD kvs (a, b) v)))) else none
  | _, _, _ => none
section
variable {X : Cx} {e b : Expr} {fe fb : DE} {pos : Pos}
theorem st_ownD (i : Nat) {x : Str} {dp pos' : Pos} (hN : X.N.Nodup) (hi : X.N[i]? = some x := by rfl) (hx : Loc X.env.scope x := by first | exact .inl rfl | exact .inr rfl) (hs : swapsWith (.Dict [] [] dp) (some (.Name x pos')) pos.line X.env = pure false := by rfl)
    (hf : X.fn x = true ∨ X.env.scope.names.lookup x = some .local := by first | exact .inl rfl | exact .inr rfl) : PuS X (.Assign [.Name x pos'] (.Dict [] [] dp) pos) (sOwnD i) :=
  ⟨_, ps_set hN hi hx pe_dnewT hs hf, fun G0 H0 ρ σ G H E r s q k => by
    cases q
    intro p hp
    refine k _ G _ ((s.step (.own s.up.le hp)).set (List.getElem?_eq_some_iff.mp hi).1 ⟨p, rfl, upd_same⟩ (fun a e => by cases e; exact ⟨s.up.le.free hp, s.up.h.free hp⟩) fun j c' v' b hj h1 h2 f1 f2 => ?_) (.refl _)
    cases f1
    obtain ⟨w, h3, h4⟩ := s.er.at_ j c' h1
    rw [h2] at h3; cases h3
    obtain ⟨o, ho⟩ := foot_there h4 (foot_up (Ex.new hp) h4 f2)
    rw [hp] at ho; cases ho⟩
theorem st_setD (hu : X.A.units + 1 < cLine) (i : Nat) {x : Str} {xp sp : Pos} (he : PuE X e fe) (hb : PuE X b fb) (hN : X.N[i]? = some x := by rfl) (hv : Vis X.env.scope x := by first | exact Or.inl rfl | exact Or.inr (Or.inl rfl) | exact Or.inr (Or.inr rfl)) (hd : (x == ("__debug__" : Str)) = false := by decide)
    (hcd : (x == ("__classdict__" : Str)) = false := by decide) (hs : swapsWith e (some (.Subscript (.Name x xp) b sp)) pos.line X.env = pure false := by rfl) : PuS X (.Assign [.Subscript (.Name x xp) b sp] e pos) (sSetD i fb fe) :=
  let ⟨_, a1, a2⟩ := he.ex; let ⟨_, b1, b2⟩ := hb.ex; ⟨_, ps_dput hu (pe_var hN hv hd hcd) b1 a1 hs, fun G0 H0 ρ σ G H E r s q k => by
    unfold sSetD at q
    split at q
    · rename_i kvs v ka kb e1 e2 e3
      split at q
      · rename_i hz
        cases q
        obtain ⟨w0, h1, h2⟩ := s.er.at_ i _ e1
        obtain ⟨p, rfl, hp⟩ := id h2
        refine a2 ρ σ G H _ _ s.up.le s.er e2 fun w G1 H1 u1 rw1 => ?_
        refine ⟨_, h1, ?_⟩
        refine b2 ρ σ G1 H1 _ _ u1.le (s.er.up u1) e3 fun w2 G2 H2 u2 rw2 => ?_
        cases rw1
        obtain ⟨c, rfl, hc⟩ := rep_key rw2
        have u := u1.trans u2
        have s' := s.step u
        have hg := s'.own i _ _ e1 h1 p rfl
        refine ⟨p, _, rfl, .inr ⟨_, key2 (ka, kb), c, u.h _ _ hp, rfl, u2.le _ _ hc, ?_, rfl⟩, ?_⟩
        · have := szB_le hz
          rw [List.length_map]; omega
        · rw [put_put]
          exact k σ G2 _ (s'.write (s.er.lt e1) e1 h1 rfl hg ⟨p, rfl, upd_same⟩ (fun a ea => by cases ea; exact hg) (fun b f => f) (fun _ _ _ _ _ _ => trivial)) u.g
      · cases q
    · cases q⟩
end
end PL

namespace PL
open PySem PySem.Spec PyProof.Rows L2
/-! ## a, b = [..], x and a, b = [..], [..], lists of one's own -/
def sParOP (i j : Nat) (fa : DL) (fb : DE) : DS := fun ρ => (fa ρ).bind fun ds => (fb ρ).map fun e => .nx ((ρ.set i (.ol ds)).set j (.p e))
def sParOO (i j : Nat) (fa fb : DL) : DS := fun ρ => (fa ρ).bind fun ds => (fb ρ).map fun es => .nx ((ρ.set i (.ol ds)).set j (.ol es))
section
variable {X : Cx} {a b : Expr} {fl gl : DL} {fb : DE} {pos : Pos}
theorem SR.newL {K : PySem.W.Frag} {nn : Nat} {G0 H0 G H G' H' : Hp} {ρ : DEnv} {σ : L2.St} {i : Nat} {p : Addr} {vs : List V} {ds : List D} (s : SR K nn G0 H0 ρ σ G H) (hi : i < nn) (u : Up G H G' H') (n1 : H p = none) (n2 : G' p = none) (hp : H' p = some (.lst vs)) (rv : Reps K G' ds vs) :
    SR K nn G0 H0 (ρ.set i (.ol ds)) (σ.set i (some (.ref p))) G' H' :=
  (s.step u).set hi ⟨p, vs, rfl, hp, rv⟩ (fun a e => by cases e; exact ⟨n2, s.up.h.free n1⟩) fun j c' v' b hj h1 h2 f1 f2 => by
    cases f1
    obtain ⟨w, h3, h4⟩ := s.er.at_ j c' h1
    rw [h2] at h3; cases h3
    obtain ⟨o, ho⟩ := foot_there h4 (foot_up u.h h4 f2)
    rw [n1] at ho; cases ho
theorem st_parOP (i j : Nat) {x y : Str} {px py pt : Pos} {kt k2 pt2} (ha : NwE X a fl) (hb : PuE X b fb) (hc : X.calm = true) (hN : X.N.Nodup) (hi : X.N[i]? = some x := by rfl) (hj : X.N[j]? = some y := by rfl) (hij : i ≠ j := by decide)
    (hx : X.env.scope.names.lookup x = some .local := by rfl) (hy : X.env.scope.names.lookup y = some .local := by rfl)
    (hw : swappedStores [.Tuple [.Name x px, .Name y py] kt pt] (.Tuple [a, b] k2 pt2) X.env = pure (some [x, y]) := by rfl)
    (hs : swapsWithSole [.Tuple [.Name x px, .Name y py] kt pt] (.Tuple [a, b] k2 pt2) pos.line X.env = pure false := by rfl)
    (hs1 : starEach (a :: [b]) X.env = (false, eval a X.env) :: starEach [b] X.env := by rfl) (hs2 : starEach (b :: []) X.env = (false, eval b X.env) :: starEach [] X.env := by rfl) :
    PuS X (.Assign [.Tuple [.Name x px, .Name y py] kt pt] (.Tuple [a, b] k2 pt2) pos) (sParOP i j fl fb) :=
  let ⟨_, a1, a2⟩ := ha.ex; let ⟨_, b1, b2⟩ := hb.ex; ⟨_, ps_par hc hN hi hj hij hx hy (pa_cons a1 (pa_cons b1 pa_nil hs2) hs1) hw hs, fun G0 H0 ρ σ G H E r s q k => by
    unfold sParOP at q
    cases z : fl ρ with
    | none => rw [z] at q; cases q
    | some ds =>
      rw [z] at q
      cases z2 : fb ρ with
      | none => rw [z2] at q; cases q
      | some d2 =>
        rw [z2] at q; cases q
        refine a2 ρ σ G H _ ds s.up.le s.er z fun p vs G1 H1 u1 n1 n2 hp rv => ?_
        refine b2 ρ σ G1 H1 _ d2 u1.le (s.er.up u1) z2 fun w G2 H2 u2 rw' => ?_
        have n3 : G2 p = none := u2.new _ _ hp n2
        exact ⟨_, _, rfl, k _ G2 H2 ((s.newL (List.getElem?_eq_some_iff.mp hi).1 (u1.trans u2) n1 n3 (u2.h _ _ hp) (rv.mono u2.g)).setP (List.getElem?_eq_some_iff.mp hj).1 rw') (u1.trans u2).g⟩⟩
theorem st_parOO (i j : Nat) {x y : Str} {px py pt : Pos} {kt k2 pt2} (ha : NwE X a fl) (hb : NwE X b gl) (hc : X.calm = true) (hN : X.N.Nodup) (hi : X.N[i]? = some x := by rfl) (hj : X.N[j]? = some y := by rfl) (hij : i ≠ j := by decide)
    (hx : X.env.scope.names.lookup x = some .local := by rfl) (hy : X.env.scope.names.lookup y = some .local := by rfl)
    (hw : swappedStores [.Tuple [.Name x px, .Name y py] kt pt] (.Tuple [a, b] k2 pt2) X.env = pure (some [x, y]) := by rfl)
    (hs : swapsWithSole [.Tuple [.Name x px, .Name y py] kt pt] (.Tuple [a, b] k2 pt2) pos.line X.env = pure false := by rfl)
    (hs1 : starEach (a :: [b]) X.env = (false, eval a X.env) :: starEach [b] X.env := by rfl) (hs2 : starEach (b :: []) X.env = (false, eval b X.env) :: starEach [] X.env := by rfl) :
    PuS X (.Assign [.Tuple [.Name x px, .Name y py] kt pt] (.Tuple [a, b] k2 pt2) pos) (sParOO i j fl gl) :=
  let ⟨_, a1, a2⟩ := ha.ex; let ⟨_, b1, b2⟩ := hb.ex; ⟨_, ps_par hc hN hi hj hij hx hy (pa_cons a1 (pa_cons b1 pa_nil hs2) hs1) hw hs, fun G0 H0 ρ σ G H E r s q k => by
    unfold sParOO at q
    cases z : fl ρ with
    | none => rw [z] at q; cases q
    | some ds =>
      rw [z] at q
      cases z2 : gl ρ with
      | none => rw [z2] at q; cases q
      | some es =>
        rw [z2] at q; cases q
        refine a2 ρ σ G H _ ds s.up.le s.er z fun p vs G1 H1 u1 n1 n2 hp rv => ?_
        refine b2 ρ σ G1 H1 _ es u1.le (s.er.up u1) z2 fun p2 ws G2 H2 u2 m1 m2 hp2 rv2 => ?_
        have s1 := s.newL (List.getElem?_eq_some_iff.mp hi).1 u1 n1 n2 hp rv
        exact ⟨_, _, rfl, k _ G2 H2 (s1.newL (List.getElem?_eq_some_iff.mp hj).1 u2 m1 m2 hp2 rv2) (u1.trans u2).g⟩⟩
end
end PL

namespace PL
open PySem PySem.Spec PyProof.Rows L2

/-! ## dicts whose keys are ints -/
def getI (kvs : List (Int × Int)) (k : Int) : Option Int := (kvs.find? fun p => decide (p.1 = k)).map (·.2)
def putI (kvs : List (Int × Int)) (k : Int) (v : Int) : List (Int × Int) := if (kvs.any fun p => decide (p.1 = k)) = true then kvs.map (fun p => if p.1 = k then (p.1, v) else p) else kvs ++ [(k, v)]
theorem dKi_key (p : Int × Int) : (dKi p).1 = Sum.inl p.1 := rfl
theorem inl_eq {a b : Int} : (Sum.inl a : Key) = Sum.inl b ↔ a = b := ⟨fun h => Sum.inl.inj h, fun h => by rw [h]⟩
theorem val_getI (kvs : List (Int × Int)) (k : Int) : valV (kvs.map dKi) (Sum.inl k : Key) = (getI kvs k).map V.int := by
  induction kvs with
  | nil => rfl
  | cons p kvs ih =>
    unfold getI at ih ⊢
    rw [List.map_cons, List.find?_cons]
    by_cases h : p.1 = k
    · rw [valV_pos (by rw [dKi_key, h]), decide_eq_true h]; rfl
    · rw [valV_neg (by rw [dKi_key]; exact fun e => h (inl_eq.mp e)), decide_eq_false h]; exact ih
theorem put_putI (kvs : List (Int × Int)) (k : Int) (v : Int) : putK (kvs.map dKi) (Sum.inl k : Key) (V.int v) = (putI kvs k v).map dKi := by
  unfold putK putI
  have e : ((kvs.map dKi).any fun kv => decide (kv.1 = (Sum.inl k : Key))) = kvs.any fun p => decide (p.1 = k) := by
    rw [List.any_map]
    congr 1
    funext p
    show decide ((dKi p).1 = _) = _
    rw [dKi_key]
    exact decide_eq_decide.mpr inl_eq
  rw [e]
  split
  · rw [List.map_map, List.map_map]
    apply List.map_congr_left
    intro p _
    show (if (dKi p).1 = (Sum.inl k : Key) then ((dKi p).1, V.int v) else dKi p) = dKi (if p.1 = k then (p.1, v) else p)
    rw [dKi_key]
    by_cases h : p.1 = k
    · rw [if_pos (inl_eq.mpr h), if_pos h]; rfl
    · rw [if_neg fun e => h (inl_eq.mp e), if_neg h]
  · rw [List.map_append]; rfl
def eOiGet (i : Nat) (fk : DE) : DE := fun ρ => match ρ i, fk ρ with
  | some (.oi kvs), some (.int k) => (getI kvs k).map D.int
  | _, _ => none
def sOwnI (i : Nat) : DS := fun ρ => some (.nx (ρ.set i (.oi [])))
def sSetI (i : Nat) (fk fe : DE) : DS := fun ρ => match ρ i, fe ρ, fk ρ with
  | some (.oi kvs), some (.int v), some (.int k) => if szB (kvs.length + 1) then some (.nx (ρ.set i (.oi (putI kvs k v)))) else none
  | _, _, _ => none
def dSortOi (i : Nat) : DL := fun ρ => match ρ i with
  | some (.oi kvs) => if kvs.length < 64 then some ((srt (kvs.map (·.1))).map .int) else none
  | _ => none
section
variable {X : Cx} {e b : Expr} {fe fb : DE} {pos : Pos}
theorem pu_oiget (hu : X.A.units + 1 < cLine) (i : Nat) {x : Str} {xp : Pos} (hb : PuE X b fb) (hs : NoSl b := by intro _ _; rfl) (hN : X.N[i]? = some x := by rfl) (hv : Vis X.env.scope x := by first | exact Or.inl rfl | exact Or.inr (Or.inl rfl) | exact Or.inr (Or.inr rfl)) (hd : (x == ("__debug__" : Str)) = false := by decide)
    (hcd : (x == ("__classdict__" : Str)) = false := by decide) : PuE X (.Subscript (.Name x xp) b pos) (eOiGet i fb) :=
  let ⟨_, b1, b2⟩ := hb.ex; ⟨_, pe_dget hu (pe_var hN hv hd hcd) b1 hs, fun ρ σ G H Q d l r q k => by
    unfold eOiGet at q
    split at q
    · rename_i kvs ky e1 e2
      obtain ⟨v, hv', rfl⟩ := Option.map_eq_some_iff.mp q
      obtain ⟨w0, h1, h2⟩ := r.at_ i _ e1
      obtain ⟨p, rfl, hp⟩ := id h2
      refine ⟨_, h1, ?_⟩
      refine b2 ρ σ G H _ _ l r e2 fun w G2 H2 u2 rw' => ?_
      cases rw'
      exact ⟨p, .int v, rfl, .inl ⟨_, Sum.inl ky, .inl (u2.h _ _ hp), rfl, by rw [val_getI, hv']; rfl⟩, k _ G2 H2 u2 (.int v)⟩
    · cases q⟩
theorem st_ownI (i : Nat) {x : Str} {dp pos' : Pos} (hN : X.N.Nodup) (hi : X.N[i]? = some x := by rfl) (hx : Loc X.env.scope x := by first | exact .inl rfl | exact .inr rfl) (hs : swapsWith (.Dict [] [] dp) (some (.Name x pos')) pos.line X.env = pure false := by rfl)
    (hf : X.fn x = true ∨ X.env.scope.names.lookup x = some .local := by first | exact .inl rfl | exact .inr rfl) : PuS X (.Assign [.Name x pos'] (.Dict [] [] dp) pos) (sOwnI i) :=
  ⟨_, ps_set hN hi hx pe_dnewK hs hf, fun G0 H0 ρ σ G H E r s q k => by
    cases q
    intro p hp
    refine k _ G _ ((s.step (.own s.up.le hp)).set (List.getElem?_eq_some_iff.mp hi).1 ⟨p, rfl, upd_same⟩ (fun a e => by cases e; exact ⟨s.up.le.free hp, s.up.h.free hp⟩) fun j c' v' b hj h1 h2 f1 f2 => ?_) (.refl _)
    cases f1
    obtain ⟨w, h3, h4⟩ := s.er.at_ j c' h1
    rw [h2] at h3; cases h3
    obtain ⟨o, ho⟩ := foot_there h4 (foot_up (Ex.new hp) h4 f2)
    rw [hp] at ho; cases ho⟩
theorem st_setI (hu : X.A.units + 1 < cLine) (i : Nat) {x : Str} {xp sp : Pos} (he : PuE X e fe) (hb : PuE X b fb) (hN : X.N[i]? = some x := by rfl) (hv : Vis X.env.scope x := by first | exact Or.inl rfl | exact Or.inr (Or.inl rfl) | exact Or.inr (Or.inr rfl)) (hd : (x == ("__debug__" : Str)) = false := by decide)
    (hcd : (x == ("__classdict__" : Str)) = false := by decide) (hs : swapsWith e (some (.Subscript (.Name x xp) b sp)) pos.line X.env = pure false := by rfl) : PuS X (.Assign [.Subscript (.Name x xp) b sp] e pos) (sSetI i fb fe) :=
  let ⟨_, a1, a2⟩ := he.ex; let ⟨_, b1, b2⟩ := hb.ex; ⟨_, ps_dput hu (pe_var hN hv hd hcd) b1 a1 hs, fun G0 H0 ρ σ G H E r s q k => by
    unfold sSetI at q
    split at q
    · rename_i kvs v ky e1 e2 e3
      split at q
      · rename_i hz
        cases q
        obtain ⟨w0, h1, h2⟩ := s.er.at_ i _ e1
        obtain ⟨p, rfl, hp⟩ := id h2
        refine a2 ρ σ G H _ _ s.up.le s.er e2 fun w G1 H1 u1 rw1 => ?_
        refine ⟨_, h1, ?_⟩
        refine b2 ρ σ G1 H1 _ _ u1.le (s.er.up u1) e3 fun w2 G2 H2 u2 rw2 => ?_
        cases rw1
        cases rw2
        have u := u1.trans u2
        have s' := s.step u
        have hg := s'.own i _ _ e1 h1 p rfl
        refine ⟨p, _, rfl, .inl ⟨_, Sum.inl ky, u.h _ _ hp, rfl, ?_, rfl⟩, ?_⟩
        · have := szB_le hz
          rw [List.length_map]; omega
        · rw [put_putI]
          exact k σ G2 _ (s'.write (s.er.lt e1) e1 h1 rfl hg ⟨p, rfl, upd_same⟩ (fun a ea => by cases ea; exact hg) (fun b f => f) (fun _ _ _ _ _ _ => trivial)) u.g
      · cases q
    · cases q⟩
theorem nw_sortOi (hm : X.mg "sorted" = none) (hc : X.calm = true) (i : Nat) {x : Str} {p xp : Pos} (hg : Gl X "sorted" := by rfl) (hN : X.N[i]? = some x := by rfl) (hv : Vis X.env.scope x := by first | exact Or.inl rfl | exact Or.inr (Or.inl rfl) | exact Or.inr (Or.inr rfl)) (hd : (x == ("__debug__" : Str)) = false := by decide)
    (hcd : (x == ("__classdict__" : Str)) = false := by decide) (he : starEach [.Name x xp] X.env = (false, eval (.Name x xp) X.env) :: starEach [] X.env := by rfl) (hpl : (backTo pos (starEach [] X.env)).any (·.1) = false := by rfl) :
    NwE X (.Call (.Name "sorted" p) [.Name x xp] [] pos) (dSortOi i) :=
  ⟨_, pe_callB (call_sortedDI hc) hg hm PyProof.Rows.boot_sorted (pa_cons (pe_var hN hv hd hcd) pa_nil) (by decide) (by decide) he hpl, fun ρ σ G H Q ds l r q k => by
    unfold dSortOi at q
    split at q
    · rename_i kvs e1
      split at q
      · rename_i hz
        cases q
        obtain ⟨w0, h1, h2⟩ := r.at_ i _ e1
        obtain ⟨a, rfl, ha⟩ := id h2
        refine ⟨_, h1, ?_⟩
        refine ⟨a, kvs.map dKi, kvs.map (·.1), rfl, .inl ha, by rw [List.map_map, List.map_map]; rfl, by rw [List.length_map]; exact hz, fun ys n hpm hle hn => ?_⟩
        have : ys = srt (kvs.map (·.1)) := srt_unique hle (srt_le _) (hpm.trans (srt_perm _).symm)
        subst this
        exact k n _ G _ (.own l hn) hn (l.free hn) upd_same (Reps.ofInts _)
      · cases q
    · cases q⟩
end
/-! ## > of pairs -/
def ltP (a b : Int × Int) : Bool := decide (a.1 < b.1) || (decide (a.1 = b.1) && decide (a.2 < b.2))
def gGtT (d e : D) : Option D := match d, e with
  | .tup [.int a, .int b], .tup [.int c, .int f] => some (.bl (ltP (c, f) (a, b)))
  | _, _ => none
theorem gGtT_some {d e z : D} (q : gGtT d e = some z) : ∃ a b c f, d = .tup [.int a, .int b] ∧ e = .tup [.int c, .int f] ∧ z = .bl (ltP (c, f) (a, b)) := by
  unfold gGtT at q
  split at q
  · rename_i a b c f
    cases q; exact ⟨a, b, c, f, rfl, rfl, rfl⟩
  · cases q
def rGtT (K : PySem.W.Frag) : R2 := fun x y H Q => ∃ a b c f : Int, Dp K H x (.tuple [.int a, .int b]) ∧ Dp K H y (.tuple [.int c, .int f]) ∧ Q (.bl (ltP (c, f) (a, b))) H
theorem op_gtT {X : Cx} (hu : X.A.units + 64 < cLine) : OpR X (compareOp .Gt) (rGtT X.K) := by
  intro pins s σ H x y v u Q I rx ry h
  obtain ⟨a, b, c, f, hd, he, q⟩ := h
  obtain ⟨as, r1⟩ := Dp.reads I _ x v hd rx
  obtain ⟨bs, r2⟩ := Dp.reads I _ y u he ry
  refine PySem.W.gt_datum (α := Int × Int) (x := (a, b)) (y := (c, f)) ⟨as, r1⟩ ⟨bs, r2⟩ ?_ ⟨.bl _, H, I, rfl, ?_⟩
  · show X.A.units + 1 < cLine
    omega
  · have : PySem.W.DatumOrd.lt (α := Int × Int) (c, f) (a, b) = ltP (c, f) (a, b) := by
      show (if c = a then decide (f < b) else decide (c < a)) = _
      unfold ltP
      by_cases e : c = a
      · simp [e]
      · simp [e]
    rw [this]; exact q
theorem c_gtT {X : Cx} (hu : X.A.units + 64 < cLine) : CmpR X .Gt gGtT := ⟨_, op_gtT hu, fun G H x y d e z Q l rx ry q k => by
  obtain ⟨a, b, c, f, rfl, rfl, rfl⟩ := gGtT_some q
  exact ⟨a, b, c, f, RepT.dp (d := .tup [.int a, .int b]) l rx rfl, RepT.dp (d := .tup [.int c, .int f]) l ry rfl, k _ G H (.refl l) (.bl _)⟩⟩
/-! ## a < b < c < d, as a test -/
def tChain3 (r r' r'' : R2) (ta tb tc td : TE) : TE := fun σ H Q => ta σ H fun x H1 => tb σ H1 fun y H2 => r x y H2 fun z H3 => ∃ k, z = .bl k ∧
  (if k = true then tc σ H3 fun w' H4 => r' y w' H4 fun z' H5 => ∃ k', z' = .bl k' ∧ (if k' = true then td σ H5 fun v' H6 => r'' w' v' H6 Q else Q (.bl false) H5) else Q (.bl false) H3)
section
variable {X : Cx} {a b c d : Expr} {ta tb tc td : TE} {pos : Pos}
theorem pt_chain3 {op op' op'' : CmpOp} {r r' r'' : R2} (ho : OpR X (compareOp op) r) (ho' : OpR X (compareOp op') r') (ho'' : OpR X (compareOp op'') r'') (ha : PE X a ta) (hb : PE X b tb) (hc : PE X c tc) (hd : PE X d td)
    (hm : lastMarks [op, op', op''] [b, c, d] = false := by with_unfolding_all rfl) : PT X (.Compare a [op, op', op''] [b, c, d] pos) (tTest (tChain3 r r' r'' ta tb tc td)) := by
  refine ⟨fun pins s σ H Q I h => ?_⟩
  refine isTrue_chain (thn (ha.run pins s σ H _ I h) fun v s1 ⟨x, H1, I1, r1, q1⟩ => test_link (thn (hb.run pins s1 σ H1 _ I1 q1) fun u s2 ⟨y, H2, I2, r2, q2⟩ =>
    thn (ho pins s2 σ H2 x y v u _ I2 r1 r2 q2) fun d s3 ⟨z, H3, I3, r3, k, e, q3⟩ => ?_)) hm
  subst e
  cases r3
  refine wpAny_truthy_bool ?_
  cases k with
  | false =>
    obtain ⟨k', e', q'⟩ := q3
    cases e'
    exact ite_ff ⟨H3, I3, q'⟩
  | true =>
    refine ite_tt (test_link (thn (hc.run pins s3 σ H3 _ I3 q3) fun w' s4 ⟨z', H4, I4, r4, q4⟩ => thn (ho' pins s4 σ H4 y z' u w' _ I4 r2 r4 q4) fun d' s5 ⟨z2, H5, I5, r5, k2, e2, q5⟩ => ?_))
    subst e2
    cases r5
    refine wpAny_truthy_bool ?_
    cases k2 with
    | false =>
      obtain ⟨k', e', q'⟩ := q5
      cases e'
      exact ite_ff ⟨H5, I5, q'⟩
    | true =>
      refine ite_tt (test_last (thn (hd.run pins s5 σ H5 _ I5 q5) fun w2 s6 ⟨z3, H6, I6, r6, q6⟩ => thn (ho'' pins s6 σ H6 z' z3 w' w2 _ I6 r4 r6 q6) fun d2 s7 ⟨z4, H7, I7, r7, k3, e3, q7⟩ => ?_))
      subst e3
      cases r7
      exact wpAny_truthy_bool ⟨H7, I7, q7⟩
end
def eChain3 (g g' g'' : D → D → Option D) (fa fb fc fd : DE) : DE := fun ρ => (fa ρ).bind fun x => (fb ρ).bind fun y => (g x y).bind fun z => match z with
  | .bl true => (fc ρ).bind fun w => (g' y w).bind fun z' => match z' with | .bl true => (fd ρ).bind fun v => g'' w v | .bl false => some (.bl false) | _ => none
  | .bl false => some (.bl false) | _ => none
theorem te_chain3 {K : PySem.W.Frag} {nn : Nat} {ta tb tc td : TE} {fa fb fc fd : DE} {r r' r'' : R2} {g g' g'' : D → D → Option D} (ha : TRok K nn ta fa) (hb : TRok K nn tb fb) (hc : TRok K nn tc fc) (hd : TRok K nn td fd) (hr : R2ok K r g) (hr' : R2ok K r' g') (hr'' : R2ok K r'' g'') :
    TEok K nn (tChain3 r r' r'' ta tb tc td) (eChain3 g g' g'' fa fb fc fd) := fun ρ σ G H Q z l r0 q k => by
  unfold eChain3 at q
  cases q1 : fa ρ with
  | none => rw [q1] at q; cases q
  | some d =>
    rw [q1] at q
    cases q2 : fb ρ with
    | none => rw [q2] at q; cases q
    | some e =>
      rw [q2] at q
      change ((g d e).bind _) = _ at q
      cases q3 : g d e with
      | none => rw [q3] at q; cases q
      | some t =>
        rw [q3] at q
        refine ha ρ σ G H _ d l r0 q1 fun x G1 H1 u1 rx => ?_
        refine hb ρ σ G1 H1 _ e u1.le (r0.up u1) q2 fun y G2 H2 u2 ry => ?_
        refine hr G2 H2 x y d e t _ u2.le (rx.mono u2.g u2.h) ry q3 fun v G3 H3 u3 rv => ?_
        cases t <;> first | cases q | skip
        rename_i bb
        cases rv
        refine ⟨bb, rfl, ?_⟩
        have U3 := (u1.trans u2).trans u3
        cases bb with
        | true =>
          have q : ((fc ρ).bind fun w => (g' e w).bind fun z' => match z' with | .bl true => (fd ρ).bind fun v => g'' w v | .bl false => some (.bl false) | _ => none) = some z := q
          cases q4 : fc ρ with
          | none => rw [q4] at q; cases q
          | some w =>
            rw [q4] at q
            change ((g' e w).bind _) = _ at q
            cases q5 : g' e w with
            | none => rw [q5] at q; cases q
            | some t2 =>
              rw [q5] at q
              refine hc ρ σ G3 H3 _ w u3.le (r0.up U3) q4 fun w' G4 H4 u4 rw' => ?_
              have U4 := U3.trans u4
              refine hr' G4 H4 y w' e w t2 _ u4.le (ry.mono (u3.trans u4).g (u3.trans u4).h) rw' q5 fun v2 G5 H5 u5 rv2 => ?_
              have U5 := U4.trans u5
              cases t2 <;> first | cases q | skip
              rename_i b2
              cases rv2
              refine ⟨b2, rfl, ?_⟩
              cases b2 with
              | true =>
                have q : ((fd ρ).bind fun v => g'' w v) = some z := q
                cases q6 : fd ρ with
                | none => rw [q6] at q; cases q
                | some x6 =>
                  rw [q6] at q
                  refine hd ρ σ G5 H5 _ x6 u5.le (r0.up U5) q6 fun v6 G6 H6 u6 rv6 => ?_
                  exact hr'' G6 H6 w' v6 w x6 z Q u6.le (rw'.mono (u5.trans u6).g (u5.trans u6).h) rv6 q fun v G7 H7 u7 rv => k v G7 H7 ((U5.trans u6).trans u7) rv
              | false => cases q; exact k _ G5 H5 U5 (.bl _)
        | false => cases q; exact k _ G3 H3 U3 (.bl _)
theorem pt_chain3U {X : Cx} {a b c d : Expr} {fa fb fc fd : DE} {pos : Pos} {op op' op'' : CmpOp} {g g' g'' : D → D → Option D} (h1 : CmpR X op g) (h2 : CmpR X op' g') (h3 : CmpR X op'' g'') (ha : RdE X a fa) (hb : RdE X b fb) (hc : RdE X c fc) (hd : RdE X d fd)
    (hm : lastMarks [op, op', op''] [b, c, d] = false := by with_unfolding_all rfl) : PuT X (.Compare a [op, op', op''] [b, c, d] pos) (tV (eChain3 g g' g'' fa fb fc fd)) :=
  let ⟨_, o1, o2⟩ := h1.ex; let ⟨_, o3, o4⟩ := h2.ex; let ⟨_, o5, o6⟩ := h3.ex; let ⟨_, a1, a2⟩ := ha.ex; let ⟨_, b1, b2⟩ := hb.ex; let ⟨_, c1, c2⟩ := hc.ex; let ⟨_, d1, d2⟩ := hd.ex; ⟨_, pt_chain3 o1 o3 o5 a1 b1 c1 d1 hm, tt_val (te_chain3 a2 b2 c2 d2 o2 o4 o6)⟩
end PL

namespace PL
open PySem PySem.Spec PyProof.Rows L2

/-! ## sorted(t), t a tuple of ints -/
section
variable {prog : Program} {w : World} {A : Around} {E : Value → Shared → Prop} {s : Shared}
def colH (g : Heap) (us : List Value) : Heap := (g.push (seqObj "list" #[] 0)).update g.objs.size (Obj.mapSeq fun x => x ++ us.toArray)
theorem colH_size (g : Heap) (us : List Value) : (colH g us).objs.size = g.objs.size + 1 := by unfold colH; rw [Heap.size_update, size_push']
theorem colH_old {g : Heap} {us : List Value} {b : Addr} {o : Obj} (h : g.get? b = some o) : (colH g us).get? b = some o := by
  unfold colH
  exact (Heap.get?_update_ne _ _ _ _ (Nat.ne_of_lt (Heap.lt_size h))).trans (Heap.get?_push_of_some _ h)
theorem collect_tup {t : Addr} {o : Obj} {us : List Value} {n : Nat} {Q : List Value → Shared → Prop} (h0 : s.heap.get? t = some o) (h1 : o.cls = .type "tuple") (h2 : o.data = .seq us.toArray n) (hl : us.length ≤ sizeLine)
    (k : Q us { s with heap := colH s.heap us }) : wpAny (model prog w) A (collect (.ref t)) Q E s := by
  have hN : (s.heap.push (seqObj "list" #[] 0)).get? s.heap.objs.size = some (seqObj "list" #[] 0) := Heap.get?_push_size _ rfl
  have hT : (s.heap.push (seqObj "list" #[] 0)).get? t = some o := Heap.get?_push_of_some _ h0
  unfold collect
  refine wpAny_bind (wpAny_runValue (codeAny_builtin (id := "proto.collect") PyProof.Rows.entry_proto_collect' ?_))
  refine wpAny_bind (m := newList []) (wpAny_newList (wpAny_pure
    ⟨Code.quiet_builtin _ (by decide +kernel), codeAny_builtin (id := "list.__iadd__") PyProof.Rows.entry_list_iadd' ?_⟩))
  show wpAny _ _ (Builtin.List.listExtendWith _ (.ref t) _) _ _ { s with heap := s.heap.push _ }
  unfold Builtin.List.listExtendWith
  refine wpAny_bind (wpAny_typeOf (T := "tuple") ⟨o, hT, h1⟩ ?_)
  have c : (Value.type "tuple" == Value.type "tuple") = true := rfl
  rw [c, Bool.or_true, if_pos rfl]
  refine wpAny_bind (PyProof.Rows.listItems_at hT h2 ?_)
  refine wpAny_bind (PyProof.Rows.listItems_at (n := 0) (xs := #[]) hN rfl ?_)
  rw [if_neg (show ¬ ((!(#[] : Array Value).isEmpty) && _) = true by simp)]
  refine wpAny_bind (PyProof.Rows.listUpdate_at (n := 0) (xs := #[]) hN rfl ?_ (Nat.zero_le _)
    (by simp only [Array.size_append, List.size_toArray, List.length_nil, Nat.zero_add, Array.size_empty]; omega))
  refine wpAny_pure ?_
  show wpAny (model prog w) A (load s.heap.objs.size >>= _) Q E { s with heap := colH s.heap us }
  refine wpAny_bind (wpAny_load (PyProof.Rows.get?_update_seq hN _) ?_)
  show wpAny _ _ (pure ((#[] : Array Value) ++ us.toArray).toList) Q E { s with heap := colH s.heap us }
  have e : ((#[] : Array Value) ++ us.toArray).toList = us := by simp
  rw [e]
  exact wpAny_pure k
end
def rSortTup (K : PySem.W.Frag) : List V → Hp → VK → Prop := fun xs H Q => ∃ (a : Addr) (ns : List Int), xs = [V.ref a] ∧ SqT K H a (ns.map V.int) ∧
  ∀ (ms : List Int) (p : Addr), ms.Perm ns → ms.Pairwise (· ≤ ·) → H p = none → Q (.ref p) (upd H p (.lst (ms.map V.int)))
theorem cr_sortTup {X : Cx} : CallR X (.builtin "sorted") (rSortTup X.K) := by
  intro pins s σ H xs us Q I r h
  obtain ⟨a, ns, rfl, hq, q⟩ := h
  obtain ⟨its, rv, ⟨o, ho, hc, n, hd⟩, hz⟩ := I.tuple hq
  obtain rfl := Vals.ref1 r
  have hi := rv.ints
  have hl : its.length ≤ sizeLine := by rw [← rv.length]; exact hz
  refine Calls.call_function_entry (id := "sorted") PyProof.Rows.kind_sorted PyProof.Rows.plain_sorted
    PyProof.Rows.entry_sorted (PyProof.Rows.args_sorted1 _) ?_
  unfold Builtin.«sorted»
  refine wpAny_bind (m := checkCount "sorted" 1 1 _) (wpAny_pure (s := s) ?_)
  refine wpAny_bind (collect_tup ho hc (by simpa using hd) hl ?_)
  refine wpAny_bind (wpAny_newList ?_ hl)
  have hs1 := colH_size s.heap its
  have hN : ((colH s.heap its).push (seqObj "list" its.toArray 0)).get? (s.heap.objs.size + 1) = some (seqObj "list" its.toArray 0) := by
    rw [← hs1]; exact Heap.get?_push_size _ rfl
  have old : ∀ b o', s.heap.get? b = some o' → b ≠ s.heap.objs.size + 1 ∧ ((colH s.heap its).push (seqObj "list" its.toArray 0)).get? b = some o' := fun b o' e =>
    ⟨Nat.ne_of_lt (Nat.lt_succ_of_lt (Heap.lt_size e)), Heap.get?_push_of_some _ (colH_old e)⟩
  show wpAny _ _ _ _ _ { s with heap := (colH s.heap its).push (seqObj "list" its.toArray 0) }
  rw [hs1]
  refine wpAny_bind (wpAny_holding (wpAny_call_entry PyProof.Rows.slot_list_sort ⟨_, hN, rfl⟩ PyProof.Rows.entry_list_sort
    (SrtO.list_sort_ord SrtO.swo_int hN hl (fun h2 => SrtO.ints_sortable hi h2) fun out h1 h2 => ⟨_, rfl, ?_⟩) (PyProof.Rows.args_list_sort _)))
  refine wpAny_pure ?_
  obtain ⟨k1, k2, k3⟩ := SrtO.ints_out hi h1 h2
  obtain ⟨ep, he'⟩ := PyProof.Rows.sortedHeap_at (vs := its) (out := out.toArray) hN
  have hlen : ((out.map SrtO.iv).map V.int).length ≤ sizeLine := by
    have e := k2.length_eq
    rw [List.length_map] at hz ⊢
    rw [e]; exact hz
  refine ⟨_, rfl, .ref (s.heap.objs.size + 1), upd H (s.heap.objs.size + 1) (.lst ((out.map SrtO.iv).map V.int)),
    I.laid (t' := s.toks) (fun b o' e => ?_) (Nat.le_succ _) ⟨hlen, out, ep, vals_of_ints k1, he'⟩, rfl, q _ _ k2 k3 (I.hok.fresh (Nat.le_succ _))⟩
  have := old b o' e
  rw [PyProof.Rows.sortedHeap_old this.1 (Heap.lt_size this.2)]
  exact this.2
def gSortedA (ds : List D) : Option (List D) := match ds with
  | [.lst xs] => (intsD xs).map fun ns => (srt ns).map .int
  | [.tup xs] => (intsD xs).map fun ns => (srt ns).map .int
  | _ => none
theorem b_sortedA {X : Cx} : BltN X "sorted" (.builtin "sorted") gSortedA := ⟨⟨_, cr_sortedI.or cr_sortTup, fun G H vs ds z Q l rs q k => by
  match ds, q with
  | [.lst xs], q =>
    obtain ⟨v, rfl, rv⟩ := rs.one
    obtain ⟨p, us, rfl, hp, rp⟩ := rv.lst_inv l
    have q : ((intsD xs).map fun ns => (srt ns).map D.int) = some z := q
    obtain ⟨ns, e, rfl⟩ := Option.map_eq_some_iff.mp q
    have := intsD_eq e
    subst this
    have := rp.ints
    subst this
    refine .inl ⟨p, ns, rfl, .of hp, fun ms n hpm hle hn => ?_⟩
    obtain rfl : ms = srt ns := srt_unique hle (srt_le ns) (hpm.trans (srt_perm ns).symm)
    exact k n _ G _ (.own l hn) hn (l.free hn) upd_same (Reps.ofInts _)
  | [.tup xs], q =>
    obtain ⟨v, rfl, rv⟩ := rs.one
    have q : ((intsD xs).map fun ns => (srt ns).map D.int) = some z := q
    obtain ⟨ns, e, rfl⟩ := Option.map_eq_some_iff.mp q
    have := intsD_eq e
    subst this
    have rv' : Rep X.K G (.tup (ns.map .int)) v := by
      rcases rv with h | ⟨a, vs, ds, e1, e2, _⟩ | ⟨a, kvs, e1, e2, _⟩
      · exact h
      · first | (cases e1; done) | (cases e2; done)
      · first | (cases e1; done) | (cases e2; done)
    cases rv' with
    | tup hp rp =>
    have := rp.ints
    subst this
    refine .inr ⟨_, ns, rfl, .of (l _ _ hp), fun ms n hpm hle hn => ?_⟩
    obtain rfl : ms = srt ns := srt_unique hle (srt_le ns) (hpm.trans (srt_perm ns).symm)
    exact k n _ G _ (.own l hn) hn (l.free hn) upd_same (Reps.ofInts _)⟩, PyProof.Rows.boot_sorted⟩
end PL

namespace PL
open PySem PySem.Spec PyProof.Rows L2

/-! ## x = [.. for .. for ..] -/
section
variable {X : Cx} {elt tgE iter tgE2 iter2 : Expr} {ifs2 : List Expr} {scope : Scope} {own : List (Str × Nat)} {vs1 : List Nat} {pos spos py : Pos} {y : Str} {it it2 : DI} {cond : DB} {fe : DE}
theorem st_setC2 (i : Nat) (tg tg2 : Tg) (hc : X.calm = true) (hN : X.N.Nodup) (hi : ItH X tgE iter it) (ok : blkC X.N X.env.scope scope own = true)
    (hg : ∀ (s : Shared) (H : Hp) (C : Addr) (cl : List (Str × Addr)) (fp : List Addr), PG (X.blk s H scope (compEnvC scope cl C X.env) fp) tgE (tgTG X.K tg))
    (hi2 : ∀ (s : Shared) (H : Hp) (C : Addr) (cl : List (Str × Addr)) (fp : List Addr), ItG (X.blk s H scope (compEnvC scope cl C X.env) fp) tgE2 iter2 it2)
    (hg2 : ∀ (s : Shared) (H : Hp) (C : Addr) (cl : List (Str × Addr)) (fp : List Addr), PG (X.blk s H scope (compEnvC scope cl C X.env) fp) tgE2 (tgTG X.K tg2))
    (ht : ∀ (s : Shared) (H : Hp) (C : Addr) (cl : List (Str × Addr)) (fp : List Addr), PuTs (X.blk s H scope (compEnvC scope cl C X.env) fp) ifs2 cond)
    (he : ∀ (s : Shared) (H : Hp) (C : Addr) (cl : List (Str × Addr)) (fp : List Addr), PuE (X.blk s H scope (compEnvC scope cl C X.env) fp) elt fe)
    (hsl : ∀ i ∈ tg.slots, i < X.N.length) (hsl2 : ∀ i ∈ tg2.slots, i < X.N.length) (hw : ∀ i ∈ tg.slots, i ∈ own.map (·.2)) (hw2 : ∀ i ∈ tg2.slots, i ∈ vs1) (hv : ∀ i ∈ vs1, i ∈ own.map (·.2))
    (hy : X.N[i]? = some y := by rfl) (hyl : X.env.scope.names.lookup y = some .local := by rfl)
    (hsw : swapsWith (.ListComp elt [⟨tgE, iter, [], 0⟩, ⟨tgE2, iter2, ifs2, 0⟩] scope pos) (some (.Name y py)) spos.line X.env = pure true := by exact sw_true rfl rfl rfl (by decide +kernel)) (hs : ∀ x, foldedSetIterable iter X.env x = pure x := by intro _; rfl) (hs2 : ∀ env x, foldedSetIterable iter2 env x = pure x := by intro _ _; rfl) :
    PuS X (.Assign [.Name y py] (.ListComp elt [⟨tgE, iter, [], 0⟩, ⟨tgE2, iter2, ifs2, 0⟩] scope pos) spos) (sAsg (.nm i) (eNew (eComp2 it tg (own.map (·.2)) it2 tg2 vs1 cond fe))) := by
  obtain ⟨wi, i1, i2⟩ := hi.ex
  have ok2 : ∃ te, PS X (.Assign [.Name y py] (.ListComp elt [⟨tgE, iter, [], 0⟩, ⟨tgE2, iter2, ifs2, 0⟩] scope pos) spos) (tAsg te (gName i)) ∧ TNok X.K X.N.length te (eComp2 it tg (own.map (·.2)) it2 tg2 vs1 cond fe) := by
    refine ⟨tLc2 wi (tgTG X.K tg) (fun σ H Q => ∀ t, (∀ (s : Shared) (H : Hp) (C : Addr) (cl : List (Str × Addr)) (fp : List Addr), True) → TTok X.K X.N.length t bYes → t σ H Q) (fun σ H R => ∀ t, TIg X.K X.N.length t it2 → t σ H R) (tgTG X.K tg2)
      (fun σ H Q => ∀ t, (∀ (s : Shared) (H : Hp) (C : Addr) (cl : List (Str × Addr)) (fp : List Addr), True) → TTok X.K X.N.length t cond → t σ H Q) (fun σ H Q => ∀ t, TEok X.K X.N.length t fe → t σ H Q) (own.map (·.2)) vs1, ?_, ?_⟩
    · refine ps_setLc2 hc hN hy hyl hsw i1 (blkOk_by ok) hv hg (fun s H C cl fp => ?_) (fun s H C cl fp => ?_) hg2 (fun s H C cl fp => ?_) (fun s H C cl fp => ?_) hs hs2
      · obtain ⟨t, a1, a2⟩ := (pts_no (X := X.blk s H scope (compEnvC scope cl C X.env) fp)).ex
        exact ⟨fun pins s' σ H' Q I h => a1.run pins s' σ H' Q I (h t (fun _ _ _ _ _ => trivial) a2)⟩
      · obtain ⟨t, a1, a2⟩ := (hi2 s H C cl fp).ex
        exact ⟨fun pins s' σ H' R I h => a1.run pins s' σ H' R I (h t a2)⟩
      · obtain ⟨t, a1, a2⟩ := (ht s H C cl fp).ex
        exact ⟨fun pins s' σ H' Q I h => a1.run pins s' σ H' Q I (h t (fun _ _ _ _ _ => trivial) a2)⟩
      · obtain ⟨t, a1, a2⟩ := (he s H C cl fp).ex
        exact ⟨fun pins s' σ H' Q I h => a1.run pins s' σ H' Q I (h t a2)⟩
    · exact te_comp2 i2 (fun ρ σ G H R cs l r q k t ok => ok ρ σ G H R cs l r q k) (fun ρ σ G H Q b l r q k t _ ok => ok ρ σ G H Q b l r q k) (fun ρ σ G H Q b l r q k t _ ok => ok ρ σ G H Q b l r q k) (fun ρ σ G H Q d l r q k t ok => ok ρ σ G H Q d l r q k) hsl hsl2 hw hw2
  obtain ⟨te, a1, a2⟩ := ok2
  exact ⟨_, a1, ts_asg (tg := .nm i) a2.te (by simp [Tg.slots]; exact (List.getElem?_eq_some_iff.mp hy).1)⟩
end
/-- a def that never answers: the bottom of a def that calls itself -/
theorem fnok_none {P : Program} {w : World} {K : PySem.W.Frag} {mg : Str → Option Value} {base : Heap} {CX : CXT} {k : Nat} {f : Addr} {fd : FuncData} {ps : List Str} : FnOk P w K mg base CX k f fd ps (spF K fun _ => none) :=
  ⟨fun vs H Q E h => (by obtain ⟨_, _, _, _, _, q, _⟩ := h; cases q), fun A outer s H args us vs Q E hr he hb hv h => (by obtain ⟨_, _, _, _, _, q, _⟩ := h; cases q)⟩
end PL

/-! for within the body of a generator def -/
namespace PL
open PySem PySem.Spec PyProof.Rows L2 GenW
section
variable {M : Model} {A : Around} {R : GenEnd} {Y : Protocol} {n : Nat} {s₀ : Shared} {c : Code} {fs : List Frame} {s : Shared} {env : Env}
  {K : Flow → Sem PySem.Fin} {J : Value → Sem PySem.Fin} {gd : Bool → Bool} {lv : List Value → List Value}
theorem seg_For {target iter : Expr} {body orelse : List Stmt} {pos : Pos} (hs : ∀ x, foldedSetIterable iter env x = pure x)
    (h : wpAny M (A.over c fs) (eval iter env) (fun x s1 => wpAny M (A.over c fs) (pyIter x) (fun it s2 => ∀ p, Seg M A R Y n s₀ (.forLoop target it body orelse env) (M.den (.forLoop target it body orelse env))
      (.ret (fun r => ((match r with | .ok f => (.pure f : Sem Flow) | .error e => .raise e).onRaise (cameBack env)).wrap K J gd lv) none (gd false) (lv []) c p [] :: fs) s2) (fun x s' => Seg M A R Y n s₀ c (J x) fs s') s1) (fun x s' => Seg M A R Y n s₀ c (J x) fs s') s) :
    Seg M A R Y n s₀ c ((exec (.For target iter body orelse pos) env).wrap K J gd lv) fs s := by
  rw [exec_For]
  refine seg_bind_wrap (wpAny_standAt ?_)
  refine seg_bind_wrap (wpAny_mono h (fun x s1 h1 => ?_) fun _ _ h' => h')
  refine seg_bind_wrap (wpAny_of_eq (hs x) ?_)
  refine seg_bind_wrap (wpAny_standAt ?_)
  refine seg_bind_wrap (wpAny_holding (wpAny_mono h1 (fun it s2 h2 => ?_) fun _ _ h' => h'))
  exact seg_call h2
end
section
variable {prog : Program} {w : World} {A : Around} {R : GenEnd} {Y : Protocol} {n : Nat} {s₀ : Shared} {fs : List Frame} {s : Shared} {env : Env}
/-- what is noted at an exception that leaves the loop's code -/
abbrev notedT (env : Env) (e : Value) : Sem PySem.Fin := (do noteFrame e env; theTreesLotGoes e : Sem Unit).wrap (fun _ => .raise e) .raise id id
theorem seg_forLoop {target : Expr} {it : Value} {body orelse : List Stmt}
    (h : wpAny (model prog w) (A.over (.forLoop target it body orelse env) fs) (pyNext it) (fun r s1 => match r with
      | none => Seg (model prog w) A R Y n s₀ (.forLoop target it body orelse env) (.pure (.again (.block orelse env))) fs s1
      | some v => wpAny (model prog w) (A.over (.forLoop target it body orelse env) fs) (letOwnedTupleGo target it v) (fun _ s2 =>
          wpAny (model prog w) (A.over (.forLoop target it body orelse env) fs) (assign target env v) (fun _ s3 => Seg (model prog w) A R Y n s₀ (.forLoop target it body orelse env) ((execs body env).wrap (fun f => match f with
            | .next | .cont => .pure (.again (.forLoop target it body orelse env))
            | .brk => .pure (.done .next)
            | .ret v => .pure (.done (.ret v))) (notedT env) id id) fs s3)
            (fun x s' => Seg (model prog w) A R Y n s₀ (.forLoop target it body orelse env) (notedT env x) fs s') s2)
          (fun x s' => Seg (model prog w) A R Y n s₀ (.forLoop target it body orelse env) (notedT env x) fs s') s1)
      (fun x s' => Seg (model prog w) A R Y n s₀ (.forLoop target it body orelse env) (notedT env x) fs s') s) :
    Seg (model prog w) A R Y n s₀ (.forLoop target it body orelse env) ((model prog w).den (.forLoop target it body orelse env)) fs s := by
  show Seg _ A R Y n s₀ _ ((forTurn target it body orelse env).onRaise (fun x => do noteFrame x env; theTreesLotGoes x)) fs s
  have hx : ∀ (x : Value) (s' : Shared), Seg (model prog w) A R Y n s₀ (.forLoop target it body orelse env) (notedT env x) fs s' → Seg (model prog w) A R Y n s₀ (.forLoop target it body orelse env) ((do noteFrame x env; theTreesLotGoes x : Sem Unit).bind fun _ => .raise x) fs s' := fun x s' hh => by
    rw [Sem.bind_eq_wrap]; exact hh
  rw [Sem.onRaise_eq_wrap]
  unfold forTurn
  refine seg_bind_wrap (wpAny_standAt ?_)
  refine seg_bind_wrap (wpAny_onRaise (wpAny_mono h (fun r s1 h1 => ?_) fun x s' h' => wpAny_standAt (hx x s' h')))
  cases r with
  | none => exact h1
  | some v =>
    refine seg_bind_wrap (wpAny_mono h1 (fun _ s2 h2 => ?_) fun x s' h' => hx x s' h')
    refine seg_bind_wrap (wpAny_mono h2 (fun _ s3 h3 => ?_) fun x s' h' => hx x s' h')
    rw [Sem.bind_eq_wrap', Sem.wrap_wrap]
    rw [Sem.wrap_congr (execs body env) _ _ (K' := fun f => match f with
            | .next | .cont => .pure (.again (.forLoop target it body orelse env))
            | .brk => .pure (.done .next)
            | .ret v => .pure (.done (.ret v))) (H' := notedT env)
        (fun f => by cases f <;> rfl)
        (fun e => by first | exact Sem.bind_eq_wrap _ _ | (show (do noteFrame e env; theTreesLotGoes e : Sem Unit).bind (fun _ => .raise e) = _; rw [Sem.bind_eq_wrap]))]
    exact h3
end
section
variable {X : Cx} {tg : Expr}
def tGFor (wi : TI) (g : TG) (tb : TGn) : TGn := fun D ys σ H => wi σ H fun J H1 => ∃ W : Nat → Nat → List V → L2.St → Hp → Prop, (∃ m, W 0 m ys σ H1) ∧ ∀ i m ys σ H, W i m ys σ H →
  (J.stop i H ∧ D.nx ys σ H) ∨ (J.go i H ∧ ∃ N : List V → L2.St → Hp → Prop, (∀ ys' σ' H', N ys' σ' H' → ∃ m', m' < m ∧ W (i + 1) m' ys' σ' H') ∧ ∀ x H', J.yld i H x H' → g x σ H' fun σ2 H2 => tb { D with nx := N, ct := N, bk := D.nx } ys σ2 H2)
theorem gs_for {iter : Expr} {body : List Stmt} {wi : TI} {g : TG} {tb : TGn} {pos : Pos} (hp : PassesOwn (model X.prog X.w) X.A X.env X.xe) (hc : X.calm = true) (hi : PI X tg iter wi) (hg : PG X tg g) (hb : GSs X body tb)
    (hs : ∀ x, foldedSetIterable iter X.env x = pure x := by intro _; rfl) : GS X (.For tg iter body [] pos) (tGFor wi g tb) := by
  refine ⟨fun A S ip R n ys s₀ c fs K J gd lv s σ H D gc hn k hI ht => ?_⟩
  obtain ⟨acc, cc, r, I⟩ := hI
  refine seg_For hs ?_
  rw [gc.over]
  refine wpAny_mono (hi.run _ s σ H _ I ht) (fun v s1 h1 => wpAny_mono h1 (fun itv s2 h2 => ?_) fun x s' hx => k.exc n s₀ x s' hx) fun x s' hx => k.exc n s₀ x s' hx
  obtain ⟨it, fp, tn, Jt, H2, e, I2, T, st2, f2, W, ⟨m0, w0⟩, turn⟩ := h2
  subst e
  intro p
  have gl := fun (kk : Result → Sem PySem.Fin) => gc_loop (k := kk) (c' := .forLoop tg (.ref it) body [] X.env) (l := lv []) (kp := []) (p := p) gc rfl rfl
  have fpS : ∀ b ∈ fp, b ≠ S := fun b hb z => (f2 b hb).2.2.2.2.2 (S, lstObj acc cc) (List.mem_append_right _ List.mem_cons_self) z.symm
  have stat : ∀ {H' : Hp} {acc' : Array Value} {cc' : Nat}, (∀ b ∈ fp, H' b = none) → ∀ b ∈ fp, FpOk X ((S, lstObj acc' cc') :: ip) H' b := fun hn b hb => by
    obtain ⟨q1, q2, q3, q4, q5, q6⟩ := f2 b hb
    refine ⟨hn b hb, q2, q3, q4, q5, fun p hp => ?_⟩
    rcases List.mem_append.mp hp with hp | hp
    · exact q6 p (List.mem_append_left _ hp)
    · rcases List.mem_cons.mp hp with hp | hp
      · rw [hp]; exact (fpS b hb).symm
      · exact q6 p (List.mem_append_right _ (List.mem_cons_of_mem _ hp))
  have loop : ∀ (m i n : Nat) (ys : List V) (s₀ s : Shared) (σ : L2.St) (H : Hp), n + ys.length = sizeLine → W i m ys σ H → GI X S ip ys σ H s → tn i s.heap → (∀ b ∈ fp, H b = none) →
      Seg (model X.prog X.w) A R (GY X S) n s₀ (.forLoop tg (.ref it) body [] X.env) ((model X.prog X.w).den (.forLoop tg (.ref it) body [] X.env))
        (.ret (fun r => ((match r with | .ok f => (.pure f : Sem Flow) | .error e => .raise e).onRaise (cameBack X.env)).wrap K J gd lv) none (gd false) (lv []) c p [] :: fs) s := by
    intro m
    induction m using Nat.strongRecOn with
    | ind m ih =>
      intro i n ys s₀ s3 σ3 H3 hn w3 hI3 st3 fr3
      have ee : ∀ (n : Nat) (s₀ : Shared) (x : Value) (s' : Shared), X.xe x s' → Seg (model X.prog X.w) A R (GY X S) n s₀ (.forLoop tg (.ref it) body [] X.env) (notedT X.env x)
          (.ret (fun r => ((match r with | .ok f => (.pure f : Sem Flow) | .error e => .raise e).onRaise (cameBack X.env)).wrap K J gd lv) none (gd false) (lv []) c p [] :: fs) s' := fun n s₀ x s' hx => by
        refine seg_wrap ?_
        rw [(gl _).over]
        refine wpAny_bind (wpAny_mono (hp x s' hx) (fun _ s'' hcb => wpAny_theTreesLotGoes ?_) fun y s'' hcb => ?_)
        · exact seg_leaf (.error x) (seg_cameBack gc k hcb)
        · exact seg_leaf (.error y) (seg_cameBack gc k hcb)
      refine seg_forLoop ?_
      rw [(gl _).over]
      obtain ⟨acc3, cc3, r3, I3⟩ := hI3
      rcases turn i m ys σ3 H3 w3 with ⟨stop, qn⟩ | ⟨go, N, hN, step⟩
      · refine wpAny_mono (T.done X rfl rfl rfl hc i _ s3 σ3 H3 X.xe I3 (stat fr3) st3 stop) (fun r s4 ⟨hr, I4⟩ => ?_) fun x s' hx => ee n s₀ x s' hx
        subst hr
        refine seg_again rfl ?_
        exact seg_leaf (.ok .next) (k.ok n ys s₀ s4 .next hn ⟨σ3, H3, ⟨acc3, cc3, r3, I4⟩, qn⟩)
      · refine wpAny_mono (T.item X rfl rfl rfl hc i _ s3 σ3 H3 X.xe I3 (stat fr3) st3 go) (fun r s4 ⟨u, hr, h4⟩ => ?_) fun x s' hx => ee n s₀ x s' hx
        subst hr
        refine wpAny_mono h4 (fun _ s5 ⟨x, H5, I5, r5, y5, st5, fr5⟩ => ?_) fun x s' hx => ee n s₀ x s' hx
        have I5' := I5.pinned (stat fr5) (T.obj _ _ st5)
        refine wpAny_mono (hg.run _ s5 σ3 H5 x u _ I5' r5 (step x H5 y5)) (fun _ s6 ⟨σ6, H6, I6, q6⟩ => ?_) fun x s' hx => ee n s₀ x s' hx
        have ipS : ∀ p ∈ ip ++ pinsAt fp s5.heap, p.1 ≠ S := fun p hp => by
          rcases List.mem_append.mp hp with hp | hp
          · exact gc.ip p hp
          · exact fpS _ (of_pinsAt hp).1
        have gc' : GC X S (ip ++ pinsAt fp s5.heap) A c fs gd := ⟨gc.pn, ipS, gc.apart, gc.over, gc.split, gc.guard, gc.gd⟩
        have un : ∀ {ys' : List V} {σ' : L2.St} {H' : Hp} {s' : Shared}, GI X S (ip ++ pinsAt fp s5.heap) ys' σ' H' s' → GI X S ip ys' σ' H' s' := fun ⟨acc', cc', r', I'⟩ => ⟨acc', cc', r', Inv.unpinned (pins := (S, lstObj acc' cc') :: ip) (pl := pinsAt fp s5.heap) I'⟩
        refine hb.run A S (ip ++ pinsAt fp s5.heap) R n ys s₀ _ _ _ _ id id s6 σ6 H6 { D with nx := N, ct := N, bk := D.nx } (gc_loop gc' rfl rfl) hn ⟨fun n' ys' s₀' s7 f hn' hs => ?_, fun n' s₀' x s7 hx => ee n' s₀' x s7 hx⟩ ⟨acc3, cc3, r3, I6⟩ q6
        have again : ∀ {σ7 : L2.St} {H7 : Hp}, GI X S (ip ++ pinsAt fp s5.heap) ys' σ7 H7 s7 → N ys' σ7 H7 → Seg (model X.prog X.w) A R (GY X S) n' s₀' (.forLoop tg (.ref it) body [] X.env) (.pure (.again (.forLoop tg (.ref it) body [] X.env)))
            (.ret (fun r => ((match r with | .ok f => (.pure f : Sem Flow) | .error e => .raise e).onRaise (cameBack X.env)).wrap K J gd lv) none (gd false) (lv []) c p [] :: fs) s7 := fun {σ7 H7} I7 n7 => by
          obtain ⟨m', hm, w7⟩ := hN ys' σ7 H7 n7
          have I7' := I7
          obtain ⟨acc7, cc7, r7, I7'⟩ := I7'
          refine seg_again rfl (ih m' hm (i + 1) n' ys' s₀' s7 σ7 H7 hn' w7 (un I7) (T.keep _ _ _ st5 fun b hb o e => ?_) fun b hb => ?_)
          · exact (I7'.pin (b, o) (List.mem_append_right _ (List.mem_cons_of_mem _ (List.mem_append_right _ (mem_pinsAt hb e))))).1
          · obtain ⟨o, e, d⟩ := T.obj _ _ st5 b hb
            exact (I7'.pin (b, o) (List.mem_append_right _ (List.mem_cons_of_mem _ (List.mem_append_right _ (mem_pinsAt hb e))))).2.1
        cases f with
        | next => obtain ⟨σ7, H7, I7, n7⟩ := hs; exact again I7 n7
        | cont => obtain ⟨σ7, H7, I7, n7⟩ := hs; exact again I7 n7
        | brk => obtain ⟨σ7, H7, I7, q7⟩ := hs; exact seg_leaf (.ok .next) (k.ok n' ys' s₀' s7 .next hn' ⟨σ7, H7, un I7, q7⟩)
        | ret v => obtain ⟨x7, σ7, H7, I7, r7, q7⟩ := hs; exact seg_leaf (.ok (.ret v)) (k.ok n' ys' s₀' s7 (.ret v) hn' ⟨x7, σ7, H7, un I7, r7, q7⟩)
  exact loop m0 0 n ys s₀ s2 σ H2 hn w0 ⟨acc, cc, r, I2⟩ st2 fun b hb => (f2 b hb).1
end
end PL

namespace PL
open PySem PySem.Spec PyProof.Rows L2
/-! ## sorted(xs), xs a list of tuples of ints -/
def lxle : List Int → List Int → Bool
  | [], _ => true
  | _ :: _, [] => false
  | a :: as, b :: bs => if a < b then true else if a = b then lxle as bs else false
theorem lxle_total : ∀ a b : List Int, lxle a b = false → lxle b a = true
  | [], _, h => by cases h
  | _ :: _, [], _ => rfl
  | a :: as, b :: bs, h => by
    unfold lxle at h ⊢
    split at h
    · cases h
    · split at h
      · rename_i h1 h2
        subst h2
        rw [if_neg h1, if_pos rfl]
        exact lxle_total as bs h
      · rename_i h1 h2
        rw [if_pos (by omega)]
theorem lxle_trans : ∀ a b c : List Int, lxle a b = true → lxle b c = true → lxle a c = true
  | [], _, _, _, _ => rfl
  | _ :: _, [], _, h, _ => by cases h
  | _ :: _, _ :: _, [], _, h => by cases h
  | a :: as, b :: bs, c :: cs, h, k => by
    unfold lxle at h k ⊢
    split at h
    · split at k
      · rw [if_pos (by omega)]
      · split at k
        · rw [if_pos (by omega)]
        · cases k
    · split at h
      · rename_i h1 h2
        subst h2
        split at k
        · rw [if_pos (by omega)]
        · split at k
          · rename_i k1 k2
            subst k2
            rw [if_neg (by omega), if_pos rfl]
            exact lxle_trans as bs cs h k
          · cases k
      · cases h
theorem lxle_anti : ∀ a b : List Int, lxle a b = true → lxle b a = true → a = b
  | [], [], _, _ => rfl
  | [], _ :: _, _, h => by cases h
  | _ :: _, [], h, _ => by cases h
  | a :: as, b :: bs, h, k => by
    unfold lxle at h k
    split at h
    · rw [if_neg (by omega), if_neg (by omega)] at k
      cases k
    · split at h
      · rename_i h1 h2
        subst h2
        rw [if_neg h1, if_pos rfl] at k
        rw [lxle_anti as bs h k]
      · cases h
def insR (k : List Int) : List (List Int) → List (List Int)
  | [] => [k]
  | x :: xs => if lxle k x = true then k :: x :: xs else x :: insR k xs
def srtR (rs : List (List Int)) : List (List Int) := rs.foldr insR []
theorem insR_perm (k : List Int) : ∀ xs : List (List Int), (insR k xs).Perm (k :: xs)
  | [] => .refl _
  | x :: xs => by
    unfold insR
    split
    · exact .refl _
    · exact ((insR_perm k xs).cons x).trans (.swap k x xs)
theorem insR_le {k : List Int} : ∀ {xs : List (List Int)}, xs.Pairwise (fun a b => lxle a b = true) → (insR k xs).Pairwise (fun a b => lxle a b = true)
  | [], _ => List.pairwise_singleton _ _
  | x :: xs, h => by
    have ⟨h1, h2⟩ := List.pairwise_cons.mp h
    unfold insR
    split
    · rename_i hk
      refine List.pairwise_cons.mpr ⟨fun y hy => ?_, h⟩
      rcases List.mem_cons.mp hy with rfl | hy
      · exact hk
      · exact lxle_trans _ _ _ hk (h1 y hy)
    · rename_i hk
      refine List.pairwise_cons.mpr ⟨fun y hy => ?_, insR_le h2⟩
      rcases List.mem_cons.mp ((insR_perm k xs).mem_iff.mp hy) with rfl | hy
      · exact lxle_total _ _ (by simpa using hk)
      · exact h1 y hy
theorem srtR_perm : ∀ rs : List (List Int), (srtR rs).Perm rs
  | [] => .refl _
  | r :: rs => (insR_perm r (srtR rs)).trans ((srtR_perm rs).cons r)
theorem srtR_le : ∀ rs : List (List Int), (srtR rs).Pairwise (fun a b => lxle a b = true)
  | [] => .nil
  | r :: rs => insR_le (srtR_le rs)
theorem srtR_unique : ∀ {xs ys : List (List Int)}, xs.Pairwise (fun a b => lxle a b = true) → ys.Pairwise (fun a b => lxle a b = true) → xs.Perm ys → xs = ys
  | [], ys, _, _, p => by rw [List.Perm.nil_eq p]
  | x :: xs, [], _, _, p => absurd p.length_eq (by simp)
  | x :: xs, y :: ys, hx, hy, p => by
    have ⟨x1, x2⟩ := List.pairwise_cons.mp hx
    have ⟨y1, y2⟩ := List.pairwise_cons.mp hy
    have refl : ∀ a : List Int, lxle a a = true := fun a => by
      cases h : lxle a a with
      | true => rfl
      | false => have := lxle_total a a h; rw [h] at this; cases this
    have e : x = y := by
      have a : lxle x y = true := by
        rcases List.mem_cons.mp (p.mem_iff.mpr List.mem_cons_self) with e | e
        · rw [e]; exact refl _
        · exact x1 y e
      have b : lxle y x = true := by
        rcases List.mem_cons.mp (p.mem_iff.mp List.mem_cons_self) with e | e
        · rw [e]; exact refl _
        · exact y1 x e
      exact lxle_anti _ _ a b
    subst e
    rw [srtR_unique x2 y2 (List.Perm.cons_inv p)]
theorem srtR_eq {xs ys : List (List Int)} (h : xs.Perm ys) : srtR xs = srtR ys := srtR_unique (srtR_le _) (srtR_le _) (((srtR_perm xs).trans h).trans (srtR_perm ys).symm)
/-- a row as data -/
def rowD (r : List Int) : D := .tup (r.map .int)
def rowI (d : D) : Option (List Int) := match d with | .tup xs => intsD xs | _ => none
def rowsD : List D → Option (List (List Int))
  | [] => some []
  | d :: ds => (rowI d).bind fun r => (rowsD ds).map (r :: ·)
theorem rowI_row (r : List Int) : rowI (rowD r) = some r := intsD_map r
theorem rowI_eq {d : D} {r : List Int} (h : rowI d = some r) : d = rowD r := by
  cases d <;> try (cases h; done)
  unfold rowD
  rw [intsD_eq (show intsD _ = some r from h)]
theorem rowsD_map : ∀ rs : List (List Int), rowsD (rs.map rowD) = some rs
  | [] => rfl
  | r :: rs => by rw [List.map_cons, rowsD, rowI_row, rowsD_map rs]; rfl
theorem rowsD_eq : ∀ {ds : List D} {rs : List (List Int)}, rowsD ds = some rs → ds = rs.map rowD
  | [], _, h => by cases h; rfl
  | d :: ds, rs, h => by
    unfold rowsD at h
    cases z : rowI d with
    | none => rw [z] at h; cases h
    | some r =>
      rw [z] at h
      have h : (rowsD ds).map (r :: ·) = some rs := h
      obtain ⟨rs', e, rfl⟩ := Option.map_eq_some_iff.mp h
      rw [List.map_cons, ← rowsD_eq e, ← rowI_eq z]
def okR (rs : List (List Int)) : Bool := decide (rs.length < 64) && rs.all fun r => decide (r.length = (rs.headD []).length) && (decide (1 ≤ r.length) && r.all fun x => decide (0 ≤ x))
def gSortT (ds : List D) : Option (List D) := match ds with
  | [.lst xs] => (rowsD xs).bind fun rs => if okR rs then some ((srtR rs).map rowD) else none
  | _ => none
theorem code_lex {B : Int} : ∀ {r q : List Int}, r.length = q.length → TS.Bd B r → TS.Bd B q → TS.code B r ≤ TS.code B q → lxle r q = true
  | [], _, _, _, _, _ => rfl
  | _ :: _, [], h, _, _, _ => by simp at h
  | a :: as, b :: bs, h, hr, hq, hc => by
    have h' : as.length = bs.length := by simpa using h
    unfold lxle
    by_cases h1 : a < b
    · rw [if_pos h1]
    · rw [if_neg h1]
      by_cases h2 : a = b
      · subst h2
        rw [if_pos rfl]
        refine code_lex h' hr.tail hq.tail ?_
        have : ¬ TS.code B bs < TS.code B as := fun hh => by
          have := (TS.code_same (B := B) (d := a) h'.symm).mpr hh
          omega
        omega
      · have := TS.code_lt (B := B) h'.symm hq.tail hr.tail (show b < a by omega)
        omega
theorem exists_bound : ∀ rs : List (List Int), ∃ B : Int, ∀ r ∈ rs, ∀ x ∈ r, x < B := by
  have one : ∀ r : List Int, ∃ B : Int, ∀ x ∈ r, x < B := fun r => by
    induction r with
    | nil => exact ⟨0, fun x hx => by cases hx⟩
    | cons a r ih =>
      obtain ⟨B, hB⟩ := ih
      refine ⟨max B (a + 1), fun x hx => ?_⟩
      rcases List.mem_cons.mp hx with rfl | hx
      · omega
      · have := hB x hx
        omega
  intro rs
  induction rs with
  | nil => exact ⟨0, fun r hr => by cases hr⟩
  | cons r rs ih =>
    obtain ⟨B, hB⟩ := ih
    obtain ⟨C, hC⟩ := one r
    refine ⟨max B C, fun q hq x hx => ?_⟩
    rcases List.mem_cons.mp hq with rfl | hq
    · have := hC x hx
      omega
    · have := hB q hq x hx
      omega
theorem Reps.perm {K : PySem.W.Frag} {G : Hp} {vs ys : List V} (p : ys.Perm vs) : ∀ {ds : List D}, Reps K G ds vs → ∃ es, es.Perm ds ∧ Reps K G es ys := by
  induction p with
  | nil => exact fun {ds} h => ⟨ds, .refl _, h⟩
  | cons x _ ih =>
    intro ds h
    cases h with
    | cons r t =>
      obtain ⟨es, h1, h2⟩ := ih t
      exact ⟨_ :: es, h1.cons _, .cons r h2⟩
  | swap x y l =>
    intro ds h
    cases h with
    | cons r t =>
      cases t with
      | cons r' t => exact ⟨_ :: _ :: _, .swap _ _ _, .cons r' (.cons r t)⟩
  | trans _ _ ih1 ih2 =>
    intro ds h
    obtain ⟨es, h1, h2⟩ := ih2 h
    obtain ⟨fs, h3, h4⟩ := ih1 h2
    exact ⟨fs, h3.trans h1, h4⟩
theorem perm_rows {es : List D} {rs : List (List Int)} (h : es.Perm (rs.map rowD)) : ∃ ms : List (List Int), es = ms.map rowD ∧ ms.Perm rs := by
  refine ⟨es.map fun d => (rowI d).getD [], ?_, ?_⟩
  · rw [List.map_map]
    have : es.map (rowD ∘ fun d => (rowI d).getD []) = es.map id := List.map_congr_left fun d hd => by
      obtain ⟨r, -, rfl⟩ := List.mem_map.mp (h.mem_iff.mp hd)
      show rowD ((rowI (rowD r)).getD []) = rowD r
      rw [rowI_row]; rfl
    rw [this, List.map_id]
  · have := h.map fun d => (rowI d).getD []
    rw [List.map_map] at this
    have e : rs.map ((fun d => (rowI d).getD []) ∘ rowD) = rs.map id := List.map_congr_left fun r _ => by
      show (rowI (rowD r)).getD [] = r
      rw [rowI_row]; rfl
    rw [e, List.map_id] at this
    exact this
theorem Rep.row {K : PySem.W.Frag} {G H : Hp} {r : List Int} {x : V} (l : Ex G H) (h : Rep K G (rowD r) x) : TupI K H x r := by
  cases h with
  | tup hp rp =>
    have := rp.ints
    subst this
    exact ⟨_, rfl, .of (l _ _ hp)⟩
theorem b_sortT {X : Cx} : BltN X "sorted" (.builtin "sorted") gSortT := ⟨⟨fun vs H Q => ∃ (d : Nat) (B : Int), 1 ≤ d ∧ rSortU X.K d B vs H Q, fun pins s σ H vs us Q I r ⟨d, B, hd, h⟩ => cr_sortT hd pins s σ H vs us Q I r h, fun G H vs ds z Q l rs q k => by
  match ds, q with
  | [.lst xs], q =>
    obtain ⟨v, rfl, rv⟩ := rs.one
    obtain ⟨p, us, rfl, hp, rp⟩ := rv.lst_inv l
    have q : ((rowsD xs).bind fun rs => if okR rs then some ((srtR rs).map rowD) else none) = some z := q
    cases e : rowsD xs with
    | none => rw [e] at q; cases q
    | some rows =>
      rw [e] at q
      have q : (if okR rows then some ((srtR rows).map rowD) else none) = some z := q
      split at q
      · rename_i hok
        cases q
        obtain rfl := rowsD_eq e
        unfold okR at hok
        rw [Bool.and_eq_true, List.all_eq_true] at hok
        obtain ⟨h64, hall⟩ := hok
        have h64 := of_decide_eq_true h64
        obtain ⟨B, hB⟩ := exists_bound rows
        have hbd : ∀ r ∈ rows, r.length = (rows.headD []).length ∧ 1 ≤ r.length ∧ TS.Bd B r := fun r hr => by
          have := hall r hr
          rw [Bool.and_eq_true, Bool.and_eq_true, List.all_eq_true] at this
          exact ⟨of_decide_eq_true this.1, of_decide_eq_true this.2.1, fun x hx => ⟨of_decide_eq_true (this.2.2 x hx), hB r hr x hx⟩⟩
        obtain ⟨d, hd1, hd2⟩ : ∃ d, 1 ≤ d ∧ ∀ r ∈ rows, r.length = d := by
          cases rows with
          | nil => exact ⟨1, Nat.le_refl _, fun r hr => by cases hr⟩
          | cons a rows => exact ⟨a.length, (hbd a List.mem_cons_self).2.1, fun r hr => (hbd r hr).1⟩
        refine ⟨d, B, hd1, p, us, rfl, .of hp, by rw [← rp.length, List.length_map]; exact h64, fun x hx => ?_, fun ys n hpm hle hn => ?_⟩
        · obtain ⟨i, hi⟩ := List.getElem?_of_mem hx
          obtain ⟨dd, h1, h2⟩ := rp.getV hi
          obtain ⟨r, hr, rfl⟩ := List.mem_map.mp (List.mem_of_getElem? h1)
          exact ⟨r, h2.row l, hd2 r hr, (hbd r hr).2.2⟩
        · obtain ⟨es, h1, h2⟩ := rp.perm hpm
          obtain ⟨ms, rfl, hms⟩ := perm_rows h1
          have hin : ∀ m ∈ ms, m.length = d ∧ TS.Bd B m := fun m hm => ⟨hd2 m (hms.mem_iff.mp hm), (hbd m (hms.mem_iff.mp hm)).2.2⟩
          have sorted : ∀ (ms : List (List Int)) (ys : List V), (∀ m ∈ ms, m.length = d ∧ TS.Bd B m) → Reps X.K G (ms.map rowD) ys → ys.Pairwise (fun x y => ∀ n m, TupI X.K H x n → TupI X.K H y m → TS.code B n ≤ TS.code B m) → ms.Pairwise (fun a b => lxle a b = true) := by
            intro ms
            induction ms with
            | nil => exact fun _ _ _ _ => .nil
            | cons m ms ih =>
              intro ys hin hr hle
              cases hr with
              | cons r t =>
                have ⟨p1, p2⟩ := List.pairwise_cons.mp hle
                refine List.pairwise_cons.mpr ⟨fun m' hm' => ?_, ih _ (fun m hm => hin m (List.mem_cons_of_mem _ hm)) t p2⟩
                obtain ⟨i, hi⟩ := List.getElem?_of_mem hm'
                obtain ⟨v', g1, g2⟩ := t.get (i := i) (d := rowD m') (by rw [List.getElem?_map, hi]; rfl)
                have a := hin m List.mem_cons_self
                have b := hin m' (List.mem_cons_of_mem _ hm')
                exact code_lex (a.1.trans b.1.symm) a.2 b.2 (p1 v' (List.mem_of_getElem? g1) m m' (r.row l) (g2.row l))
          have : ms = srtR rows := srtR_unique (sorted ms ys hin h2 hle) (srtR_le _) (hms.trans (srtR_perm rows).symm)
          subst this
          exact k n _ G _ (.own l hn) hn (l.free hn) upd_same h2
      · cases q⟩, PyProof.Rows.boot_sorted⟩
end PL

namespace PL
open PySem PySem.Spec PyProof.Rows L2 GenW
/-! ## generator defs -/
abbrev DG := DEnv → Option (List D)
def TGok (K : PySem.W.Frag) (nn : Nat) (t : TGn) (f : DG) : Prop := ∀ G0 H0 ρ σ G H (E : GEnds) ys out, SR K nn G0 H0 ρ σ G H → f ρ = some out → ys.length + out.length ≤ sizeLine →
  (∀ vs ρ' σ' G' H', SR K nn G0 H0 ρ' σ' G' H' → Ex G G' → Reps K G' out vs → E.nx (ys ++ vs) σ' H') → t E ys σ H
structure PuG (X : Cx) (sts : List Stmt) (f : DG) : Prop where
  ex : ∃ t, GSs X sts t ∧ TGok X.K X.N.length t f
def gSeq (f : DS) (g : DG) : DG := fun ρ => (f ρ).bind fun r => match r with | .nx ρ' => g ρ' | _ => none
section
variable {X : Cx} {st : Stmt} {rest : List Stmt} {f : DS} {g : DG}
theorem sg_cons (a : PuS X st f) (b : PuG X rest g) : PuG X (st :: rest) (gSeq f g) :=
  let ⟨t, a1, a2⟩ := a.ex; let ⟨u, b1, b2⟩ := b.ex; ⟨tGThen (tPlain t) u, gss_cons (gs_ps a1) b1, fun G0 H0 ρ σ G H E ys out s q hl k => by
    unfold gSeq at q
    cases z : f ρ with
    | none => rw [z] at q; cases q
    | some r =>
      rw [z] at q
      cases r with
      | nx ρ' =>
        have q : g ρ' = some out := q
        show t _ σ H
        exact a2 G0 H0 ρ σ G H _ (.nx ρ') s z fun σ' G' H' s' x => b2 G0 H0 ρ' σ' G' H' E ys out s' q hl fun vs ρ2 σ2 G2 H2 s2 x2 r2 => k vs ρ2 σ2 G2 H2 s2 (x.trans x2) r2
      | bk _ => cases q
      | ct _ => cases q
      | rt _ => cases q⟩
end
def yldL (tg : Tg) (fe : DE) : List Cell → DEnv → Option (List D)
  | [], _ => some []
  | .p d :: cs, ρ => (bindT tg (.p d) ρ).bind fun ρ1 => (fe ρ1).bind fun x => (yldL tg fe cs ρ1).map (x :: ·)
  | _ :: _, _ => none
def gYield (it : DI) (tg : Tg) (fe : DE) : DG := fun ρ => (it ρ).bind fun cs => yldL tg fe cs ρ
theorem tg_for {K : PySem.W.Frag} {nn : Nat} {wi : TI} {it : DI} {te : TE} {fe : DE} {tg : Tg} (hi : TIg K nn wi it) (hb : TEok K nn te fe) (hl : ∀ i ∈ tg.slots, i < nn) :
    TGok K nn (tGThen (tGFor wi (tgTG K tg) (tGThen (tGYield te) tG0)) tG0) (gYield it tg fe) := fun G0 H0 ρ σ G H E ys out s q hle k => by
  unfold gYield at q
  cases z : it ρ with
  | none => rw [z] at q; cases q
  | some cs =>
    rw [z] at q
    have q : yldL tg fe cs ρ = some out := q
    show tGFor wi (tgTG K tg) (tGThen (tGYield te) tG0) _ ys σ H
    refine hi ρ σ G H _ cs s.up.le s.er z fun J G1 H1 u1 wk => ?_
    let Wp : Nat → List V → L2.St → Hp → Prop := fun i ys' σ' H' => ∃ ρ' G' vs done rest, SR K nn G0 H0 ρ' σ' G' H' ∧ Ex G1 G' ∧ ys' = ys ++ vs ∧ Reps K G' done vs ∧ yldL tg fe (cs.drop i) ρ' = some rest ∧ done ++ rest = out
    refine ⟨fun i m ys' σ' H' => m = cs.length - i ∧ i ≤ cs.length ∧ Wp i ys' σ' H', ⟨cs.length, by simp, Nat.zero_le _, ρ, G1, [], [], out, s.step u1, .refl _, (List.append_nil _).symm, .nil, by simpa using q, rfl⟩, ?_⟩
    rintro i m ys' σ' H' ⟨rfl, hi', ρ', G', vs, done, rest, s', x', rfl, rd, fq, eo⟩
    have w := wk i G' H' x' s'.up.le
    by_cases hlt : i < cs.length
    · right
      obtain ⟨go, yl⟩ := w.1 cs[i] (List.getElem?_eq_getElem hlt)
      refine ⟨go, Wp (i + 1), fun ys2 σ2 H2 hq => ⟨cs.length - (i + 1), by omega, rfl, hlt, hq⟩, fun v H2 y => ?_⟩
      obtain ⟨G3, u3, cx⟩ := yl v H2 y
      rw [List.drop_eq_getElem_cons hlt] at fq
      cases zc : cs[i] with
      | ol _ => rw [zc] at fq; cases fq
      | ob _ => rw [zc] at fq; cases fq
      | rb _ _ => rw [zc] at fq; cases fq
      | rf _ => rw [zc] at fq; cases fq
      | oll _ => rw [zc] at fq; cases fq
      | od _ => rw [zc] at fq; cases fq
      | oi _ => rw [zc] at fq; cases fq
      | p d =>
        rw [zc] at fq cx
        unfold yldL at fq
        cases z3 : bindT tg (.p d) ρ' with
        | none => rw [z3] at fq; cases fq
        | some ρ1 =>
          rw [z3] at fq
          refine tg_ok u3.le cx z3 fun σ2 st => ?_
          have s2 := st.sr (s'.step u3) cx hl z3
          cases z4 : fe ρ1 with
          | none => simp only [Option.bind_some, z4] at fq; cases fq
          | some x =>
            simp only [Option.bind_some, z4] at fq
            obtain ⟨rest', e4, rfl⟩ := Option.map_eq_some_iff.mp fq
            have hlen : done.length = vs.length := rd.length
            have hout : out.length = done.length + (rest'.length + 1) := by rw [← eo, List.length_append, List.length_cons]
            show tGYield te _ (ys ++ vs) σ2 H2
            refine ⟨by rw [List.length_append]; omega, ?_⟩
            refine hb ρ1 σ2 G3 H2 _ x s2.up.le s2.er z4 fun v G4 H4 u4 rv => ?_
            show Wp (i + 1) (ys ++ vs ++ [v]) σ2 H4
            exact ⟨ρ1, G4, vs ++ [v], done ++ [x], rest', s2.step u4, (x'.trans u3.g).trans u4.g, List.append_assoc _ _ _, (rd.mono (u3.g.trans u4.g)).append (.cons rv .nil), e4, by rw [List.append_assoc]; exact eo⟩
    · left
      have ei : i = cs.length := by omega
      subst ei
      refine ⟨w.2 rfl, ?_⟩
      rw [List.drop_length] at fq
      cases fq
      rw [List.append_nil] at eo
      subst eo
      show E.nx (ys ++ vs) σ' H'
      exact k vs ρ' σ' G' H' s' (u1.g.trans x') rd
theorem sg_yield {X : Cx} {tgE iter e : Expr} {it : DI} {fe : DE} {yp pos1 pos : Pos} (tg : Tg) (hp : PassesOwn (model X.prog X.w) X.A X.env X.xe) (hc : X.calm = true) (hi : ItG X tgE iter it) (hg : PG X tgE (tgTG X.K tg)) (he : PuE X e fe) (hl : ∀ i ∈ tg.slots, i < X.N.length)
    (hco : X.env.scope.isCoroutine = false := by rfl) (hin : interactive X.env = false := by rfl) (hs : ∀ x, foldedSetIterable iter X.env x = pure x := by intro _; rfl) : PuG X [.For tgE iter [.Expr (.Yield (some e) yp) pos1] [] pos] (gYield it tg fe) :=
  let ⟨_, i1, i2⟩ := hi.ex; let ⟨_, e1, e2⟩ := he.ex; ⟨_, gss_cons (gs_for hp hc i1 hg (gss_cons (gs_yield e1 hco hin) gss_nil) hs) gss_nil, tg_for i2 e2 hl⟩
def spG (K : PySem.W.Frag) (F : List D → Option (List D)) : SpG := fun vs H Q _ => ∃ G ds out, Ex G H ∧ Reps K G ds vs ∧ F ds = some out ∧ ∀ vs' G' H', Up G H G' H' → Reps K G' out vs' → Q vs' H'
def gnD (n : Nat) (body : DG) : List D → Option (List D) := fun ds => if ds.length = n then (body (env0 ds)).bind fun out => if szB out.length then some out else none else none
structure GnD (P : Program) (w : World) (K : PySem.W.Frag) (mg : Str → Option Value) (base : Heap) (k : Nat) (x : Str) (F : List D → Option (List D)) : Prop where
  ex : ∃ f fd ps, mg x = some (.ref f) ∧ PySem.W.keepIn K (.ref f) = true ∧ Binds K fd ps [] ∧ GFn P w K mg base k f fd ps (spG K F)
section
variable {P : Program} {w : World} {K : PySem.W.Frag} {mg : Str → Option Value} {base : Heap}
theorem pureG_ok {x qual : Str} {st : Stmt} {f : Addr} {fd : FuncData} {N ps : List Str} {k : Nat} {body : DG} (F : Fun K x qual st f fd) (S : GScope N ps (defScope st)) (hl : ps.length ≤ N.length)
    (hb : ∀ (cdv : Value) (A : Around) (outer : List Env) (s : Shared) (H : Hp) (E : XK) (pn : List (Addr × Obj)), Room k (A.deeper (envOfC qual (defScope st) s.heap.objs.size f cdv)) →
      PuG (gcxOf P w K mg base N qual (defScope st) f cdv A outer s H E pn) (defBody st) body) : GFn P w K mg base (k + 1) f fd ps (spG K (gnD ps.length body)) := by
  obtain ⟨oc, od, kV, doc, pm, an, cdv, ct, osl, rfl, lk, hcd⟩ := F.ex
  refine gfn_of lk hcd S (fun vs H Q E h => ?_) (fun A outer s H vs Q E pn hr h => ?_)
  · obtain ⟨G, ds, out, l, r, q, _⟩ := h
    unfold gnD at q
    split at q
    · rename_i e; rw [← e, r.length]
    · cases q
  · obtain ⟨G, ds, out, l, r, q, kq⟩ := h
    unfold gnD at q
    split at q
    · rename_i e
      obtain ⟨t, a1, a2⟩ := (hb cdv A outer s H E pn hr).ex
      refine ⟨t, a1, ?_⟩
      cases z : body (env0 ds) with
      | none => rw [z] at q; cases q
      | some out' =>
        rw [z] at q
        have q : (if szB out'.length then some out' else none) = some out := q
        split at q
        · rename_i hz
          cases q
          refine a2 G H (env0 ds) (L2.start N vs) G H _ [] out (start_sr l r (by rw [← r.length, e]; exact hl)) z (by rw [List.length_nil, Nat.zero_add]; exact szB_le hz) fun vs' ρ' σ' G' H' s' x' r' => ?_
          exact kq vs' G' H' s'.up r'
        · cases q
    · cases q
end
def dGen (F : List D → Option (List D)) (fs : DL) : DL := fun ρ => (fs ρ).bind F
theorem nw_gen {X : Cx} {x : Str} {p pos p2 pos2 : Pos} {e : Expr} {es : List Expr} {fs : DL} {F : List D → Option (List D)} {j k : Nat} (B : GnD X.prog X.w X.K X.mg X.base j x F) (hr : Room k X.A) (hT : X.mg "list" = none) (ha : PuA X (e :: es) fs) (hjk : j + 3 ≤ k := by decide) (hg : Gl X x := by rfl) (hg2 : Gl X "list" := by rfl) (hdb : (x == ("__debug__" : Str)) = false := by decide)
    (he : starEach (e :: es) X.env = (false, eval e X.env) :: starEach es X.env := by rfl) (hpl : (backTo pos (starEach es X.env)).any (·.1) = false := by rfl)
    (he2 : starEach [.Call (.Name x p) (e :: es) [] pos] X.env = (false, eval (.Call (.Name x p) (e :: es) [] pos) X.env) :: starEach [] X.env := by rfl) :
    NwE X (.Call (.Name "list" p2) [.Call (.Name x p) (e :: es) [] pos] [] pos2) (dGen F fs) :=
  let ⟨f, fd, ps, b1, b2, b3, b4⟩ := B.ex; let ⟨_, a1, a2⟩ := ha.ex
  ⟨_, pe_listG (E := fun _ _ _ => False) (pgen_call b4 (hr.mono (by omega)) hg b1 b2 b3 .nil a1 hdb he hpl) (fun _ _ _ _ _ _ _ hc => by
      obtain ⟨a, B, H', cls, d, _, _, _, _, _, _, _, hW⟩ := hc
      exact hW.elim) (fun _ _ _ h => h.elim) (hr.mono (show j + 3 ≤ k from hjk)) hg2 hT boot_list (by decide) (by decide) he2, fun ρ σ G H Q d l r q kk => by
    unfold dGen at q
    cases z : fs ρ with
    | none => rw [z] at q; cases q
    | some ds =>
      rw [z] at q
      refine a2 ρ σ G H _ ds l r z fun vs G1 H1 u1 rvs => ?_
      show spG X.K F (vs ++ []) H1 _ _
      rw [List.append_nil]
      refine ⟨G1, ds, d, u1.le, rvs, q, fun vs' G2 H2 u2 r2 p hp => ?_⟩
      have u := u1.trans u2
      exact kk p vs' G2 _ (u.trans (.own u.le hp)) (u.h.free hp) (u.le.free hp) upd_same r2⟩
end PL

namespace PL
open PySem PySem.Spec PyProof.Rows L2

/-! ## len(sorted(set(xs))), xs a tuple of texts -/
abbrev kS (P : Program) (w : World) := PySem.strKind P w
/-- a set of texts, with its table's order kept -/
def SetS (P : Program) (w : World) (h : Heap) (a : Addr) (S : Str → Bool) (n : Nat) : Prop :=
  ∃ o es ep t, h.get? a = some o ∧ o.ExactSet ∧ o.data = .set es ep t ∧ ElemsOf (kS P w) es.toList ∧ (∀ k, S k = true ↔ ∃ e ∈ es.toList, (kS P w).is k e.2 = true) ∧
    es.size < scanBound ∧ t.fits es.size = true ∧ es.size = n ∧ Ris t.place.toList ∧ (w.params.followText "set-order" = true ∨ t.led = true)
section
variable {P : Program} {w : World} {A : Around} {E : Value → Shared → Prop} {s : Shared} {a : Addr} {S : Str → Bool} {n : Nat}
theorem SetS.at {h h' : Heap} (R : SetS P w h a S n) (k : ∀ o, h.get? a = some o → h'.get? a = some o) : SetS P w h' a S n := by
  obtain ⟨o, es, ep, t, ho, r⟩ := R
  exact ⟨o, es, ep, t, k o ho, r⟩
theorem SetS.congr {h : Heap} {S' : Str → Bool} (R : SetS P w h a S n) (e : ∀ k, S' k = S k) : SetS P w h a S' n := by
  have q : S' = S := funext e
  rw [q]; exact R
theorem setS_tail {g : Bool → Sem Unit} (hg : ∀ (b : Bool) (s₁ : Shared) (Q' : Unit → Shared → Prop), Q' () s₁ → wpAny (model P w) A (g b) Q' E s₁)
    {o : Obj} {es : Array (Int × Value)} {ep : Nat} {t : SetTable} (ho : s.heap.get? a = some o) (hex : o.ExactSet) (hd : o.data = .set es ep t)
    {es1 : Array (Int × Value)} {t2 : SetTable} {S' : Str → Bool} (g1 : ElemsOf (kS P w) es1.toList) (m1 : ∀ k, S' k = true ↔ ∃ e ∈ es1.toList, (kS P w).is k e.2 = true)
    (hb1 : es1.size < scanBound) (hf2 : t2.fits es1.size = true) (hr : Ris t2.place.toList) (hl : w.params.followText "set-order" = true ∨ t2.led = true) {wasDummy : Bool} {R : Option Bool → Shared → Prop}
    (hR : ∀ h', Heap.SameBut a s.heap h' → SetS P w h' a S' es1.size → R (some true) { s with heap := h' }) :
    wpAny (model P w) A (do
        storeSet a es1 t2
        if (!wasDummy && t2.tooFull) = true then do
            g (relayAll t2 es1 (SetTable.grown es1.size)).2.2
            storeSet a (relayAll t2 es1 (SetTable.grown es1.size)).1 (relayAll t2 es1 (SetTable.grown es1.size)).2.1
            pure (some true)
          else pure (some true)) R E s := by
  refine wpAny_bind (wpAny_storeSet_of ho hd ?_ (fits_of_scanBound hb1))
  have ho1 := store_at (es' := es1) (t' := t2) ho hd
  have sb1 := Heap.SameBut.update s.heap a (Obj.putSet es1 t2)
  split
  · have pm := relayAll_perm t2 es1 (SetTable.grown es1.size)
    have hf3 := relayAll_fits t2 es1 (SetTable.grown es1.size)
    have hr3 := relayAll_ris t2 es1 (SetTable.grown es1.size)
    have hl3 := relayAll_led t2 es1 (SetTable.grown es1.size)
    generalize relayAll t2 es1 (SetTable.grown es1.size) = Z at pm hf3 hr3 hl3 ⊢
    obtain ⟨es2, t3, gave⟩ := Z
    dsimp only at pm hf3 hr3 hl3 ⊢
    have hsz : es2.size = es1.size := by rw [← Array.length_toList, pm.length_eq, Array.length_toList]
    have hb2 : es2.size < scanBound := by rw [hsz]; exact hb1
    refine wpAny_bind (hg _ _ _ ?_)
    refine wpAny_bind (wpAny_storeSet_of ho1 rfl ?_ (fits_of_scanBound hb2))
    have ho2 := store_at (es' := es2) (t' := t3) ho1 rfl
    refine wpAny_pure (hR _ (sb1.trans (Heap.SameBut.update _ a _)) ?_)
    exact ⟨_, es2, _, t3, ho2, hex, rfl, g1.perm pm, fun k => (m1 k).trans ⟨fun ⟨e, he, q⟩ => ⟨e, pm.mem_iff.mpr he, q⟩, fun ⟨e, he, q⟩ => ⟨e, pm.mem_iff.mp he, q⟩⟩, hb2, hf3, hsz, hr3,
      hl.imp id fun z => by rw [hl3]; exact z⟩
  · exact wpAny_pure (hR _ sb1 ⟨_, es1, _, t2, ho1, hex, rfl, g1, m1, hb1, hf2, rfl, hr, hl⟩)
theorem setS_add {k : Str} {x : Value} {Q : Bool → Shared → Prop} (hkey : (kS P w).is k x = true) (hsc : x.scannable = true) (R : SetS P w s.heap a S n) (room : n + 1 < scanBound)
    (hQ : ∀ h', Heap.SameBut a s.heap h' → SetS P w h' a (fun j => S j || decide (j = k)) (if S k = true then n else n + 1) → Q (!S k) { s with heap := h' }) :
    wpAny (model P w) A (setAddHashed a x ((kS P w).hash k)) Q E s := by
  obtain ⟨o, es, ep, t, ho, hex, hd, hel, hm, hb, hf, hn, hr, hl⟩ := R
  unfold setAddHashed setAddHashedIn
  refine wpAny_holding (wpAny_bind (wpAny_setState_of ho hd hf ?_))
  dsimp only
  rw [byScan_of hsc hb hel]
  simp only [↓reduceIte]
  unfold setAddByScan
  refine wpAny_bind ?_
  refine wpAny_bind (wpAny_rule ?_)
  refine wpAny_bind (wpAny_setScan_of hkey ho hd hf hel ?_)
  cases hfi : List.findIdx? (fun e => (kS P w).is k e.2) es.toList with
  | some j =>
    dsimp only
    obtain ⟨hj, pj, _⟩ := List.findIdx?_eq_some_iff_getElem.mp hfi
    have hSk : S k = true := (hm k).2 ⟨es.toList[j], List.getElem_mem hj, pj⟩
    refine wpAny_pure (wpAny_pure ?_)
    have q := hQ s.heap (Heap.SameBut.refl a s.heap) ⟨o, es, ep, t, ho, hex, hd, hel, fun i => by
      rw [Bool.or_eq_true, decide_eq_true_eq, ← hm i]
      exact ⟨fun z => z.elim id (fun e => e ▸ hSk), .inl⟩, hb, hf, by rw [if_pos hSk]; exact hn, hr, hl⟩
    rw [hSk] at q
    exact q
  | none =>
    dsimp only
    have hSk : S k = false := by
      cases q : S k with
      | false => rfl
      | true =>
        obtain ⟨e, he, hp⟩ := (hm k).1 q
        have c := List.findIdx?_eq_none_iff.mp hfi e he
        rw [hp] at c
        cases c
    have hgw : ∀ (b : Bool) {s₁ : Shared} {Q' : Unit → Shared → Prop}, Q' () s₁ → wpAny (model P w) A (match b with | true => rule "set.scan.the-table-gave-way" | false => pure ()) Q' E s₁ :=
      fun b s₁ Q' q => by cases b <;> first | exact wpAny_pure q | exact wpAny_rule q
    have pm := layNew_perm t es ((kS P w).hash k) x
    have hf1 := layNew_fits t es ((kS P w).hash k) x
    have hr1 := layNew_ris t es ((kS P w).hash k) x hr
    have hl1 := layNew_led t es ((kS P w).hash k) x
    generalize layNew t es ((kS P w).hash k) x = Z at pm hf1 hr1 hl1 ⊢
    obtain ⟨es1, t1, wasDummy, gave⟩ := Z
    dsimp only at pm hf1 hr1 hl1 ⊢
    rw [Array.toList_push] at pm
    have g1 : ElemsOf (kS P w) es1.toList := (hel.push hkey hsc).perm pm
    have m1 : ∀ k', (S k' || decide (k' = k)) = true ↔ ∃ e ∈ es1.toList, (kS P w).is k' e.2 = true := mem_push_iff hkey hm pm
    have hsz : es1.size = n + 1 := by rw [← Array.length_toList, pm.length_eq, List.length_append, Array.length_toList, hn]; rfl
    have hb1 : es1.size < scanBound := by rw [hsz]; exact room
    have hled : w.params.followText "set-order" = true ∨ t1.led = true := hl.imp id fun z => by rw [hl1]; exact z
    have fin : ∀ h', Heap.SameBut a s.heap h' → SetS P w h' a (fun j => S j || decide (j = k)) es1.size → Q true { s with heap := h' } := fun h' sb r => by
      have q := hQ h' sb
      rw [hSk] at q
      rw [hsz] at r
      exact q r
    refine wpAny_bind (hgw _ ?_)
    split
    · refine wpAny_bind ?_
      rw [hashByValue_scannable 8 hsc]
      refine wpAny_pure ?_
      refine setS_tail ?_ ho hex hd g1 m1 hb1 ?_ ?_ ?_ ?_
      · intro b s₁ Q' hq; cases b <;> first | exact wpAny_pure hq | exact wpAny_rule hq
      · split
        · exact hf1
        · exact SetTable.fits_plain_off hf1
      · split <;> exact hr1
      · split <;> exact hled
      · intro h' hsb hS'; dsimp only; exact wpAny_pure (fin h' hsb hS')
    · refine wpAny_bind (wpAny_pure ?_)
      simp only [↓reduceIte]
      refine setS_tail ?_ ho hex hd g1 m1 hb1 hf1 hr1 hled ?_
      · intro b s₁ Q' hq; cases b <;> first | exact wpAny_pure hq | exact wpAny_rule hq
      · intro h' hsb hS'; dsimp only; exact wpAny_pure (fin h' hsb hS')
end
/-- how many different texts stand ahead of place i -/
def dstc (xs : List Str) : Nat → Nat
  | 0 => 0
  | i + 1 => if decide (xs.getD i Str.empty ∈ xs.take i) = true then dstc xs i else dstc xs i + 1
theorem dstc_le (xs : List Str) : ∀ i, dstc xs i ≤ i
  | 0 => Nat.le_refl 0
  | i + 1 => by
    have := dstc_le xs i
    unfold dstc
    split <;> omega
theorem setS_new {P : Program} {w : World} {h : Heap} {a : Addr} {xs : List Str} (ho : h.get? a = some (obS w)) : SetS P w h a (fun j => decide (j ∈ xs.take 0)) 0 :=
  ⟨_, #[], 0, _, ho, ⟨rfl, rfl, rfl⟩, rfl, (fun e he => by simp at he), (fun k => by simp), (by decide), (by rfl), rfl, List.Pairwise.nil, by
    show _ ∨ (!w.params.followText "set-order") = true
    cases w.params.followText "set-order"
    · exact .inr rfl
    · exact .inl rfl⟩
section
variable {P : Program} {w : World} {A : Around} {E : Value → Shared → Prop} {s : Shared}
theorem setS_update {I : Addr} {fp wr : List Addr} {G : Array GenState → Array GenState → Prop} {n : Nat} {Pv : Nat → Value → Prop} {St : Nat → Shared → Prop} {R : Result → Shared → Prop}
    (W : WalksS P w A.in1 I fp wr G n Pv St) (S : Addr) (hSf : S ∉ fp) (xs : List Str) (hn : n = xs.length) (hb : xs.length + 1 < scanBound) (hval : ∀ i v, Pv i v → ∃ t, v = .str (xs.getD i Str.empty) t) :
    ∀ (k i : Nat) (s : Shared), n - i = k → i ≤ n → St i s → SetS P w s.heap S (fun j => decide (j ∈ xs.take i)) (dstc xs i) →
      (∀ s', Moved (S :: wr) G s s' → SetS P w s'.heap S (fun j => decide (j ∈ xs)) (dstc xs xs.length) → R (.ok (.ret .none)) s') →
      codeAny (model P w) A (.builtin "set.update.loop" ⟨[.ref S, .ref I], []⟩) R s := by
  have hSw : S ∉ wr := fun h => hSf (W.sub _ h)
  have hsub : ∀ b ∈ wr, b ∈ S :: wr := fun b hb => List.mem_cons_of_mem _ hb
  intro k
  induction k with
  | zero =>
    intro i s hk' hi hst hS hR
    have hin : i = n := by omega
    subst hin
    refine codeAny_builtin F.entry_set_update_loop ?_
    rw [Around.under_plainId F.plain_set_update_loop _]
    show wpAny _ A.in1 (pyNext (.ref I) >>= _) _ _ s
    refine wpAny_bind (W.done s _ _ hst fun s' hm => ?_)
    show wpAny _ A.in1 (ret Value.none) _ _ s'
    have e : xs.take i = xs := List.take_of_length_le (by omega)
    rw [e, hn] at hS
    exact wpAny_pure (hR s' (hm.mono hsub) (hS.at fun o e => hm.heap S o hSw e))
  | succ k ih =>
    intro i s hk' hi hst hS hR
    have hlt : i < n := by omega
    refine codeAny_builtin F.entry_set_update_loop ?_
    rw [Around.under_plainId F.plain_set_update_loop _]
    show wpAny _ A.in1 (pyNext (.ref I) >>= _) _ _ s
    refine wpAny_bind (W.item i s _ _ hlt hst fun v s' hP hst' hm => ?_)
    obtain ⟨t, rfl⟩ := hval i v hP
    have hS' : SetS P w s'.heap S (fun j => decide (j ∈ xs.take i)) (dstc xs i) := hS.at fun o e => hm.heap S o hSw e
    show wpAny _ A.in1 (holding [Value.str (xs.getD i Str.empty) t] (setAdd S (.str (xs.getD i Str.empty) t)) >>= _) _ _ s'
    refine wpAny_bind (wpAny_holding ?_)
    unfold setAdd
    refine wpAny_holding ?_
    refine wpAny_bind ((kS P w).pyHash (k := xs.getD i Str.empty) (strKind_is _ _ _ _) ?_)
    have hle := dstc_le xs i
    refine setS_add (s := { s' with toks := s'.toks + 1 }) (strKind_is _ _ _ _) rfl hS' (by omega) fun h' hsb hS2 => ?_
    have hxi : xs[i]? = some (xs.getD i Str.empty) := by rw [List.getD_eq_getElem?_getD, List.getElem?_eq_getElem (by omega)]; rfl
    have hS3 : SetS P w h' S (fun j => decide (j ∈ xs.take (i + 1))) (dstc xs (i + 1)) := hS2.congr fun j => by
      rw [List.take_add_one, hxi]
      simp [List.mem_append]
    refine wpAny_pure ⟨plainId_quiet F.plain_set_update_loop _, ih (i + 1) _ (by omega) hlt (W.frame _ s' _ _ hst' (Nat.le_succ _) fun b hb o e => ?_) hS3 fun s'' hm'' hS'' => ?_⟩
    · rw [hsb.2 b (fun h : b = S => hSf (by rw [← h]; exact hb))]; exact e
    · refine hR s'' (Moved.trans W.gtrans ((hm.mono hsub).then_heap (Nat.le_succ _) fun b o hb e => ?_) hm'') hS''
      rw [hsb.2 b (fun h : b = S => hb (by rw [h]; exact List.mem_cons_self))]; exact e
def MadeT (P : Program) (w : World) (s : Shared) (xs : List Str) (h' : Heap) : Prop := SetS P w h' s.heap.objs.size (fun j => decide (j ∈ xs)) (dstc xs xs.length) ∧ ∀ b o, s.heap.get? b = some o → h'.get? b = some o
theorem setS_of_tup {l : Addr} {us : Array Value} (xs : List Str) {Q : Value → Shared → Prop} (hA : A.handled = none) (hl : s.heap.IsTuple l us) (hn : PyProof.Rows.StrsAre us.toList xs) (hb : xs.length + 1 < scanBound)
    (h : ∀ (h' : Heap) (tk : Nat), MadeT P w s xs h' → Q (.ref s.heap.objs.size) { s with heap := h', toks := tk }) : wpAny (model P w) A (call (.type "set") [.ref l]) Q E s := by
  have lx : us.size = xs.length := by rw [← PyProof.Rows.StrsAre.length hn, Array.length_toList]
  have ⟨mc, mt, m1⟩ := F.called_set.mro
  have m2 := F.called_set.made
  have m3 := F.called_set.sub
  have m4 := F.called_set.notType
  have m5 := F.called_set.canCreate
  have m6 := F.typeCall_set_1 (.ref l)
  have m7 := F.called_set.init.lookup
  have m8 := F.called_set.init.bind (.ref s.heap.objs.size)
  have g0 : (hpS w s).get? s.heap.objs.size = some (obS w) := Heap.get?_push_size _ rfl
  have ty : Shared.TypeIs { s with heap := hpS w s } (.ref s.heap.objs.size) "set" := ⟨_, g0, rfl⟩
  refine wpAny_call (codeAny_of_tree (show wpAny _ _ (callAny (.type "set") _) _ _ _ from wpAny_pure ⟨Code.quiet_builtin _ (by decide +kernel), codeAny_builtin F.entry_type_call ?_⟩))
  rw [Around.under_plain (weight_type_call_type "set" [.ref l] []) rfl]
  repeat (any_goals (first | assumption | wp_step))
  refine codeAny_mono (code_set_led1 (.ref l) (E := E) (Q₁ := fun v s₁ => v = .ref s.heap.objs.size ∧ s₁ = { s with heap := hpS w s }) ⟨rfl, rfl⟩) fun r s₁ hr => ?_
  rcases r with e | fl
  · exact hr
  cases fl <;> first | exact hr.elim | skip
  obtain ⟨rfl, rfl⟩ := hr
  repeat (any_goals (first | assumption | wp_step))
  refine codeAny_mono (codeAny_call_builtin (R := wants (fun r s₂ => r = .none ∧ ∃ h' tk, s₂ = { s with heap := h', toks := tk } ∧ MadeT P w s xs h') E) F.called_set.init.plain F.entry_set_init (check_set_init_1 ty ?_)) fun r s₂ hr => ?_
  · -- the tuple is walked
    obtain ⟨⟨oc, od, odt, os⟩, ho, hcl, nl, hdt⟩ := hl
    obtain rfl : oc = _ := hcl
    obtain rfl : odt = _ := hdt
    have ho' : (hpS w s).get? l = some { cls := .type "tuple", dict := od, data := .seq us nl, slots := os } := Heap.get?_push_of_some _ ho
    have f1 := F.sub_tuple_set
    have f2 := F.sub_tuple_frozenset
    have f3 : (Value.type "tuple" == Value.type "dict") = false := by decide
    have il : (hpS w s).IsTuple l us := ⟨_, ho', rfl, nl, rfl⟩
    have sz : (hpS w s).objs.size = s.heap.objs.size + 1 := Heap.size_push ..
    have ll : l < s.heap.objs.size := Heap.lt_size ho
    have nI : l ≠ (hpS w s).objs.size := Nat.ne_of_lt (by rw [sz]; exact Nat.lt_succ_of_lt ll)
    have nS : s.heap.objs.size ∉ [(hpS w s).objs.size, l] := by
      intro z
      rcases List.mem_cons.mp z with z | z
      · exact absurd (z.trans sz) (Nat.ne_of_lt (Nat.lt_succ_self _))
      · exact absurd (List.mem_singleton.mp z) (Nat.ne_of_gt ll)
    have a4 : A.in1.in1.in1.handled = none := by simp [hA]
    have vals : ∀ (i : Nat) (v : Value), us[i]? = some v → ∃ t, v = .str (xs.getD i Str.empty) t := fun i v hv => SS.strs_at hn i v ((Array.getElem?_toList ..).trans hv)
    unfold Builtin.«set.__init__» noKeywords Builtin.Frozenset.updateFrom
    generalize hPy : pyIter = PY
    wp_walk
    subst hPy
    refine wpAny_pyIter_tuple il ?_
    refine wpAny_bind (wpAny_runValue ?_)
    refine setS_update ((Walks.tuple a4 _ l nI us).toS) s.heap.objs.size nS xs lx hb vals (us.size - 0) 0 _ (by omega) (Nat.zero_le _) ⟨⟨_, Heap.get?_push_size _ rfl, rfl, rfl⟩, il.push _⟩ (setS_new (Heap.get?_push_of_some _ g0)) ?_
    rintro ⟨h', gg, dd, tk, oo⟩ mv R
    obtain rfl : gg = _ := mv.gens
    obtain rfl : dd = _ := mv.drawn
    obtain rfl : oo = _ := mv.os
    refine wpAny_pure (wpAny_pure ⟨rfl, h', tk, rfl, R, fun b o e => ?_⟩)
    have hlt : b < s.heap.objs.size := Heap.lt_size e
    refine mv.heap b o (fun z => ?_) (Heap.get?_push_of_some _ (Heap.get?_push_of_some _ e))
    rcases List.mem_cons.mp z with z | z
    · exact absurd z (Nat.ne_of_lt hlt)
    · exact absurd ((List.mem_singleton.mp z).trans sz) (Nat.ne_of_lt (Nat.lt_succ_of_lt hlt))
  · rcases r with e | fl
    · exact hr
    cases fl <;> first | exact hr.elim | skip
    obtain ⟨rfl, h', tk, rfl, hm⟩ := hr
    repeat (any_goals (first | assumption | wp_step))
    exact h _ _ hm
theorem strs_of : ∀ (l : List Value), (∀ v ∈ l, ∃ k tk, v = Value.str k tk) → ∃ ks, PyProof.Rows.StrsAre l ks
  | [], _ => ⟨[], .nil⟩
  | v :: l, h => by
    obtain ⟨k, tk, rfl⟩ := h v List.mem_cons_self
    obtain ⟨ks, r⟩ := strs_of l fun u hu => h u (List.mem_cons_of_mem _ hu)
    exact ⟨k :: ks, .cons k tk r⟩
theorem setS_sorted {a : Addr} {S : Str → Bool} {n : Nat} {Q : Value → Shared → Prop} (R : SetS P w s.heap a S n) (hh : A.handled = none) (h64 : n < 64)
    (hQ : ∀ s' p (out : Array Value) (c : Nat) (ks : List Str), (∀ b o, s.heap.get? b = some o → s'.heap.get? b = some o) → s'.gens = s.gens → s'.os = s.os → s.heap.objs.size ≤ p →
      s'.heap.get? p = some (seqObj "list" out c) → PyProof.Rows.StrsAre out.toList ks → ks.length = n → Q (.ref p) s') :
    wpAny (model P w) A (call (.builtin "sorted") [.ref a]) Q E s := by
  obtain ⟨o, es, ep, t, ho, hex, hd, g, hm, hb, hf, hn, hr, hl⟩ := R
  refine Calls.call_function_entry kind_sorted plain_sorted entry_sorted (args_sorted1 _) ?_
  unfold Builtin.«sorted»
  refine wpAny_bind (m := checkCount "sorted" 1 1 _) (wpAny_pure ?_)
  refine wpAny_bind (collect_set (A := A.in1) hh ⟨o, ho, hex.1, hd⟩ hf hb hr hl fun s1 vs k1 hz g1 o1 pm => ?_)
  have hvl : vs.length = n := by rw [pm.length_eq, List.length_map, Array.length_toList]; exact hn
  obtain ⟨ks, hI⟩ := strs_of vs fun v hv => by
    obtain ⟨e, he, q⟩ := List.mem_map.mp (pm.mem_iff.mp hv)
    obtain ⟨⟨k, h1, _⟩, _⟩ := g e he
    obtain ⟨tk, h2⟩ := Value.isStrOf_shape h1
    exact ⟨k, tk, by rw [← q]; exact h2⟩
  refine wpAny_bind (wpAny_newList ?_ (by rw [hvl, sizeLine_eq]; omega))
  have hoL : (s1.heap.push (seqObj "list" vs.toArray 0)).get? s1.heap.objs.size = some (seqObj "list" vs.toArray 0) := Heap.get?_push_size _ rfl
  refine wpAny_bind (wpAny_holding (wpAny_call_entry slot_list_sort ⟨_, hoL, rfl⟩ entry_list_sort (list_sort_treeK PyProof.Rows.strKind_oneLt hoL hI.keysOf (fun v₁ v₂ rest e => PyProof.Rows.keyKind_strs (by rw [← e]; exact hI)) (by rw [hvl]; exact h64) fun st' hp hs => ⟨_, rfl, ?_⟩) (args_list_sort _)))
  obtain ⟨ss', a1, a2, a3⟩ := PyProof.Rows.sorted_out_str hI hp hs
  obtain ⟨c, hc⟩ := sortedHeap_at (vs := vs) (out := (arrOf st').map (·.2)) hoL
  refine wpAny_pure ⟨_, rfl, hQ _ s1.heap.objs.size _ c ss' (fun b u e => ?_) g1 o1 hz hc a1 ?_⟩
  · have q := k1 b u e
    have hlt := Heap.lt_size q
    show (sortedHeap (s1.heap.push (seqObj "list" vs.toArray 0)) s1.heap.objs.size vs _).get? b = some u
    rw [sortedHeap_old (Nat.ne_of_lt hlt) (by rw [size_push']; exact Nat.lt_succ_of_lt hlt)]
    exact Heap.get?_push_of_some _ q
  · rw [a2.length_eq, ← PyProof.Rows.StrsAre.length hI]; exact hvl
end
end PL

namespace PL
open PySem PySem.Spec PyProof.Rows L2

/-! ## objects of own classes -/
theorem zip_look {K : PySem.W.Frag} {G : Hp} {f : Str} {d : D} : ∀ {ns : List Str} {ds : List D} {vs : List V}, Reps K G ds vs → (ns.zip ds).lookup f = some d → ∃ v, (ns.zip vs).lookup f = some v ∧ Rep K G d v
  | [], _, _, _, h => by cases h
  | _ :: _, [], _, .nil, h => by cases h
  | n :: ns, d' :: ds, _, .cons r t, h => by
    rw [List.zip_cons_cons, List.lookup_cons] at h
    rw [List.zip_cons_cons, List.lookup_cons]
    cases e : f == n with
    | true => rw [e] at h; cases h; exact ⟨_, rfl, r⟩
    | false => rw [e] at h; exact zip_look t h
theorem zip_none {f : Str} : ∀ {ns : List Str} {vs : List V}, f ∉ ns → (ns.zip vs).lookup f = none
  | [], _, _ => rfl
  | _ :: _, [], _ => rfl
  | n :: ns, v :: vs, h => by
    rw [List.zip_cons_cons, List.lookup_cons, show (f == n) = false by
      rw [beq_eq_false_iff_ne]; exact fun e => h (by rw [e]; exact List.mem_cons_self)]
    exact zip_none fun z => h (List.mem_cons_of_mem _ z)
def putN (f : Str) : List Str → List Str
  | [] => [f]
  | g :: ns => if g = f then g :: ns else g :: putN f ns
def putW {α : Type} (f : Str) (x : α) : List Str → List α → List α
  | g :: ns, y :: ys => if g = f then x :: ys else y :: putW f x ns ys
  | _, _ => [x]
theorem putF_zip (f : Str) (v : V) : ∀ (ns : List Str) (vs : List V), ns.length = vs.length → putF f v (ns.zip vs) = (putN f ns).zip (putW f v ns vs)
  | [], [], _ => rfl
  | [], _ :: _, h => by cases h
  | _ :: _, [], h => by cases h
  | n :: ns, u :: vs, h => by
    have ih := putF_zip f v ns vs (by simpa using h)
    show (if n = f then (n, v) :: ns.zip vs else (n, u) :: putF f v (ns.zip vs)) = _
    show _ = (if n = f then n :: ns else n :: putN f ns).zip (if n = f then v :: vs else u :: putW f v ns vs)
    by_cases e : n = f
    · rw [if_pos e, if_pos e, if_pos e]; rfl
    · rw [if_neg e, if_neg e, if_neg e, ih]; rfl
theorem putW_rep {K : PySem.W.Frag} {G : Hp} {f : Str} {d : D} {v : V} (r : Rep K G d v) : ∀ {ns : List Str} {ds : List D} {vs : List V}, Reps K G ds vs → Reps K G (putW f d ns ds) (putW f v ns vs)
  | [], [], _, .nil => .cons r .nil
  | [], _ :: _, _, .cons _ _ => .cons r .nil
  | _ :: _, [], _, .nil => .cons r .nil
  | n :: ns, e :: ds, _, .cons (v := u) (vs := us) a t => by
    show Reps K G (if n = f then d :: ds else e :: putW f d ns ds) (if n = f then v :: us else u :: putW f v ns us)
    by_cases q : n = f
    · rw [if_pos q, if_pos q]; exact .cons r t
    · rw [if_neg q, if_neg q]; exact .cons a (putW_rep r t)
theorem putW_len {f : Str} {d : D} : ∀ {ns : List Str} {ds : List D}, ns.length = ds.length → (putN f ns).length = (putW f d ns ds).length
  | [], [], _ => rfl
  | [], _ :: _, h => by cases h
  | _ :: _, [], h => by cases h
  | n :: ns, e :: ds, h => by
    have ih := putW_len (f := f) (d := d) (ns := ns) (ds := ds) (by simpa using h)
    show (if n = f then n :: ns else n :: putN f ns).length = (if n = f then d :: ds else e :: putW f d ns ds).length
    by_cases q : n = f
    · rw [if_pos q, if_pos q]; simpa using h
    · rw [if_neg q, if_neg q]; simpa using ih
def Ob.look (o : Ob) (f : Str) : Option D := (o.ns.zip o.ds).lookup f
def Ob.put (o : Ob) (f : Str) (d : D) : Ob := ⟨o.cn, putN f o.ns, putW f d o.ns o.ds⟩
theorem ObR.put {K : PySem.W.Frag} {G : Hp} {o : Ob} {z : (Addr × Addr) × List V} {f : Str} {d : D} {v : V} (h : ObR K G o z) (r : Rep K G d v) : ObR K G (o.put f d) (z.1, putW f v o.ns z.2) :=
  ⟨h.cls, putW_rep r h.rep, putW_len h.len⟩
theorem ObR.putF {K : PySem.W.Frag} {G : Hp} {o : Ob} {z : (Addr × Addr) × List V} {f : Str} {d : D} {v : V} (h : ObR K G o z) : putF f v (o.ns.zip z.2) = ((o.put f d).ns.zip (putW f v o.ns z.2)) :=
  putF_zip f v _ _ (h.len.trans h.rep.length)
/-- a class of the text -/
structure ClD (K : PySem.W.Frag) (cn : Str) (C : Addr) : Prop where
  at_ : PySem.W.nsIn K mainGlobals cn = some (some (.ref C))
  cl : Cls K C
theorem ClD.is {K : PySem.W.Frag} {cn : Str} {C C' : Addr} (c : ClD K cn C) (h : PySem.W.nsIn K mainGlobals cn = some (some (.ref C'))) : C' = C := by
  have := h.symm.trans c.at_
  cases this; rfl
/-- self.f -/
def eFld (cn : Str) (i : Nat) (f : Str) : DE := fun ρ => match ρ i with
  | some (.ob o) => if o.cn = cn then o.look f else none
  | some (.rb _ o) => if o.cn = cn then o.look f else none
  | _ => none
section
variable {X : Cx} {y f cn : Str} {C : Addr} {p pos : Pos}
theorem pu_fld (i : Nat) (c : ClD X.K cn C) (n : NoAttr X.K C f) (hN : X.N[i]? = some y := by rfl) (hv : Vis X.env.scope y := by first | exact Or.inl rfl | exact Or.inr (Or.inl rfl) | exact Or.inr (Or.inr rfl)) (hd : (y == ("__debug__" : Str)) = false := by decide)
    (hcd : (y == ("__classdict__" : Str)) = false := by decide) (hb : attributeBase (.Name y p) f X.env (eval (.Name y p) X.env) = eval (.Name y p) X.env := by rfl) : PuE X (.Attribute (.Name y p) f pos) (eFld cn i f) :=
  ⟨_, pe_fld (pe_var hN hv hd hcd) hb, fun ρ σ G H Q d l r q k => by
    unfold eFld at q
    cases z : ρ i with
    | none => rw [z] at q; cases q
    | some cc =>
      rw [z] at q
      cases cc with
      | ob o =>
        have q : (if o.cn = cn then o.look f else none) = some d := q
        split at q
        · rename_i e
          obtain ⟨v, h1, a, zz, rfl, hH, hr⟩ := r.at_ i _ z
          obtain ⟨u, hu, ru⟩ := zip_look hr.rep q
          have eC := c.is (by rw [← e]; exact hr.cls)
          exact ⟨_, h1, a, zz.1.1, zz.1.2, _, u, rfl, hH, by rw [eC]; exact c.cl, by rw [eC]; exact n, hu, k u G H (.refl l) ru⟩
        · cases q
      | rb b o =>
        have q : (if o.cn = cn then o.look f else none) = some d := q
        split at q
        · rename_i e
          obtain ⟨v, h1, rfl, zz, hH, hr⟩ := r.at_ i _ z
          obtain ⟨u, hu, ru⟩ := zip_look hr.rep q
          have eC := c.is (by rw [← e]; exact hr.cls)
          exact ⟨_, h1, b, zz.1.1, zz.1.2, _, u, rfl, hH, by rw [eC]; exact c.cl, by rw [eC]; exact n, hu, k u G H (.refl l) ru⟩
        · cases q
        | rf _ => cases q
      | p _ => cases q
      | ol _ => cases q
      | oll _ => cases q
      | od _ => cases q
      | oi _ => cases q⟩
/-- a constant of the class, read from the class: C.f -/
def sNo : DS := fun _ => none
theorem st_never {st : Stmt} : PuS X st sNo := ⟨fun _ _ _ => False, ⟨fun _ _ _ _ _ _ h => h.elim⟩, fun _ _ _ _ _ _ _ _ _ q _ => by cases q⟩
end

/-! ### methods that only read -/
def envM (a : Addr) (o : Ob) (ds : List D) : DEnv
  | 0 => some (.rb a o)
  | i + 1 => (ds[i]?).map .p
def fnM (n : Nat) (body : DS) (a : Addr) (o : Ob) (ds : List D) : Option D := if ds.length = n then (body (envM a o ds)).bind endD else none
def spR (K : PySem.W.Frag) (cn : Str) (M : Ob → List D → Option D) : Sp := fun vs H Q _ => ∃ G a o z ws ds d, vs = V.ref a :: ws ∧ Ex G H ∧ H a = some (.ins z.1.1 z.1.2 (o.ns.zip z.2)) ∧ ObR K G o z ∧ o.cn = cn ∧ Reps K G ds ws ∧ M o ds = some d ∧
  ∀ v G' H', Up G H G' H' → Rep K G' d v → Q v H'
theorem start_len1 {N : List Str} {a : V} {vs : List V} (h : vs.length + 1 ≤ N.length) : (L2.start N (a :: vs)).length = N.length := start_len (vs := a :: vs) (by simpa using h)
theorem start_srM {K : PySem.W.Frag} {N : List Str} {G H : Hp} {a : Addr} {o : Ob} {z : (Addr × Addr) × List V} {ds : List D} {vs : List V} (l : Ex G H) (ha : H a = some (.ins z.1.1 z.1.2 (o.ns.zip z.2))) (hz : ObR K G o z) (r : Reps K G ds vs) (h : vs.length + 1 ≤ N.length) :
    SR K N.length G H (envM a o ds) (L2.start N (.ref a :: vs)) G H := by
  have s0 : (L2.start N (.ref a :: vs))[0]? = some (some (.ref a)) := rfl
  have at0 : ∀ i c, envM a o ds i = some c → (i = 0 ∧ c = .rb a o) ∨ ∃ d v, c = .p d ∧ (L2.start N (.ref a :: vs))[i]? = some (some v) ∧ Rep K G d v := fun i c e => by
    cases i with
    | zero => cases e; exact .inl ⟨rfl, rfl⟩
    | succ i =>
      have e : (ds[i]?).map Cell.p = some c := e
      cases z : ds[i]? with
      | none => rw [z] at e; cases e
      | some d =>
        rw [z] at e; cases e
        obtain ⟨v, h1, h2⟩ := r.get z
        refine .inr ⟨d, v, rfl, ?_, h2⟩
        unfold L2.start
        have hi := (List.getElem?_eq_some_iff.mp h1).1
        rw [List.getElem?_append_left (by rw [List.length_map]; simp only [List.length_cons]; omega), List.getElem?_map, List.getElem?_cons_succ, h1]; rfl
  refine ⟨⟨start_len1 h, fun i c e => ?_⟩, .refl l, fun i c v e _ => ?_, fun i j c c' v v' x e _ _ _ f _ => ?_⟩
  · rcases at0 i c e with ⟨rfl, rfl⟩ | ⟨d, v, rfl, h1, h2⟩
    · exact ⟨_, s0, rfl, z, ha, hz⟩
    · exact ⟨v, h1, h2⟩
  · rcases at0 i c e with ⟨rfl, rfl⟩ | ⟨d, v, rfl, h1, h2⟩
    · exact ⟨_, ha⟩
    · trivial
  · rcases at0 i c e with ⟨rfl, rfl⟩ | ⟨d, v, rfl, h1, h2⟩ <;> exact f.elim
section
variable {P : Program} {w : World} {K : PySem.W.Frag} {mg : Str → Option Value} {base : Heap}
theorem methR_ok {x qual cn : Str} {st : Stmt} {f : Addr} {fd : FuncData} {N ps : List Str} {k n : Nat} {body : DS} {M : Ob → List D → Option D} (F : Fun K x qual st f fd) (S : FnScope N ps (defScope st)) (hn : ps.length = n + 1) (hl : ps.length ≤ N.length)
    (hM : ∀ a o ds d, o.cn = cn → M o ds = some d → fnM n body a o ds = some d)
    (hb : ∀ (cdv : Value) (A : Around) (outer : List Env) (s : Shared) (H : Hp) (E : XK), Room k (A.deeper (envOfC qual (defScope st) s.heap.objs.size f cdv)) →
      PuSs (cxOf CX0 P w K mg base N qual (defScope st) f cdv A outer s H E).nox (defBody st) body) : FnOk P w K mg base CX0 (k + 1) f fd ps (spR K cn M) := by
  refine F.ok S (fun vs H Q E h => ?_) (fun cdv A outer s H vs Q E hr h => ?_)
  · obtain ⟨G, a, o, z, ws, ds, d, rfl, l, _, _, hc, r, q, _⟩ := h
    have q := hM a o ds d hc q
    unfold fnM at q
    split at q
    · rename_i e
      rw [hn, ← e, r.length]; rfl
    · cases q
  · obtain ⟨G, a, o, z, ws, ds, d, rfl, l, ha, hz, hc, r, q, kq⟩ := h
    have q := hM a o ds d hc q
    unfold fnM at q
    split at q
    · rename_i e
      obtain ⟨t, a1, a2⟩ := (hb cdv A outer s H E hr).ex
      refine ⟨t, a1, ?_⟩
      cases zz : body (envM a o ds) with
      | none => rw [zz] at q; cases q
      | some rr =>
        rw [zz] at q
        have q : endD rr = some d := q
        refine a2 G H (envM a o ds) (L2.start N (.ref a :: ws)) G H _ rr (start_srM l ha hz r (by rw [← r.length, e, ← hn]; exact hl)) zz ?_
        cases rr with
        | nx ρ' => cases q; exact fun σ' G' H' s' _ => kq _ G' H' s'.up .non
        | rt d' => cases q; exact fun v G' H' u rv => kq v G' H' u rv
        | bk _ => cases q
        | ct _ => cases q
    · cases q
end
structure MtD (P : Program) (w : World) (K : PySem.W.Frag) (mg : Str → Option Value) (base : Heap) (k : Nat) (C : Addr) (m : Str) (sp : Sp) : Prop where
  ex : ∃ f, Meth K C m f ∧ FnR P w K mg base CX0 k f sp
/-- o.m(..), o an own object: read -/
def eMeth (cn : Str) (i : Nat) (m : Str) (M : Ob → List D → Option D) (fs : DL) : DE := fun ρ => (fs ρ).bind fun ds => match ρ i with
  | some (.ob o) => if o.cn = cn ∧ m ∉ o.ns then M o ds else none
  | _ => none
section
variable {X : Cx} {y m cn : Str} {C : Addr} {p ap pos : Pos} {e : Expr} {es : List Expr} {fs : DL} {M : Ob → List D → Option D} {k j : Nat}
theorem eMeth_some {i : Nat} {ρ : DEnv} {d : D} (q : eMeth cn i m M fs ρ = some d) : ∃ ds o, fs ρ = some ds ∧ ρ i = some (.ob o) ∧ o.cn = cn ∧ m ∉ o.ns ∧ M o ds = some d := by
  unfold eMeth at q
  cases z : fs ρ with
  | none => rw [z] at q; cases q
  | some ds =>
    rw [z] at q
    cases z2 : ρ i with
    | none => simp only [Option.bind_some, z2] at q; cases q
    | some c =>
      simp only [Option.bind_some, z2] at q
      cases c with
      | ob o =>
        have q : (if o.cn = cn ∧ m ∉ o.ns then M o ds else none) = some d := q
        split at q
        · rename_i h; exact ⟨ds, o, rfl, rfl, h.1, h.2, q⟩
        · cases q
      | rb _ _ => cases q
      | rf _ => cases q
      | p _ => cases q
      | ol _ => cases q
      | oll _ => cases q
      | od _ => cases q
      | oi _ => cases q
theorem pu_meth (i : Nat) (c : ClD X.K cn C) (h : MtD X.prog X.w X.K X.mg X.base j C m (spR X.K cn M)) (hr : Room k X.A) (ha : PuA X (e :: es) fs) (hjk : j ≤ k := by decide) (hN : X.N[i]? = some y := by rfl) (hv : Vis X.env.scope y := by first | exact Or.inl rfl | exact Or.inr (Or.inl rfl) | exact Or.inr (Or.inr rfl)) (hd : (y == ("__debug__" : Str)) = false := by decide)
    (hcd : (y == ("__classdict__" : Str)) = false := by decide) (hst : starEach (e :: es) X.env = (false, eval e X.env) :: starEach es X.env := by rfl) (hpl : (backTo pos (starEach es X.env)).any (·.1) = false := by rfl) {pl : Sem Bool}
    (ht : eval (.Call (.Attribute (.Name y p) m ap) (e :: es) [] pos) X.env = (do
      let ov ← eval (.Name y p) X.env
      standAt ap.atName
      let (f, first) ← holding [ov] (getMethod ov m pl)
      callWith pos f first (backTo pos (starEach (e :: es) X.env)) (backToKw pos (keywordEach [] X.env))) := by rfl) : PuE X (.Call (.Attribute (.Name y p) m ap) (e :: es) [] pos) (eMeth cn i m M fs) :=
  let ⟨f, b1, b2⟩ := h.ex; let ⟨_, a1, a2⟩ := ha.ex; ⟨_, pe_methR (pl := pl) (pe_var hN hv hd hcd) c.cl b1 (b2.mono hjk) hr pass0 a1 hst hpl ht, fun ρ σ G H Q d l r q kk => by
    obtain ⟨ds, o, q1, z, hcn, hm, q2⟩ := eMeth_some q
    obtain ⟨v, h1, a, zz, rfl, hH, hz⟩ := r.at_ i _ z
    have eC := c.is (by rw [← hcn]; exact hz.cls)
    refine ⟨_, h1, a, zz.1.2, _, rfl, by rw [← eC]; exact hH, zip_none hm, ?_⟩
    refine a2 ρ σ G H _ ds l r q1 fun vs G1 H1 u1 rvs => ?_
    exact ⟨G1, a, o, zz, vs, ds, d, rfl, u1.le, u1.h _ _ hH, hz.mono u1.g, hcn, rvs, q2, fun v G2 H2 u2 rv => kk v G2 H2 (u1.trans u2) rv⟩⟩
end
structure PrD (P : Program) (w : World) (K : PySem.W.Frag) (mg : Str → Option Value) (base : Heap) (k : Nat) (C : Addr) (m : Str) (sp : Sp) : Prop where
  ex : ∃ p g fd ps, PropOf K C m p g ∧ FnOk P w K mg base CX0 k g fd ps sp ∧ Binds K fd ps []
/-- o.f, a property of an own object -/
def eProp (cn : Str) (i : Nat) (M : Ob → List D → Option D) : DE := fun ρ => match ρ i with
  | some (.ob o) => if o.cn = cn then M o [] else none
  | _ => none
section
variable {X : Cx} {y f cn : Str} {C : Addr} {p pos : Pos} {M : Ob → List D → Option D} {k j : Nat}
theorem eProp_some {i : Nat} {ρ : DEnv} {d : D} (q : eProp cn i M ρ = some d) : ∃ o, ρ i = some (.ob o) ∧ o.cn = cn ∧ M o [] = some d := by
  unfold eProp at q
  cases z2 : ρ i with
  | none => rw [z2] at q; cases q
  | some c =>
    rw [z2] at q
    cases c with
    | ob o =>
      have q : (if o.cn = cn then M o [] else none) = some d := q
      split at q
      · rename_i h; exact ⟨o, rfl, h, q⟩
      · cases q
    | rb _ _ => cases q
    | rf _ => cases q
    | p _ => cases q
    | ol _ => cases q
    | oll _ => cases q
    | od _ => cases q
    | oi _ => cases q
theorem pu_prop (i : Nat) (c : ClD X.K cn C) (h : PrD X.prog X.w X.K X.mg X.base j C f (spR X.K cn M)) (hr : Room k X.A) (hjk : j + 1 ≤ k := by decide) (hN : X.N[i]? = some y := by rfl) (hv : Vis X.env.scope y := by first | exact Or.inl rfl | exact Or.inr (Or.inl rfl) | exact Or.inr (Or.inr rfl)) (hd : (y == ("__debug__" : Str)) = false := by decide)
    (hcd : (y == ("__classdict__" : Str)) = false := by decide) (hb : attributeBase (.Name y p) f X.env (eval (.Name y p) X.env) = eval (.Name y p) X.env := by rfl) : PuE X (.Attribute (.Name y p) f pos) (eProp cn i M) :=
  let ⟨_, g, fd, ps, b1, b2, b3⟩ := h.ex; ⟨_, pe_prop (pe_var hN hv hd hcd) c.cl b1 b2 (hr.mono hjk) b3 .nil pass0 hb, fun ρ σ G H Q d l r q kk => by
    obtain ⟨o, z, hcn, q2⟩ := eProp_some q
    obtain ⟨v, h1, a, zz, rfl, hH, hz⟩ := r.at_ i _ z
    have eC := c.is (by rw [← hcn]; exact hz.cls)
    exact ⟨_, h1, a, zz.1.2, _, rfl, by rw [← eC]; exact hH, G, a, o, zz, [], [], d, rfl, l, hH, hz, hcn, .nil, q2, kk⟩⟩
end
end PL

namespace PL
open PySem PySem.Spec PyProof.Rows L2

/-! ## methods that change their object -/
def del (H : Hp) (a : Addr) : Hp := fun x => if x = a then none else H x
theorem del_ne {H : Hp} {a x : Addr} (h : x ≠ a) : del H a x = H x := if_neg h
theorem del_some {H : Hp} {a x : Addr} {u : HO} (h : del H a x = some u) : x ≠ a ∧ H x = some u := by
  unfold del at h
  split at h
  · cases h
  · rename_i e; exact ⟨e, h⟩
/-- all but the object at a grows -/
structure UpW (G H G' H' : Hp) (a : Addr) : Prop where
  g : Ex G G'
  h : ∀ x u, x ≠ a → H x = some u → H' x = some u
  le : Ex G' H'
  new : ∀ x u, H x = some u → G x = none → G' x = none
  st : ∃ u, H' a = some u
theorem UpW.refl {G H : Hp} {a : Addr} {u : HO} (l : Ex G H) (ha : H a = some u) : UpW G H G H a := ⟨.refl G, fun _ _ _ h => h, l, fun _ _ _ n => n, _, ha⟩
theorem UpW.up {G H G1 H1 G2 H2 : Hp} {a : Addr} (x : UpW G H G1 H1 a) (y : Up G1 H1 G2 H2) : UpW G H G2 H2 a :=
  ⟨x.g.trans y.g, fun b u hb e => y.h _ _ (x.h b u hb e), y.le, fun b u e n => by
    by_cases hb : b = a
    · subst hb
      obtain ⟨u', hu⟩ := x.st
      exact y.new _ _ hu (x.new _ _ e n)
    · exact y.new _ _ (x.h b u hb e) (x.new _ _ e n), by obtain ⟨u, hu⟩ := x.st; exact ⟨u, y.h _ _ hu⟩⟩
/-- the object at a is written anew -/
theorem UpW.put {G H G1 H1 : Hp} {a : Addr} {o : HO} (x : UpW G H G1 H1 a) (n : G1 a = none) : UpW G H G1 (upd H1 a o) a :=
  ⟨x.g, fun b u hb e => by rw [upd_ne hb]; exact x.h b u hb e, x.le.updR n, x.new, ⟨_, upd_same⟩⟩
/-- the state of such a body: self at a, else only pure things -/
structure SRw (K : PySem.W.Frag) (nn : Nat) (a : Addr) (G0 H0 : Hp) (ρ : DEnv) (σ : L2.St) (G H : Hp) : Prop where
  er : ER K nn ρ σ G H
  up : UpW G0 H0 G H a
  na : G a = none
  pl : ∀ i c, ρ i = some c → (∃ d, c = .p d) ∨ ∃ o, i = 0 ∧ c = .rb a o
def restr (a : Addr) (ρ : DEnv) : DEnv := fun i => match ρ i with
  | some (.p d) => some (.p d)
  | some (.rb b o) => if i = 0 ∧ b = a then some (.rb b o) else none
  | _ => none
theorem restr_some {a : Addr} {ρ : DEnv} {i : Nat} {c : Cell} (h : restr a ρ i = some c) : ρ i = some c ∧ ((∃ d, c = .p d) ∨ ∃ o, i = 0 ∧ c = .rb a o) := by
  unfold restr at h
  split at h
  · rename_i d e; cases h; exact ⟨e, .inl ⟨d, rfl⟩⟩
  · rename_i b o e
    split at h
    · rename_i hh; cases h; obtain ⟨h1, rfl⟩ := hh; exact ⟨e, .inr ⟨o, h1, rfl⟩⟩
    · cases h
  · cases h
theorem SRw.sr {K : PySem.W.Frag} {nn : Nat} {a : Addr} {G0 H0 G H : Hp} {ρ : DEnv} {σ : L2.St} (s : SRw K nn a G0 H0 ρ σ G H) : SR K nn G H ρ σ G H := by
  refine ⟨s.er, .refl s.up.le, fun i c v h1 h2 => ?_, fun i j c c' v v' x h1 _ _ _ f _ => ?_⟩
  · rcases s.pl i c h1 with ⟨d, rfl⟩ | ⟨o, rfl, rfl⟩
    · trivial
    · obtain ⟨w, _, _, z, hz, _⟩ := s.er.at_ 0 _ h1
      exact ⟨_, hz⟩
  · rcases s.pl i c h1 with ⟨d, rfl⟩ | ⟨o, rfl, rfl⟩ <;> exact f.elim
theorem SRw.of {K : PySem.W.Frag} {nn : Nat} {a : Addr} {G0 H0 G H G' H' : Hp} {ρ ρ' : DEnv} {σ σ' : L2.St} (s : SRw K nn a G0 H0 ρ σ G H) (s' : SR K nn G H ρ' σ' G' H') : SRw K nn a G0 H0 (restr a ρ') σ' G' H' where
  er := ⟨s'.er.len, fun i c e => s'.er.at_ i c (restr_some e).1⟩
  up := s.up.up s'.up
  na := by obtain ⟨u, hu⟩ := s.up.st; exact s'.up.new _ _ hu s.na
  pl := fun i c e => (restr_some e).2
abbrev DM := DEnv → Option (Ob × D)
/-- what is handed on at the end -/
def EndW (K : PySem.W.Frag) (a : Addr) (G0 H0 : Hp) (o' : Ob) (d : D) (Q : VK) : Prop := ∀ v G' H' (z' : (Addr × Addr) × List V), UpW G0 H0 G' H' a → H' a = some (.ins z'.1.1 z'.1.2 (o'.ns.zip z'.2)) → ObR K G' o' z' → Rep K G' d v → Q v H'
def TMok (K : PySem.W.Frag) (nn : Nat) (t : TS) (g : DM) : Prop := ∀ a G0 H0 ρ σ G H (Q : VK) o' d, SRw K nn a G0 H0 ρ σ G H → g ρ = some (o', d) → EndW K a G0 H0 o' d Q → t { nx := fun _ H' => Q .non H', rt := Q } σ H
structure PmSs (X : Cx) (sts : List Stmt) (g : DM) : Prop where
  ex : ∃ t, PSs X sts t ∧ TMok X.K X.N.length t g
def selfO (ρ : DEnv) : Option (Addr × Ob) := match ρ 0 with | some (.rb a o) => some (a, o) | _ => none
theorem selfO_some {ρ : DEnv} {a : Addr} {o : Ob} (h : selfO ρ = some (a, o)) : ρ 0 = some (.rb a o) := by
  unfold selfO at h
  split at h
  · rename_i e; cases h; exact e
  · cases h
def mEnd : DM := fun ρ => (selfO ρ).map fun x => (x.2, .non)
def mRet (e : DE) : DM := fun ρ => (e ρ).bind fun d => (selfO ρ).map fun x => (x.2, d)
def mPut (cn f : Str) (e : DE) (g : DM) : DM := fun ρ => (e ρ).bind fun d => (selfO ρ).bind fun x => if x.2.cn = cn ∧ x.2.ns.length < 1000 then g (ρ.set 0 (.rb x.1 (x.2.put f d))) else none
def mPre (b : DS) (g : DM) : DM := fun ρ => (b ρ).bind fun r => match r with
  | .nx ρ' => (selfO ρ).bind fun x => g (restr x.1 ρ')
  | _ => none
section
variable {X : Cx} {st : Stmt} {rest : List Stmt} {g : DM} {b : DS} {e : Expr} {fe : DE} {pos pos' p : Pos}
theorem SRw.self {K : PySem.W.Frag} {nn : Nat} {a : Addr} {G0 H0 G H : Hp} {ρ : DEnv} {σ : L2.St} {x : Addr × Ob} (s : SRw K nn a G0 H0 ρ σ G H) (h : selfO ρ = some x) : x.1 = a ∧ ρ 0 = some (.rb a x.2) ∧ σ[0]? = some (some (.ref a)) ∧ ∃ z, H a = some (.ins z.1.1 z.1.2 (x.2.ns.zip z.2)) ∧ ObR K G x.2 z := by
  have h0 := selfO_some h
  rcases s.pl _ _ h0 with ⟨d, e⟩ | ⟨o, _, e⟩
  · cases e
  · injection e with e1 e2
    obtain ⟨w, h1, h2, z, h3, h4⟩ := s.er.at_ 0 _ h0
    rw [h2] at h1
    rw [e1] at h0 h1 h3
    exact ⟨e1, h0, h1, z, h3, h4⟩
theorem mm_nil : PmSs X [] mEnd := ⟨_, pss_nil, fun a G0 H0 ρ σ G H Q o' d s q k => by
  unfold mEnd at q
  cases z : selfO ρ with
  | none => rw [z] at q; cases q
  | some x =>
    rw [z] at q; cases q
    obtain ⟨_, _, _, zz, h1, h2⟩ := s.self z
    exact k _ G H zz s.up h1 h2 .non⟩
theorem mm_ret (he : PuE X e fe) : PmSs X [.Return (some e) pos] (mRet fe) := let ⟨_, a1, a2⟩ := he.ex; ⟨_, pss_one (ps_ret a1), fun a G0 H0 ρ σ G H Q o' d s q k => by
  unfold mRet at q
  cases z : fe ρ with
  | none => rw [z] at q; cases q
  | some d' =>
    rw [z] at q
    cases z2 : selfO ρ with
    | none => simp only [Option.bind_some, z2] at q; cases q
    | some x =>
      simp only [Option.bind_some, z2] at q; cases q
      refine a2 ρ σ G H _ _ s.up.le s.er z fun v G' H' u rv => ?_
      obtain ⟨_, _, _, zz, h1, h2⟩ := s.self z2
      exact k _ G' H' zz (s.up.up u) (u.h _ _ h1) (h2.mono u.g) rv⟩
theorem mm_pre (h : PuS X st b) (h2 : PmSs X rest g) : PmSs X (st :: rest) (mPre b g) := let ⟨_, a1, a2⟩ := h.ex; let ⟨_, b1, b2⟩ := h2.ex; ⟨_, pss_cons a1 b1, fun a G0 H0 ρ σ G H Q o' d s q k => by
  unfold mPre at q
  cases z : b ρ with
  | none => rw [z] at q; cases q
  | some r =>
    rw [z] at q
    cases r with
    | nx ρ' =>
      cases z2 : selfO ρ with
      | none => simp only [Option.bind_some, z2] at q; cases q
      | some x =>
        simp only [Option.bind_some, z2] at q
        obtain ⟨e1, _⟩ := s.self z2
        rw [e1] at q
        refine a2 G H ρ σ G H _ _ s.sr z ?_
        exact fun σ' G' H' s' _ => b2 a G0 H0 _ σ' G' H' Q o' d (s.of s') q k
    | rt _ => cases q
    | bk _ => cases q
    | ct _ => cases q⟩
theorem mm_put {cn f : Str} {C : Addr} (c : ClD X.K cn C) (n : NoAttr X.K C f) (he : PuE X e fe) (h2 : PmSs X rest g) (hN : X.N[0]? = some ("self" : Str) := by rfl) (hv : Vis X.env.scope "self" := by first | exact Or.inl rfl | exact Or.inr (Or.inl rfl) | exact Or.inr (Or.inr rfl))
    (hs : swapsWith e (some (.Attribute (.Name "self" p) f pos')) pos.line X.env = pure false := by rfl) : PmSs X (.Assign [.Attribute (.Name "self" p) f pos'] e pos :: rest) (mPut cn f fe g) :=
  let ⟨_, a1, a2⟩ := he.ex; let ⟨_, b1, b2⟩ := h2.ex; ⟨_, pss_cons (ps_fld (pe_var hN hv) a1 hs) b1, fun a G0 H0 ρ σ G H Q o' d s q k => by
  unfold mPut at q
  cases z : fe ρ with
  | none => rw [z] at q; cases q
  | some d' =>
    rw [z] at q
    cases z2 : selfO ρ with
    | none => simp only [Option.bind_some, z2] at q; cases q
    | some x =>
      simp only [Option.bind_some, z2] at q
      split at q
      · rename_i hc
        obtain ⟨e1, hρ, hσ, zz, h1, h3⟩ := s.self z2
        have eC := c.is (by rw [← hc.1]; exact h3.cls)
        refine a2 ρ σ G H _ d' s.up.le s.er z fun v G' H' u rv => ?_
        have h1' := u.h _ _ h1
        have h3' := h3.mono u.g
        have na' : G' a = none := u.new _ _ h1 s.na
        have hlen : (x.2.ns.zip zz.2).length < 1000 := by rw [List.length_zip]; omega
        refine ⟨_, hσ, a, zz.1.1, zz.1.2, _, rfl, h1', by rw [eC]; exact c.cl, by rw [eC]; exact n, hlen, ?_⟩
        refine b2 a G0 H0 _ σ G' _ Q o' d ⟨⟨s.er.len, fun i cc e => ?_⟩, (s.up.up u).put na', na', fun i cc e => ?_⟩ q k
        · by_cases hi : i = 0
          · subst hi
            rw [DEnv.set_self] at e; cases e
            exact ⟨_, hσ, by rw [e1], (zz.1, putW f v x.2.ns zz.2), by rw [e1, upd_same, h3'.putF], h3'.put rv⟩
          · rw [DEnv.set_ne _ _ hi] at e
            obtain ⟨w, g1, g2⟩ := s.er.at_ i cc e
            rcases s.pl i cc e with ⟨dd, rfl⟩ | ⟨o, rfl, rfl⟩
            · exact ⟨w, g1, Rep.mono u.g g2⟩
            · exact absurd rfl hi
        · by_cases hi : i = 0
          · subst hi
            rw [DEnv.set_self] at e; cases e
            exact .inr ⟨_, rfl, by rw [e1]⟩
          · rw [DEnv.set_ne _ _ hi] at e
            exact s.pl i cc e
      · cases q⟩
end
/-! ### the promise -/
def fnW (n : Nat) (body : DM) (a : Addr) (o : Ob) (ds : List D) : Option (Ob × D) := if ds.length = n then body (envM a o ds) else none
def spW (K : PySem.W.Frag) (cn : Str) (M : Ob → List D → Option (Ob × D)) : Sp := fun vs H Q _ => ∃ G a o z ws ds o' d, vs = V.ref a :: ws ∧ Ex G H ∧ G a = none ∧ H a = some (.ins z.1.1 z.1.2 (o.ns.zip z.2)) ∧ ObR K G o z ∧ o.cn = cn ∧ Reps K G ds ws ∧ M o ds = some (o', d) ∧ EndW K a G H o' d Q
theorem start_srw {K : PySem.W.Frag} {N : List Str} {G H : Hp} {a : Addr} {o : Ob} {z : (Addr × Addr) × List V} {ds : List D} {vs : List V} (l : Ex G H) (na : G a = none) (ha : H a = some (.ins z.1.1 z.1.2 (o.ns.zip z.2))) (hz : ObR K G o z) (r : Reps K G ds vs) (h : vs.length + 1 ≤ N.length) :
    SRw K N.length a G H (envM a o ds) (L2.start N (.ref a :: vs)) G H where
  er := (start_srM l ha hz r h).er
  up := .refl l ha
  na := na
  pl := fun i c e => by
    cases i with
    | zero => cases e; exact .inr ⟨o, rfl, rfl⟩
    | succ i =>
      have e : (ds[i]?).map Cell.p = some c := e
      cases zz : ds[i]? with
      | none => rw [zz] at e; cases e
      | some d => rw [zz] at e; cases e; exact .inl ⟨d, rfl⟩
section
variable {P : Program} {w : World} {K : PySem.W.Frag} {mg : Str → Option Value} {base : Heap}
theorem methW_ok {x qual cn : Str} {st : Stmt} {f : Addr} {fd : FuncData} {N ps : List Str} {k n : Nat} {body : DM} {M : Ob → List D → Option (Ob × D)} (F : Fun K x qual st f fd) (S : FnScope N ps (defScope st)) (hn : ps.length = n + 1) (hl : ps.length ≤ N.length)
    (hM : ∀ a o ds r, o.cn = cn → M o ds = some r → fnW n body a o ds = some r)
    (hb : ∀ (cdv : Value) (A : Around) (outer : List Env) (s : Shared) (H : Hp) (E : XK), Room k (A.deeper (envOfC qual (defScope st) s.heap.objs.size f cdv)) →
      PmSs (cxOf CX0 P w K mg base N qual (defScope st) f cdv A outer s H E).nox (defBody st) body) : FnOk P w K mg base CX0 (k + 1) f fd ps (spW K cn M) := by
  refine F.ok S (fun vs H Q E h => ?_) (fun cdv A outer s H vs Q E hr h => ?_)
  · obtain ⟨G, a, o, z, ws, ds, o', d, rfl, l, _, _, _, hc, r, q, _⟩ := h
    have q := hM a o ds _ hc q
    unfold fnW at q
    split at q
    · rename_i e
      rw [hn, ← e, r.length]; rfl
    · cases q
  · obtain ⟨G, a, o, z, ws, ds, o', d, rfl, l, na, ha, hz, hc, r, q, kq⟩ := h
    have q := hM a o ds _ hc q
    unfold fnW at q
    split at q
    · rename_i e
      obtain ⟨t, a1, a2⟩ := (hb cdv A outer s H E hr).ex
      exact ⟨t, a1, a2 a G H _ _ G H Q o' d (start_srw l na ha hz r (by rw [← r.length, e, ← hn]; exact hl)) q kq⟩
    · cases q
/-- def m(self, *v) -/
def starM (M : Ob → List D → Option (Ob × D)) : Ob → List D → Option (Ob × D) := fun o ds => if ds.length ≤ 1000 then M o [.tup ds] else none
theorem methWS_ok {x qual cn pv : Str} {st : Stmt} {f : Addr} {fd : FuncData} {N : List Str} {k : Nat} {body : DM} {M : Ob → List D → Option (Ob × D)} (F : Fun K x qual st f fd) (S : FnScope N ["self", pv] (defScope st)) (hl : 2 ≤ N.length)
    (h0 : ∀ (kV doc pm : Value) (an : Option Addr) (cdv ct : Value) (a : Value), bindArgs (PySem.W.fnOf x qual (defArgs st) (defBody st) (defScope st) .none kV doc pm an cdv ct) ⟨[a], []⟩ = (newTuple [] >>= fun t => pure [(("self" : Str), a), (pv, t)]))
    (h1 : ∀ (kV doc pm : Value) (an : Option Addr) (cdv ct : Value) (a r : Value) (rs : List Value), bindArgs (PySem.W.fnOf x qual (defArgs st) (defBody st) (defScope st) .none kV doc pm an cdv ct) ⟨a :: r :: rs, []⟩ = (newTuple (r :: rs) >>= fun t => pure [(("self" : Str), a), (pv, t)]))
    (hM : ∀ a o ds r, o.cn = cn → M o ds = some r → fnW 1 body a o ds = some r)
    (hb : ∀ (cdv : Value) (A : Around) (outer : List Env) (s : Shared) (H : Hp) (E : XK), Room k (A.deeper (envOfC qual (defScope st) s.heap.objs.size f cdv)) →
      PmSs (cxOf CX0 P w K mg base N qual (defScope st) f cdv A outer s H E).nox (defBody st) body) : FnR P w K mg base CX0 (k + 1) f (spW K cn (starM M)) := by
  obtain ⟨oc, od, kV, doc, pm, an, cdv, ct, osl, rfl, lk, hcd⟩ := F.ex
  have R := StX.fn_star (CX := CX0) (P := P) (w := w) (mg := mg) (base := base) (k := k) (ps := ["self"]) (sp := spW K cn M) lk hcd S StX.cxUp_none (StX.bind_star1 (B := fun us => bindArgs (PySem.W.fnOf x qual (defArgs st) (defBody st) (defScope st) .none kV doc pm an cdv ct) ⟨us, []⟩) (h0 kV doc pm an cdv ct) (h1 kV doc pm an cdv ct))
    (fun A outer s H vs Q E hr h => by
      obtain ⟨G, a, o, z, ws, ds, o', d, rfl, l, na, ha, hz, hc, r, q, kq⟩ := h
      have q := hM a o ds _ hc q
      unfold fnW at q
      split at q
      · rename_i e
        obtain ⟨t, a1, a2⟩ := (hb cdv A outer s H E hr).ex
        exact ⟨t, a1.nox, a2 a G H _ _ G H Q o' d (start_srw l na ha hz r (by rw [← r.length, e]; exact hl)) q kq⟩
      · cases q)
  refine R.imp fun vs H Q E h => ?_
  obtain ⟨G, a, o, z, ws, ds, o', d, rfl, l, na, ha, hz, hc, r, q, kq⟩ := h
  unfold starM at q
  split at q
  · rename_i hd
    refine ⟨[.ref a], ws, rfl, rfl, by rw [sizeLine_eq, ← r.length]; omega, fun p hp => ?_⟩
    have gp : G p = none := l.free hp
    have pa : p ≠ a := fun e => by rw [e, ha] at hp; cases hp
    refine ⟨upd G p (.tup ws), a, o, z, [.ref p], [.tup ds], o', d, rfl, l.upd2, by rw [upd_ne pa.symm]; exact na, by rw [upd_ne pa.symm]; exact ha, hz.mono (.new gp), hc, .cons (.tup upd_same (r.mono (.new gp))) .nil, q, fun v G' H' z' u h1 h2 h3 => ?_⟩
    refine kq v G' H' z' ⟨(Ex.new gp).trans u.g, fun y w' hy e => u.h y w' hy (by rw [upd_ne (ne_of_none e hp)]; exact e), u.le, fun y w' e n => u.new y w' (by rw [upd_ne (ne_of_none e hp)]; exact e) (by rw [upd_ne (ne_of_none e hp)]; exact n), u.st⟩ h1 h2 h3
  · cases q
end
/-! ### in the caller -/
/-- o.m(..) as a statement -/
def sMeth (cn : Str) (i : Nat) (m : Str) (M : Ob → List D → Option (Ob × D)) (fs : DL) : DS := fun ρ => (fs ρ).bind fun ds => match ρ i with
  | some (.ob o) => if o.cn = cn ∧ m ∉ o.ns then (M o ds).map fun r => .nx (ρ.set i (.ob r.1)) else none
  | _ => none
/-- y = C(..) -/
def sMake (cn : Str) (i : Nat) (M : Ob → List D → Option (Ob × D)) (fs : DL) : DS := fun ρ => (fs ρ).bind fun ds => (M ⟨cn, [], []⟩ ds).bind fun r => match r.2 with
  | .non => some (.nx (ρ.set i (.ob r.1)))
  | _ => none
theorem SR.meth {K : PySem.W.Frag} {nn : Nat} {G0 H0 G H G' H' : Hp} {ρ : DEnv} {σ : L2.St} {i : Nat} {a : Addr} {o o' : Ob} {z' : (Addr × Addr) × List V} (s : SR K nn G0 H0 ρ σ G H) (h0 : ρ i = some (.ob o)) (hv : σ[i]? = some (some (.ref a))) (u : UpW G H G' H' a) (h1 : H' a = some (.ins z'.1.1 z'.1.2 (o'.ns.zip z'.2))) (h2 : ObR K G' o' z') :
    SR K nn G0 H0 (ρ.set i (.ob o')) σ G' H' := by
  have hi := s.er.lt h0
  have own := s.own i _ _ h0 hv a rfl
  obtain ⟨w, e1, b, zz, e2, hb, -⟩ := s.er.at_ i _ h0
  rw [hv] at e1
  cases e1
  cases e2
  have na : G' a = none := u.new _ _ hb own.1
  have H2e : ∃ H2 : Hp, H2 = fun x => if x = a then H a else H' x := ⟨_, rfl⟩
  obtain ⟨H2, hH2⟩ := H2e
  have h2a : H2 a = H a := by rw [hH2]; exact if_pos rfl
  have h2n : ∀ x, x ≠ a → H2 x = H' x := fun x hx => by rw [hH2]; exact if_neg hx
  have up : Up G H G' H2 := ⟨u.g, fun x v e => by
    by_cases hx : x = a
    · subst hx; rw [h2a]; exact e
    · rw [h2n x hx]; exact u.h x v hx e, fun x v e => by
    by_cases hx : x = a
    · subst hx; rw [na] at e; cases e
    · rw [h2n x hx]; exact u.le x v e, u.new⟩
  have s2 := s.step up
  have eH : upd H2 a (.ins z'.1.1 z'.1.2 (o'.ns.zip z'.2)) = H' := by
    funext x
    by_cases hx : x = a
    · subst hx; rw [upd_same, h1]
    · rw [upd_ne hx, h2n x hx]
  have r := s2.write (c := .ob o') (o := .ins z'.1.1 z'.1.2 (o'.ns.zip z'.2)) hi h0 hv rfl ⟨na, own.2⟩ ⟨a, z', rfl, upd_same, h2⟩ (fun b eb => by cases eb; exact ⟨na, own.2⟩) (fun b f => f) (fun _ _ _ _ _ _ => trivial)
  rw [eH] at r
  exact r
section
variable {X : Cx} {y m cn : Str} {C : Addr} {p ap cp pos pos' : Pos} {e : Expr} {es : List Expr} {fs : DL} {M : Ob → List D → Option (Ob × D)} {k j : Nat}
theorem st_meth (i : Nat) (c : ClD X.K cn C) (h : MtD X.prog X.w X.K X.mg X.base j C m (spW X.K cn M)) (hr : Room k X.A) (ha : PuA X (e :: es) fs) (hjk : j ≤ k := by decide) (hN : X.N[i]? = some y := by rfl) (hv : Vis X.env.scope y := by first | exact Or.inl rfl | exact Or.inr (Or.inl rfl) | exact Or.inr (Or.inr rfl)) (hd : (y == ("__debug__" : Str)) = false := by decide)
    (hcd : (y == ("__classdict__" : Str)) = false := by decide) (hs : swapsWith (.Call (.Attribute (.Name y p) m ap) (e :: es) [] cp) none pos.line X.env = pure false := by rfl) (hst : starEach (e :: es) X.env = (false, eval e X.env) :: starEach es X.env := by rfl) (hpl : (backTo cp (starEach es X.env)).any (·.1) = false := by rfl) {pl : Sem Bool}
    (ht : eval (.Call (.Attribute (.Name y p) m ap) (e :: es) [] cp) X.env = (do
      let ov ← eval (.Name y p) X.env
      standAt ap.atName
      let (f, first) ← holding [ov] (getMethod ov m pl)
      callWith cp f first (backTo cp (starEach (e :: es) X.env)) (backToKw cp (keywordEach [] X.env))) := by rfl) : PuS X (.Expr (.Call (.Attribute (.Name y p) m ap) (e :: es) [] cp) pos) (sMeth cn i m M fs) :=
  let ⟨f, b1, b2⟩ := h.ex; let ⟨_, a1, a2⟩ := ha.ex; ⟨_, ps_expr (pe_methR (pl := pl) (pe_var hN hv hd hcd) c.cl b1 (b2.mono hjk) hr pass0 a1 hst hpl ht) hs, fun G0 H0 ρ σ G H E r s q kk => by
    unfold sMeth at q
    cases z : fs ρ with
    | none => rw [z] at q; cases q
    | some ds =>
      rw [z] at q
      cases z2 : ρ i with
      | none => simp only [Option.bind_some, z2] at q; cases q
      | some cc =>
        simp only [Option.bind_some, z2] at q
        cases cc with
        | ob o =>
          have q : (if o.cn = cn ∧ m ∉ o.ns then (M o ds).map fun r => DRes.nx (ρ.set i (.ob r.1)) else none) = some r := q
          split at q
          · rename_i hc
            cases z3 : M o ds with
            | none => rw [z3] at q; cases q
            | some rr =>
              rw [z3] at q; cases q
              obtain ⟨v, h1, a, zz, rfl, hH, hz⟩ := s.er.at_ i _ z2
              have eC := c.is (by rw [← hc.1]; exact hz.cls)
              refine ⟨_, h1, a, zz.1.2, _, rfl, by rw [← eC]; exact hH, zip_none hc.2, ?_⟩
              refine a2 ρ σ G H _ ds s.up.le s.er z fun vs G1 H1 u1 rvs => ?_
              have s1 := s.step u1
              have own := s1.own i _ _ z2 h1 a rfl
              exact ⟨G1, a, o, zz, vs, ds, rr.1, rr.2, rfl, u1.le, own.1, u1.h _ _ hH, hz.mono u1.g, hc.1, rvs, z3, fun v G2 H2 z' u2 g1 g2 g3 => kk σ G2 H2 (s1.meth z2 h1 u2 g1 g2) (u1.g.trans u2.g)⟩
          · cases q
        | rb _ _ => cases q
        | rf _ => cases q
        | p _ => cases q
        | ol _ => cases q
        | oll _ => cases q
        | od _ => cases q
        | oi _ => cases q⟩
theorem st_make {f : Addr} (i : Nat) (c : ClD X.K cn C) (Mk0 : Mk X.K C f) (h : FnR X.prog X.w X.K X.mg X.base CX0 j f (spW X.K cn M)) (hm : X.mg cn = some (.ref C)) (hr : Room k X.A) (ha : PuA X (e :: es) fs) (hND : X.N.Nodup) (hjk : j + 1 ≤ k := by decide) (hg : Gl X cn := by rfl)
    (hN : X.N[i]? = some y := by rfl) (hx : Loc X.env.scope y := by first | exact .inl rfl | exact .inr rfl) (hdb : (cn == ("__debug__" : Str)) = false := by decide) (hst : starEach (e :: es) X.env = (false, eval e X.env) :: starEach es X.env := by rfl) (hpl : (backTo cp (starEach es X.env)).any (·.1) = false := by rfl)
    (hs : swapsWith (.Call (.Name cn p) (e :: es) [] cp) (some (.Name y pos')) pos.line X.env = pure false := by rfl)
    (hf : X.fn y = true ∨ X.env.scope.names.lookup y = some .local := by first | exact .inl rfl | exact .inr rfl) : PuS X (.Assign [.Name y pos'] (.Call (.Name cn p) (e :: es) [] cp) pos) (sMake cn i M fs) :=
  let ⟨_, a1, a2⟩ := ha.ex; ⟨_, ps_set hND hN hx (StX.pe_makeR Mk0 h (hr.mono hjk) hg hm pass0 a1 hdb hst hpl) hs hf, fun G0 H0 ρ σ G H E r s q kk => by
    unfold sMake at q
    cases z : fs ρ with
    | none => rw [z] at q; cases q
    | some ds =>
      rw [z] at q
      cases z3 : M ⟨cn, [], []⟩ ds with
      | none => simp only [Option.bind_some, z3] at q; cases q
      | some rr =>
        simp only [Option.bind_some, z3] at q
        obtain ⟨o', d⟩ := rr
        cases d <;> first | cases q | skip
        have hi : i < X.N.length := (List.getElem?_eq_some_iff.mp hN).1
        refine a2 ρ σ G H _ ds s.up.le s.er z fun vs G1 H1 u1 rvs => ?_
        intro x dx nx ndx hne
        have gx : G1 x = none := u1.le.free nx
        have gdx : G1 dx = none := u1.le.free ndx
        have ex1 : ∀ b v, H1 b = some v → (upd (upd H1 dx (.own x)) x (.ins C dx [])) b = some v := fun b v e => by rw [upd_ne (ne_of_none e nx), upd_ne (ne_of_none e ndx)]; exact e
        refine ⟨G1, x, ⟨cn, [], []⟩, ((C, dx), []), vs, ds, o', .non, rfl, fun b v e => ex1 b v (u1.le b v e), gx, upd_same, ⟨c.at_, .nil, rfl⟩, rfl, rvs, z3, fun v G2 H2 z' u2 g1 g2 g3 => ?_⟩
        cases g3
        refine ⟨rfl, ?_⟩
        have up : Up G1 H1 G2 H2 := ⟨u2.g, fun b v e => u2.h b v (ne_of_none e nx) (ex1 b v e), u2.le, fun b v e n => u2.new b v (ex1 b v e) n⟩
        have s2 := (s.step u1).step up
        refine kk _ G2 H2 (s2.set hi ⟨x, z', rfl, g1, g2⟩ (fun b eb => by cases eb; exact ⟨u2.new _ _ upd_same gx, s.up.h.free (u1.h.free nx)⟩) fun jj c' v' b hj q1 q2 f1 f2 => ?_) (u1.g.trans u2.g)
        cases f1
        obtain ⟨w, h3, h4⟩ := s.er.at_ jj c' q1
        rw [q2] at h3; cases h3
        obtain ⟨oo, ho⟩ := foot_there h4 (foot_up (u1.h.trans up.h) h4 f2)
        have := u1.h _ _ ho
        rw [nx] at this; cases this⟩
end
end PL

namespace PL
open PySem PySem.Spec PyProof.Rows L2

/-! ## texts and ints of the module and of its classes -/
structure GTxt (mg : Str → Option Value) (x z : Str) : Prop where
  ex : ∃ u, mg x = some u ∧ RelV (.str z) u
structure GInt (K : PySem.W.Frag) (C : Addr) (f : Str) (i : Int) : Prop where
  ex : ∃ u, ClX.CRead K C (.type "type") ∧ ClX.CVal K C (.type "type") f (.int i) u
section
variable {X : Cx} {x z cn f : Str} {C : Addr} {i : Int} {p pos : Pos}
theorem pu_gtxt (h : GTxt X.mg x z) (hg : Gl X x := by rfl) (hd : (x == ("__debug__" : Str)) = false := by decide) : PuE X (.Name x pos) (eC (.str z)) :=
  let ⟨_, a, b⟩ := h.ex; ⟨_, pe_glob hg a b hd, te_c fun _ => .str z⟩
theorem pu_cint (hm : X.mg cn = some (.ref C)) (h : GInt X.K C f i) (hg : Gl X cn := by rfl) (hd : (cn == ("__debug__" : Str)) = false := by decide) (hb : attributeBase (.Name cn p) f X.env (eval (.Name cn p) X.env) = eval (.Name cn p) X.env := by rfl) : PuE X (.Attribute (.Name cn p) f pos) (eC (.int i)) :=
  let ⟨u, c1, c2⟩ := h.ex; ⟨_, ClX.pe_cval (pe_glob (v := .ref C) hg hm rfl hd) hb, fun ρ σ G H Q d l r q k => by
    cases q
    exact ⟨C, _, .int i, u, rfl, c1, c2, k _ G H (.refl l) (.int i)⟩⟩
end
/-! ## len(sorted(set(xs))) of texts -/
def txtsD : List D → Option (List Str)
  | [] => some []
  | .str x :: ds => (txtsD ds).map (x :: ·)
  | _ :: _ => none
theorem txtsD_eq : ∀ {ds : List D} {xs : List Str}, txtsD ds = some xs → ds = xs.map .str
  | [], xs, h => by cases h; rfl
  | d :: ds, xs, h => by
    cases d with
    | str x =>
      have h : (txtsD ds).map (x :: ·) = some xs := h
      cases z : txtsD ds with
      | none => rw [z] at h; cases h
      | some ys =>
        rw [z] at h; cases h
        rw [txtsD_eq z]; rfl
    | non => cases h
    | bl _ => cases h
    | int _ => cases h
    | scr _ => cases h
    | lst _ => cases h
    | tup _ => cases h
    | dct _ => cases h
theorem txtsD_map : ∀ xs : List Str, txtsD (xs.map .str) = some xs
  | [] => rfl
  | x :: xs => by
    show (txtsD (xs.map .str)).map (x :: ·) = _
    rw [txtsD_map xs]; rfl
def gLenSS (d : D) : Option D := match d with
  | .tup ds => (txtsD ds).bind fun xs => if xs.length < 60 then some (.int (dstc xs xs.length : Nat)) else none
  | _ => none
section
variable {X : Cx} {a : Expr} {fa : DE} {p0 p p2 q pos pos0 : Pos}
theorem pu_lenSS (hm0 : X.mg "len" = none) (hm : X.mg "sorted" = none) (hm2 : X.mg "set" = none) (hc : X.calm = true) (ha : PuE X a fa) (hg0 : Gl X "len" := by rfl) (hg : Gl X "sorted" := by rfl) (hg2 : Gl X "set" := by rfl) (na : starEach [a] X.env = [(false, eval a X.env)] := by rfl)
    (he : starEach [.Call (.Name "sorted" p) [.Call (.Name "set" p2) [a] [] q] [] pos] X.env = (false, eval (.Call (.Name "sorted" p) [.Call (.Name "set" p2) [a] [] q] [] pos) X.env) :: starEach [] X.env := by rfl) (hpl : (backTo pos0 (starEach [] X.env)).any (·.1) = false := by rfl) :
    PuE X (.Call (.Name "len" p0) [.Call (.Name "sorted" p) [.Call (.Name "set" p2) [a] [] q] [] pos] [] pos0) (e1 gLenSS fa) := by
  obtain ⟨ta, a1, a2⟩ := ha.ex
  have pe : PE X (.Call (.Name "sorted" p) [.Call (.Name "set" p2) [a] [] q] [] pos) (fun σ H Q => ta σ H fun x H1 => ∃ (l : Addr) (xs : List Str), x = .ref l ∧ SqT X.K H1 l (xs.map V.str) ∧ xs.length < 60 ∧ ∀ (ks : List Str) (p : Addr), ks.length = dstc xs xs.length → H1 p = none → Q (.ref p) (upd H1 p (.lst (ks.map V.str)))) := by
    refine ⟨fun pins s σ H Q I h => ?_⟩
    refine Call_ (ld_blt I hg hm boot_sorted ?_)
    refine PyProof.Rows.callWith_builtin1 (PyProof.Rows.args_cons ?_ rfl) rfl rfl
    refine Call_ (ld_blt I hg2 hm2 PyProof.Rows.boot_set ?_)
    refine PyProof.Rows.callWith_type1 (PyProof.Rows.args_cons (thn (a1.run pins s σ H _ I h) fun v s1 ⟨x, H1, I1, r1, q1⟩ => PyProof.Rows.args_nil ?_) na) na rfl
    obtain ⟨la, xs, rfl, hq, h60, q1⟩ := q1
    cases r1
    obtain ⟨its, r, pl, hz⟩ := I1.tuple hq
    refine setS_of_tup xs (I1.ok.hd hc) pl (by simpa using r.strs) (by unfold scanBound; omega) fun h' tk ⟨R, k⟩ => ?_
    refine PyProof.Rows.args_nil ?_
    have I3 := I1.kept (t' := tk) k
    have hle := dstc_le xs xs.length
    refine setS_sorted R (I3.ok.hd hc) (by omega) fun s' p out c ks k2 g o hp hg' hi hl => ?_
    have hlen : (ks.map V.str).length ≤ sizeLine := by rw [List.length_map, hl, sizeLine_eq]; omega
    have hn : H1 p = none := I3.hok.fresh hp
    have J : Inv X pins σ (upd H1 p (.lst (ks.map V.str))) { ({ s1 with heap := h', toks := tk } : Shared) with heap := s'.heap, gens := s'.gens, drawn := s'.drawn, toks := s'.toks } :=
      I3.call (ch := []) (Un.laid k2 hp hn) (I3.hok.laid k2 hp ⟨hlen, out.toList, c, vals_of_strs hi, hg'⟩) (by rw [g]; exact I3.bare) (fun _ z => nomatch z)
    have e : s' = { s1 with heap := s'.heap, gens := s'.gens, drawn := s'.drawn, toks := s'.toks } := by
      cases s'
      cases s1
      cases o
      rfl
    rw [e]
    exact ⟨.ref p, _, J, rfl, q1 ks p hl hn⟩
  refine ⟨_, pe_callB call_len_seq hg0 hm0 PySem.boot_len (pa_cons pe pa_nil he) (by decide) (by decide) he hpl, fun ρ σ G H Q d l r z k => ?_⟩
  unfold e1 at z
  cases z1 : fa ρ with
  | none => rw [z1] at z; cases z
  | some d0 =>
    rw [z1] at z
    have z : gLenSS d0 = some d := z
    cases d0 with
    | tup ds =>
      have z : ((txtsD ds).bind fun xs => if xs.length < 60 then some (D.int (dstc xs xs.length : Nat)) else none) = some d := z
      cases z2 : txtsD ds with
      | none => rw [z2] at z; cases z
      | some xs =>
        rw [z2] at z
        have z : (if xs.length < 60 then some (D.int (dstc xs xs.length : Nat)) else none) = some d := z
        split at z
        · rename_i h60
          cases z
          have e := txtsD_eq z2
          subst e
          refine a2 ρ σ G H _ _ l r z1 fun v G1 H1 u1 rv => ?_
          cases rv with
          | tup hp rp =>
            have e := rp.strs
            subst e
            refine ⟨_, xs, rfl, .of (u1.le _ _ hp), h60, fun ks p hl hn => ?_⟩
            refine ⟨p, ks.map V.str, rfl, .inl (.of upd_same), ?_⟩
            rw [List.length_map, hl]
            exact k _ G1 _ (u1.trans (.own u1.le hn)) (.int _)
        · cases z
    | non => cases z
    | bl _ => cases z
    | int _ => cases z
    | str _ => cases z
    | scr _ => cases z
    | lst _ => cases z
    | dct _ => cases z
end
end PL

namespace PL
open PySem PySem.Spec PyProof.Rows L2
/-! ## what a method does, whatever its object's address is -/
open Classical in
noncomputable def mR (n : Nat) (b : DS) (o : Ob) (ds : List D) : Option D := if h : ∃ d, ∀ a, fnM n b a o ds = some d then some h.choose else none
open Classical in
noncomputable def mW (n : Nat) (b : DM) (o : Ob) (ds : List D) : Option (Ob × D) := if h : ∃ r, ∀ a, fnW n b a o ds = some r then some h.choose else none
theorem mR_ok {n : Nat} {b : DS} {cn : Str} (a : Addr) (o : Ob) (ds : List D) (d : D) (_ : o.cn = cn) (h : mR n b o ds = some d) : fnM n b a o ds = some d := by
  unfold mR at h
  split at h
  · rename_i hh; cases h; exact hh.choose_spec a
  · cases h
theorem mW_ok {n : Nat} {b : DM} {cn : Str} (a : Addr) (o : Ob) (ds : List D) (r : Ob × D) (_ : o.cn = cn) (h : mW n b o ds = some r) : fnW n b a o ds = some r := by
  unfold mW at h
  split at h
  · rename_i hh; cases h; exact hh.choose_spec a
  · cases h
theorem mR_eq {n : Nat} {b : DS} {o : Ob} {ds : List D} {d : D} (h : ∀ a, fnM n b a o ds = some d) : mR n b o ds = some d := by
  have hh : ∃ d, ∀ a, fnM n b a o ds = some d := ⟨d, h⟩
  unfold mR
  rw [dif_pos hh]
  have := (hh.choose_spec 0).symm.trans (h 0)
  exact this
theorem mW_eq {n : Nat} {b : DM} {o : Ob} {ds : List D} {r : Ob × D} (h : ∀ a, fnW n b a o ds = some r) : mW n b o ds = some r := by
  have hh : ∃ d, ∀ a, fnW n b a o ds = some d := ⟨r, h⟩
  unfold mW
  rw [dif_pos hh]
  have := (hh.choose_spec 0).symm.trans (h 0)
  exact this
theorem fnR_of {P : Program} {w : World} {K : PySem.W.Frag} {mg : Str → Option Value} {base : Heap} {k : Nat} {f : Addr} {fd : FuncData} {ps : List Str} {sp : Sp} (F : FnOk P w K mg base CX0 k f fd ps sp) (b : Binds K fd ps []) : FnR P w K mg base CX0 k f sp :=
  (F.raw b .nil).imp fun vs H Q E h => by rw [List.append_nil]; exact h
end PL

namespace PL
open PySem PySem.Spec PyProof.Rows L2 HotX

/-! ## walks while an exception is handled -/
section
variable {prog : Program} {w : World} {A : Around} {E : Value → Shared → Prop} {s : Shared}
theorem hot_upd {x1 it : Addr} {h : Heap} {f : Obj → Obj} (hot : HotAt A x1 h) (hne : x1 ≠ it) : HotAt A x1 (h.update it f) := by
  obtain ⟨hh, o1, vs1, h1, d1, c1⟩ := hot
  exact ⟨hh, o1, vs1, (Heap.get?_update_other _ _ (Ne.symm hne)).trans h1, d1, c1⟩
theorem hot_push {x1 : Addr} {h : Heap} {o : Obj} (hot : HotAt A x1 h) : HotAt A x1 (h.push o) := by
  obtain ⟨hh, o1, vs1, h1, d1, c1⟩ := hot
  exact ⟨hh, o1, vs1, Heap.get?_push_of_some _ h1, d1, c1⟩
theorem hot_lt {x1 : Addr} {h : Heap} (hot : HotAt A x1 h) : x1 < h.objs.size := by
  obtain ⟨hh, o1, vs1, h1, d1, c1⟩ := hot
  exact Heap.lt_size h1
theorem hot_keep {x1 : Addr} {h h' : Heap} (hot : HotAt A x1 h) (k : ∀ o, h.get? x1 = some o → h'.get? x1 = some o) : HotAt A x1 h' := by
  obtain ⟨hh, o1, vs1, h1, d1, c1⟩ := hot
  exact ⟨hh, o1, vs1, k _ h1, d1, c1⟩
/-- StopIteration is raised, its context the handled exception -/
theorem stop_hot {α : Type} {x1 : Addr} {Q : α → Shared → Prop} {s0 : Shared} {it : Addr} {h : Heap} (hot : HotAt A x1 h) (k : ∀ b o, b ≠ it → s0.heap.get? b = some o → h.get? b = some o)
    (hE : ∀ h' e, Heap.ExtBut it s0.heap h' → (∃ o, h'.get? e = some o ∧ o.cls = .type "StopIteration") → E (.ref e) { s0 with heap := h' }) :
    wpAny (model prog w) A (newExc (.type "StopIteration") [] >>= fun e => (raiseNew e : Sem α)) Q E { s0 with heap := h } := by
  refine wpAny_bind ?_
  simp only [newExc, newTuple]
  refine wpAny_bind (wpAny_newObj_type ?_ (by size_fits))
  refine wpAny_bind (m := firstArgMember _ _) (wpAny_of_eq (a := Value.none) (by first | rfl | (simp only [firstArgMember]; rfl)) ?_)
  refine wpAny_newObj_type ?_ (by size_fits)
  refine raiseNew_hot (hot_push (hot_push hot)) (Nat.ne_of_lt (hot_lt (hot_push hot))) (Heap.get?_push_size _ rfl) rfl (by first | (simp; done) | (simp; omega) | (simp only [Array.size_append]; simp; omega)) ?_
  refine hE _ _ (fun b o hb e => ?_) ⟨_, Heap.get?_update_self _ (Heap.get?_push_size _ rfl) rfl, ?_⟩
  · have e1 := k b o hb e
    rw [Heap.get?_update_other _ _ (Nat.ne_of_gt (Heap.lt_size (Heap.get?_push_of_some _ e1)))]
    exact Heap.get?_push_of_some _ (Heap.get?_push_of_some _ e1)
  · rfl
theorem nextOf_list_end_hot {it l x1 : Addr} {i : Nat} {items : Array Value} {Q : Value → Shared → Prop} (hot : HotAt A x1 s.heap) (hx1 : x1 ≠ it)
    (hit : s.heap.IsListIter it l i) (hl : s.heap.IsList l items) (hx : items[i]? = none)
    (hE : ∀ h' e, Heap.ExtBut it s.heap h' → (∃ o, h'.get? e = some o ∧ o.cls = .type "StopIteration") → E (.ref e) { s with heap := h' }) :
    wpAny (model prog w) A (Builtin.SmallTypes.nextOf (.ref it)) Q E s := by
  obtain ⟨o, ho, hc, hd⟩ := id hit
  obtain ⟨ol, hol, _, nl, hdl⟩ := hl
  unfold Builtin.SmallTypes.nextOf
  refine wpAny_bind (wpAny_callSpecial?_slot (name := Str.ofString "__next__") hit.typeIs slot_listiter_next
    (wpAny_call_entry slot_listiter_next hit.typeIs entry_listiter_next ?_ (args_listiter_next _)))
  show wpAny _ _ (field (.ref it) 0 >>= _) _ _ s
  refine wpAny_bind (wpAny_field ho hd (x := .ref l) rfl ?_)
  show wpAny _ _ (if (Value.ref l == Value.none) = true then _ else _) _ _ s
  rw [if_neg (show ¬ ((Value.ref l == Value.none) = true) from Bool.false_ne_true)]
  show wpAny _ _ (field (.ref it) 1 >>= _) _ _ s
  refine wpAny_bind (wpAny_field ho hd (x := .int i 0) rfl ?_)
  show wpAny _ _ (seqItems? (.ref l) >>= _) _ _ s
  refine wpAny_bind (wpAny_seqItems hol hdl ?_)
  simp only [Int.toNat_natCast, hx]
  refine wpAny_bind (wpAny_rule (wpAny_bind (wpAny_setField ho hd (by simp) ?_)))
  exact stop_hot (A := A.in1) (s0 := s) (it := it) (hot_upd hot hx1) (fun b o hb e => (Heap.get?_update_other _ _ (Ne.symm hb)).trans e) hE
theorem nextOf_tuple_end_hot {it l x1 : Addr} {i : Nat} {items : Array Value} {Q : Value → Shared → Prop} (hot : HotAt A x1 s.heap) (hx1 : x1 ≠ it)
    (hit : s.heap.IsTupleIter it l i) (hl : s.heap.IsTuple l items) (hx : items[i]? = none)
    (hE : ∀ h' e, Heap.ExtBut it s.heap h' → (∃ o, h'.get? e = some o ∧ o.cls = .type "StopIteration") → E (.ref e) { s with heap := h' }) :
    wpAny (model prog w) A (Builtin.SmallTypes.nextOf (.ref it)) Q E s := by
  obtain ⟨o, ho, hc, hd⟩ := id hit
  obtain ⟨ol, hol, _, nl, hdl⟩ := hl
  unfold Builtin.SmallTypes.nextOf
  refine wpAny_bind (wpAny_callSpecial?_slot (name := Str.ofString "__next__") hit.typeIs F.slot_tuple_iterator_next
    (wpAny_call_entry F.slot_tuple_iterator_next hit.typeIs F.entry_tuple_iterator_next ?_ (F.args_tuple_iterator_next_1 _)))
  show wpAny _ _ (field (.ref it) 0 >>= _) _ _ s
  refine wpAny_bind (wpAny_field ho hd (x := .ref l) rfl ?_)
  show wpAny _ _ (if (Value.ref l == Value.none) = true then _ else _) _ _ s
  rw [if_neg (show ¬ ((Value.ref l == Value.none) = true) from Bool.false_ne_true)]
  show wpAny _ _ (field (.ref it) 1 >>= _) _ _ s
  refine wpAny_bind (wpAny_field ho hd (x := .int i 0) rfl ?_)
  show wpAny _ _ (seqItems? (.ref l) >>= _) _ _ s
  refine wpAny_bind (wpAny_seqItems hol hdl ?_)
  simp only [Int.toNat_natCast, hx]
  refine wpAny_bind (wpAny_rule (wpAny_bind (wpAny_setField ho hd (by simp) ?_)))
  exact stop_hot (A := A.in1) (s0 := s) (it := it) (hot_upd hot hx1) (fun b o hb e => (Heap.get?_update_other _ _ (Ne.symm hb)).trans e) hE
theorem next_tuple_end_hot {it t x1 : Addr} {i : Nat} {items : Array Value} {Q : Option Value → Shared → Prop} (hot : HotAt A x1 s.heap) (hx1 : x1 ≠ it)
    (hit : IsTupIter s.heap it t i) (ht : IsTup s.heap t items) (hx : items[i]? = none)
    (hQ : ∀ h', Heap.ExtBut it s.heap h' → Q none { s with heap := h' }) : wpAny (model prog w) A (pyNext (.ref it)) Q E s := by
  obtain ⟨o, ho, hc, hd⟩ := id hit
  obtain ⟨ol, hol, _, nl, hdl⟩ := ht
  unfold pyNext
  refine wpAny_bind (wpAny_attempt (wpAny_callSpecial?_slot (name := Str.ofString "__next__") hit.typeIs slot_tupleiter_next
    (wpAny_call_entry slot_tupleiter_next hit.typeIs entry_tupleiter_next ?_ (args_tupleiter_next _))))
  show wpAny _ _ (field (.ref it) 0 >>= _) _ _ s
  refine wpAny_bind (wpAny_field ho hd (x := .ref t) rfl ?_)
  show wpAny _ _ (if (Value.ref t == Value.none) = true then _ else _) _ _ s
  rw [if_neg (show ¬ ((Value.ref t == Value.none) = true) from Bool.false_ne_true)]
  show wpAny _ _ (field (.ref it) 1 >>= _) _ _ s
  refine wpAny_bind (wpAny_field ho hd (x := .int i 0) rfl ?_)
  show wpAny _ _ (seqItems? (.ref t) >>= _) _ _ s
  refine wpAny_bind (wpAny_seqItems hol hdl ?_)
  simp only [Int.toNat_natCast, hx]
  refine wpAny_bind (wpAny_rule (wpAny_bind (wpAny_setField ho hd (by simp) ?_)))
  refine stop_hot (A := A.in1) (s0 := s) (it := it) (hot_upd hot hx1) (fun b o hb e => (Heap.get?_update_other _ _ (Ne.symm hb)).trans e) fun h' e hk he => ?_
  obtain ⟨oe, he1, he2⟩ := he
  refine wpAny_bind (wpAny_isInstance (T := "StopIteration") (b := true) ⟨oe, he1, he2⟩ isSubtype_stop ?_)
  exact wpAny_pure (hQ _ hk)
theorem unpackItems_hot {t x1 : Addr} {items : Array Value} {Q : List Value → Shared → Prop} (hot : HotAt A x1 s.heap) (ht : IsTup s.heap t items)
    (hQ : ∀ h', Heap.ExtBut s.heap.objs.size s.heap h' → Q items.toList { s with heap := h' }) : wpAny (model prog w) A (unpackItems (.ref t) items.size none) Q E s := by
  have hlt : t ≠ s.heap.objs.size := by obtain ⟨o, ho, _⟩ := ht; exact Nat.ne_of_lt (Heap.lt_size ho)
  have hx1 : x1 ≠ s.heap.objs.size := Nat.ne_of_lt (hot_lt hot)
  unfold unpackItems
  refine wpAny_bind ?_
  · unfold notIterableAtAll
    refine wpAny_bind (wpAny_specialOf ht.typeIs slot_tuple_iter.lookup ?_)
    refine wpAny_pure ?_
    simp only [Bool.false_eq_true, if_false]
    refine wpAny_bind (wpAny_holding (iter_tuple ht ?_))
    refine wpAny_bind (wpAny_holding (draw_tuple hlt items.size 0 _ _ ⟨_, Heap.get?_push_size _ rfl, rfl, rfl⟩ (ht.push _) (by omega) fun h₁ hit₁ hs₁ => ?_))
    have hall : List.take items.size (List.drop 0 items.toList) = items.toList := by
      rw [List.drop_zero]; exact List.take_of_length_le (by simp)
    rw [hall]
    rw [if_neg (by simp)]
    have ht₁ : IsTup h₁ t items := (ht.push _).extBut hs₁.extBut hlt
    have hot₁ : HotAt A x1 h₁ := hot_keep (hot_push hot) fun o e => hs₁.extBut x1 o hx1 e
    refine wpAny_bind (wpAny_holding (next_tuple_end_hot (s := { s with heap := h₁ }) hot₁ hx1 hit₁ ht₁ (by simp) fun h₂ he₂ => ?_))
    simp only [Option.isSome_none, Bool.false_eq_true, if_false]
    refine wpAny_pure (hQ h₂ fun b o hb e => he₂ b o hb (hs₁.extBut b o hb (Heap.get?_push_of_some _ e)))
theorem assign_Tuple_hot {env : Env} {elts : List Expr} {k : Nat} {pos : Pos} {t x1 : Addr} {items : Array Value} {Q : Unit → Shared → Prop} (hot : HotAt A x1 s.heap) (ht : IsTup s.heap t items)
    (hn : (assignEach elts env).length = items.size) (hstar : (assignEach elts env).findIdx? (·.1) = none)
    (h : ∀ h', Heap.ExtBut s.heap.objs.size s.heap h' → wpAny (model prog w) A (assignInOrder ((assignEach elts env).map (·.2)) items.toList) Q E { s with heap := h' }) :
    wpAny (model prog w) A (assign (.Tuple elts k pos) env (.ref t)) Q E s := by
  rw [assign_Tuple]
  refine wpAny_bind (wpAny_standAt ?_)
  unfold unpack
  rw [hn, hstar]
  exact wpAny_bind (wpAny_holding (unpackItems_hot hot ht h))
end
theorem draws_hot {prog : Program} {w : World} {A : Around} (b : Bool) (x1 it a : Addr) (hne : a ≠ it) (hx1 : x1 ≠ it) (its : Array Value) :
    Draws prog w A it [it, a, x1] its.size (fun i v => its[i]? = some v) (fun i h => ItX b h it a i ∧ CnX b a its h ∧ HotAt A x1 h) := by
  cases b with
  | true =>
    refine ⟨fun _ _ st => let ⟨o, ho, _⟩ := (show Heap.IsListIter _ it a _ from st.1); ⟨o, ho⟩, fun _ _ _ st hk => ⟨(show Heap.IsListIter _ it a _ from st.1).at fun o e => hk it (by simp) o e, (show Heap.IsList _ a its from st.2.1).at fun o e => hk a (by simp) o e, hot_keep st.2.2 fun o e => hk x1 (by simp) o e⟩, fun i s Q E hi st hQ => ?_, fun s Q E st hE => ?_⟩
    · refine wpAny_nextOf_list_item (show Heap.IsListIter _ it a _ from st.1) (show Heap.IsList _ a its from st.2.1) (x := its[i]) (by simp [hi]) fun h' hit' hs' => ?_
      exact hQ _ h' s.toks (by simp [hi]) ⟨hit', (show Heap.IsList _ a its from st.2.1).extBut hs'.extBut hne, hot_keep st.2.2 fun o e => hs'.extBut x1 o hx1 e⟩ hs'
    · exact nextOf_list_end_hot st.2.2 hx1 st.1 st.2.1 (by simp) hE
  | false =>
    refine ⟨fun _ _ st => let ⟨o, ho, _⟩ := (show Heap.IsTupleIter _ it a _ from st.1); ⟨o, ho⟩, fun _ _ _ st hk => ⟨(show Heap.IsTupleIter _ it a _ from st.1).at fun o e => hk it (by simp) o e, (show Heap.IsTuple _ a its from st.2.1).at fun o e => hk a (by simp) o e, hot_keep st.2.2 fun o e => hk x1 (by simp) o e⟩, fun i s Q E hi st hQ => ?_, fun s Q E st hE => ?_⟩
    · refine wpAny_nextOf_tuple_item (show Heap.IsTupleIter _ it a _ from st.1) (show Heap.IsTuple _ a its from st.2.1) (x := its[i]) (by simp [hi]) fun h' hit' hs' => ?_
      exact hQ _ h' s.toks (by simp [hi]) ⟨hit', (show Heap.IsTuple _ a its from st.2.1).extBut hs'.extBut hne, hot_keep st.2.2 fun o e => hs'.extBut x1 o hx1 e⟩ hs'
    · exact nextOf_tuple_end_hot st.2.2 hx1 st.1 st.2.1 (by simp) hE
end PL

namespace PL
open PySem PySem.Spec PyProof.Rows L2 HotX

/-! ## comprehensions while an exception is handled -/
structure TurnH (P : Program) (w : World) (K : PySem.W.Frag) (tg : Expr) (J : It) (fp : List Addr) (it : Addr) (tn : Nat → Heap → Prop) (x1 : Addr) : Prop where
  mem : it ∈ fp
  obj : ∀ i h, tn i h → ∀ b ∈ fp, ∃ o, h.get? b = some o ∧ ∀ v, o.data ≠ .cell v
  keep : ∀ i h h', tn i h → (∀ b ∈ fp, ∀ o, h.get? b = some o → h'.get? b = some o) → tn i h'
  item : ∀ (X : Cx), X.prog = P → X.w = w → X.K = K → ∀ (i : Nat) (pins : List (Addr × Obj)) (s : Shared) (σ : L2.St) (H : Hp) (E : Value → Shared → Prop), Inv X pins σ H s → HotAt X.A x1 s.heap → (∀ b ∈ fp, FpOk X pins H b) → tn i s.heap → J.go i H →
    wpAny (model P w) X.A (pyNext (.ref it)) (fun r s1 => ∃ u, r = some u ∧
      wpAny (model P w) X.A (letOwnedTupleGo tg (.ref it) u) (fun _ s2 => ∃ x H', Inv X pins σ H' s2 ∧ RelV x u ∧ J.yld i H x H' ∧ tn (i + 1) s2.heap ∧ ∀ b ∈ fp, H' b = none) E s1) E s
  done : ∀ (X : Cx), X.prog = P → X.w = w → X.K = K → ∀ (i : Nat) (pins : List (Addr × Obj)) (s : Shared) (σ : L2.St) (H : Hp) (E : Value → Shared → Prop), Inv X pins σ H s → HotAt X.A x1 s.heap → (∀ b ∈ fp, FpOk X pins H b) → tn i s.heap → J.stop i H →
    wpAny (model P w) X.A (pyNext (.ref it)) (fun r s1 => r = none ∧ Inv X pins σ H s1) E s
  self : ∀ (A : Around) (i : Nat) (s : Shared) (Q : Value → Shared → Prop) (E : Value → Shared → Prop), tn i s.heap → Q (.ref it) s → wpAny (model P w) A (pyIter (.ref it)) Q E s
def PIEH (X : Cx) (x1 : Addr) (pins : List (Addr × Obj)) (σ : L2.St) (tg : Expr) (R : It → Hp → Prop) (itv : Value) (s2 : Shared) : Prop :=
  ∃ (it : Addr) (fp : List Addr) (tn : Nat → Heap → Prop) (J : It) (H' : Hp), itv = .ref it ∧ Inv X pins σ H' s2 ∧ TurnH X.prog X.w X.K tg J fp it tn x1 ∧ x1 ∉ fp ∧ tn 0 s2.heap ∧ (∀ b ∈ fp, FpOk X pins H' b) ∧ R J H'
structure PIH (X : Cx) (x1 : Addr) (tg iter : Expr) (wi : TI) : Prop where
  run : ∀ (pins : List (Addr × Obj)) (s : Shared) (σ : L2.St) (H : Hp) (R : It → Hp → Prop), Inv X pins σ H s → wi σ H R →
    wpAny (model X.prog X.w) X.A (eval iter X.env) (fun v s1 => wpAny (model X.prog X.w) X.A (pyIter v) (PIEH X x1 pins σ tg R) X.xe s1) X.xe s
theorem hotp {X : Cx} {p0 : Addr × Obj} {pins : List (Addr × Obj)} {σ : L2.St} {H : Hp} {s : Shared} (h1 : L2H.Hot1 X.A p0) (hp : p0 ∈ X.pn) (I : Inv X pins σ H s) : HotAt X.A p0.1 s.heap := by
  obtain ⟨hh, v1, e1, c1⟩ := h1
  exact ⟨hh, p0.2, v1, (I.pin p0 (List.mem_append_left _ hp)).1, e1, c1⟩
/-- .. within a comprehension's block -/
structure HotB (X : Cx) (p0 : Addr × Obj) (s : Shared) (H : Hp) (fp : List Addr) : Prop where
  hot : L2H.Hot1 X.A p0
  get : s.heap.get? p0.1 = some p0.2
  free : H p0.1 = none
  nst : p0.1 ∉ frs X.stack
  nfp : p0.1 ∉ fp
theorem hotB_of {X : Cx} {p0 : Addr × Obj} {pins : List (Addr × Obj)} {σ : L2.St} {H : Hp} {s : Shared} {fp : List Addr} (h1 : L2H.Hot1 X.A p0) (hp : p0 ∈ X.pn) (I : Inv X pins σ H s) (nfp : p0.1 ∉ fp) : HotB X p0 s H fp := by
  obtain ⟨a1, a2, a3, a4, _⟩ := I.pin p0 (List.mem_append_left _ hp)
  exact ⟨h1, a1, a2, fun hm => by
    rcases List.mem_cons.mp (I.stkSub _ hm) with z | z
    · exact a3 z
    · exact a4 z, nfp⟩
theorem hotB_at {X : Cx} {p0 : Addr × Obj} {s : Shared} {H : Hp} {fp : List Addr} {scope : Scope} {ce : Env} {pins : List (Addr × Obj)} {σ : L2.St} {H' : Hp} {s' : Shared} (b : HotB X p0 s H fp) (I : Inv (X.blk s H scope ce fp) pins σ H' s') : HotAt X.A p0.1 s'.heap := by
  obtain ⟨hh, v1, e1, c1⟩ := b.hot
  exact ⟨hh, p0.2, v1, I.base.keep p0.1 p0.2 b.get b.free b.nst b.nfp, e1, c1⟩
theorem turn_zip2H {P : Program} {w : World} {K : PySem.W.Frag} {elts : List Expr} {kk : Nat} {tpos : Pos} {b1 b2 : Bool} {a1 a2 z TI TO i1 i2 x1 : Addr} (S : ZipSep2 z TI TO i1 i2 [i1, a1, x1] [i2, a2, x1]) (hx1 : x1 ≠ i1) (hx2 : x1 ≠ i2) :
    TurnH P w K (.Tuple elts kk tpos) (Itz2 K b1 b2 a1 a2) [z, TI, TO, i1, i2] z
      (fun i h => IsZip h z TI TO .none ∧ IsTupOf2 h TI (.ref i1) (.ref i2) ∧ (∃ x y, IsTupOf2 h TO x y) ∧ ItX b1 h i1 a1 i ∧ ItX b2 h i2 a2 i) x1 where
  mem := by simp
  obj := fun i h st c hc => by
    obtain ⟨hz, hTI, ⟨x, y, hTO⟩, h1, h2⟩ := st
    have e' : c = z ∨ c = TI ∨ c = TO ∨ c = i1 ∨ c = i2 := by simpa using hc
    rcases e' with q | q | q | q | q
    · rw [q]; exact ⟨_, hz, fun v q => nomatch q⟩
    · rw [q]; exact ⟨_, hTI, fun v q => nomatch q⟩
    · rw [q]; exact ⟨_, hTO, fun v q => nomatch q⟩
    · rw [q]; exact itx_ob h1
    · rw [q]; exact itx_ob h2
  keep := fun i h h' st k => by
    obtain ⟨hz, hTI, ⟨x, y, hTO⟩, h1, h2⟩ := st
    exact ⟨k z (by simp) _ hz, k TI (by simp) _ hTI, ⟨x, y, k TO (by simp) _ hTO⟩, itx_at h1 fun o q => k i1 (by simp) o q, itx_at h2 fun o q => k i2 (by simp) o q⟩
  item := by
    intro X hP hw hK i pins s σ H E I hot hf st hg
    subst hP hw hK
    obtain ⟨xs, ys, x, y, hqx, hqy, hx, hy⟩ := hg
    obtain ⟨js1, r1, c1⟩ := sqx_in I hqx
    obtain ⟨js2, r2, c2⟩ := sqx_in I hqy
    obtain ⟨hz, hTI, hTO, h1, h2⟩ := st
    have hot' : HotAt X.A.in1 x1 s.heap := hot
    have W := GoesN.zip2 (prog := X.prog) (w := X.w) (A := X.A) (elts := elts) (x1 := kk) (pos := tpos) S (draws_hot b1 x1 i1 a1 (itx_ne h1 c1) hx1 js1.toArray) (draws_hot b2 x1 i2 a2 (itx_ne h2 c2) hx2 js2.toArray)
    have l1 := (List.getElem?_eq_some_iff.mp hx).1
    have l2 := (List.getElem?_eq_some_iff.mp hy).1
    have hzl : z < s.heap.objs.size := Heap.lt_size hz
    have hin : i < min js1.toArray.size js2.toArray.size := by rw [vals_size r1, vals_size r2]; omega
    refine W.goes i s _ E hin ⟨hz, hTI, hTO, ⟨h1, c1, hot'⟩, ⟨h2, c2, hot'⟩⟩ fun v h' tk hY st' hk htk => ?_
    obtain ⟨T, v1, v2, rfl, hT, e1, e2, hTt⟩ := hY
    obtain ⟨w1, q1, p1⟩ := r1.get hx
    obtain ⟨w2, q2, p2⟩ := r2.get hy
    have y1 : v1 = w1 := by
      have z1 : js1[i]? = some v1 := by simpa using e1
      rw [q1] at z1; exact (Option.some.inj z1).symm
    have y2 : v2 = w2 := by
      have z1 : js2[i]? = some v2 := by simpa using e2
      rw [q2] at z1; exact (Option.some.inj z1).symm
    subst y1 y2
    have new : ObjOk X.prog X.w (upd H T (.tup [x, y])) h' T (.tup [x, y]) := ⟨by show 2 ≤ sizeLine; rw [sizeLine_eq]; decide, [v1, v2], .cons p1 (.cons p2 .nil), hTt⟩
    have I1 : Inv X pins σ (upd H T (.tup [x, y])) { s with heap := h', toks := tk } :=
      I.turnedNew (ch := [z, TI, TO, i1, i2]) (fun b o hb q => hk b o (fun m => hb (by simp at m ⊢; rcases m with m | m | m | m <;> simp [m])) q) hf hT new
    refine ⟨.ref T, _, I1, rfl, ⟨T, x, y, rfl, I.hok.fresh hT, rfl, fun l hl => by rw [sqx_inj I hl hqx]; exact hx, fun l hl => by rw [sqx_inj I hl hqy]; exact hy⟩, ?_, fun b hb => ?_⟩
    · obtain ⟨g1, g2, g3, g4, g5⟩ := st'
      exact ⟨g1, g2, g3, g4.1, g5.1⟩
    · have hlt : b < s.heap.objs.size := by
        obtain ⟨ax, ay, hTO⟩ := hTO
        have e' : b = z ∨ b = TI ∨ b = TO ∨ b = i1 ∨ b = i2 := by simpa using hb
        rcases e' with q | q | q | q | q
        · rw [q]; exact hzl
        · rw [q]; exact Heap.lt_size hTI
        · rw [q]; exact Heap.lt_size hTO
        · rw [q]; exact itx_lt h1
        · rw [q]; exact itx_lt h2
      rw [upd_ne (Nat.ne_of_lt (Nat.lt_of_lt_of_le hlt hT))]
      exact (hf b hb).1
  done := by
    intro X hP hw hK i pins s σ H E I hot hf st hg
    subst hP hw hK
    obtain ⟨xs, ys, hqx, hqy, hi⟩ := hg
    obtain ⟨js1, r1, c1⟩ := sqx_in I hqx
    obtain ⟨js2, r2, c2⟩ := sqx_in I hqy
    obtain ⟨hz, hTI, hTO, h1, h2⟩ := st
    have hot' : HotAt X.A.in1 x1 s.heap := hot
    have W := GoesN.zip2 (prog := X.prog) (w := X.w) (A := X.A) (elts := elts) (x1 := kk) (pos := tpos) S (draws_hot b1 x1 i1 a1 (itx_ne h1 c1) hx1 js1.toArray) (draws_hot b2 x1 i2 a2 (itx_ne h2 c2) hx2 js2.toArray)
    rw [vals_size r1, vals_size r2, ← hi] at W
    refine W.stops s _ E ⟨hz, hTI, hTO, ⟨h1, c1, hot'⟩, ⟨h2, c2, hot'⟩⟩ fun h' tk hk htk => ?_
    exact I.turnedL (ch := [z, TI, TO, i1, i2]) (fun b o hb q => hk b o (fun m => hb (by simp at m ⊢; rcases m with m | m | m | m <;> simp [m])) q) hf
  self := fun A i s Q E st h => wpAny_pyIter_zip st.1 h
theorem pi_zip2H {X : Cx} {p0 : Addr × Obj} (h1 : L2H.Hot1 X.A p0) (hp : p0 ∈ X.pn) {e e2 : Expr} {ta : TA} {p pos tpos : Pos} {elts : List Expr} {kk : Nat} (hg : Gl X "zip") (hm : X.mg "zip" = none) (ha : PA X [e, e2] ta)
    (hs : starEach [e, e2] X.env = (false, eval e X.env) :: starEach [e2] X.env := by rfl) (hpl : (backTo pos (starEach [e2] X.env)).any (·.1) = false := by rfl) :
    PIH X p0.1 (.Tuple elts kk tpos) (.Call (.Name "zip" p) [e, e2] [] pos) (iZip2 X.K ta) := by
  refine ⟨fun pins s σ H R I h => ?_⟩
  refine Call_ (ld_blt I hg hm PyProof.Rows.boot_zip (PyProof.Rows.callWith_type1 (thn (ha.run pos pins s σ H _ I h) fun us s1 ⟨vs, H1, I1, r1, q1⟩ => ?_) hs hpl))
  obtain ⟨b1, b2, a1, a2, xs, ys, ex, hq1, hq2, q⟩ := q1
  subst ex
  obtain ⟨u1, u2, rfl, r1, r2⟩ := vals2 r1
  cases r1
  cases r2
  obtain ⟨js1, w1, c1⟩ := sqx_in I1 hq1
  obtain ⟨js2, w2, c2⟩ := sqx_in I1 hq2
  refine zip_begins2 (begins_x b1 a1 js1.toArray) (begins_x b2 a2 js2.toArray) c1 c2 fun h' hz hTI hTO g1 g2 hsz hk => wpAny_pyIter_zip hz ?_
  have I2 : Inv X pins σ H1 { s1 with heap := h' } := I1.kept (t' := s1.toks) hk
  have hot := hotp h1 hp I1
  have hxl : p0.1 < s1.heap.objs.size := hot_lt hot
  have two : ∀ {a : Addr}, a < s1.heap.objs.size → ∀ b ∈ [a, p0.1], b < s1.heap.objs.size := fun {a} ha b hb => by
    rcases List.mem_cons.mp hb with e | e
    · rw [e]; exact ha
    · rw [List.mem_singleton.mp e]; exact hxl
  have S := zip_sep2 (N := s1.heap.objs.size) (fp1 := [a1, p0.1]) (fp2 := [a2, p0.1]) (two (cnx_lt c1)) (two (cnx_lt c2))
  refine ⟨s1.heap.objs.size + 4, [s1.heap.objs.size + 4, s1.heap.objs.size + 2, s1.heap.objs.size + 3, s1.heap.objs.size, s1.heap.objs.size + 1], _, _, H1, rfl, I2, turn_zip2H (b1 := b1) (b2 := b2) S (Nat.ne_of_lt hxl) (Nat.ne_of_lt (Nat.lt_succ_of_lt hxl)), fun hb => ?_, ⟨hz, hTI, ⟨_, _, hTO⟩, itx_new g1, itx_new g2⟩, fun b hb => ?_, q⟩
  · have e' : p0.1 = s1.heap.objs.size + 4 ∨ p0.1 = s1.heap.objs.size + 2 ∨ p0.1 = s1.heap.objs.size + 3 ∨ p0.1 = s1.heap.objs.size ∨ p0.1 = s1.heap.objs.size + 1 := by simpa using hb
    have hxl' := hxl
    rcases e' with z | z | z | z | z
    all_goals (rw [z] at hxl'; first | exact absurd hxl' (Nat.lt_irrefl _) | exact absurd hxl' (Nat.not_lt.mpr (Nat.le_add_right _ _)))
  have hle : s1.heap.objs.size ≤ b := by
    have e' : b = s1.heap.objs.size + 4 ∨ b = s1.heap.objs.size + 2 ∨ b = s1.heap.objs.size + 3 ∨ b = s1.heap.objs.size ∨ b = s1.heap.objs.size + 1 := by simpa using hb
    rcases e' with z | z | z | z | z
    all_goals (rw [z])
    all_goals first | exact Nat.le_refl _ | exact Nat.le_add_right _ _
  exact I1.fpOk hle (I1.hok.fresh hle)

section
variable {X : Cx}
theorem pg_tupH {p0 : Addr × Obj} {s : Shared} {H : Hp} {fp : List Addr} {scope : Scope} {ce : Env} {es : List Expr} {k : Nat} {pos : Pos} {t : TGs} {n : Nat} (hB : HotB X p0 s H fp) (h : PGs (X.blk s H scope ce fp) es t)
    (hn : (assignEach es (X.blk s H scope ce fp).env).length = n := by rfl) (hst : (assignEach es (X.blk s H scope ce fp).env).findIdx? (·.1) = none := by rfl) : PG (X.blk s H scope ce fp) (.Tuple es k pos) (gTup X.K n t) := by
  refine ⟨fun pins s σ H v u Q I r hw => ?_⟩
  obtain ⟨a, xs, e1, hq, hl, hw⟩ := hw
  subst e1
  cases r
  obtain ⟨its, rv, ht, hz⟩ := I.tuple hq
  refine assign_Tuple_hot (hotB_at (X := X) hB I) ht (by simp [hn, ← hl, rv.length]) hst fun h' hx => ?_
  have I1 := I.kept (t' := s.toks) (h' := h') fun b o e => hx b o (Nat.ne_of_lt (Heap.lt_size e)) e
  exact h.run pins _ σ H xs _ Q I1 (by simpa using rv) hw
theorem lc_coreH {p0 : Addr × Obj} (ho1 : L2H.Hot1 X.A p0) (hop : p0 ∈ X.pn) {pins : List (Addr × Obj)} {s : Shared} {σ : L2.St} {H : Hp} {Q : VK} {elt tg iter : Expr} {ifs : List Expr} {scope : Scope} {own : List (Str × Nat)} {pos pos' : Pos} {wi : TI} {g : TG} {tt : TT} {te : TE} {use : Option (Value → Sem Unit)} {Qf : Value → Shared → Prop}
    (hN : X.N.Nodup) (I : Inv X pins σ H s) (hi : PIH X p0.1 tg iter wi) (ok : BlkOk X.N X.env.scope scope own)
    (hg : ∀ (s : Shared) (H : Hp) (C : Addr) (cl : List (Str × Addr)) (fp : List Addr), HotB X p0 s H fp → PG (X.blk s H scope (compEnvC scope cl C X.env) fp) tg g) (ht : ∀ (s : Shared) (H : Hp) (C : Addr) (cl : List (Str × Addr)) (fp : List Addr), PTs (X.blk s H scope (compEnvC scope cl C X.env) fp) ifs tt)
    (he : ∀ (s : Shared) (H : Hp) (C : Addr) (cl : List (Str × Addr)) (fp : List Addr), PE (X.blk s H scope (compEnvC scope cl C X.env) fp) elt te) (hs : ∀ x, foldedSetIterable iter X.env x = pure x)
    (h : tLc wi g tt te (own.map (·.2)) σ H Q)
    (hRR : ∀ D C s' m H', Inv X pins σ H' s' → Q (.ref D) H' → s'.heap.Ns C m → FpOk X pins H' C → compPost (model X.prog X.w) X.A X.xe use Qf (.ref D) C (.ok .next) s') :
    wpAny (model X.prog X.w) X.A (comprehension (.ListComp elt [⟨tg, iter, ifs, 0⟩] scope pos) scope X.env pos' (newList []) false (eval iter X.env) use) Qf X.xe s := by
  have hfree : ∀ y ∈ scope.names, y.2 = .free → ∃ c, X.env.cells.lookup y.1 = some c := fun y hy e => by
    rcases ok.free y hy e with k | k
    · exact I.ok.has _ (.inl k)
    · exact I.ok.has _ (.inr k)
  refine wpAny_comprehension_free (use := use) rfl hs (closure_ok hfree) ok.kind (fun y hy e => by rw [ok.uniq y hy, e])
    (thn (hi.run pins s σ H _ I h) fun xv s1 hx => thn hx fun itv s2 h2 => ?_)
  obtain ⟨it, fp, tn, J, H2, e, I2, T, nx1, st2, f2, q⟩ := h2
  subst e
  refine wpAny_newObj_type (newEnv_comp ?_) (by show 0 ≤ sizeLine; decide)
  generalize hD : s2.heap.objs.size = D
  have hDn : H2 D = none := I2.hok.fresh (Nat.le_of_eq hD)
  obtain ⟨W, ⟨m0, w0⟩, turn⟩ := q D hDn
  -- the new list
  generalize hs3 : ({ s2 with heap := s2.heap.push { cls := .type "list", data := .seq ([] : List Value).toArray } } : Shared) = s3
  have I3 : Inv X pins σ (upd H2 D (.lst [])) s3 := by
    rw [← hs3]
    refine I2.laid (t' := s2.toks) (fun b o e => Heap.get?_push_of_some _ e) (Nat.le_of_eq hD) ⟨Nat.zero_le _, [], 0, .nil, ?_⟩
    rw [← hD]
    exact Heap.get?_push_size _ rfl
  have h3 : s3.heap = s2.heap.push { cls := .type "list", data := .seq ([] : List Value).toArray } := by rw [← hs3]
  have sz : ∀ b ∈ fp, b < s2.heap.objs.size := fun b hb => by
    obtain ⟨o, e, _⟩ := T.obj _ _ st2 b hb
    exact Heap.lt_size e
  have f3 : ∀ b ∈ fp, FpOk X pins (upd H2 D (.lst [])) b ∧ b < s3.heap.objs.size := fun b hb => by
    have hlt := sz b hb
    refine ⟨⟨?_, (f2 b hb).2⟩, by rw [h3, Heap.size_push]; exact Nat.lt_succ_of_lt hlt⟩
    rw [upd_ne (by rw [← hD]; exact Nat.ne_of_lt hlt)]
    exact (f2 b hb).1
  have st3 : tn 0 s3.heap := T.keep _ _ _ st2 fun b _ o e => by rw [h3]; exact Heap.get?_push_of_some _ e
  have I4 := block_start I3 ok hN f3
  have hB : HotB X p0 s3 (upd H2 D (.lst [])) fp := hotB_of ho1 hop I3 nx1
  have pg := hg s3 (upd H2 D (.lst [])) s3.heap.objs.size (cellsFrom (s3.heap.objs.size + 1) scope.names (cloFrom X.env.cells scope.names [])) fp hB
  have pt := ht s3 (upd H2 D (.lst [])) s3.heap.objs.size (cellsFrom (s3.heap.objs.size + 1) scope.names (cloFrom X.env.cells scope.names [])) fp
  have pe := he s3 (upd H2 D (.lst [])) s3.heap.objs.size (cellsFrom (s3.heap.objs.size + 1) scope.names (cloFrom X.env.cells scope.names [])) fp
  show codeAny _ _ (.compStart (.ListComp elt [⟨tg, iter, ifs, 0⟩] scope pos) 0 (.ref it) (.ref D) (compEnvC scope (cellsFrom (s3.heap.objs.size + 1) scope.names (cloFrom X.env.cells scope.names [])) s3.heap.objs.size X.env)) (compPost (model X.prog X.w) X.A X.xe use Qf (.ref D) s3.heap.objs.size) { s3 with heap := pushCells (s3.heap.push { cls := .type "dict", data := .dict #[] }) scope.names }
  have nfp : ∀ b ∈ fp, (upd H2 D (.lst [])) b = none := fun b hb => (f3 b hb).1.1
  generalize hce : compEnvC scope (cellsFrom (s3.heap.objs.size + 1) scope.names (cloFrom X.env.cells scope.names [])) s3.heap.objs.size X.env = ce at I4 pg pt pe ⊢
  have cL : ce.locals = s3.heap.objs.size := by subst hce; rfl
  generalize hH3 : upd H2 D (.lst []) = H3 at I3 I4 pg pt pe w0 nfp f3 hB
  generalize hs4 : ({ s3 with heap := pushCells (s3.heap.push { cls := .type "dict", data := .dict #[] }) scope.names } : Shared) = s4 at I4 ⊢
  have st4 : tn 0 s4.heap := T.keep _ _ _ st3 fun b _ o e => by rw [← hs4]; exact pushCells_keeps _ _ _ _ (Heap.get?_push_of_some _ e)
  have stat : ∀ {σ' : L2.St} {H' : Hp} {s' : Shared}, Inv (X.blk s3 H3 scope ce fp) [] σ' H' s' → (∀ b ∈ fp, H' b = none) → ∀ b ∈ fp, FpOk (X.blk s3 H3 scope ce fp) [] H' b := fun {σ' H' s'} I' hn b hb =>
    ⟨hn b hb, (I'.ok.exf b hb).1, I'.ok.exfs b hb, .inl hb, fun x c e => (I'.ok.exf b hb).2 x c e, fun p hp => absurd (show p ∈ ([] : List (Addr × Obj)) ++ [] from hp) (by simp)⟩
  have loop : codeAny (model X.prog X.w) X.A (.compLoop (.ListComp elt [⟨tg, iter, ifs, 0⟩] scope pos) 0 (.ref it) (.ref D) ce) (compPost (model X.prog X.w) X.A X.xe use Qf (.ref D) s3.heap.objs.size) s4 := by
    refine compLoop_any (fun n s' => ∃ i H', Inv (X.blk s3 H3 scope ce fp) [] (wipe σ (own.map (·.2))) H' s' ∧ tn i s'.heap ∧ (∀ b ∈ fp, H' b = none) ∧ W i n H') ?_ m0 ⟨0, H3, I4, st4, nfp, w0⟩
    rintro n s5 ⟨i, H5, I5, st5, n5, w5⟩
    rcases turn i n H5 w5 with ⟨stop, qq⟩ | ⟨go, Nx, hNx, step⟩
    · have td := T.done (X.blk s3 H3 scope ce fp) rfl rfl rfl i [] s5 _ H5 (fun _ _ => False) I5 (hotB_at (X := X) hB I5) (stat I5 n5) st5 stop
      refine thnF td fun r s6 ⟨hr, I6⟩ => ?_
      subst hr
      -- back in the def's context
      have I7 : Inv X pins σ H5 s6 := I3.call' (ch := fp) I6.os I6.base I6.hok I6.bare fun b hb => ⟨(f3 b hb).1.2.2.2.1, (f3 b hb).1.2.1, (f3 b hb).1.2.2.2.2.1, (f3 b hb).1.2.2.2.2.2⟩
      have nC : H5 s3.heap.objs.size = none := by
        have z : H5 ce.locals = none := I6.free
        rw [cL] at z
        exact z
      obtain ⟨m, hn, _⟩ := I6.loc
      have hn : s6.heap.Ns ce.locals m := hn
      rw [cL] at hn
      exact hRR D s3.heap.objs.size s6 m H5 I7 qq hn (I3.fpOk (Nat.le_refl _) nC)
    · have ti := T.item (X.blk s3 H3 scope ce fp) rfl rfl rfl i [] s5 _ H5 (fun _ _ => False) I5 (hotB_at (X := X) hB I5) (stat I5 n5) st5 go
      refine thnF ti fun r s6 ⟨u, hr, h6⟩ => ?_
      subst hr
      refine thnF h6 fun _ s7 ⟨x, H7, I7, r7, y7, st7, n7⟩ => ?_
      have I7' := I7.pinned (stat I7 n7) (T.obj _ _ st7)
      refine thnF (pg.run _ s7 _ H7 x u _ I7' r7 (step x H7 y7)) fun _ s8 ⟨σ8, H8, I8, hw8, q8⟩ => ?_
      refine thnF (pt.run _ s8 σ8 H8 _ I8 q8) fun b s9 ⟨H9, I9, q9⟩ => ?_
      -- the turn's end
      have fin : ∀ {s' : Shared} {H' : Hp}, Inv (X.blk s3 H3 scope ce fp) ([] ++ pinsAt fp s7.heap) σ8 H' s' → Nx H' → ∃ m, m < n ∧ ∃ i H', Inv (X.blk s3 H3 scope ce fp) [] (wipe σ (own.map (·.2))) H' s' ∧ tn i s'.heap ∧ (∀ b ∈ fp, H' b = none) ∧ W i m H' := fun {s' H'} I' nx => by
        obtain ⟨m', hm, w'⟩ := hNx H' nx
        have pin' : ∀ b ∈ fp, ∀ o, s7.heap.get? b = some o → s'.heap.get? b = some o ∧ H' b = none := fun b hb o e =>
          let z := I'.pin (b, o) (List.mem_append_right _ (List.mem_append_right _ (mem_pinsAt hb e)))
          ⟨z.1, z.2.1⟩
        have hl : (wipe σ (own.map (·.2))).length = σ8.length := by rw [← hw8, wipe_length]
        refine ⟨m', hm, i + 1, H', (I'.unpinned (pins := [])).weak hl (fun j v e => ?_), T.keep _ _ _ st7 fun b hb o e => (pin' b hb o e).1, fun b hb => ?_, w'⟩
        · rw [← hw8] at e
          exact (wipe_some e).1
        · obtain ⟨o, e, _⟩ := T.obj _ _ st7 b hb
          exact (pin' b hb o e).2
      cases b with
      | false =>
        simp only [Bool.false_eq_true, if_false] at q9 ⊢
        exact fin I9 q9
      | true =>
        simp only [if_true] at q9 ⊢
        refine thnF (pe.run _ s9 σ8 H9 _ I9 q9) fun z s10 ⟨yv, H10, I10, r10, acc, hD10, hz10, nx⟩ => ?_
        exact app_ok (X := X.blk s3 H3 scope ce fp) I10 hD10 hz10 r10 fun s11 I11 => fin I11 nx
  exact codeAny_compStart_list loop (T.self X.A 0 _ _ _ st4 loop)
theorem pe_lcH {p0 : Addr × Obj} (ho1 : L2H.Hot1 X.A p0) (hop : p0 ∈ X.pn) {elt tg iter : Expr} {ifs : List Expr} {scope : Scope} {own : List (Str × Nat)} {pos : Pos} {wi : TI} {g : TG} {tt : TT} {te : TE} (hN : X.N.Nodup) (hi : PIH X p0.1 tg iter wi) (ok : BlkOk X.N X.env.scope scope own)
    (hg : ∀ (s : Shared) (H : Hp) (C : Addr) (cl : List (Str × Addr)) (fp : List Addr), HotB X p0 s H fp → PG (X.blk s H scope (compEnvC scope cl C X.env) fp) tg g) (ht : ∀ (s : Shared) (H : Hp) (C : Addr) (cl : List (Str × Addr)) (fp : List Addr), PTs (X.blk s H scope (compEnvC scope cl C X.env) fp) ifs tt)
    (he : ∀ (s : Shared) (H : Hp) (C : Addr) (cl : List (Str × Addr)) (fp : List Addr), PE (X.blk s H scope (compEnvC scope cl C X.env) fp) elt te) (hs : ∀ x, foldedSetIterable iter X.env x = pure x := by intro _; rfl) :
    PE X (.ListComp elt [⟨tg, iter, ifs, 0⟩] scope pos) (tLc wi g tt te (own.map (·.2))) := by
  refine ⟨fun pins s σ H Q I h => ?_⟩
  rw [eval_ListComp]
  refine lc_coreH ho1 hop hN I hi ok hg ht he hs h fun D C s' m H' I' q hn f => ⟨m, hn, fun h'' sb => ?_⟩
  obtain ⟨f0, f1, f2, f3, f4, f5⟩ := f
  exact ⟨.ref D, H', I'.turned (t' := s'.toks) (fun b o hb e => (sb.2 b hb).trans e) f0 f1 f3 f4 f5, rfl, q⟩
end
end PL

namespace PL
open PySem PySem.Spec PyProof.Rows L2 HotX

/-! ## [.. for x, y in zip(a, b) if ..] while an exception is handled -/
theorem tig_zip2 {K : PySem.W.Frag} {nn : Nat} {ta : TA} {fa fb : DE} (a2 : TAok K nn ta (dCons fa (dCons fb dNil))) : TIg K nn (iZip2 K ta) (iZ2 fa fb) := fun ρ σ G H R cs l r q k => by
    unfold iZ2 at q
    cases z : fa ρ with
    | none => rw [z] at q; cases q
    | some d =>
      cases y : fb ρ with
      | none => simp [z, y] at q
      | some e =>
        simp only [z, y, Option.bind_some] at q
        cases z2 : seqD d with
        | none => simp [z2] at q
        | some bx =>
          obtain ⟨b1, xs⟩ := bx
          cases y2 : seqD e with
          | none => simp [z2, y2] at q
          | some by' =>
            obtain ⟨b2, ys⟩ := by'
            simp only [z2, y2, Option.bind_some, Option.map_some] at q
            cases q
            refine a2 ρ σ G H _ [d, e] l r (by simp [dCons, dNil, z, y]) fun vs G1 H1 u1 rvs => ?_
            cases rvs with
            | cons r1 t => cases t with
              | cons r2 t =>
                cases t
                obtain ⟨ad, ws, rfl, hx, rw1⟩ := seq_rep r1 z2
                obtain ⟨ae, us, rfl, hy, rw2⟩ := seq_rep r2 y2
                refine ⟨b1, b2, ad, ae, ws, us, rfl, hx.mono u1.le, hy.mono u1.le, k _ G1 H1 u1 fun i G2 H2 g l2 => ?_⟩
                have hx2 : SqX K b1 H2 ad ws := (hx.mono g).mono l2
                have hy2 : SqX K b2 H2 ae us := (hy.mono g).mono l2
                refine ⟨fun cc hc => ?_, fun hi => ⟨ws, us, hx2, hy2, by rw [hi, zip2D_len, rw1.length, rw2.length]⟩⟩
                obtain ⟨x, w, rfl, e1, e2⟩ := zip2D_get _ _ _ _ hc
                obtain ⟨v1, g1, p1⟩ := rw1.get e1
                obtain ⟨v2, g2, p2⟩ := rw2.get e2
                refine ⟨⟨ws, us, v1, v2, hx2, hy2, g1, g2⟩, fun v H3 yy => ?_⟩
                obtain ⟨T, x', y', rfl, nT, rfl, f1, f2⟩ := yy
                have e1 := f1 ws hx2
                have e2 := f2 us hy2
                rw [g1] at e1; cases e1
                rw [g2] at e2; cases e2
                have gg := g.trans (Ex.new (o := .tup [v1, v2]) (l2.free nT))
                exact ⟨_, .pair l2 nT, .tup upd_same (.cons (p1.mono gg) (.cons (p2.mono gg) .nil))⟩
section
variable {X : Cx} {elt a b : Expr} {elts : List Expr} {kk : Nat} {p tpos zpos : Pos} {ifs : List Expr} {scope : Scope} {own : List (Str × Nat)} {pos : Pos} {fa fb : DE} {tg : Tg} {cond : DB} {fe : DE}
theorem nw_zipH {p0 : Addr × Obj} (ho1 : L2H.Hot1 X.A p0) (hop : p0 ∈ X.pn) (tg : Tg) (hN : X.N.Nodup) (hm : X.mg "zip" = none) (ha : PuE X a fa) (hb : PuE X b fb) (ok : blkC X.N X.env.scope scope own = true)
    (hg : ∀ (s : Shared) (H : Hp) (C : Addr) (cl : List (Str × Addr)) (fp : List Addr), HotB X p0 s H fp → PG (X.blk s H scope (compEnvC scope cl C X.env) fp) (.Tuple elts kk tpos) (tgTG X.K tg))
    (ht : ∀ (s : Shared) (H : Hp) (C : Addr) (cl : List (Str × Addr)) (fp : List Addr), PuTs (X.blk s H scope (compEnvC scope cl C X.env) fp) ifs cond)
    (he : ∀ (s : Shared) (H : Hp) (C : Addr) (cl : List (Str × Addr)) (fp : List Addr), PuE (X.blk s H scope (compEnvC scope cl C X.env) fp) elt fe)
    (hsl : ∀ i ∈ tg.slots, i < X.N.length) (hw : ∀ i ∈ tg.slots, i ∈ own.map (·.2)) (hs : ∀ x, foldedSetIterable (.Call (.Name "zip" p) [a, b] [] zpos) X.env x = pure x := by intro _; rfl)
    (hgz : Gl X "zip" := by rfl) (hsa : starEach [a, b] X.env = (false, eval a X.env) :: starEach [b] X.env := by rfl) (hs1 : starEach (b :: []) X.env = (false, eval b X.env) :: starEach [] X.env := by rfl)
    (hpl : (backTo zpos (starEach [b] X.env)).any (·.1) = false := by rfl) :
    NwE X (.ListComp elt [⟨.Tuple elts kk tpos, .Call (.Name "zip" p) [a, b] [] zpos, ifs, 0⟩] scope pos) (eComp (iZ2 fa fb) tg (own.map (·.2)) cond fe) := by
  obtain ⟨ta, a1, a2⟩ := (pa_consU ha (pa_consU hb pa_nilU hs1) hsa).ex
  refine ⟨tLc (iZip2 X.K ta) (tgTG X.K tg) (fun σ H Q => ∀ t, TTok X.K X.N.length t cond → t σ H Q) (fun σ H Q => ∀ t, TEok X.K X.N.length t fe → t σ H Q) (own.map (·.2)), ?_, ?_⟩
  · refine pe_lcH ho1 hop hN (pi_zip2H ho1 hop hgz hm a1 hsa hpl) (blkOk_by ok) hg (fun s H C cl fp => ?_) (fun s H C cl fp => ?_) hs
    · obtain ⟨t, a1, a2⟩ := (ht s H C cl fp).ex
      exact ⟨fun pins s' σ H' Q I h => a1.run pins s' σ H' Q I (h t a2)⟩
    · obtain ⟨t, a1, a2⟩ := (he s H C cl fp).ex
      exact ⟨fun pins s' σ H' Q I h => a1.run pins s' σ H' Q I (h t a2)⟩
  · exact te_comp (fun ρ σ G H R cs l r q k => tig_zip2 a2 ρ σ G H R cs l r q fun J G' H' u w => k J G' H' u w.weak) (fun ρ σ G H Q b l r q k t ok => ok ρ σ G H Q b l r q k) (fun ρ σ G H Q d l r q k t ok => ok ρ σ G H Q d l r q k) hsl hw
end
end PL

namespace PL
open PySem PySem.Spec PyProof.Rows L2

/-! ## own errors -/
structure XcK (K : PySem.W.Frag) (mg : Str → Option Value) (cn : Str) (D : Addr) : Prop where
  n : PySem.W.nsIn K mainGlobals cn = some (some (.ref D))
  m : mg cn = some (.ref D)
  ex : PySem.W.excIn K D [.type "ValueError", .type "Exception", .type "BaseException", .type "object"] "ValueError.__new__" = true
  kp : PySem.W.keepIn K (.ref D) = true
  s : PySem.W.subIn K (.ref D) (.type "BaseException") = some true
  t : PySem.W.typeIn K (.ref D) = some (.type "type")
  c : ExcC K D
/-- an error of the class of that name -/
def IsX (K : PySem.W.Frag) (cn : Str) (cls : Value) (d : Option Addr) : Prop := d = none ∧ ∃ D, cls = .ref D ∧ PySem.W.nsIn K mainGlobals cn = some (some (.ref D))
theorem IsX.eq {K : PySem.W.Frag} {mg : Str → Option Value} {cn : Str} {D : Addr} (c : XcK K mg cn D) {cls : Value} {d : Option Addr} (h : IsX K cn cls d) : cls = .ref D ∧ d = none := by
  obtain ⟨h1, D', rfl, h2⟩ := h
  have := h2.symm.trans c.n
  cases this
  exact ⟨rfl, h1⟩
/-! ### a caught error asked for its class -/
theorem call_isP {X : Cx} {p : Addr × Obj} {D : Addr} (C : ExcC X.K D) (hp : p ∈ X.pn) (hz : Zc (.ref D) none p.2) (hf : ∃ vs, p.2.data = .fields vs) : CallR X (.builtin "isinstance") (rIsE X.K D p.1) := by
  intro pins s σ H xs us Q I r h
  obtain ⟨c, cv, b, rfl, hcv, e, q⟩ := h
  cases r with
  | cons rx rr =>
    cases rr with
    | cons rt rr =>
      cases rr
      cases rx
      have ec := hcv _ rt
      subst ec
      obtain ⟨hget, _⟩ := I.pin p (List.mem_append.mpr (.inl hp))
      obtain ⟨vs, hv⟩ := hf
      have J : PySem.W.InstAt s.heap p.1 p.2 D none := by
        obtain ⟨a, oc, od, oda, osl⟩ := p
        obtain ⟨h1, h2⟩ := hz
        dsimp only at h1 h2 hv hget
        subst h1 h2 hv
        exact ⟨hget, rfl, rfl, trivial⟩
      exact PySem.W.kia_one (PySem.W.handS_kitx_exc C.hg C.hk C.hs C.hd C.ha C.hn C.ht C.hm) I.kIn J e (fun z => nomatch z) fun tk => ⟨.bl b, H, I.kept (t' := tk) fun _ _ z => z, rfl, q⟩
def eIsE (i : Nat) (a : Addr) (b : Bool) : DE := fun ρ => match ρ i with
  | some (.rf x) => if x = a then some (.bl b) else none
  | _ => none
section
variable {X : Cx} {y x : Str} {Dc C : Addr} {p : Addr × Obj} {b : Bool} {p0 p1 p2 pos : Pos}
theorem eIsE_some {i : Nat} {a : Addr} {ρ : DEnv} {d : D} (q : eIsE i a b ρ = some d) : ρ i = some (.rf a) ∧ d = .bl b := by
  unfold eIsE at q
  split at q
  · rename_i z e
    split at q
    · rename_i h; subst h; cases q; exact ⟨e, rfl⟩
    · cases q
  · cases q
theorem pu_isE0 (i : Nat) {v : V} {cv : Value} (E : ExcC X.K Dc) (hp : p ∈ X.pn) (hz : Zc (.ref Dc) none p.2) (hf : ∃ vs, p.2.data = .fields vs) (hm : X.mg "isinstance" = none) (hc : PE X (.Name x p2) (tC v)) (hv : ∀ u, RelV v u → u = cv) (hk : PySem.W.kitOne X.K (.ref Dc) cv = some b)
    (hN : X.N[i]? = some y := by rfl) (hvs : Vis X.env.scope y := by first | exact Or.inl rfl | exact Or.inr (Or.inl rfl) | exact Or.inr (Or.inr rfl)) (hd : (y == ("__debug__" : Str)) = false := by decide) (hcd : (y == ("__classdict__" : Str)) = false := by decide) (hg : Gl X "isinstance" := by rfl)
    (he : starEach [.Name y p1, .Name x p2] X.env = (false, eval (.Name y p1) X.env) :: starEach [.Name x p2] X.env := by rfl) (he2 : starEach [.Name x p2] X.env = (false, eval (.Name x p2) X.env) :: starEach [] X.env := by rfl) (hpl : (backTo pos (starEach [.Name x p2] X.env)).any (·.1) = false := by rfl) :
    PuE X (.Call (.Name "isinstance" p0) [.Name y p1, .Name x p2] [] pos) (eIsE i p.1 b) :=
  ⟨_, pe_callB (call_isP E hp hz hf) hg hm boot_isinstance (pa_cons (pe_var hN hvs hd hcd) (pa_cons hc pa_nil he2) he) (by decide) (by decide) he hpl, fun ρ σ G H Q d l r q k => by
    obtain ⟨h1, rfl⟩ := eIsE_some q
    obtain ⟨u, h2, h3⟩ := r.at_ i _ h1
    have h3 : u = .ref p.1 := h3
    subst h3
    exact ⟨_, h2, v, cv, b, rfl, hv, hk, k _ G H (.refl l) (.bl b)⟩⟩
/-- isinstance(e, C), C a class of the text -/
structure IsB (K : PySem.W.Frag) (mg : Str → Option Value) (Dc : Addr) (x : Str) (b : Bool) : Prop where
  ex : ∃ C, mg x = some (.ref C) ∧ PySem.W.kitOne K (.ref Dc) (.ref C) = some b
theorem pu_isE (i : Nat) (E : ExcC X.K Dc) (hp : p ∈ X.pn) (hz : Zc (.ref Dc) none p.2) (hf : ∃ vs, p.2.data = .fields vs) (hm : X.mg "isinstance" = none) (hc : IsB X.K X.mg Dc x b)
    (hN : X.N[i]? = some y := by rfl) (hvs : Vis X.env.scope y := by first | exact Or.inl rfl | exact Or.inr (Or.inl rfl) | exact Or.inr (Or.inr rfl)) (hd : (y == ("__debug__" : Str)) = false := by decide) (hcd : (y == ("__classdict__" : Str)) = false := by decide) (hg : Gl X "isinstance" := by rfl) (hgx : Gl X x := by rfl) (hdx : (x == ("__debug__" : Str)) = false := by decide)
    (he : starEach [.Name y p1, .Name x p2] X.env = (false, eval (.Name y p1) X.env) :: starEach [.Name x p2] X.env := by rfl) (he2 : starEach [.Name x p2] X.env = (false, eval (.Name x p2) X.env) :: starEach [] X.env := by rfl) (hpl : (backTo pos (starEach [.Name x p2] X.env)).any (·.1) = false := by rfl) :
    PuE X (.Call (.Name "isinstance" p0) [.Name y p1, .Name x p2] [] pos) (eIsE i p.1 b) :=
  let ⟨C, h1, h2⟩ := hc.ex; pu_isE0 i (v := .ref C) (cv := .ref C) E hp hz hf hm (pe_glob hgx h1 rfl hdx) (fun u r => r) h2 hN hvs hd hcd hg he he2 hpl
theorem pu_isV (i : Nat) (E : ExcC X.K Dc) (hp : p ∈ X.pn) (hz : Zc (.ref Dc) none p.2) (hf : ∃ vs, p.2.data = .fields vs) (hm : X.mg "isinstance" = none) (hmv : X.mg "ValueError" = none) (hk : PySem.W.kitOne X.K (.ref Dc) (.type "ValueError") = some b)
    (hN : X.N[i]? = some y := by rfl) (hvs : Vis X.env.scope y := by first | exact Or.inl rfl | exact Or.inr (Or.inl rfl) | exact Or.inr (Or.inr rfl)) (hd : (y == ("__debug__" : Str)) = false := by decide) (hcd : (y == ("__classdict__" : Str)) = false := by decide) (hg : Gl X "isinstance" := by rfl) (hgx : Gl X "ValueError" := by rfl)
    (he : starEach [.Name y p1, .Name "ValueError" p2] X.env = (false, eval (.Name y p1) X.env) :: starEach [.Name "ValueError" p2] X.env := by rfl) (he2 : starEach [.Name "ValueError" p2] X.env = (false, eval (.Name "ValueError" p2) X.env) :: starEach [] X.env := by rfl) (hpl : (backTo pos (starEach [.Name "ValueError" p2] X.env)).any (·.1) = false := by rfl) :
    PuE X (.Call (.Name "isinstance" p0) [.Name y p1, .Name "ValueError" p2] [] pos) (eIsE i p.1 b) :=
  pu_isE0 i (v := .ty "ValueError") (cv := .type "ValueError") E hp hz hf hm (pe_bltn (v := .ty "ValueError") hgx hmv (by boot_fact) rfl (by decide) (by decide)) (fun u r => r) hk hN hvs hd hcd hg he he2 hpl
end

/-! ### a def called in the except suite, told of the error that is handled -/
structure FnHP (P : Program) (w : World) (K : PySem.W.Frag) (mg : Str → Option Value) (base : Heap) (k : Nat) (f : Addr) (fd : FuncData) (ps : List Str) (sp : Addr × Obj → Sp) : Prop where
  len : ∀ p vs H Q E, sp p vs H Q E → vs.length = ps.length
  run : ∀ (A : Around) (outer : List Env) (s : Shared) (H : Hp) (args : Args) (us : List Value) (vs : List V) (Q : VK) (E : XK) (p : Addr × Obj), L2H.RoomH k A → L2H.Hot1 A p → L2H.PinOk outer H s p → Env0 P w K mg base A outer s H → BindsTo s fd args (ps.zip us) → Vals vs us → sp p vs H Q E →
    codeAny (model P w) A (.call (.ref f) args) (CR CX0 outer P w H s Q E) s
theorem fn_ofHP {P : Program} {w : World} {K : PySem.W.Frag} {mg : Str → Option Value} {base : Heap} {k : Nat} {f : Addr} {fd : FuncData} {x qual : Str} {st : Stmt} {N ps : List Str} {sp : Addr × Obj → Sp} (F : Fun K x qual st f fd) (S : FnScope N ps (defScope st))
    (len : ∀ p vs H Q E, sp p vs H Q E → vs.length = ps.length)
    (hbody : ∀ (cdv : Value) (A : Around) (outer : List Env) (s : Shared) (H : Hp) (vs : List V) (Q : VK) (E : XK) (p : Addr × Obj), L2H.Hot1 A p → L2H.RoomH k (A.deeper (envOfC qual (defScope st) s.heap.objs.size f cdv)) → sp p vs H Q E →
      ∃ t, PSs (L2H.cxH CX0 P w K mg base N qual (defScope st) f cdv A outer s H E p) (defBody st) t ∧ t { nx := fun _ H' => Q .non H', rt := Q } (L2.start N vs) H) :
    FnHP P w K mg base (k + 1) f fd ps sp := by
  obtain ⟨oc, od, kV, doc, pm, an, cdv, ct, osl, rfl, lk, hcd⟩ := F.ex
  refine ⟨len, fun A outer s H args us vs Q E p hr hot hpin e0 hb r hsp => ?_⟩
  have hl := len _ _ _ _ _ hsp
  have KX : K.In s.heap := e0.mod.kin.keeps fun b o e => (e0.bs b o e).1
  have lim : s.heap.NoLimit := e0.mod.nolimit.keeps fun b o e => (e0.bs b o e).1
  have hkind : ∀ y ∈ ps.zip us, (defScope st).names.lookup y.1 = some .local ∨ ((defScope st).names.lookup y.1 = some .cell ∧ ((cellsFrom (s.heap.objs.size + 1) (defScope st).names []).lookup y.1).isSome = true) := fun ⟨n, v⟩ hy => by
    rcases S.par n (List.of_mem_zip hy).1 with q | q
    · exact .inl q
    · exact .inr ⟨q, PySem.W.cellsFrom_some _ _ _ (.inl q)⟩
  refine codeAny_call_function hr.depth (KX _ _ lk) rfl S.co S.gen rfl (PySem.W.codeRec_of KX hcd) (hb _ _ _ _ ?_)
  refine wpAny_newFunctionEnv_cells S.kind hkind fun env he s1 xc => ?_
  subst he
  refine ⟨lim.keeps xc.toInCall.keep, codeAny_func ?_⟩
  obtain ⟨t, ht, hq⟩ := hbody cdv A outer s H vs Q E p hot (hr.deeper _) hsp
  have I := L2H.inv_startH (CX := CX0) (P := P) (w := w) (mg := mg) (E := E) (cd := cdv) (f := f) (qual := qual) S hpin e0 hl r xc
  refine wpAny_mono (ht.run [] s1 (L2.start N vs) H _ I hq) (fun fl s' hs => ?_) fun e s' hs => hs
  have fin : ∀ {σ' : L2.St} {H' : Hp} {v : V} {u : Value}, Inv (L2H.cxH CX0 P w K mg base N qual (defScope st) f cdv A outer s H E p) [] σ' H' s' → RelV v u → Q v H' → CE outer P w H s Q u s' :=
    fun {σ' H' v u} J rv q => ⟨v, H', J.os, J.bare, J.base, J.hok, rv, q⟩
  cases fl with
  | ret u =>
    obtain ⟨v, σ', H', J, rv, q⟩ := hs
    exact fin J rv q
  | next =>
    obtain ⟨σ', H', J, q⟩ := hs
    exact fin (v := V.non) (u := Value.none) J rfl q
  | brk =>
    obtain ⟨_, _, _, q⟩ := hs
    exact False.elim q
  | cont =>
    obtain ⟨_, _, _, q⟩ := hs
    exact False.elim q
/-- what such a def tells of an error of the class D: the text z -/
def spErr (D : Addr) (z : Str) (p : Addr × Obj) : Sp := fun vs H Q _ => vs = [.ref p.1] ∧ Zc (.ref D) none p.2 ∧ ∃ G, Ex G H ∧ ∀ G' H', Up G H G' H' → Q (.str z) H'
def envE (a : Addr) : DEnv := fun i => if i = 0 then some (.rf a) else none
theorem start_srE {K : PySem.W.Frag} {N : List Str} {G H : Hp} {a : Addr} (l : Ex G H) (h : 1 ≤ N.length) : SR K N.length G H (envE a) (L2.start N [.ref a]) G H := by
  have at0 : ∀ i c, envE a i = some c → i = 0 ∧ c = .rf a := fun i c e => by
    unfold envE at e
    split at e
    · rename_i hi; cases e; exact ⟨hi, rfl⟩
    · cases e
  have s0 : (L2.start N [.ref a])[0]? = some (some (.ref a)) := rfl
  refine ⟨⟨start_len (vs := [.ref a]) (by simpa using h), fun i c e => ?_⟩, .refl l, fun i c v e _ => ?_, fun i j c c' v v' x e _ _ _ f _ => ?_⟩
  · obtain ⟨rfl, rfl⟩ := at0 i c e; exact ⟨_, s0, rfl⟩
  · obtain ⟨rfl, rfl⟩ := at0 i c e; trivial
  · obtain ⟨rfl, rfl⟩ := at0 i c e; exact f.elim
theorem err_ok {P : Program} {w : World} {K : PySem.W.Frag} {mg : Str → Option Value} {base : Heap} {x qual : Str} {st : Stmt} {f : Addr} {fd : FuncData} {N ps : List Str} {k : Nat} {D : Addr} {z : Str} {body : Addr → DS} (F : Fun K x qual st f fd) (S : FnScope N ps (defScope st)) (hn : ps.length = 1) (hl : ps.length ≤ N.length)
    (hz : ∀ a, body a (envE a) = some (.rt (.str z)))
    (hb : ∀ (cdv : Value) (A : Around) (outer : List Env) (s : Shared) (H : Hp) (E : XK) (p : Addr × Obj), L2H.Hot1 A p → Zc (.ref D) none p.2 → L2H.RoomH k (A.deeper (envOfC qual (defScope st) s.heap.objs.size f cdv)) →
      PuSs (L2H.cxH CX0 P w K mg base N qual (defScope st) f cdv A outer s H E p) (defBody st) (body p.1)) : FnHP P w K mg base (k + 1) f fd ps (spErr D z) := by
  refine fn_ofHP F S (fun p vs H Q E h => ?_) (fun cdv A outer s H vs Q E p hot hr h => ?_)
  · rw [h.1, hn]; rfl
  · obtain ⟨rfl, hzc, G, l, kq⟩ := h
    obtain ⟨t, a1, a2⟩ := (hb cdv A outer s H E p hot hzc hr).ex
    refine ⟨t, a1, a2 G H _ _ G H _ _ (start_srE l (by rw [← hn]; exact hl)) (hz p.1) ?_⟩
    intro v G' H' u rv
    cases rv
    exact kq G' H' u
/-- .. called there -/
theorem run_fnHP {X : Cx} {k : Nat} {f : Addr} {fd : FuncData} {ps : List Str} {sp : Addr × Obj → Sp} {pins : List (Addr × Obj)} {σ : L2.St} {H : Hp} {s : Shared} {Q : VK} {us : List Value} {vs : List V} {p : Addr × Obj} (F : FnHP X.prog X.w X.K X.mg X.base k f fd ps sp) (hr : L2H.RoomH k X.A) (hot : L2H.Hot1 X.A p) (hp : p ∈ X.pn) (hb : Binds X.K fd ps [])
    (I : Inv X pins σ H s) (r : Vals vs us) (h : sp p vs H Q E0) : wpAny (model X.prog X.w) X.A (call (.ref f) us) (EP X pins σ Q) X.xe s := by
  have hl : us.length = ps.length := by rw [← r.length]; exact F.len _ _ _ _ _ h
  have b := hb s us I.kIn (by rw [List.append_nil]; exact hl)
  rw [List.append_nil] at b
  have P1 := I.pin p (List.mem_append_left _ hp)
  have hpin : L2H.PinOk X.stack H s p := ⟨P1.1, P1.2.1, fun hm => (List.mem_cons.mp (I.stkSub p.1 hm)).elim P1.2.2.1 P1.2.2.2.1, P1.2.2.2.2⟩
  refine wpAny_call (codeAny_mono (F.run X.A X.stack s H ⟨us, []⟩ us vs Q E0 p hr hot hpin I.env0 b r h) fun r s' hq => ?_)
  cases r with
  | error e => exact (show False from hq).elim
  | ok fl =>
    cases fl with
    | ret u => exact I.after hq
    | next => exact False.elim hq
    | brk => exact False.elim hq
    | cont => exact False.elim hq
end PL

namespace PL
open PySem PySem.Spec PyProof.Rows L2
open LamX (CodeO TabS Tabs ExtN TabB LamS lamEnv)

/-! ## _law_told(lambda: ..) -/
section
variable {X : Cx} {p : Addr × Obj} {k : Nat} {f : Addr} {fd : FuncData} {ps : List Str} {sp : Addr × Obj → Sp} {x : Str} {q pos : Pos} {e : Expr} {es : List Expr} {t : TA}
theorem pe_callHP (F : FnHP X.prog X.w X.K X.mg X.base k f fd ps sp) (hr : L2H.RoomH k X.A) (hot : L2H.Hot1 X.A p) (hp : p ∈ X.pn) (hb : Binds X.K fd ps []) (hg : Gl X x) (hm : X.mg x = some (.ref f)) (hk : PySem.W.keepIn X.K (.ref f) = true) (ha : PA X (e :: es) t)
    (hdb : (x == ("__debug__" : Str)) = false := by decide) (he : starEach (e :: es) X.env = (false, eval e X.env) :: starEach es X.env := by rfl) (hpl : (backTo pos (starEach es X.env)).any (·.1) = false := by rfl) :
    PE X (.Call (.Name x q) (e :: es) [] pos) (fun σ H Q => t σ H fun vs H1 => sp p vs H1 Q E0) := by
  refine ⟨fun pins s σ H Q I h => ?_⟩
  refine wpAny_Call_Name_kw (ld_glob I hg hm ?_ hdb)
  refine PySem.W.callWith_K (h₀ := X.base) I.ok.mod.kin hk (thn (ha.run pos pins s σ H _ I h) fun us s1 ⟨vs, H1, I1, r, q⟩ => ⟨I1.kIn, ?_⟩) he hpl
  exact run_fnHP F hr hot hp hb I1 r q
end
theorem takes0N {X : Cx} : L2N.Takes X (fun _ _ _ _ => False) := fun _ _ x => by
  obtain ⟨_, _, _, _, _, _, _, _, _, _, _, _, _, _, _, _, z⟩ := x
  exact z.elim
/-- the context of the lambda's body -/
abbrev lamX (X : Cx) (A : Around) (outer : List Env) (s : Shared) (H : Hp) (E : XK) (scope : Scope) (f c' : Addr) : Cx := (LamX.lamCx X A outer s H E scope f c').tr []
  (fun e s' => wpAny (model X.prog X.w) (A.deeper (lamEnv X scope s.heap.objs.size f c')) (leaving (lamEnv X scope s.heap.objs.size f c') e) (fun _ s'' => L2N.CX X.prog X.w outer H s E e s'') (fun e' s'' => L2N.CX X.prog X.w outer H s E e' s'') s')
theorem lamX_takes {X : Cx} {A : Around} {outer : List Env} {s : Shared} {H : Hp} {E : XK} {scope : Scope} {f c' : Addr} : L2N.Takes (lamX X A outer s H E scope f c') (fun cls d _ H => E cls d H) :=
  L2N.takes_of (X := lamX X A outer s H E scope f c') (E := E) rfl rfl rfl rfl
section
variable {X : Cx} {pins : List (Addr × Obj)} {σ : L2.St} {H : Hp} {s : Shared}
theorem pe_actN {CXg : CXT} {Eg : XK} {Ng : List Str} {qg : Str} {sg : Scope} {g f c' : Addr} {cdg pm ctv : Value} {params : Arguments} {body : Expr} {scope : Scope} {k i : Nat} {a : Str} {pn : List (Addr × Obj)} {xe : Value → Shared → Prop} {W : WX} {E : XK} {tb : TE} {p1 p2 : Pos}
    (I : Inv X pins σ H s) (L : LamS X.env.scope scope) (hf : s.heap.get? f = some (PySem.W.kla_obj "<lambda>" (X.env.qual ++ "<lambda>") params body scope (cloFrom X.env.cells scope.names []) pm c' ctv)) (hfn : H f = none) (hfr : f ∉ frs X.stack)
    (hbind : bindArgs (PySem.W.kla_fn "<lambda>" (X.env.qual ++ "<lambda>") params body scope (cloFrom X.env.cells scope.names []) pm (.ref c') ctv) ⟨[], []⟩ = pure [])
    (tk : L2N.Takes ((cxOf CXg X.prog X.w X.K X.mg X.base Ng qg sg g cdg X.A X.stack s H Eg).tr pn xe) W) (hW : ∀ cls d σ' H', σ'.length = Ng.length → E cls d H' → W cls d σ' H') (hr : Room (k + 1) (X.A.deeper (envOfC qg sg s.heap.objs.size g cdg)))
    (hbody : ∀ (A : Around) (outer : List Env) (s : Shared) (H : Hp), Room k (A.deeper (lamEnv X scope s.heap.objs.size f c')) → PE (lamX X A outer s H E scope f c') body tb)
    (hN : Ng[i]? = some a) (hv : Vis sg a) (hd : (a == ("__debug__" : Str)) = false := by decide) (hcd : (a == ("__classdict__" : Str)) = false := by decide) :
    PE ((cxOf CXg X.prog X.w X.K X.mg X.base Ng qg sg g cdg X.A X.stack s H Eg).tr pn xe) (.Call (.Name a p1) [] [] p2)
      (fun σZ HZ Q => σZ[i]? = some (some (.ref f)) ∧ HZ c' = some (CodeO c' (X.env.qual ++ "<lambda>")) ∧ tb σ HZ Q) := by
  refine ⟨fun pinsZ sZ σZ HZ Q IZ h => ?_⟩
  obtain ⟨hs, hc, ht⟩ := h
  refine wpAny_Call_Name_kw (thn ((pe_var (pos := p1) (i := i) hN hv hd hcd).run pinsZ sZ σZ HZ (fun v H1 => v = .ref f ∧ H1 = HZ) IZ ⟨.ref f, hs, rfl, rfl⟩) fun u s1 ⟨v, H1, I1, r1, q1⟩ => ?_)
  obtain ⟨ev, eH⟩ := q1
  subst ev
  rw [eH] at I1
  obtain rfl : u = Value.ref f := r1
  have of1 : s1.heap.get? f = some (PySem.W.kla_obj "<lambda>" (X.env.qual ++ "<lambda>") params body scope (cloFrom X.env.cells scope.names []) pm c' ctv) := I1.base.keep f _ hf hfn hfr (fun z => nomatch (show f ∈ ([] : List Addr) from z))
  refine PySem.W.callWith_F0 ⟨_, _, _, _, of1⟩ ?_
  have un : Un (frs X.stack) [] H HZ s.heap s1.heap := I1.base
  obtain ⟨⟨oc, vs, t, hoc, hdc, hvc⟩, _, _⟩ := I1.hok c' _ hc
  have rc : codeAny (model X.prog X.w) (X.A.deeper (envOfC qg sg s.heap.objs.size g cdg)) (.call (.ref f) ⟨[], []⟩) (CR (L2N.CX X.prog X.w) (envOfC qg sg s.heap.objs.size g cdg :: X.stack) X.prog X.w HZ s1 Q E) s1 := by
    refine PySem.W.kla_callFunE hr.depth of1 rfl L.co L.gen rfl ⟨c', oc, vs, t, rfl, hoc, hdc, hvc⟩ ?_
    rw [hbind]
    refine wpAny_pure (wpAny_newFunctionEnv (fun y hy => (L.own y hy).2) (fun y hy => absurd hy (by simp)) (fun h₁ hns hsb => ⟨I1.nolimit.fresh _ hsb, ?_⟩) L.kind)
    show codeAny _ _ (.expr body (lamEnv X scope s1.heap.objs.size f c')) _ _
    have kp : ∀ b o, s1.heap.get? b = some o → h₁.get? b = some o := fun b o e => hsb.extBut b o (Nat.ne_of_lt (Heap.lt_size e)) (Heap.get?_push_of_some _ e)
    have J := (LamX.lam_start2 (E := E) (f := f) (c' := c') (tk := s1.toks + ([] : List (Str × Value)).length) I L I1.env0 hr.hd un hns kp).toTry
      (fun e s' => wpAny (model X.prog X.w) ((X.A.deeper (envOfC qg sg s.heap.objs.size g cdg)).deeper (lamEnv X scope s1.heap.objs.size f c')) (leaving (lamEnv X scope s1.heap.objs.size f c') e)
        (fun _ s'' => L2N.CX X.prog X.w (envOfC qg sg s.heap.objs.size g cdg :: X.stack) HZ s1 E e s'') (fun e' s'' => L2N.CX X.prog X.w (envOfC qg sg s.heap.objs.size g cdg :: X.stack) HZ s1 E e' s'') s')
    refine PySem.W.kla_codeExpr (wpAny_mono ((hbody _ _ s1 HZ (hr.deeper _)).run [] _ _ HZ Q J ht) (fun v s' hq => ?_) fun e s' hq => hq)
    obtain ⟨w', H', J', rv, q⟩ := hq
    exact ⟨w', H', J'.os, J'.bare, J'.base, J'.hok, rv, q⟩
  refine wpAny_call (codeAny_mono rc fun r s' hq => ?_)
  cases r with
  | error e => exact tk e s' (L2N.XE.of_call I1 (fun cls d H' h => hW cls d σZ H' I1.len h) hq)
  | ok fl =>
    cases fl with
    | ret u => exact I1.after hq
    | next => exact False.elim hq
    | brk => exact False.elim hq
    | cont => exact False.elim hq
end
/-- what _law_told makes of the lambda's reading: L: the classes that may be raised, and what is told of them -/
def TTold (L : List (Addr × Str)) : (XK → Hp → VK → Prop) → Hp → VK → Prop := fun tl H Q =>
  tl (fun cls d H' => d = none ∧ ∃ q ∈ L, cls = .ref q.1 ∧ ∃ G, Ex G H' ∧ ∀ G1 H1, Up G H' G1 H1 → ∀ p, H1 p = none → Q (.ref p) (upd H1 p (.tup [.non, .str q.2]))) H
    (fun v H' => [v, V.str Str.empty].length ≤ sizeLine ∧ ∀ p, H' p = none → Q (.ref p) (upd H' p (.tup [v, .str Str.empty])))
def tLamN (T : List (Addr × Str)) (L : List (Addr × Str)) (t : XK → TE) : TE := fun σ H Q => Tabs T H ∧ ∀ H1, ExtN H H1 → Tabs T H1 → TTold L (fun E H' Q' => t E σ H' Q') H1 Q
/-- the text of _law_told -/
def toldBody (e0 : Str) (j1 k1 j2 k2 : Nat) (p1 p2 p3 p4 p5 p6 p7 p8 p9 p10 p11 p12 p13 p14 : Pos) : List Stmt :=
  [.Try [.Return (some (.Tuple [.Call (.Name "call" p1) [] [] p2, .Constant (.str Str.empty) j1 p3] k1 p4)) p5]
    [.ExceptHandler (some (.Name e0 p6)) (some "e") [.Return (some (.Tuple [.Constant .none j2 p7, .Call (.Name "_law_error" p8) [.Name "e" p9] [] p10] k2 p11)) p12] p13] [] [] p14]
/-- what is known of _law_told and _law_error, at L's classes -/
structure ToldD (P : Program) (w : World) (K : PySem.W.Frag) (mg : Str → Option Value) (base : Heap) (k : Nat) (st : Stmt) (L : List (Addr × Str)) : Prop where
  told : ∃ g fd, mg "_law_told" = some (.ref g) ∧ PySem.W.keepIn K (.ref g) = true ∧ Fun K "_law_told" "_law_told" st g fd ∧ Binds K fd ["call"] []
  body : ∃ j1 k1 j2 k2 p1 p2 p3 p4 p5 p6 p7 p8 p9 p10 p11 p12 p13 p14, defBody st = toldBody "RoadError" j1 k1 j2 k2 p1 p2 p3 p4 p5 p6 p7 p8 p9 p10 p11 p12 p13 p14
  sc : FnScope ["call", "e"] ["call"] (defScope st)
  err : ∃ f fd, mg "_law_error" = some (.ref f) ∧ PySem.W.keepIn K (.ref f) = true ∧ Binds K fd ["e"] [] ∧ ∀ q ∈ L, FnHP P w K mg base k f fd ["e"] (spErr q.1 q.2)
  cls : ∃ CS, mg "RoadError" = some (.ref CS) ∧ ∀ q ∈ L, PySem.W.exmOne K (.ref q.1) (.ref CS) = some true
  loc : (defScope st).names.lookup ("call" : Str) = some .local ∧ (defScope st).names.lookup ("e" : Str) = some .local ∧ (defScope st).names.lookup ("_law_error" : Str) = some .globalImplicit ∧ (defScope st).names.lookup ("RoadError" : Str) = some .globalImplicit
/-- _law_told(lambda: body) -/
theorem pe_told {X : Cx} {T : List (Addr × Str)} {L : List (Addr × Str)} {st : Stmt} {c P : Addr} {k : Nat} {params : Arguments} {body : Expr} {scope : Scope} {t : XK → TE} {p lpos pos : Pos} (TD : ToldD X.prog X.w X.K X.mg X.base k st L)
    (TB : TabB X.base X.mg c P) (hcode : X.env.code = .ref c) (hmT : (P, X.env.qual ++ "<lambda>") ∈ T) (hu : ∀ p ∈ T, p.1 = P → p.2 = X.env.qual ++ "<lambda>") (hr : Room (k + 2) X.A) (Lm : LamS X.env.scope scope) (hdef : defaultsOf params X.env = ([], []))
    (hbind : ∀ (q : Str) (cl : List (Str × Addr)) (pm cv ctv : Value), bindArgs (PySem.W.kla_fn "<lambda>" q params body scope cl pm cv ctv) ⟨[], []⟩ = pure [])
    (hbody : ∀ (A : Around) (outer : List Env) (s : Shared) (H : Hp) (E : XK) (f c' : Addr), Room k (A.deeper (lamEnv X scope s.heap.objs.size f c')) → PE (lamX X A outer s H E scope f c') body (t E)) (hg : Gl X "_law_told" := by rfl) :
    PE X (.Call (.Name "_law_told" p) [.Lambda params body scope lpos] [] pos) (tLamN T L t) := by
  obtain ⟨g, fd, hm, hk, F, hb⟩ := TD.told
  obtain ⟨oc, od, kV, doc, pm, an, cdv, ct, osl, rfl, lk, hcg⟩ := F.ex
  obtain ⟨fe, fde, hme, hke, hbe, hE⟩ := TD.err
  obtain ⟨CS, hmS, hS⟩ := TD.cls
  obtain ⟨l1, l2, l3, l4⟩ := TD.loc
  obtain ⟨j1, k1, j2, k2, p1, p2, p3, p4, p5, p6, p7, p8, p9, p10, p11, p12, p13, p14, eb⟩ := TD.body
  refine ⟨fun pins s σ H Q I h => ?_⟩
  obtain ⟨hT, h⟩ := h
  refine wpAny_Call_Name_kw (ld_glob I hg hm ?_ (by decide))
  refine PySem.W.callWith_K (h₀ := X.base) I.ok.mod.kin hk ?_ (by rfl) (by rfl)
  show wpAny _ _ (spliced ((false, eval (.Lambda params body scope lpos) X.env) :: backTo pos (starEach [] X.env))) _ _ s
  refine Calls.spliced_cons (LamX.lam_make2 I TB hcode hmT hu hT hdef (Lm.has I.ok) fun f c' pm' ctv H1 s' I1 eN T1 hf hfn hfr hco => ?_)
  refine Calls.spliced_nil ⟨I1.kIn, ?_⟩
  have hTT := h H1 eN T1
  have rc : codeAny (model X.prog X.w) X.A (.call (.ref g) ⟨[.ref f], []⟩) (CR CX0 X.stack X.prog X.w H1 s' Q E0) s' := by
    refine LamX.run_ofS (N := ["call", "e"]) (ps := ["call"]) (us := [.ref f]) (vs := [.ref f]) lk hcg TD.sc hr I1.env0 (hb s' [.ref f] I1.kIn rfl) (.cons rfl .nil) rfl fun hr' => ?_
    rw [eb]
    let Z : Cx := (cxOf CX0 X.prog X.w X.K X.mg X.base ["call", "e"] "_law_told" (defScope st) g cdv X.A X.stack s' H1 E0)
    have hrH : L2H.RoomH k Z.A := (L2H.roomH_of hr').mono (Nat.le_succ k)
    refine ⟨_, (pss_one (L2N.ps_try_as (X := Z.nox) (i := 1) (c := .ref CS)
      (tb := fun W D σ' H' => ∃ Ech : XK, (∀ (cls : Value) (d : Option Addr) (σ2 : L2.St) (H2 : Hp), σ2.length = 2 → Ech cls d H2 → W cls d σ2 H2) ∧ σ'[0]? = some (some (.ref f)) ∧ H' c' = some (CodeO c' (X.env.qual ++ "<lambda>")) ∧ t Ech σ H' (fun v H2 => [v, V.str Str.empty].length ≤ sizeLine ∧ ∀ q, H2 q = none → D.rt (.ref q) (upd H2 q (.tup [v, .str Str.empty]))))
      (ts := fun a cls d D σ' H' => σ'[1]? = some (some (.ref a)) ∧ d = none ∧ ∃ q ∈ L, cls = .ref q.1 ∧ ∃ G, Ex G H' ∧ ∀ G1 H2, Up G H' G1 H2 → ∀ z, H2 z = none → D.rt (.ref z) (upd H2 z (.tup [.non, .str q.2])))
      rfl rfl TD.sc.nd rfl l2 ⟨l4, by decide, .inl hmS⟩ takes0N (fun W pn xe tk _ => ?_) (fun a oe cls d pn hz hv => ?_))).nox, ?_⟩
    · refine ⟨fun pins2 s2 σ2 H2 D I2 h2 => ?_⟩
      obtain ⟨Ech, hW, h1, h3, h4⟩ := h2
      have act := pe_actN (i := 0) (p1 := p1) (p2 := p2) (Eg := E0) (CXg := CX0) (pn := pn) (xe := xe) (qg := "_law_told") I1 Lm hf hfn hfr (hbind _ _ _ _ _) tk hW hr' (fun A outer s H hr2 => hbody A outer s H Ech f c' hr2) (Ng := ["call", "e"]) rfl (.inl l1)
      have q1 : PSs _ [Stmt.Return (some (.Tuple [.Call (.Name "call" p1) [] [] p2, .Constant (.str Str.empty) j1 p3] k1 p4)) p5] _ := pss_one (ps_ret (pos := p5) (pe_tup (x1 := k1) (pos := p4) (pa_cons act (pa_cons pe_str pa_nil))))
      refine q1.run pins2 s2 σ2 H2 D I2 ?_
      exact ⟨h1, h3, h4⟩
    · refine ⟨fun pins2 s2 σ2 H2 D I2 h2 => ?_⟩
      obtain ⟨h1, hd, q, hq, hc, G, lG, h3⟩ := h2
      subst hd hc
      have hot : L2H.Hot1 (Z.nox.suite a ((a, oe) :: pn)).A (a, oe) := ⟨rfl, by obtain ⟨vs, e⟩ := hv; exact ⟨vs, e, hz.2.2 vs e⟩⟩
      have pc : PE (Z.nox.suite a ((a, oe) :: pn)) (.Call (.Name "_law_error" p8) [.Name "e" p9] [] p10) _ := pe_callHP (p := (a, oe)) (hE q hq) (show L2H.RoomH k (Z.nox.suite a ((a, oe) :: pn)).A from ⟨hrH.dp, hrH.un⟩) hot List.mem_cons_self hbe l3 hme hke (pa_cons (pe_var (i := 1) rfl (.inl l2)) pa_nil)
      have q1 : PSs (Z.nox.suite a ((a, oe) :: pn)) [Stmt.Return (some (.Tuple [.Constant .none j2 p7, .Call (.Name "_law_error" p8) [.Name "e" p9] [] p10] k2 p11)) p12] _ := pss_one (ps_ret (pos := p12) (pe_tup (x1 := k2) (pos := p11) (pa_cons pe_non (pa_cons pc pa_nil))))
      refine q1.run pins2 s2 σ2 H2 D I2 ?_
      refine ⟨_, h1, rfl, ⟨hz.1, hz.2.1⟩, G, lG, fun G1 H3 u => ?_⟩
      exact ⟨by rw [sizeLine_eq]; exact (by decide : 2 ≤ 16777216), h3 G1 H3 u⟩
    · refine ⟨_, fun cls d σ2 H2 hl he => ?_, rfl, hco, hTT⟩
      obtain ⟨hd, q, hq, hc, G, lG, h3⟩ := he
      refine ⟨true, by rw [hc]; exact hS q hq, fun _ a _ => ⟨List.getElem?_set_self (by rw [hl]; decide), hd, q, hq, hc, G, lG, h3⟩, fun z => nomatch z⟩
  refine wpAny_call (codeAny_mono rc fun r s2 hq => ?_)
  cases r with
  | error e => exact (show False from hq).elim
  | ok fl =>
    cases fl with
    | ret u => exact I1.after hq
    | next => exact False.elim hq
    | brk => exact False.elim hq
    | cont => exact False.elim hq
end PL

namespace PL
open PySem PySem.Spec PyProof.Rows L2
open LamX (CodeO TabS Tabs ExtN TabB LamS lamEnv)

/-! ## a state in which tables of code objects may be written -/
def tblx : Option HO → Bool
  | some (.tbl _) => true
  | some (.ext _) => true
  | _ => false
/-- without tables and code objects -/
def dat (G : Hp) : Hp := fun b => if tblx (G b) then none else G b
theorem dat_some {G : Hp} {b : Addr} {o : HO} (h : dat G b = some o) : G b = some o ∧ tblx (some o) = false := by
  unfold dat at h
  split at h
  · cases h
  · rename_i e; rw [h] at e; exact ⟨h, by simpa using e⟩
theorem dat_of {G : Hp} {b : Addr} {o : HO} (h : G b = some o) (n : tblx (some o) = false) : dat G b = some o := by
  unfold dat
  rw [h, n]; rfl
theorem dat_none {G : Hp} {b : Addr} (h : G b = none) : dat G b = none := by
  unfold dat
  rw [h]; rfl
theorem dat_sql {K : PySem.W.Frag} {G : Hp} {a : Addr} {xs : List V} (h : SqL K G a xs) : SqL K (dat G) a xs := by
  rcases h with (h | ⟨o, h⟩) | h
  · exact .inl (.inl (dat_of h rfl))
  · exact .inl (.inr ⟨o, dat_of h rfl⟩)
  · exact .inr h
mutual
theorem dat_rep {K : PySem.W.Frag} {G : Hp} : ∀ {d : D} {v : V}, Rep K G d v → Rep K (dat G) d v
  | _, _, .non => .non
  | _, _, .bl b => .bl b
  | _, _, .int i => .int i
  | _, _, .str x => .str x
  | _, _, .scr h => .scr (dat_sql h)
  | _, _, .lst h r => .lst (dat_of h rfl) (dat_reps r)
  | _, _, .tup h r => .tup (dat_of h rfl) (dat_reps r)
  | _, _, .dct h => .dct (dat_of h rfl)
theorem dat_reps {K : PySem.W.Frag} {G : Hp} : ∀ {ds : List D} {vs : List V}, Reps K G ds vs → Reps K (dat G) ds vs
  | _, _, .nil => .nil
  | _, _, .cons h r => .cons (dat_rep h) (dat_reps r)
end
theorem dat_cell {K : PySem.W.Frag} {G H : Hp} : ∀ {c : Cell} {v : V}, CellE K G H c v → CellE K (dat G) (dat H) c v
  | .p d, v, r => dat_rep r
  | .ol xs, v, ⟨a, vs, e, q, r⟩ => ⟨a, vs, e, dat_of q rfl, dat_reps r⟩
  | .ob o, v, ⟨a, z, e, q, r⟩ => ⟨a, z, e, dat_of q rfl, ⟨r.cls, dat_reps r.rep, r.len⟩⟩
  | .rb b o, v, ⟨e, z, q, r⟩ => ⟨e, z, dat_of q rfl, ⟨r.cls, dat_reps r.rep, r.len⟩⟩
  | .rf b, v, e => e
  | .oll xss, v, ⟨a, bs, e, q, r⟩ => ⟨a, bs, e, dat_of q rfl, Paired.map2 r fun b xs ⟨vs, z, y⟩ => ⟨vs, dat_of z rfl, dat_reps y⟩⟩
  | .od kvs, v, ⟨a, e, q⟩ => ⟨a, e, dat_of q rfl⟩
  | .oi kvs, v, ⟨a, e, q⟩ => ⟨a, e, dat_of q rfl⟩
theorem dat_foot {H : Hp} : ∀ {c : Cell} {v : V} {a : Addr}, Foot (dat H) c v a → Foot H c v a
  | .p d, v, _, r => r
  | .ol xs, v, _, r => r
  | .ob o, v, _, r => r
  | .rb b o, v, _, r => r
  | .rf b, v, _, r => r
  | .oll xss, v, _, r => by
    rcases r with r | ⟨p, bs, e, q, m⟩
    · exact .inl r
    · exact .inr ⟨p, bs, e, (dat_some q).1, m⟩
  | .od kvs, v, _, r => r
  | .oi kvs, v, _, r => r
def No : Hp := fun _ => none
theorem ex_no {H : Hp} : Ex No H := fun _ _ h => by cases h
/-- the state of the law: T: the tables that it may write -/
def SL (K : PySem.W.Frag) (nn : Nat) (T : List (Addr × Str)) (ρ : DEnv) (σ : L2.St) (H : Hp) : Prop := ∃ G H0, SR K nn No H0 ρ σ G H ∧ Tabs T H0
section
variable {K : PySem.W.Frag} {nn : Nat} {T : List (Addr × Str)} {H0 G H H1 : Hp} {ρ : DEnv} {σ : L2.St}
theorem SR.dat (s : SR K nn No H0 ρ σ G H) : SR K nn No (fun b => if (H0 b).isSome then PL.dat H b else none) ρ σ (PL.dat G) (PL.dat H) where
  er := ⟨s.er.len, fun i c e => by obtain ⟨v, h1, h2⟩ := s.er.at_ i c e; exact ⟨v, h1, dat_cell h2⟩⟩
  up := by
    refine ⟨ex_no, fun a u h => ?_, fun a u h => ?_, fun a o h _ => ?_⟩
    · skip
      split at h
      · exact h
      · cases h
    · obtain ⟨h1, h2⟩ := dat_some h
      exact dat_of (s.up.le _ _ h1) h2
    · skip
      split at h
      · rename_i e
        obtain ⟨u, hu⟩ := Option.isSome_iff_exists.mp e
        exact dat_none (s.up.new a u hu rfl)
      · cases h
  own := fun i c v h1 h2 => by
    have ho := s.own i c v h1 h2
    obtain ⟨w, e1, hc⟩ := s.er.at_ i c h1
    rw [h2] at e1; cases e1
    have key : ∀ a, G a = none ∧ H0 a = none → PL.dat G a = none ∧ (if (H0 a).isSome then PL.dat H a else none) = none := fun a h => ⟨dat_none h.1, by rw [h.2]; rfl⟩
    cases c with
    | p _ => trivial
    | ol _ => exact fun a e => key a (ho a e)
    | ob _ => exact fun a e => key a (ho a e)
    | rb b o =>
      obtain ⟨u, hu⟩ := ho
      obtain ⟨_, z, hz, _⟩ := hc
      exact ⟨_, (if_pos (by rw [hu]; rfl)).trans (dat_of hz rfl)⟩
    | rf _ => trivial
    | od _ => exact fun a e => key a (ho a e)
    | oi _ => exact fun a e => key a (ho a e)
    | oll _ =>
      intro p bs ep e
      obtain ⟨q1, q2, q3, q4⟩ := ho p bs ep (dat_some e).1
      exact ⟨key p q1, q2, q3, fun b hb => key b (q4 b hb)⟩
  dist := fun i j c c' v v' a h1 h2 h3 h4 f f' => s.dist i j c c' v v' a h1 h2 h3 h4 (dat_foot f) (dat_foot f')
/-- more is kept from the start -/
theorem SR.more {H0' : Hp} (s : SR K nn No H0 ρ σ G H) (h : Ex H0' H) (n : ∀ a u, H0' a = some u → G a = none) (l : ∀ a u, H0 a = some u → H0' a = some u) (d : ∀ a u, H0' a = some u → H0 a = none → tblx (some u) = true) : SR K nn No H0' ρ σ G H where
  er := s.er
  up := ⟨ex_no, h, s.up.le, fun a o e _ => n a o e⟩
  own := fun i c v h1 h2 => by
    have ho := s.own i c v h1 h2
    obtain ⟨w, e1, hc⟩ := s.er.at_ i c h1
    rw [h2] at e1; cases e1
    have key : ∀ a o, H a = some o → tblx (some o) = false → G a = none ∧ H0 a = none → G a = none ∧ H0' a = none := fun a o e t hh => ⟨hh.1, by
      cases z : H0' a with
      | none => rfl
      | some u =>
        have := h a u z
        rw [e] at this; cases this
        rw [d a o z hh.2] at t; cases t⟩
    cases c with
    | p _ => trivial
    | ol _ => obtain ⟨p, vs, rfl, e, _⟩ := hc; intro a ea; cases ea; exact key p _ e rfl (ho p rfl)
    | ob _ => obtain ⟨p, vs, rfl, e, _⟩ := hc; intro a ea; cases ea; exact key p _ e rfl (ho p rfl)
    | rb b o => obtain ⟨u, hu⟩ := ho; exact ⟨u, l _ _ hu⟩
    | rf _ => trivial
    | od _ => obtain ⟨p, rfl, e⟩ := hc; intro a ea; cases ea; exact key p _ e rfl (ho p rfl)
    | oi _ => obtain ⟨p, rfl, e⟩ := hc; intro a ea; cases ea; exact key p _ e rfl (ho p rfl)
    | oll xss =>
      obtain ⟨p0, bs0, rfl, e0, hb⟩ := hc
      intro p bs ep e
      cases ep
      have := refs_inj (lst_inj e0 e)
      subst this
      obtain ⟨q1, q2, q3, q4⟩ := ho p0 bs0 rfl e
      refine ⟨key p0 _ e rfl q1, q2, q3, fun b hb' => ?_⟩
      obtain ⟨j, hj, ej⟩ := List.mem_iff_getElem.mp hb'
      have hl : bs0.length = xss.length := Paired.length hb
      obtain ⟨b', y1, vs, y2, _⟩ := paired_get hb (List.getElem?_eq_getElem (by omega : j < xss.length))
      rw [List.getElem?_eq_getElem hj, ej] at y1
      cases y1
      exact key b _ y2 rfl (q4 b hb')
  dist := s.dist
/-- tables are written -/
theorem SR.tables (s : SR K nn No H0 ρ σ G H) (eN : ExtN H H1) (T1 : Tabs T H1) : ∃ H0', SR K nn No H0' ρ σ (PL.dat G) H1 ∧ Tabs T H0' := by
  have hd : Ex (PL.dat H) H1 := fun b o h => by
    obtain ⟨h1, h2⟩ := dat_some h
    exact eN b o h1 fun ps e => by subst e; cases h2
  have s1 := s.dat
  have gd : Ex (PL.dat G) H1 := s1.up.le.trans hd
  have s2 := s1.step (G' := PL.dat G) (H' := H1) ⟨.refl _, hd, gd, fun _ _ _ n => n⟩
  have gt : ∀ a, tblx (H1 a) = true → PL.dat G a = none := fun a h => by
    cases z : PL.dat G a with
    | none => rfl
    | some u =>
      have := gd a u z
      rw [this] at h
      rw [(dat_some z).2] at h; cases h
  refine ⟨fun b => if (H0 b).isSome ∧ (PL.dat H b).isSome then PL.dat H b else if tblx (H1 b) then H1 b else none, s2.more (fun a u h => ?_) (fun a u h => ?_) (fun a u h => ?_) (fun a u h hn => ?_), fun p hp => ?_⟩
  · skip
    split at h
    · exact hd _ _ h
    · split at h
      · exact h
      · cases h
  · skip
    split at h
    · rename_i e
      obtain ⟨u', hu'⟩ := Option.isSome_iff_exists.mp e.1
      exact dat_none (s.up.new a u' hu' rfl)
    · split at h
      · rename_i e; exact gt a e
      · cases h
  · skip
    split at h
    · rename_i e
      rw [if_pos ⟨e, by rw [h]; rfl⟩]; exact h
    · cases h
  · skip
    split at h
    · rename_i e
      rw [if_pos e.1] at hn
      rw [hn] at h; cases h
    · split at h
      · rename_i e; rw [h] at e; exact e
      · cases h
  · obtain ⟨ps, h1, h2, h3⟩ := T1 p hp
    have at_ : ∀ b o, H1 b = some o → tblx (some o) = true → (if (H0 b).isSome ∧ (PL.dat H b).isSome then PL.dat H b else if tblx (H1 b) then H1 b else none) = some o := fun b o e t => by
      have nd : PL.dat H b = none := by
        cases z : PL.dat H b with
        | none => rfl
        | some u =>
          have := hd b u z
          rw [e] at this; cases this
          rw [(dat_some z).2] at t; cases t
      rw [if_neg (fun h => by rw [nd] at h; cases h.2), e, t]; rfl
    refine ⟨ps, at_ _ _ h1 rfl, h2, fun pos cv hc => ?_⟩
    obtain ⟨c, e1, e2⟩ := h3 pos cv hc
    exact ⟨c, e1, at_ _ _ e2 rfl⟩
/-- only pure things: any start will do -/
theorem SR.rebase {G0 H0 G0' H0' : Hp} (s : SR K nn G0 H0 ρ σ G H) (hp : ∀ i c, ρ i = some c → ∃ d, c = .p d) (u : Up G0' H0' G H) : SR K nn G0' H0' ρ σ G H where
  er := s.er
  up := u
  own := fun i c v h1 h2 => by obtain ⟨d, rfl⟩ := hp i c h1; trivial
  dist := fun i j c c' v v' a h1 h2 h3 h4 f f' => by obtain ⟨d, rfl⟩ := hp i c h1; exact f.elim
theorem SL.start {N : List Str} {a : Addr} {ns : List Int} (hS : SqL K H a (ns.map V.int)) (hT : Tabs T H) (hN : 1 ≤ N.length) : SL K N.length T (env0 [.scr ns]) (L2.start N [.ref a]) H := by
  have s := start_sr (K := K) (N := N) (Ex.refl H) (Reps.cons (.scr hS) .nil) (by simpa using hN)
  have s2 : SR K N.length No No (env0 [.scr ns]) (L2.start N [.ref a]) H H := s.rebase (fun i c e => by
    unfold env0 at e
    cases z : ([D.scr ns])[i]? with
    | none => rw [z] at e; cases e
    | some d => rw [z] at e; cases e; exact ⟨d, rfl⟩) ⟨ex_no, ex_no, .refl H, fun _ _ h => by cases h⟩
  obtain ⟨H0', s3, t3⟩ := s2.tables (ExtN.refl H) hT
  exact ⟨_, H0', s3, t3⟩
end

/-! ## statements of the law -/
def LOk (K : PySem.W.Frag) (nn : Nat) (T : List (Addr × Str)) (E : Ends) : DRes → Prop
  | .nx ρ' => ∀ σ' H', SL K nn T ρ' σ' H' → E.nx σ' H'
  | .bk ρ' => ∀ σ' H', SL K nn T ρ' σ' H' → E.bk σ' H'
  | .ct ρ' => ∀ σ' H', SL K nn T ρ' σ' H' → E.ct σ' H'
  | .rt d => ∀ v G' H', Ex G' H' → Rep K G' d v → E.rt v H'
def TSLok (K : PySem.W.Frag) (nn : Nat) (T : List (Addr × Str)) (t : TS) (f : DS) : Prop := ∀ ρ σ H (E : Ends) r, SL K nn T ρ σ H → f ρ = some r → LOk K nn T E r → t E σ H
structure LuS (X : Cx) (T : List (Addr × Str)) (st : Stmt) (f : DS) : Prop where
  ex : ∃ t, PS X st t ∧ TSLok X.K X.N.length T t f
structure LuSs (X : Cx) (T : List (Addr × Str)) (sts : List Stmt) (f : DS) : Prop where
  ex : ∃ t, PSs X sts t ∧ TSLok X.K X.N.length T t f
def TLE (K : PySem.W.Frag) (nn : Nat) (T : List (Addr × Str)) (t : TE) (f : DE) : Prop := ∀ ρ σ H (Q : VK) d, SL K nn T ρ σ H → f ρ = some d → (∀ v G' H0' H', SR K nn No H0' ρ σ G' H' → Tabs T H0' → Rep K G' d v → Q v H') → t σ H Q
structure LuE (X : Cx) (T : List (Addr × Str)) (e : Expr) (f : DE) : Prop where
  ex : ∃ t, PE X e t ∧ TLE X.K X.N.length T t f
def TLT (K : PySem.W.Frag) (nn : Nat) (T : List (Addr × Str)) (t : TT) (f : DB) : Prop := ∀ ρ σ H (Q : Bool → Hp → Prop) b, SL K nn T ρ σ H → f ρ = some b → (∀ H', SL K nn T ρ σ H' → Q b H') → t σ H Q
structure LuT (X : Cx) (T : List (Addr × Str)) (e : Expr) (f : DB) : Prop where
  ex : ∃ t, PT X e t ∧ TLT X.K X.N.length T t f
structure LuW (X : Cx) (T : List (Addr × Str)) (e : Expr) (f : DB) : Prop where
  ex : ∃ t, PW X e t ∧ TLT X.K X.N.length T t f
section
variable {X : Cx} {T : List (Addr × Str)} {st : Stmt} {rest sa sb : List Stmt} {f g : DS} {e a b : Expr} {es : List Expr} {fe fa fb : DE} {B A : DB} {pos : Pos}
theorem PuS.lu (h : PuS X st f) : LuS X T st f := let ⟨_, a1, a2⟩ := h.ex; ⟨_, a1, fun ρ σ H E r s q k => by
  obtain ⟨G, H0, s, t⟩ := s
  refine a2 No H0 ρ σ G H E r s q ?_
  cases r with
  | nx ρ' => exact fun σ' G' H' s' _ => k σ' H' ⟨G', H0, s', t⟩
  | bk ρ' => exact fun σ' G' H' s' _ => k σ' H' ⟨G', H0, s', t⟩
  | ct ρ' => exact fun σ' G' H' s' _ => k σ' H' ⟨G', H0, s', t⟩
  | rt d => exact fun v G' H' u rv => k v G' H' u.le rv⟩
theorem PuE.lu (h : PuE X e fe) : LuE X T e fe := let ⟨_, a1, a2⟩ := h.ex; ⟨_, a1, fun ρ σ H Q d s q k => by
  obtain ⟨G, H0, s, t⟩ := s
  exact a2 ρ σ G H Q d s.up.le s.er q fun v G' H' u rv => k v G' H0 H' (s.step u) t rv⟩
theorem PuT.lu (h : PuT X e B) : LuT X T e B := let ⟨_, a1, a2⟩ := h.ex; ⟨_, a1, fun ρ σ H Q d s q k => by
  obtain ⟨G, H0, s, t⟩ := s
  exact a2 ρ σ G H Q d s.up.le s.er q fun G' H' u => k H' ⟨G', H0, s.step u, t⟩⟩
theorem PuW.lu (h : PuW X e B) : LuW X T e B := let ⟨_, a1, a2⟩ := h.ex; ⟨_, a1, fun ρ σ H Q d s q k => by
  obtain ⟨G, H0, s, t⟩ := s
  exact a2 ρ σ G H Q d s.up.le s.er q fun G' H' u => k H' ⟨G', H0, s.step u, t⟩⟩
theorem ls_nil : LuSs X T [] sSkip := ⟨_, pss_nil, fun ρ σ H E r s q k => by cases q; exact k σ H s⟩
theorem ls_one (h : LuS X T st f) : LuSs X T [st] f := let ⟨_, a1, a2⟩ := h.ex; ⟨_, pss_one a1, a2⟩
theorem ls_cons (h : LuS X T st f) (h2 : LuSs X T rest g) : LuSs X T (st :: rest) (sSeq f g) := let ⟨_, a1, a2⟩ := h.ex; let ⟨_, b1, b2⟩ := h2.ex; ⟨_, pss_cons a1 b1, fun ρ σ H E r s q k => by
  unfold sSeq at q
  cases z : f ρ with
  | none => rw [z] at q; cases q
  | some r1 =>
    rw [z] at q
    refine a2 ρ σ H _ r1 s z ?_
    cases r1 with
    | nx ρ' => exact fun σ' H' s' => b2 ρ' σ' H' E r s' q k
    | bk ρ' => cases q; exact k
    | ct ρ' => cases q; exact k
    | rt d => cases q; exact k⟩
theorem ls_pre (i : Nat) (h : LuS X T st f) : LuS X T st (sPre i f) := let ⟨_, a1, a2⟩ := h.ex; ⟨_, a1, fun ρ σ H E r s q k => by
  obtain ⟨G, H0, s, t⟩ := s
  obtain ⟨G', x, s'⟩ := s.frz i
  exact a2 _ σ H E r ⟨G', H0, s', t⟩ q k⟩
theorem ls_if {c : Expr} (hc : LuT X T c B) (ha : LuSs X T sa f) (hb : LuSs X T sb g) : LuS X T (.If c sa sb pos) (sIf B f g) :=
  let ⟨_, c1, c2⟩ := hc.ex; let ⟨_, a1, a2⟩ := ha.ex; let ⟨_, b1, b2⟩ := hb.ex; ⟨_, ps_if c1 a1 b1, fun ρ σ H E r s q k => by
  unfold sIf at q
  cases z : B ρ with
  | none => rw [z] at q; cases q
  | some b =>
    rw [z] at q
    refine c2 ρ σ H _ b s z fun H' s' => ?_
    cases b with
    | true => exact a2 ρ σ H' E r s' q k
    | false => exact b2 ρ σ H' E r s' q k⟩
theorem ls_ret (h : LuE X T e fe) : LuS X T (.Return (some e) pos) (sRet fe) := let ⟨_, a1, a2⟩ := h.ex; ⟨_, ps_ret a1, fun ρ σ H E r s q k => by
  unfold sRet at q
  cases z : fe ρ with
  | none => rw [z] at q; cases q
  | some d =>
    rw [z] at q; cases q
    exact a2 ρ σ H _ d s z fun v G' H0' H' s' t' rv => k v G' H' s'.up.le rv⟩
/-! ### expressions -/
theorem lu_and (ha : LuE X T a fa) (hb : LuE X T (.BoolOp .And (b :: es) pos) fb) : LuE X T (.BoolOp .And (a :: b :: es) pos) (eAnd fa fb) :=
  let ⟨_, a1, a2⟩ := ha.ex; let ⟨_, b1, b2⟩ := hb.ex; ⟨_, pe_and a1 b1, fun ρ σ H Q d s q k => by
    unfold eAnd at q
    cases z : fa ρ with
    | none => rw [z] at q; cases q
    | some e =>
      rw [z] at q
      cases e <;> first | cases q | skip
      rename_i bb
      refine a2 ρ σ H _ _ s z fun v G' H0' H' s' t' rv => ?_
      cases rv
      refine ⟨_, rfl, ?_⟩
      cases bb with
      | true => exact b2 ρ σ H' _ _ ⟨G', H0', s', t'⟩ q k
      | false => cases q; exact k _ G' H0' H' s' t' (.bl _)⟩
theorem lu_or (ha : LuE X T a fa) (hb : LuE X T (.BoolOp .Or (b :: es) pos) fb) : LuE X T (.BoolOp .Or (a :: b :: es) pos) (eOr fa fb) :=
  let ⟨_, a1, a2⟩ := ha.ex; let ⟨_, b1, b2⟩ := hb.ex; ⟨_, pe_or a1 b1, fun ρ σ H Q d s q k => by
    unfold eOr at q
    cases z : fa ρ with
    | none => rw [z] at q; cases q
    | some e =>
      rw [z] at q
      cases e <;> first | cases q | skip
      rename_i bb
      refine a2 ρ σ H _ _ s z fun v G' H0' H' s' t' rv => ?_
      cases rv
      refine ⟨_, rfl, ?_⟩
      cases bb with
      | false => exact b2 ρ σ H' _ _ ⟨G', H0', s', t'⟩ q k
      | true => cases q; exact k _ G' H0' H' s' t' (.bl _)⟩
theorem lu_one {op} (h : LuE X T a fa) : LuE X T (.BoolOp op [a] pos) fa := let ⟨_, a1, a2⟩ := h.ex; ⟨_, pe_one a1, a2⟩
theorem tle_op {K : PySem.W.Frag} {nn : Nat} {ta tb : TE} {r : R2} {g : D → D → Option D} (ha : TLE K nn T ta fa) (hb : TRok K nn tb fb) (hr : R2ok K r g) : TLE K nn T (tOp r ta tb) (e2 g fa fb) := fun ρ σ H Q z s q k => by
  unfold e2 at q
  cases q1 : fa ρ with
  | none => rw [q1] at q; cases q
  | some d =>
    rw [q1] at q
    cases q2 : fb ρ with
    | none => rw [q2] at q; cases q
    | some e =>
      rw [q2] at q
      refine ha ρ σ H _ d s q1 fun x G1 H0 H1 s1 t1 rx => ?_
      refine hb ρ σ G1 H1 _ e s1.up.le s1.er q2 fun y G2 H2 u2 ry => ?_
      exact hr G2 H2 x y d e z Q u2.le (.inl (rx.mono u2.g)) ry q fun v G3 H3 u3 rv => k v G3 H0 H3 ((s1.step u2).step u3) t1 rv
theorem lu_cmp {op : CmpOp} {g : D → D → Option D} (hc : CmpR X op g) (ha : LuE X T a fa) (hb : RdE X b fb) (hm : behindInMarks op b = false := by first | exact nomark _ | rfl) : LuE X T (.Compare a [op] [b] pos) (e2 g fa fb) :=
  let ⟨_, o1, o2⟩ := hc.ex; let ⟨_, a1, a2⟩ := ha.ex; let ⟨_, b1, b2⟩ := hb.ex; ⟨_, pe_cmpR o1 a1 b1 hm, tle_op a2 b2 o2⟩
theorem lt_cmp {op : CmpOp} {g : D → D → Option D} (hc : CmpR X op g) (ha : LuE X T a fa) (hb : RdE X b fb) (hm : behindInMarks op b = false := by first | exact nomark _ | rfl) : LuT X T (.Compare a [op] [b] pos) (tV (e2 g fa fb)) :=
  let ⟨_, o1, o2⟩ := hc.ex; let ⟨_, a1, a2⟩ := ha.ex; let ⟨_, b1, b2⟩ := hb.ex; ⟨_, pt_cmpR o1 a1 b1 hm, fun ρ σ H Q d s q k => by
    unfold tV at q
    cases z : e2 g fa fb ρ with
    | none => rw [z] at q; cases q
    | some x =>
      rw [z] at q
      cases x <;> first | cases q | skip
      refine tle_op a2 b2 o2 ρ σ H _ _ s z fun v G' H0' H' s' t' rv => ?_
      cases rv
      exact ⟨_, rfl, k H' ⟨G', H0', s', t'⟩⟩⟩
theorem lw_and1 (h : LuT X T a A) : LuW X T (.BoolOp .And [a] pos) A := let ⟨_, a1, a2⟩ := h.ex; ⟨_, pw_and1 a1, a2⟩
theorem lw_or1 (h : LuT X T a A) : LuW X T (.BoolOp .Or [a] pos) A := let ⟨_, a1, a2⟩ := h.ex; ⟨_, pw_or1 a1, a2⟩
theorem lw_and (ha : LuT X T a A) (hb : LuW X T (.BoolOp .And (b :: es) pos) B) : LuW X T (.BoolOp .And (a :: b :: es) pos) (bAnd A B) :=
  let ⟨_, a1, a2⟩ := ha.ex; let ⟨_, b1, b2⟩ := hb.ex; ⟨_, pw_and a1 b1, fun ρ σ H Q d s q k => by
    unfold bAnd at q
    cases z : A ρ with
    | none => rw [z] at q; cases q
    | some x =>
      rw [z] at q
      refine a2 ρ σ H _ _ s z fun H' s' => ?_
      cases x with
      | true => exact b2 ρ σ H' _ _ s' q k
      | false => cases q; exact k H' s'⟩
theorem lw_or (ha : LuT X T a A) (hb : LuW X T (.BoolOp .Or (b :: es) pos) B) : LuW X T (.BoolOp .Or (a :: b :: es) pos) (bOr A B) :=
  let ⟨_, a1, a2⟩ := ha.ex; let ⟨_, b1, b2⟩ := hb.ex; ⟨_, pw_or a1 b1, fun ρ σ H Q d s q k => by
    unfold bOr at q
    cases z : A ρ with
    | none => rw [z] at q; cases q
    | some x =>
      rw [z] at q
      refine a2 ρ σ H _ _ s z fun H' s' => ?_
      cases x with
      | true => cases q; exact k H' s'
      | false => exact b2 ρ σ H' _ _ s' q k⟩
theorem LuW.pt (h : LuW X T e A) : LuT X T e A := let ⟨_, a1, a2⟩ := h.ex; ⟨_, a1.pt, a2⟩
theorem lt_not (h : LuT X T a A) : LuT X T (.UnaryOp .Not a pos) (bNot A) := let ⟨_, a1, a2⟩ := h.ex; ⟨_, pt_not a1, fun ρ σ H Q b s q k => by
  unfold bNot at q
  cases z : A ρ with
  | none => rw [z] at q; cases q
  | some c => rw [z] at q; cases q; exact a2 ρ σ H _ c s z fun H' s' => k H' s'⟩
/-! ### for over range -/
theorem ls_forR {tgE x : Expr} {body : List Stmt} {fx : DE} {p rp : Pos} (tg : Tg) (hp : PassesOwn (model X.prog X.w) X.A X.env X.xe) (hc : X.calm = true) (hm : X.mg "range" = none) (hx : RdE X x fx) (hg : PG X tgE (tgTG X.K tg)) (hb : LuSs X T body f) (hl : ∀ i ∈ tg.slots, i < X.N.length)
    (hgr : Gl X "range" := by rfl) (hs1 : starEach [x] X.env = [(false, eval x X.env)] := by rfl) (hs3 : starEach (x :: []) X.env = (false, eval x X.env) :: starEach [] X.env := by rfl)
    (hs : ∀ y, foldedSetIterable (.Call (.Name "range" p) [x] [] rp) X.env y = pure y := by intro _; rfl) : LuS X T (.For tgE (.Call (.Name "range" p) [x] [] rp) body [] pos) (sFor (iRng (eC (.int 0)) fx) tg f) :=
  let ⟨_, r1, r2⟩ := (ra_cons hx ra_nil hs3).ex; let ⟨_, b1, b2⟩ := hb.ex; ⟨_, ps_for hp hc (pi_range1 hgr hm r1 hs1) hg b1 hs, fun ρ σ H E r s q k => by
    unfold sFor at q
    cases z : iRng (eC (.int 0)) fx ρ with
    | none => rw [z] at q; cases q
    | some cs =>
      rw [z] at q
      have q : forL tg f cs ρ = some r := q
      unfold iRng at z
      split at z
      · rename_i x0 y e1 e2
        cases e1
        split at z
        · rename_i hB
          cases z
          obtain ⟨G, H0, s, t⟩ := s
          refine r2 ρ σ G H _ [.int y] s.up.le s.er (by simp [dCons, dNil, e2]) fun vs G1 H1 u1 rvs => ?_
          obtain ⟨v, rfl, rv⟩ := rvs.one
          rw [rv.int_inv]
          refine ⟨y, rfl, by rw [pow62]; omega, by rw [pow62]; omega, ?_⟩
          have en : (y - 0).toNat = y.toNat := by simp
          rw [en] at q
          generalize y.toNat = n at q ⊢
          have ln : (rngCells 0 n).length = n := by simp [rngCells]
          let Wp : Nat → L2.St → Hp → Prop := fun i σ' H' => ∃ ρ', SL X.K X.N.length T ρ' σ' H' ∧ forL tg f ((rngCells 0 n).drop i) ρ' = some r
          refine ⟨fun i m σ' H' => m = n - i ∧ i ≤ n ∧ Wp i σ' H', ⟨n, by simp, Nat.zero_le _, ρ, ⟨G1, H0, s.step u1, t⟩, by simpa using q⟩, ?_⟩
          rintro i m σ' H' ⟨rfl, hi', ρ', ⟨G', H0', s', t'⟩, fq⟩
          have w := walks_rng (K := X.K) (lo := 0) (n := n) (G' := No) i G' H' ex_no s'.up.le
          by_cases hlt : i < n
          · right
            have hlt' : i < (rngCells 0 n).length := by rw [ln]; exact hlt
            obtain ⟨go, yl⟩ := w.1 (rngCells 0 n)[i] (List.getElem?_eq_getElem hlt')
            refine ⟨go, Wp (i + 1), fun σ2 H2 hq => ⟨n - (i + 1), by omega, rfl, hlt, hq⟩, fun v H2 y => ?_⟩
            obtain ⟨G3, u3, cx⟩ := yl v H2 y
            rw [List.drop_eq_getElem_cons hlt'] at fq
            have eo : (rngCells 0 n)[i]? = some (.p (.int (0 + (i : Nat)))) := by unfold rngCells; rw [List.getElem?_map, List.getElem?_range hlt]; rfl
            obtain ⟨_, ec⟩ := List.getElem?_eq_some_iff.mp eo
            rw [ec] at fq cx
            unfold forL at fq
            cases z3 : bindT tg (.p (.int (0 + (i : Nat)))) ρ' with
            | none => rw [z3] at fq; cases fq
            | some ρ1 =>
              rw [z3] at fq
              refine tg_ok u3.le cx z3 fun σ2 st => ?_
              have s2 := st.sr (s'.step u3) cx hl z3
              cases z4 : f ρ1 with
              | none => simp only [Option.bind_some, z4] at fq; cases fq
              | some r1 =>
                simp only [Option.bind_some, z4] at fq
                refine b2 ρ1 σ2 H2 _ r1 ⟨G3, H0', s2, t'⟩ z4 ?_
                cases r1 with
                | nx ρ2 => exact fun σ3 H4 s4 => ⟨ρ2, s4, fq⟩
                | ct ρ2 => exact fun σ3 H4 s4 => ⟨ρ2, s4, fq⟩
                | bk ρ2 => cases fq; exact fun σ3 H4 s4 => k σ3 H4 s4
                | rt dd => cases fq; exact k
          · left
            have ei : i = n := by omega
            subst ei
            refine ⟨w.2 ln.symm, ?_⟩
            rw [List.drop_of_length_le (by rw [ln]; exact Nat.le_refl _)] at fq
            cases fq
            exact k σ' H' ⟨G', H0', s', t'⟩
        · cases z
      · cases z⟩
end
end PL

namespace PL
open PySem PySem.Spec PyProof.Rows L2
open LamX (CodeO TabS Tabs ExtN TabB LamS lamEnv)

/-! ## expressions that may raise, or make an object -/
inductive Rx where
  | val (d : D) | obj (o : Ob) | err (cn : Str)
abbrev DX := DEnv → Option Rx
def EndX (K : PySem.W.Frag) (G H : Hp) (E : XK) (Q : VK) : Rx → Prop
  | .val d => ∀ v G' H', Up G H G' H' → Rep K G' d v → Q v H'
  | .obj o => ∀ (a : Addr) (z : (Addr × Addr) × List V) G' H', Up G H G' H' → H a = none → G' a = none → H' a = some (.ins z.1.1 z.1.2 (o.ns.zip z.2)) → ObR K G' o z → Q (.ref a) H'
  | .err cn => ∀ cls d G' H', Up G H G' H' → IsX K cn cls d → E cls d H'
theorem EndX.step {K : PySem.W.Frag} {G H G1 H1 : Hp} {E : XK} {Q : VK} {r : Rx} (h : EndX K G H E Q r) (u : Up G H G1 H1) : EndX K G1 H1 E Q r := by
  cases r with
  | val d => exact fun v G' H' u2 rv => h v G' H' (u.trans u2) rv
  | obj o => exact fun a z G' H' u2 n1 n2 e r => h a z G' H' (u.trans u2) (u.h.free n1) n2 e r
  | err cn => exact fun cls d G' H' u2 x => h cls d G' H' (u.trans u2) x
def TXok (K : PySem.W.Frag) (nn : Nat) (E : XK) (t : TE) (f : DX) : Prop := ∀ ρ σ G H (Q : VK) r, Ex G H → ER K nn ρ σ G H → f ρ = some r → EndX K G H E Q r → t σ H Q
structure PuX (X : Cx) (E : XK) (e : Expr) (f : DX) : Prop where
  ex : ∃ t, PE X e t ∧ TXok X.K X.N.length E t f
def xVal (f : DE) : DX := fun ρ => (f ρ).map .val
theorem PuE.px {X : Cx} {E : XK} {e : Expr} {f : DE} (h : PuE X e f) : PuX X E e (xVal f) := let ⟨_, a1, a2⟩ := h.ex; ⟨_, a1, fun ρ σ G H Q r l rr q k => by
  unfold xVal at q
  cases z : f ρ with
  | none => rw [z] at q; cases q
  | some d => rw [z] at q; cases q; exact a2 ρ σ G H Q d l rr z k⟩

/-! ## methods that may raise -/
inductive RD where
  | val (d : D) | err (cn : Str)
abbrev DXM := DEnv → Option (Ob × RD)
def EndWX (K : PySem.W.Frag) (a : Addr) (G0 H0 : Hp) (o' : Ob) (Q : VK) (E : XK) : RD → Prop
  | .val d => EndW K a G0 H0 o' d Q
  | .err cn => ∀ cls dd G' H' (z' : (Addr × Addr) × List V), UpW G0 H0 G' H' a → H' a = some (.ins z'.1.1 z'.1.2 (o'.ns.zip z'.2)) → ObR K G' o' z' → IsX K cn cls dd → E cls dd H'
def TMXok (K : PySem.W.Frag) (nn : Nat) (E : XK) (t : TS) (g : DXM) : Prop := ∀ a G0 H0 ρ σ G H (Q : VK) o' r, SRw K nn a G0 H0 ρ σ G H → g ρ = some (o', r) → EndWX K a G0 H0 o' Q E r → t { nx := fun _ H' => Q .non H', rt := Q } σ H
structure PmXs (X : Cx) (E : XK) (sts : List Stmt) (g : DXM) : Prop where
  ex : ∃ t, PSs X sts t ∧ TMXok X.K X.N.length E t g
def xmOf (g : DM) : DXM := fun ρ => (g ρ).map fun r => (r.1, .val r.2)
theorem mx_of {X : Cx} {E : XK} {sts : List Stmt} {g : DM} (h : PmSs X sts g) : PmXs X E sts (xmOf g) := let ⟨_, a1, a2⟩ := h.ex; ⟨_, a1, fun a G0 H0 ρ σ G H Q o' r s q k => by
  unfold xmOf at q
  cases z : g ρ with
  | none => rw [z] at q; cases q
  | some x =>
    rw [z] at q; cases q
    exact a2 a G0 H0 ρ σ G H Q x.1 x.2 s z k⟩
/-- if test: raise C("..") -/
def xmGuard (b : DB) (cn : Str) (g : DXM) : DXM := fun ρ => (b ρ).bind fun t => if t = true then (selfO ρ).map fun x => (x.2, .err cn) else g ρ
theorem mx_guard {X : Cx} {E : XK} {test : Expr} {rest : List Stmt} {b : DB} {g : DXM} {cn m : Str} {Dc : Addr} {j : Nat} {p p2 p3 pos pos' : Pos} (hc : X.calm = true) (tk : L2N.Takes X (fun cls d _ H => E cls d H)) (C : XcK X.K X.mg cn Dc) (ht : PuT X test b) (h : PmXs X E rest g)
    (hg : Gl X cn := by rfl) (hdb : (cn == ("__debug__" : Str)) = false := by decide) : PmXs X E (.If test [.Raise (some (.Call (.Name cn p) [.Constant (.str m) j p2] [] p3)) none pos'] [] pos :: rest) (xmGuard b cn g) := by
  obtain ⟨_, c1, c2⟩ := ht.ex
  obtain ⟨_, a1, a2⟩ := h.ex
  have pr := L2N.ps_raise (pos := pos') hc tk (L2N.pmk_own (m := m) (j := j) (p := p) (p2 := p2) (pos := p3) PySem.F.excBase_ValueError C.ex C.m C.kp (raises_own C.s C.t) hg hdb)
  refine ⟨_, pss_cons (ps_if c1 (pss_one pr) pss_nil) a1, fun a G0 H0 ρ σ G H Q o' r s q k => ?_⟩
  unfold xmGuard at q
  cases z : b ρ with
  | none => rw [z] at q; cases q
  | some t =>
    rw [z] at q
    have q : (if t = true then (selfO ρ).map fun x => (x.2, RD.err cn) else g ρ) = some (o', r) := q
    refine c2 ρ σ G H _ t s.up.le s.er z fun G' H' u => ?_
    cases t with
    | true =>
      rw [if_pos rfl] at q ⊢
      cases z2 : selfO ρ with
      | none => rw [z2] at q; cases q
      | some x =>
        rw [z2] at q; cases q
        obtain ⟨e1, _, _, zz, h1, h2⟩ := s.self z2
        exact k (.ref Dc) none G' H' zz (s.up.up u) (u.h _ _ h1) (h2.mono u.g) ⟨rfl, Dc, rfl, C.n⟩
    | false =>
      rw [if_neg Bool.false_ne_true] at q ⊢
      refine a2 a G0 H0 ρ σ G' H' Q o' r ⟨s.er.up u, s.up.up u, ?_, s.pl⟩ q k
      obtain ⟨w, hw⟩ := s.up.st
      exact u.new _ _ hw s.na
def fnWX (n : Nat) (body : DXM) (a : Addr) (o : Ob) (ds : List D) : Option (Ob × RD) := if ds.length = n then body (envM a o ds) else none
def spWX (K : PySem.W.Frag) (cn : Str) (M : Ob → List D → Option (Ob × RD)) : Sp := fun vs H Q E => ∃ G a o z ws ds o' r, vs = V.ref a :: ws ∧ Ex G H ∧ G a = none ∧ H a = some (.ins z.1.1 z.1.2 (o.ns.zip z.2)) ∧ ObR K G o z ∧ o.cn = cn ∧ Reps K G ds ws ∧ M o ds = some (o', r) ∧ EndWX K a G H o' Q E r
open Classical in
noncomputable def mWX (n : Nat) (b : DXM) (o : Ob) (ds : List D) : Option (Ob × RD) := if h : ∃ r, ∀ a, fnWX n b a o ds = some r then some h.choose else none
theorem mWX_ok {n : Nat} {b : DXM} {cn : Str} (a : Addr) (o : Ob) (ds : List D) (r : Ob × RD) (_ : o.cn = cn) (h : mWX n b o ds = some r) : fnWX n b a o ds = some r := by
  unfold mWX at h
  split at h
  · rename_i hh; cases h; exact hh.choose_spec a
  · cases h
theorem mWX_eq {n : Nat} {b : DXM} {o : Ob} {ds : List D} {r : Ob × RD} (h : ∀ a, fnWX n b a o ds = some r) : mWX n b o ds = some r := by
  have hh : ∃ d, ∀ a, fnWX n b a o ds = some d := ⟨r, h⟩
  unfold mWX
  rw [dif_pos hh]
  have := (hh.choose_spec 0).symm.trans (h 0)
  exact this
theorem cxUpN {P : Program} {w : World} : StX.CXUp (L2N.CX P w) := by
  rintro outer s H s2 H2 E e s' un kp ho ⟨a, B, H', cls, d, ea, fl, hok, ub, na, os, ag, he⟩
  refine ⟨a, B, H', cls, d, ea, fl, hok, ⟨fun b o q n hb => ub.keep b o (kp b o q) (un.free b o q n (by simp)) hb, fun b o q hb => ub.slot b o (kp b o q) hb, fun b o q n => ub.free b o (kp b o q) (un.free b o q n (by simp)),
    fun b o q hb => ub.there b o (kp b o q) hb, fun b xs q => ub.tups b xs (un.tups b xs q), fun b o xs q => ub.frzs b o xs (un.frzs b o xs q), fun b ps q => ?_⟩, na, os.trans ho, ag, he⟩
  obtain ⟨m1, e1⟩ := un.tbls b ps q
  obtain ⟨m2, e2⟩ := ub.tbls b _ e1
  exact ⟨m1 ++ m2, by rw [e2, Array.append_assoc]⟩
def starX (M : Ob → List D → Option (Ob × RD)) : Ob → List D → Option (Ob × RD) := fun o ds => if ds.length ≤ 1000 then M o [.tup ds] else none
section
variable {P : Program} {w : World} {K : PySem.W.Frag} {mg : Str → Option Value} {base : Heap}
/-- a def's context lets out what it may -/
theorem cxN_takes {N : List Str} {qual : Str} {scope : Scope} {f : Addr} {cd : Value} {A : Around} {outer : List Env} {s : Shared} {H : Hp} {E : XK} : L2N.Takes (cxOf (L2N.CX P w) P w K mg base N qual scope f cd A outer s H E) (fun cls d _ H => E cls d H) :=
  L2N.takes_of (X := cxOf (L2N.CX P w) P w K mg base N qual scope f cd A outer s H E) (E := E) rfl rfl rfl rfl
/-- def m(self, *v), which may raise -/
theorem methWSX_ok {x qual cn pv : Str} {st : Stmt} {f : Addr} {fd : FuncData} {N : List Str} {k : Nat} {body : DXM} {M : Ob → List D → Option (Ob × RD)} (F : Fun K x qual st f fd) (S : FnScope N ["self", pv] (defScope st)) (hl : 2 ≤ N.length)
    (h0 : ∀ (kV doc pm : Value) (an : Option Addr) (cdv ct : Value) (a : Value), bindArgs (PySem.W.fnOf x qual (defArgs st) (defBody st) (defScope st) .none kV doc pm an cdv ct) ⟨[a], []⟩ = (newTuple [] >>= fun t => pure [(("self" : Str), a), (pv, t)]))
    (h1 : ∀ (kV doc pm : Value) (an : Option Addr) (cdv ct : Value) (a r : Value) (rs : List Value), bindArgs (PySem.W.fnOf x qual (defArgs st) (defBody st) (defScope st) .none kV doc pm an cdv ct) ⟨a :: r :: rs, []⟩ = (newTuple (r :: rs) >>= fun t => pure [(("self" : Str), a), (pv, t)]))
    (hM : ∀ a o ds r, o.cn = cn → M o ds = some r → fnWX 1 body a o ds = some r)
    (hb : ∀ (cdv : Value) (A : Around) (outer : List Env) (s : Shared) (H : Hp) (E : XK), Room k (A.deeper (envOfC qual (defScope st) s.heap.objs.size f cdv)) →
      PmXs (cxOf (L2N.CX P w) P w K mg base N qual (defScope st) f cdv A outer s H E) E (defBody st) body) : FnR P w K mg base (L2N.CX P w) (k + 1) f (spWX K cn (starX M)) := by
  obtain ⟨oc, od, kV, doc, pm, an, cdv, ct, osl, rfl, lk, hcd⟩ := F.ex
  have R := StX.fn_star (CX := L2N.CX P w) (P := P) (w := w) (mg := mg) (base := base) (k := k) (ps := ["self"]) (sp := spWX K cn M) lk hcd S cxUpN (StX.bind_star1 (B := fun us => bindArgs (PySem.W.fnOf x qual (defArgs st) (defBody st) (defScope st) .none kV doc pm an cdv ct) ⟨us, []⟩) (h0 kV doc pm an cdv ct) (h1 kV doc pm an cdv ct))
    (fun A outer s H vs Q E hr h => by
      obtain ⟨G, a, o, z, ws, ds, o', r, rfl, l, na, ha, hz, hc, rr, q, kq⟩ := h
      have q := hM a o ds _ hc q
      unfold fnWX at q
      split at q
      · rename_i e
        obtain ⟨t, a1, a2⟩ := (hb cdv A outer s H E hr).ex
        exact ⟨t, a1, a2 a G H _ _ G H Q o' r (start_srw l na ha hz rr (by rw [← rr.length, e]; exact hl)) q kq⟩
      · cases q)
  refine R.imp fun vs H Q E h => ?_
  obtain ⟨G, a, o, z, ws, ds, o', r, rfl, l, na, ha, hz, hc, rr, q, kq⟩ := h
  unfold starX at q
  split at q
  · rename_i hd
    refine ⟨[.ref a], ws, rfl, rfl, by rw [sizeLine_eq, ← rr.length]; omega, fun p hp => ?_⟩
    have gp : G p = none := l.free hp
    have pa : p ≠ a := fun e => by rw [e, ha] at hp; cases hp
    have cv : ∀ {G' H' : Hp}, UpW (upd G p (.tup ws)) (upd H p (.tup ws)) G' H' a → UpW G H G' H' a := fun u =>
      ⟨(Ex.new gp).trans u.g, fun y w' hy e => u.h y w' hy (by rw [upd_ne (ne_of_none e hp)]; exact e), u.le, fun y w' e n => u.new y w' (by rw [upd_ne (ne_of_none e hp)]; exact e) (by rw [upd_ne (ne_of_none e hp)]; exact n), u.st⟩
    refine ⟨upd G p (.tup ws), a, o, z, [.ref p], [.tup ds], o', r, rfl, l.upd2, by rw [upd_ne pa.symm]; exact na, by rw [upd_ne pa.symm]; exact ha, hz.mono (.new gp), hc, .cons (.tup upd_same (rr.mono (.new gp))) .nil, q, ?_⟩
    cases r with
    | val d => exact fun v G' H' z' u h1 h2 h3 => kq v G' H' z' (cv u) h1 h2 h3
    | err c => exact fun cls dd G' H' z' u h1 h2 h3 => kq cls dd G' H' z' (cv u) h1 h2 h3
  · cases q
end
/-! ### an object is made -/
def xMake (cn : Str) (M : Ob → List D → Option (Ob × RD)) (fs : DL) : DX := fun ρ => (fs ρ).bind fun ds => (M ⟨cn, [], []⟩ ds).bind fun r => match r.2 with
  | .val .non => some (.obj r.1)
  | .err c => some (.err c)
  | _ => none
theorem passN0 {X : Cx} : Passes (L2N.CX X.prog X.w) X E0 := fun _ _ _ _ _ _ _ h => by
  obtain ⟨_, _, _, _, _, _, _, _, _, _, _, _, z⟩ := h
  exact z.elim
section
variable {X : Cx} {E : XK} {cn : Str} {C f : Addr} {p pos : Pos} {e : Expr} {es : List Expr} {fs : DL} {M : Ob → List D → Option (Ob × RD)} {k j : Nat}
theorem make_end {ρ : DEnv} {ds : List D} {r : Rx} {G H G1 H1 : Hp} {Q : VK} {vs : List V} (c : ClD X.K cn C) (z : fs ρ = some ds) (q : xMake cn M fs ρ = some r) (kk : EndX X.K G H E Q r) (u1 : Up G H G1 H1) (rvs : Reps X.K G1 ds vs) :
    ∀ x dx, H1 x = none → H1 dx = none → dx ≠ x → spWX X.K cn M (V.ref x :: vs) (upd (upd H1 dx (.own x)) x (.ins C dx [])) (fun v H2 => v = .non ∧ Q (.ref x) H2) E := by
  intro x dx nx ndx hne
  unfold xMake at q
  rw [z] at q
  cases z3 : M ⟨cn, [], []⟩ ds with
  | none => simp only [Option.bind_some, z3] at q; cases q
  | some rr =>
    simp only [Option.bind_some, z3] at q
    obtain ⟨o', d⟩ := rr
    have gx : G1 x = none := u1.le.free nx
    have gdx : G1 dx = none := u1.le.free ndx
    have ex1 : ∀ b v, H1 b = some v → (upd (upd H1 dx (.own x)) x (.ins C dx [])) b = some v := fun b v e => by rw [upd_ne (ne_of_none e nx), upd_ne (ne_of_none e ndx)]; exact e
    have cv : ∀ {G2 H2 : Hp}, UpW G1 (upd (upd H1 dx (.own x)) x (.ins C dx [])) G2 H2 x → Up G1 H1 G2 H2 := fun u2 =>
      ⟨u2.g, fun b v e => u2.h b v (ne_of_none e nx) (ex1 b v e), u2.le, fun b v e n => u2.new b v (ex1 b v e) n⟩
    refine ⟨G1, x, ⟨cn, [], []⟩, ((C, dx), []), vs, ds, o', d, rfl, fun b v e => ex1 b v (u1.le b v e), gx, upd_same, ⟨c.at_, .nil, rfl⟩, rfl, rvs, z3, ?_⟩
    cases d with
    | val d =>
      cases d <;> first | cases q | skip
      intro v G2 H2 z' u2 g1 g2 g3
      cases g3
      exact ⟨rfl, kk x z' G2 H2 (u1.trans (cv u2)) (u1.h.free nx) (u2.new _ _ upd_same gx) g1 g2⟩
    | err c =>
      cases q
      exact fun cls dd G2 H2 z' u2 g1 g2 hx => kk cls dd G2 H2 (u1.trans (cv u2)) hx
theorem px_make (c : ClD X.K cn C) (Mk0 : Mk X.K C f) (h : FnR X.prog X.w X.K X.mg X.base (L2N.CX X.prog X.w) j f (spWX X.K cn M)) (hm : X.mg cn = some (.ref C)) (hr : Room k X.A) (hx : Passes (L2N.CX X.prog X.w) X E) (ha : PuA X (e :: es) fs) (hjk : j + 1 ≤ k := by decide) (hg : Gl X cn := by rfl)
    (hdb : (cn == ("__debug__" : Str)) = false := by decide) (hst : starEach (e :: es) X.env = (false, eval e X.env) :: starEach es X.env := by rfl) (hpl : (backTo pos (starEach es X.env)).any (·.1) = false := by rfl) : PuX X E (.Call (.Name cn p) (e :: es) [] pos) (xMake cn M fs) :=
  let ⟨_, a1, a2⟩ := ha.ex; ⟨_, StX.pe_makeR Mk0 h (hr.mono hjk) hg hm hx a1 hdb hst hpl, fun ρ σ G H Q r l rr q kk => by
    cases z : fs ρ with
    | none => unfold xMake at q; rw [z] at q; cases q
    | some ds => exact a2 ρ σ G H _ ds l rr z fun vs G1 H1 u1 rvs => make_end c z q kk u1 rvs⟩
theorem px_make0 (c : ClD X.K cn C) (Mk0 : Mk X.K C f) (h : FnR X.prog X.w X.K X.mg X.base (L2N.CX X.prog X.w) j f (spWX X.K cn M)) (hm : X.mg cn = some (.ref C)) (hr : Room k X.A) (hx : Passes (L2N.CX X.prog X.w) X E) (hjk : j + 1 ≤ k := by decide) (hg : Gl X cn := by rfl)
    (hdb : (cn == ("__debug__" : Str)) = false := by decide) : PuX X E (.Call (.Name cn p) [] [] pos) (xMake cn M dNil) :=
  ⟨fun σ H Q => ∀ x dx, H x = none → H dx = none → dx ≠ x → spWX X.K cn M [V.ref x] (upd (upd H dx (.own x)) x (.ins C dx [])) (fun v H2 => v = .non ∧ Q (.ref x) H2) E, ⟨fun pins s σ H Q I h' => by
    refine wpAny_Call_Name_kw (ld_glob I hg hm ?_ hdb)
    exact PySem.W.callWith_K0 I.kIn Mk0.kp (StX.run_makeR (us := []) (vs := []) Mk0 h (hr.mono hjk) hx I .nil h')⟩, fun ρ σ G H Q r l rr q kk => make_end (ds := []) c rfl q kk (.refl l) .nil⟩
end
/-! ### what is read of an object just made -/
def eTProp (cn : Str) (fx : DX) (M : Ob → List D → Option D) : DE := fun ρ => (fx ρ).bind fun r => match r with
  | .obj o => if o.cn = cn then M o [] else none
  | _ => none
theorem eTProp_some {cn : Str} {fx : DX} {M : Ob → List D → Option D} {ρ : DEnv} {d : D} (q : eTProp cn fx M ρ = some d) : ∃ o, fx ρ = some (.obj o) ∧ o.cn = cn ∧ M o [] = some d := by
  unfold eTProp at q
  cases z : fx ρ with
  | none => rw [z] at q; cases q
  | some r =>
    rw [z] at q
    cases r with
    | obj o =>
      have q : (if o.cn = cn then M o [] else none) = some d := q
      split at q
      · rename_i h; exact ⟨o, rfl, h, q⟩
      · cases q
    | val _ => cases q
    | err _ => cases q
section
variable {X : Cx} {cn f : Str} {C : Addr} {p pos : Pos} {e : Expr} {fx : DX} {M : Ob → List D → Option D} {k j : Nat}
theorem pu_tprop (c : ClD X.K cn C) (h : PrD X.prog X.w X.K X.mg X.base j C f (spR X.K cn M)) (hr : Room k X.A) (he : PuX X E0 e fx) (hjk : j + 1 ≤ k := by decide) (hb : attributeBase e f X.env (eval e X.env) = eval e X.env := by rfl) : PuE X (.Attribute e f pos) (eTProp cn fx M) :=
  let ⟨_, g, fd, ps, b1, b2, b3⟩ := h.ex; let ⟨_, a1, a2⟩ := he.ex; ⟨_, pe_prop a1 c.cl b1 b2 (hr.mono hjk) b3 .nil pass0 hb, fun ρ σ G H Q d l r q kk => by
    obtain ⟨o, z, hcn, q2⟩ := eTProp_some q
    refine a2 ρ σ G H _ _ l r z fun a zz G1 H1 u n1 n2 hH hz => ?_
    have eC := c.is (by rw [← hcn]; exact hz.cls)
    exact ⟨a, zz.1.2, _, rfl, by rw [← eC]; exact hH, G1, a, o, zz, [], [], d, rfl, u.le, hH, hz, hcn, .nil, q2, fun v G2 H2 u2 rv => kk v G2 H2 (u.trans u2) rv⟩⟩
/-- len(o), by an own __len__ -/
def rLenO (P : Program) (w : World) (K : PySem.W.Frag) (C : Addr) (sp : Sp) : List V → Hp → VK → Prop := fun xs H Q => ∃ a dx fs, xs = [.ref a] ∧ H a = some (.ins C dx fs) ∧ sp [.ref a] H (fun v H' => ∃ n : Int, v = .int n ∧ 0 ≤ n ∧ n < 2 ^ 63 ∧ Q (.int n) H') E0
theorem call_lenO {g : Addr} {sp : Sp} (hr : Room (k + 1) X.A) (hm : PySem.W.findIn X.K (.ref C) "__len__" = some (some (.ref g))) (hf : PySem.W.isFn X.K (.ref g) = true) (F : FnR X.prog X.w X.K X.mg X.base CX0 k g sp) : CallR X (.builtin "len") (rLenO X.prog X.w X.K C sp) := by
  intro pins s σ H xs us Q I r h
  obtain ⟨a, dx, fs, rfl, hH, hq⟩ := h
  obtain ⟨u, rfl, ru⟩ := vals1 r
  obtain rfl : u = Value.ref a := ru
  obtain ⟨mA, O, _, _, _, _⟩ := ins_get I.hok hH
  obtain ⟨od, IA, _⟩ := O.look
  refine Calls.call_function_entry kind_len plain_len entry_len (args_len1 _) ?_
  unfold Builtin.«len»
  refine wpAny_bind (m := oneArg "len" _) (wpAny_pure ?_)
  refine wpAny_bind (m := callSpecial? (.ref a) (PySem.Str.ofString "__len__")) (PySem.W.special_fn I.kIn IA hm (beq_iff_eq.mp hf) ?_)
  refine wpAny_call (codeAny_mono (F X.A.in1 X.stack s H [.ref a] [.ref a] _ E0 hr.in1 I.env0.in1 (.cons rfl .nil) hq) fun r s' hq' => ?_)
  cases r with
  | error e => exact (show False from hq').elim
  | ok fl =>
    cases fl with
    | ret u =>
      obtain ⟨v, H', I3, rv, n, ev, h0, h1, q3⟩ := I.after hq'
      subst ev
      obtain ⟨tk, rfl⟩ : ∃ t, u = Value.int n t := rv
      refine wpAny_bind (wpAny_holding (wpAny_pure ?_))
      refine wpAny_bind (wpAny_letGo ?_)
      show wpAny _ _ (if n < 0 then _ else _) _ _ _
      rw [if_neg (by omega)]
      show wpAny _ _ (if n ≥ 2 ^ 63 then _ else _) _ _ _
      rw [if_neg (by omega)]
      exact wpAny_bind (wpAny_mkInt (wpAny_pure ⟨_, rfl, .int n, H', I3.tok _, ⟨_, rfl⟩, q3⟩))
    | next => exact False.elim hq'
    | brk => exact False.elim hq'
    | cont => exact False.elim hq'
end
end PL

namespace PL
open PySem PySem.Spec PyProof.Rows L2
open LamX (CodeO TabS Tabs ExtN TabB LamS lamEnv)

/-! ## _law_told(lambda: ..) in the law -/
def WordsOk (K : PySem.W.Frag) (words : List (Str × Str)) (L : List (Addr × Str)) : Prop := ∀ cn z Dc, words.lookup cn = some z → PySem.W.nsIn K mainGlobals cn = some (some (.ref Dc)) → (Dc, z) ∈ L
structure TLd (X : Cx) (T : List (Addr × Str)) (words : List (Str × Str)) (k : Nat) : Prop where
  ex : ∃ st L c P, ToldD X.prog X.w X.K X.mg X.base k st L ∧ WordsOk X.K words L ∧ TabB X.base X.mg c P ∧ X.env.code = .ref c ∧ (P, X.env.qual ++ "<lambda>") ∈ T ∧ (∀ p ∈ T, p.1 = P → p.2 = X.env.qual ++ "<lambda>")
def tLx (K : PySem.W.Frag) (nn : Nat) (f : DX) : XK → TE := fun E σ H Q => ∀ t', TXok K nn E t' f → t' σ H Q
theorem two_le {a b : V} : [a, b].length ≤ sizeLine := by rw [sizeLine_eq]; exact (by decide : 2 ≤ 16777216)
theorem told_core {K : PySem.W.Frag} {nn : Nat} {T L : List (Addr × Str)} {words : List (Str × Str)} {ρ : DEnv} {σ : L2.St} {H : Hp} {Q : VK} {fB : DX} {r : Rx} (s : SL K nn T ρ σ H) (q : fB ρ = some r) (W : WordsOk K words L)
    (kv : ∀ d, r = .val d → ∀ p G' H0' H', SR K nn No H0' ρ σ G' H' → Tabs T H0' → Rep K G' (.tup [d, .str Str.empty]) (.ref p) → Q (.ref p) H')
    (ko : ∀ o, r = .obj o → ∀ (a : Addr) (z : (Addr × Addr) × List V) p G' H0' H', SR K nn No H0' ρ σ G' H' → Tabs T H0' → H0' a = none → G' a = none → (∀ j c' v', ρ j = some c' → σ[j]? = some (some v') → Foot H' c' v' a → False) →
      H' a = some (.ins z.1.1 z.1.2 (o.ns.zip z.2)) → ObR K G' o z → H' p = some (.tup [.ref a, .str Str.empty]) → Q (.ref p) H')
    (ke : ∀ cn, r = .err cn → ∃ z, words.lookup cn = some z ∧ ∀ p G' H0' H', SR K nn No H0' ρ σ G' H' → Tabs T H0' → Rep K G' (.tup [.non, .str z]) (.ref p) → Q (.ref p) H') : tLamN T L (tLx K nn fB) σ H Q := by
  obtain ⟨G, H0, s, t⟩ := s
  refine ⟨t.ext s.up.h, fun H1 eN T1 => ?_⟩
  obtain ⟨H0', s1, t1⟩ := s.tables eN T1
  intro t' ht'
  refine ht' ρ σ (dat G) H1 _ r s1.up.le s1.er q ?_
  cases r with
  | val d =>
    intro v G' H' u rv
    refine ⟨two_le, fun p hp => ?_⟩
    have s2 := (s1.step u).step (Up.pure (p := p) (o := .tup [v, .str Str.empty]) u.le hp)
    exact kv d rfl p _ H0' _ s2 t1 (.tup upd_same (.cons (rv.mono (.new (u.le.free hp))) (.cons (.str _) .nil)))
  | obj o =>
    intro a z G' H' u n1 n2 hH hz
    refine ⟨two_le, fun p hp => ?_⟩
    have pa : p ≠ a := fun e => by rw [e, hH] at hp; cases hp
    have u2 : Up G' H' G' (upd H' p (.tup [V.ref a, V.str Str.empty])) := Up.own u.le hp
    have s2 := (s1.step u).step u2
    refine ko o rfl a z p G' H0' _ s2 t1 (s1.up.h.free n1) n2 (fun j c' v' h1 h2 f => ?_) (by rw [upd_ne pa.symm]; exact hH) hz upd_same
    obtain ⟨w, h3, h4⟩ := s1.er.at_ j c' h1
    rw [h2] at h3; cases h3
    obtain ⟨oo, ho⟩ := foot_there h4 (foot_up (u.trans u2).h h4 f)
    rw [n1] at ho; cases ho
  | err cn =>
    intro cls d G' H' u hx
    obtain ⟨hd, Dc, rfl, hn⟩ := hx
    obtain ⟨z, hw, hk⟩ := ke cn rfl
    refine ⟨hd, (Dc, z), W cn z Dc hw hn, rfl, G', u.le, fun G1 H2 u1 p hp => ?_⟩
    have s2 := ((s1.step u).step u1).step (Up.pure (p := p) (o := .tup [.non, .str z]) u1.le hp)
    exact hk p _ H0' _ s2 t1 (.tup upd_same (.cons .non (.cons (.str _) .nil)))
def eTold (words : List (Str × Str)) (fB : DX) : DE := fun ρ => (fB ρ).bind fun r => match r with
  | .val d => some (.tup [d, .str Str.empty])
  | .err cn => (words.lookup cn).map fun z => .tup [.non, .str z]
  | .obj _ => none
def sTold (i j : Nat) (words : List (Str × Str)) (fB : DX) : DS := fun ρ => (fB ρ).bind fun r => match r with
  | .val d => some (.nx ((ρ.set i (.p d)).set j (.p (.str Str.empty))))
  | .obj o => some (.nx ((ρ.set i (.ob o)).set j (.p (.str Str.empty))))
  | .err cn => (words.lookup cn).map fun z => .nx ((ρ.set i (.p .non)).set j (.p (.str z)))
theorem gpair {K : PySem.W.Frag} {H : Hp} {p : Addr} {x y : V} {i j : Nat} {σ : L2.St} {Q : L2.St → Hp → Prop} (h : Rd H p (.tup [x, y])) (q : Q ((σ.set i (some x)).set j (some y)) H) : tgTG K (.tp [i, j]) (.ref p) σ H Q :=
  ⟨p, [x, y], rfl, .inl h, rfl, x, [y], rfl, y, [], rfl, rfl, q⟩
section
variable {X : Cx} {T : List (Addr × Str)} {words : List (Str × Str)} {k : Nat} {params : Arguments} {body : Expr} {scope : Scope} {fB : DX} {p lpos cpos pos : Pos}
theorem pe_toldx {L : List (Addr × Str)} {st : Stmt} {c P : Addr} (TD : ToldD X.prog X.w X.K X.mg X.base k st L) (TB : TabB X.base X.mg c P) (hcode : X.env.code = .ref c) (hmT : (P, X.env.qual ++ "<lambda>") ∈ T) (hu : ∀ p ∈ T, p.1 = P → p.2 = X.env.qual ++ "<lambda>") (hr : Room (k + 2) X.A) (Lm : LamS X.env.scope scope)
    (hbody : ∀ (A : Around) (outer : List Env) (s : Shared) (H : Hp) (E : XK) (f c' : Addr), Room k (A.deeper (lamEnv X scope s.heap.objs.size f c')) → PuX (lamX X A outer s H E scope f c') E body fB)
    (hdef : defaultsOf params X.env = ([], [])) (hbind : ∀ (q : Str) (cl : List (Str × Addr)) (pm cv ctv : Value), bindArgs (PySem.W.kla_fn "<lambda>" q params body scope cl pm cv ctv) ⟨[], []⟩ = pure []) (hg : Gl X "_law_told") :
    PE X (.Call (.Name "_law_told" p) [.Lambda params body scope lpos] [] cpos) (tLamN T L (tLx X.K X.N.length fB)) :=
  pe_told TD TB hcode hmT hu hr Lm hdef hbind (fun A outer s H E f c' hr' => by
    obtain ⟨t', a1, a2⟩ := (hbody A outer s H E f c' hr').ex
    exact ⟨fun pins s' σ H' Q I h => a1.run pins s' σ H' Q I (h t' a2)⟩) hg
theorem lu_told (TL : TLd X T words k) (hr : Room (k + 2) X.A) (Lm : LamX.lamSB X.env.scope scope = true)
    (hbody : ∀ (A : Around) (outer : List Env) (s : Shared) (H : Hp) (E : XK) (f c' : Addr), Room k (A.deeper (lamEnv X scope s.heap.objs.size f c')) → PuX (lamX X A outer s H E scope f c') E body fB)
    (hdef : defaultsOf params X.env = ([], []) := by rfl) (hbind : ∀ (q : Str) (cl : List (Str × Addr)) (pm cv ctv : Value), bindArgs (PySem.W.kla_fn "<lambda>" q params body scope cl pm cv ctv) ⟨[], []⟩ = pure [] := by intros; rfl) (hg : Gl X "_law_told" := by rfl) :
    LuE X T (.Call (.Name "_law_told" p) [.Lambda params body scope lpos] [] cpos) (eTold words fB) :=
  let ⟨_, _, _, _, TD, W, TB, hcode, hmT, hu⟩ := TL.ex
  ⟨_, pe_toldx TD TB hcode hmT hu hr (LamX.lamS_by Lm) hbody hdef hbind hg, fun ρ σ H Q d s q kk => by
    unfold eTold at q
    cases z : fB ρ with
    | none => rw [z] at q; cases q
    | some r =>
      rw [z] at q
      refine told_core s z W (fun d' e p G' H0' H' s' t' rv => ?_) (fun o e => ?_) (fun cn e => ?_)
      · subst e; cases q; exact kk _ G' H0' H' s' t' rv
      · subst e; cases q
      · subst e
        have q : (words.lookup cn).map (fun z => D.tup [.non, .str z]) = some d := q
        cases z2 : words.lookup cn with
        | none => rw [z2] at q; cases q
        | some w =>
          rw [z2] at q; cases q
          exact ⟨w, rfl, fun p G' H0' H' s' t' rv => kk _ G' H0' H' s' t' rv⟩⟩
theorem ls_told {x y : Str} {p1 p2 tpos : Pos} {kk : Nat} (i j : Nat) (hij : i ≠ j) (TL : TLd X T words k) (hr : Room (k + 2) X.A) (Lm : LamX.lamSB X.env.scope scope = true)
    (hbody : ∀ (A : Around) (outer : List Env) (s : Shared) (H : Hp) (E : XK) (f c' : Addr), Room k (A.deeper (lamEnv X scope s.heap.objs.size f c')) → PuX (lamX X A outer s H E scope f c') E body fB)
    (hgt : PG X (.Tuple [.Name x p1, .Name y p2] kk tpos) (tgTG X.K (.tp [i, j]))) (hl : ∀ a ∈ [i, j], a < X.N.length)
    (hs : swapsWithSole [.Tuple [.Name x p1, .Name y p2] kk tpos] (.Call (.Name "_law_told" p) [.Lambda params body scope lpos] [] cpos) pos.line X.env = pure false := by rfl) (hw : swappedStores [.Tuple [.Name x p1, .Name y p2] kk tpos] (.Call (.Name "_law_told" p) [.Lambda params body scope lpos] [] cpos) X.env = pure none := by rfl)
    (h1 : (assignEach [.Tuple [.Name x p1, .Name y p2] kk tpos] X.env).map (·.2) = [assign (.Tuple [.Name x p1, .Name y p2] kk tpos) X.env] := by rfl)
    (hdef : defaultsOf params X.env = ([], []) := by rfl) (hbind : ∀ (q : Str) (cl : List (Str × Addr)) (pm cv ctv : Value), bindArgs (PySem.W.kla_fn "<lambda>" q params body scope cl pm cv ctv) ⟨[], []⟩ = pure [] := by intros; rfl) (hg : Gl X "_law_told" := by rfl) :
    LuS X T (.Assign [.Tuple [.Name x p1, .Name y p2] kk tpos] (.Call (.Name "_law_told" p) [.Lambda params body scope lpos] [] cpos) pos) (sTold i j words fB) :=
  let ⟨_, _, _, _, TD, W, TB, hcode, hmT, hu⟩ := TL.ex
  ⟨_, ps_asg (pe_toldx TD TB hcode hmT hu hr (LamX.lamS_by Lm) hbody hdef hbind hg) hgt hs hw h1, fun ρ σ H E r s q kk => by
    have hi : i < X.N.length := hl i (by simp)
    have hj : j < X.N.length := hl j (by simp)
    have pair : ∀ {d d' : D} {p : Addr} {G' H' H0' : Hp}, SR X.K X.N.length No H0' ρ σ G' H' → Tabs T H0' → Rep X.K G' (.tup [d, d']) (.ref p) → r = .nx ((ρ.set i (.p d)).set j (.p d')) → tgTG X.K (.tp [i, j]) (.ref p) σ H' E.nx := fun {d d' p G' H' H0'} s' t' rv er => by
      subst er
      cases rv with
      | tup h rr =>
        cases rr with
        | cons r1 rr => cases rr with
        | cons r2 rr =>
        cases rr
        exact gpair (.inl (s'.up.le _ _ h)) (kk _ H' ⟨G', H0', (s'.setP hi r1).setP hj r2, t'⟩)
    unfold sTold at q
    cases z : fB ρ with
    | none => rw [z] at q; cases q
    | some rx =>
      rw [z] at q
      refine told_core s z W (fun d' e p G' H0' H' s' t' rv => ?_) (fun o e a zz p G' H0' H' s' t' n1 n2 nf hH hz hp => ?_) (fun cn e => ?_)
      · subst e; cases q; exact pair s' t' rv rfl
      · subst e; cases q
        refine gpair (.inl hp) (kk _ H' ⟨G', H0', SR.setP (v := .str Str.empty) (s'.set hi ⟨a, zz, rfl, hH, hz⟩ (fun b eb => by cases eb; exact ⟨n2, n1⟩) fun jj c' v' b hjj q1 q2 f1 f2 => ?_) hj (.str _), t'⟩)
        cases f1
        exact nf jj c' v' q1 q2 f2
      · subst e
        have q : (words.lookup cn).map (fun z => DRes.nx ((ρ.set i (.p .non)).set j (.p (.str z)))) = some r := q
        cases z2 : words.lookup cn with
        | none => rw [z2] at q; cases q
        | some w =>
          rw [z2] at q; cases q
          exact ⟨w, rfl, fun p G' H0' H' s' t' rv => pair s' t' rv rfl⟩⟩
end
/-! ### len of an own object -/
structure LenD (P : Program) (w : World) (K : PySem.W.Frag) (mg : Str → Option Value) (base : Heap) (k : Nat) (C : Addr) (sp : Sp) : Prop where
  ex : ∃ g, PySem.W.findIn K (.ref C) "__len__" = some (some (.ref g)) ∧ PySem.W.isFn K (.ref g) = true ∧ FnR P w K mg base CX0 k g sp
def gNat : Option D → Option D
  | some (.int n) => if 0 ≤ n ∧ n < 1000000000 then some (.int n) else none
  | _ => none
theorem gNat_some {x : Option D} {d : D} (h : gNat x = some d) : ∃ n : Int, x = some (.int n) ∧ d = .int n ∧ 0 ≤ n ∧ n < 2 ^ 63 := by
  unfold gNat at h
  split at h
  · rename_i n
    split at h
    · rename_i hn
      cases h
      exact ⟨n, rfl, rfl, hn.1, by omega⟩
    · cases h
  · cases h
def eLenO (cn : Str) (i : Nat) (M : Ob → List D → Option D) : DE := fun ρ => gNat (eProp cn i M ρ)
def eTLen (cn : Str) (fx : DX) (M : Ob → List D → Option D) : DE := fun ρ => gNat (eTProp cn fx M ρ)
section
variable {X : Cx} {cn y : Str} {C : Addr} {p p2 pos : Pos} {e : Expr} {fx : DX} {M : Ob → List D → Option D} {k j : Nat}
theorem pu_lenO (i : Nat) (c : ClD X.K cn C) (h : LenD X.prog X.w X.K X.mg X.base j C (spR X.K cn M)) (hm : X.mg "len" = none) (hr : Room k X.A) (hjk : j + 1 ≤ k := by decide) (hN : X.N[i]? = some y := by rfl) (hv : Vis X.env.scope y := by first | exact Or.inl rfl | exact Or.inr (Or.inl rfl) | exact Or.inr (Or.inr rfl)) (hd : (y == ("__debug__" : Str)) = false := by decide)
    (hcd : (y == ("__classdict__" : Str)) = false := by decide) (hg : Gl X "len" := by rfl) (he : starEach [.Name y p] X.env = (false, eval (.Name y p) X.env) :: starEach [] X.env := by rfl) : PuE X (.Call (.Name "len" p2) [.Name y p] [] pos) (eLenO cn i M) :=
  let ⟨g, b1, b2, b3⟩ := h.ex; ⟨_, pe_callB (call_lenO (hr.mono hjk) b1 b2 b3) hg hm PySem.boot_len (pa_cons (pe_var hN hv hd hcd) pa_nil he) (by decide) (by decide) he (by rfl), fun ρ σ G H Q d l r q kk => by
    obtain ⟨n, q1, rfl, h0, h1⟩ := gNat_some q
    obtain ⟨o, z, hcn, q2⟩ := eProp_some q1
    obtain ⟨v, hs, a, zz, rfl, hH, hz⟩ := r.at_ i _ z
    have eC := c.is (by rw [← hcn]; exact hz.cls)
    refine ⟨_, hs, a, zz.1.2, _, rfl, by rw [← eC]; exact hH, G, a, o, zz, [], [], .int n, rfl, l, hH, hz, hcn, .nil, q2, fun v G' H' u rv => ?_⟩
    cases rv
    exact ⟨n, rfl, h0, h1, kk _ G' H' u (.int n)⟩⟩
theorem pu_tlen (c : ClD X.K cn C) (h : LenD X.prog X.w X.K X.mg X.base j C (spR X.K cn M)) (hm : X.mg "len" = none) (hr : Room k X.A) (hx : PuX X E0 e fx) (hjk : j + 1 ≤ k := by decide) (hg : Gl X "len" := by rfl)
    (he : starEach [e] X.env = (false, eval e X.env) :: starEach [] X.env := by rfl) : PuE X (.Call (.Name "len" p2) [e] [] pos) (eTLen cn fx M) :=
  let ⟨g, b1, b2, b3⟩ := h.ex; let ⟨_, a1, a2⟩ := hx.ex; ⟨_, pe_callB (call_lenO (hr.mono hjk) b1 b2 b3) hg hm PySem.boot_len (pa_cons a1 pa_nil he) (by decide) (by decide) he (by rfl), fun ρ σ G H Q d l r q kk => by
    obtain ⟨n, q1, rfl, h0, h1⟩ := gNat_some q
    obtain ⟨o, z, hcn, q2⟩ := eTProp_some q1
    refine a2 ρ σ G H _ _ l r z fun a zz G1 H1 u n1 n2 hH hz => ?_
    have eC := c.is (by rw [← hcn]; exact hz.cls)
    refine ⟨a, zz.1.2, _, rfl, by rw [← eC]; exact hH, G1, a, o, zz, [], [], .int n, rfl, u.le, hH, hz, hcn, .nil, q2, fun v G' H' u2 rv => ?_⟩
    cases rv
    exact ⟨n, rfl, h0, h1, kk _ G' H' (u.trans u2) (.int n)⟩⟩
end

/-! ## the law -/
def spL (K : PySem.W.Frag) (T : List (Addr × Str)) (F : List D → Option D) : Sp := fun vs H Q _ => ∃ a ns d, vs = [.ref a] ∧ SqL K H a (ns.map V.int) ∧ Tabs T H ∧ F [.scr ns] = some d ∧ ∀ v G' H', Ex G' H' → Rep K G' d v → Q v H'
theorem law_okL {P : Program} {w : World} {K : PySem.W.Frag} {mg : Str → Option Value} {base : Heap} {st : Stmt} {f c : Addr} {kV doc pm ct oc : Value} {an od : Option Addr} {osl : Array (Option Value)} {N : List Str} {k : Nat} {body : DS} {T : List (Addr × Str)}
    (lk : K.lookup f = some ⟨oc, od, .func (PySem.W.fnOf "law" "law" (defArgs st) (defBody st) (defScope st) .none kV doc pm an (.ref c) ct), osl⟩) (hcd : PySem.W.codeIn K (.ref c) "law" = true) (S : FnScope N ["script"] (defScope st)) (hl : 1 ≤ N.length)
    (hb : ∀ (A : Around) (outer : List Env) (s : Shared) (H : Hp) (E : XK), Room k (A.deeper (envOfC "law" (defScope st) s.heap.objs.size f (.ref c))) →
      LuSs (cxOf CX0 P w K mg base N "law" (defScope st) f (.ref c) A outer s H E).nox T (defBody st) body) :
    FnOk P w K mg base CX0 (k + 1) f (PySem.W.fnOf "law" "law" (defArgs st) (defBody st) (defScope st) .none kV doc pm an (.ref c) ct) ["script"] (spL K T (fnD 1 body)) := by
  refine fn_of lk hcd S (fun vs H Q E h => ?_) fun A outer s H vs Q E hr h => ?_
  · obtain ⟨a, ns, d, rfl, _⟩ := h; rfl
  · obtain ⟨a, ns, d, rfl, hS, hT, q, kq⟩ := h
    obtain ⟨t, a1, a2⟩ := (hb A outer s H E hr).ex
    unfold fnD at q
    rw [if_pos (show [D.scr ns].length = 1 from rfl)] at q
    refine ⟨t, a1.nox, ?_⟩
    cases z : body (env0 [.scr ns]) with
    | none => rw [z] at q; cases q
    | some rr =>
      rw [z] at q
      have q : endD rr = some d := q
      refine a2 _ _ H _ rr (SL.start hS hT hl) z ?_
      cases rr with
      | nx ρ' =>
        cases q
        intro σ' H' s'
        obtain ⟨G, H0, s', _⟩ := s'
        exact kq _ G H' s'.up.le .non
      | rt d' => cases q; exact fun v G' H' e rv => kq v G' H' e rv
      | bk _ => cases q
      | ct _ => cases q
end PL

namespace PL
open PySem PySem.Spec PyProof.Rows L2
open LamX (CodeO TabS Tabs ExtN TabB LamS lamEnv)
theorem FnHP.mono {P : Program} {w : World} {K : PySem.W.Frag} {mg : Str → Option Value} {base : Heap} {j k : Nat} {f : Addr} {fd : FuncData} {ps : List Str} {sp : Addr × Obj → Sp} (F : FnHP P w K mg base j f fd ps sp) (h : j ≤ k) : FnHP P w K mg base k f fd ps sp :=
  ⟨F.len, fun A outer s H args us vs Q E p hr => F.run A outer s H args us vs Q E p (hr.mono h)⟩
theorem wordsOk_nil {K : PySem.W.Frag} : WordsOk K [] [] := fun cn z Dc h _ => by cases h
theorem wordsOk_cons {K : PySem.W.Frag} {ws : List (Str × Str)} {L : List (Addr × Str)} {cn z : Str} {Dc : Addr} (h : PySem.W.nsIn K mainGlobals cn = some (some (.ref Dc))) (r : WordsOk K ws L) : WordsOk K ((cn, z) :: ws) ((Dc, z) :: L) := fun cn' z' D' h1 h2 => by
  rw [List.lookup_cons] at h1
  cases e : cn' == cn with
  | true =>
    rw [e] at h1
    cases h1
    have := beq_iff_eq.mp e
    subst this
    rw [h] at h2
    cases h2
    exact List.mem_cons_self
  | false =>
    rw [e] at h1
    exact List.mem_cons_of_mem _ (r cn' z' D' h1 h2)
theorem hasFields {A : Around} {p : Addr × Obj} (h : L2H.Hot1 A p) : ∃ vs, p.2.data = .fields vs := let ⟨_, vs, e, _⟩ := h; ⟨vs, e⟩
/-- the name that the lambdas of the def q bear -/
def lamN (q : Str) : Str := q ++ ".<locals>." ++ "<lambda>"
theorem lawAt {l : PySem.W.OpenLaw} {w : World} {K : PySem.W.Frag} {k : Nat} {mg : Str → Option Value} {fa c P : Addr} {h : Heap} {fd : FuncData} {F : List D → Option D} (X : K.In h) (hb : ∀ (s : Shared) (u : Value), BindsTo s fd ⟨[u], []⟩ [("script", u)])
    (ht : h.get? P = some { cls := .none, data := .fields #[] }) (hn : K.lookup P = none) (hc : PySem.W.codeHdIn K c P = true) (hF : ∀ ns : List Int, ns.length ≤ 63 → F [.scr ns] = some (.bl true))
    (H : ∀ base : Heap, K.In base → base.Ns mainGlobals mg → TabB base mg c P → FnOk l.prog w K mg base CX0 k fa fd ["script"] (spL K [(P, lamN "law")] F)) : LamX.LawAtS l w K CX0 k 63 "script" mg fa h := by
  refine ⟨fd, [(c, P)], _, fun p hp => ?_, fun p hp => ?_, fun p hp => ?_, hb, fun H a ns hl _ hH hS => ?_, fun base h1 h2 h3 => H base h1 h2 (h3 (c, P) List.mem_cons_self)⟩
  · rw [List.mem_singleton.mp hp]; exact ht
  · rw [List.mem_singleton.mp hp]; exact hn
  · rw [List.mem_singleton.mp hp]; exact PySem.W.codeHd_of_K X hc
  · refine ⟨a, ns, .bl true, rfl, hS, fun p hp => ?_, hF ns hl, fun v G' H' _ rv => by cases rv; rfl⟩
    rw [List.mem_singleton.mp hp]
    exact LamX.TabS.nil (hH (c, P) List.mem_cons_self)
/-! ## sep.join(xs) -/
def gJoin : D → D → Option D
  | .str a, .lst ds => (txtsD ds).bind fun ys => if (ys.map (·.length)).sum + ys.length * a.length ≤ 16777216 then some (.str (Txt.join a ys)) else none
  | _, _ => none
section
variable {X : Cx} {o e : Expr} {fo fe : DE} {apos pos : Pos}
theorem pu_join (ho : RdE X o fo) (he : RdE X e fe) (hs : starEach [e] X.env = [(false, eval e X.env)] := by rfl) (hbase : attributeBase o "join" X.env (eval o X.env) = eval o X.env := by rfl) (hline : (apos.endLine == pos.line) = true := by rfl) :
    PuE X (.Call (.Attribute o "join" apos) [e] [] pos) (e2 gJoin fo fe) :=
  let ⟨_, a1, a2⟩ := ho.ex; let ⟨_, b1, b2⟩ := he.ex; ⟨_, pe_join a1 b1 hs hbase hline, fun ρ σ G H Q d l r q k => by
    unfold e2 at q
    cases q1 : fo ρ with
    | none => rw [q1] at q; cases q
    | some x =>
      rw [q1] at q
      cases q2 : fe ρ with
      | none => rw [q2] at q; cases q
      | some y =>
        rw [q2] at q
        have q : gJoin x y = some d := q
        unfold gJoin at q
        split at q
        · rename_i a ds _
          cases z : txtsD ds with
          | none => rw [z] at q; cases q
          | some ys =>
            rw [z] at q
            have q : (if (ys.map (·.length)).sum + ys.length * a.length ≤ 16777216 then some (D.str (Txt.join a ys)) else none) = some d := q
            split at q
            · rename_i hz
              cases q
              refine a2 ρ σ G H _ _ l r q1 fun v G1 H1 u1 rv => ?_
              rw [rv.str_inv]
              refine ⟨⟨a, rfl⟩, b2 ρ σ G1 H1 _ _ u1.le (r.up u1) q2 fun v2 G2 H2 u2 rv2 => ?_⟩
              obtain ⟨p, vs, rfl, h2, h3⟩ := rv2.lst_inv u2.le
              have e1 := txtsD_eq z
              subst e1
              have e2 := h3.strs
              subst e2
              exact ⟨a, p, ys, rfl, rfl, .inl (.inl (.inl h2)), hz, k _ G2 H2 (u1.trans u2) (.str _)⟩
            · cases q
        · cases q⟩
end
/-! ## what _law_error tells -/
def b_law_error (a : Addr) (b1 b2 b3 b4 b5 b6 b7 b8 : Bool) : DS :=
 (sSeq (sAsg (.nm 1) (eNew (dSz (dCons (eIsE 0 a b1) (dCons (eIsE 0 a b2) (dCons (eIsE 0 a b3) dNil))))))
 (sSeq (sAsg (.nm 1) (e2 gAdd (eRv 1) (eNew (dSz (dCons (eIsE 0 a b4) (dCons (eIsE 0 a b5) (dCons (eIsE 0 a b6) dNil)))))))
 (sSeq (sAsg (.nm 1) (e2 gAdd (eRv 1) (eNew (dSz (dCons (eIsE 0 a b7) (dCons (eIsE 0 a b8) dNil))))))
 (sSeq (sAsg (.nm 2) (eNew (dSz (dCons (eC (.str (Str.ofString "grid"))) (dCons (eC (.str (Str.ofString "word"))) (dCons (eC (.str (Str.ofString "numbers"))) (dCons (eC (.str (Str.ofString "spot"))) (dCons (eC (.str (Str.ofString "unreal"))) (dCons (eC (.str (Str.ofString "many"))) (dCons (eC (.str (Str.ofString "nothing"))) (dCons (eC (.str (Str.ofString "value"))) dNil)))))))))))
 (sRet (e2 gJoin (eC (.str (Str.ofString " "))) (eNew (eComp (iZ2 (ePv 2) (ePv 1)) (.tp [3, 4]) [3, 4] (tV (ePv 4)) (ePv 3)))))))))
theorem eIsE_at {a : Addr} {b : Bool} {ρ : DEnv} {i : Nat} (h : ρ i = some (.rf a)) : eIsE i a b ρ = some (.bl b) := by
  unfold eIsE; rw [h]; exact if_pos rfl
theorem seq_set {e : DE} {g : DS} {ρ : DEnv} {i : Nat} {d : D} (h : e ρ = some d) : sSeq (sAsg (.nm i) e) g ρ = g (ρ.set i (.p d)) := by
  unfold sSeq sAsg; rw [h]; rfl
theorem err_run (a : Addr) (b1 b2 b3 b4 b5 b6 b7 b8 : Bool) (r : Option DRes) (h : ∀ ρ : DEnv, ρ = ((envE a).set 1 (.p (.lst [.bl b1, .bl b2, .bl b3]))).set 1 (.p (.lst [.bl b1, .bl b2, .bl b3, .bl b4, .bl b5, .bl b6])) → (sSeq (sAsg (.nm 1) (fun _ => some (.lst [.bl b1, .bl b2, .bl b3, .bl b4, .bl b5, .bl b6, .bl b7, .bl b8])))
 (sSeq (sAsg (.nm 2) (eNew (dSz (dCons (eC (.str (Str.ofString "grid"))) (dCons (eC (.str (Str.ofString "word"))) (dCons (eC (.str (Str.ofString "numbers"))) (dCons (eC (.str (Str.ofString "spot"))) (dCons (eC (.str (Str.ofString "unreal"))) (dCons (eC (.str (Str.ofString "many"))) (dCons (eC (.str (Str.ofString "nothing"))) (dCons (eC (.str (Str.ofString "value"))) dNil)))))))))))
 (sRet (e2 gJoin (eC (.str (Str.ofString " "))) (eNew (eComp (iZ2 (ePv 2) (ePv 1)) (.tp [3, 4]) [3, 4] (tV (ePv 4)) (ePv 3))))))) ρ = r) : b_law_error a b1 b2 b3 b4 b5 b6 b7 b8 (envE a) = r := by
  unfold b_law_error
  have i0 : ∀ b, eIsE 0 a b (envE a) = some (.bl b) := fun b => eIsE_at rfl
  rw [seq_set (d := .lst [.bl b1, .bl b2, .bl b3]) (by unfold eNew dSz dCons dNil; rw [i0, i0, i0]; rfl)]
  have i1 : ∀ b, eIsE 0 a b ((envE a).set 1 (.p (.lst [.bl b1, .bl b2, .bl b3]))) = some (.bl b) := fun b => eIsE_at rfl
  rw [seq_set (d := .lst [.bl b1, .bl b2, .bl b3, .bl b4, .bl b5, .bl b6]) (by unfold e2 eNew dSz dCons dNil; rw [i1, i1, i1]; rfl)]
  have h := h _ rfl
  rw [seq_set (d := .lst [.bl b1, .bl b2, .bl b3, .bl b4, .bl b5, .bl b6, .bl b7, .bl b8]) rfl] at h
  have i2 : ∀ b, eIsE 0 a b (((envE a).set 1 (.p (.lst [.bl b1, .bl b2, .bl b3]))).set 1 (.p (.lst [.bl b1, .bl b2, .bl b3, .bl b4, .bl b5, .bl b6]))) = some (.bl b) := fun b => eIsE_at rfl
  rw [seq_set (d := .lst [.bl b1, .bl b2, .bl b3, .bl b4, .bl b5, .bl b6, .bl b7, .bl b8]) (by unfold e2 eNew dSz dCons dNil; rw [i2, i2]; rfl)]
  exact h
theorem memT {X : Cx} {q : Str} {PL : Addr} (h : X.env.qual = q ++ ".<locals>.") : (PL, X.env.qual ++ "<lambda>") ∈ [(PL, lamN q)] := by rw [h]; exact List.mem_cons_self
theorem memU {X : Cx} {q : Str} {PL : Addr} (h : X.env.qual = q ++ ".<locals>.") : ∀ p ∈ [(PL, lamN q)], p.1 = PL → p.2 = X.env.qual ++ "<lambda>" := fun p hp _ => by rw [List.mem_singleton.mp hp, h]; rfl
theorem tld_law {X : Cx} {st : Stmt} {L : List (Addr × Str)} {words : List (Str × Str)} {k : Nat} {c PL : Addr} {q : Str} (TD : ToldD X.prog X.w X.K X.mg X.base k st L) (W : WordsOk X.K words L) (TB : TabB X.base X.mg c PL) (hc : X.env.code = .ref c) (hq : X.env.qual = q ++ ".<locals>.") : TLd X [(PL, lamN q)] words k :=
  ⟨st, L, c, PL, TD, W, TB, hc, memT hq, memU hq⟩
end PL

namespace PL
open PySem PySem.Spec PyProof.Rows L2
/-! ## xs * 1, xs a tuple: the same tuple -/
theorem tuple_mul1 (l : Addr) (items : Array Value) (n : Nat) (dd : Option Addr) (sl : Array (Option Value)) (u : Tok) :
    Meets (Builtin.«tuple.__mul__» ⟨[.ref l, .int 1 u], []⟩) (fun _ R s => s.heap.get? l = some { cls := .type "tuple", dict := dd, data := .seq items n, slots := sl } ∧ R (.ok (.ret (Value.ref l))) s) :=
  .of_wp fun prog w A R s h => by
    obtain ⟨hp, g, d, tk, os⟩ := s
    obtain ⟨hl, h⟩ := h
    have f1 := AutoSeq1.idx_int
    have c0 : (decide ((1 : Int) < -(2 ^ 63)) || decide ((1 : Int) ≥ 2 ^ 63)) = false := by decide
    have c1 : (items.isEmpty || ((1 : Int) == 1)) = true := by rw [show ((1 : Int) == 1) = true from rfl, Bool.or_true]
    wp_walk using wpAny_loadPart' hl
    repeat (first
      | (refine wpAny_ite_false (decide_eq_false (by rw [c0]; exact Bool.false_ne_true)) ?_; wp_walk using wpAny_loadPart' hl)
      | (refine wpAny_ite_true (decide_eq_true c1) ?_; wp_walk using wpAny_loadPart' hl))
    exact ⟨_, rfl, h⟩
def rRep1 (K : PySem.W.Frag) : R2 := fun x y H Q => ∃ l xs, x = .ref l ∧ y = .int 1 ∧ SqT K H l xs ∧ Q (.ref l) H
section
variable {X : Cx}
theorem op_rep1 : OpR X (binaryOp .Mult) (rRep1 X.K) := by
  intro pins s σ H x y v u Q I rx ry h
  obtain ⟨l, xs, rfl, rfl, hT, q⟩ := h
  cases rx
  obtain ⟨t, rfl⟩ := ry
  obtain ⟨its, r, ⟨⟨cls, dd, data, sl⟩, ho, hc, n, hd⟩, hs⟩ := I.tuple hT
  simp only at hc hd
  subst hc hd
  exact wpAny_binaryOp_repeat_ref (T := "tuple") (U := "int") (by decide) ⟨_, ho, rfl⟩ (fun s' => typeIs_int s' 1 t) noFill_tuple_mul F.fills_int_mul F.slot_int_rmul repeat_tuple F.slot_int_index.lookup
    (call_meets F.slot_int_rmul (typeIs_int s 1 t) F.entry_int_rmul (F.args_int_rmul_2 _ _) (int_rmul_tuple 1 t l its.toArray n dd sl)
      ⟨ho, rfl, ⟨_, ho, rfl⟩, call_meets F.slot_tuple_mul ⟨_, ho, rfl⟩ F.entry_tuple_mul (F.args_tuple_mul_2 _ _) (tuple_mul1 l its.toArray n dd sl t) ⟨ho, ⟨.ref l, H, I, rfl, q⟩⟩⟩)
end
def gRep1 : D → D → Option D
  | .tup xs, .int i => if i = 1 then some (.tup xs) else none
  | _, _ => none
def gRepA (d e : D) : Option D := match gRep1 d e with | some z => some z | none => gRep d e
theorem r2_repA {K : PySem.W.Frag} : R2ok K (fun x y H Q => (rRep x y H Q ∨ rRepT K x y H Q) ∨ rRep1 K x y H Q) gRepA := fun G H x y d e z Q l rx ry q k => by
  unfold gRepA at q
  cases z1 : gRep1 d e with
  | none => rw [z1] at q; exact .inl (r2_rep G H x y d e z Q l rx ry q k)
  | some w =>
    rw [z1] at q; cases q
    refine .inr ?_
    unfold gRep1 at z1
    split at z1
    · split at z1
      · rename_i hi
        cases z1
        subst hi
        obtain ⟨p, vs, rfl, hp, rp⟩ := rx.tup_inv
        rw [ry.int_inv]
        exact ⟨p, vs, rfl, rfl, .of (l _ _ hp), k _ G H (.refl l) (.tup hp rp)⟩
      · cases z1
    · cases z1
section
variable {X : Cx} {a b : Expr} {fa fb : DE} {pos : Pos}
theorem pu_repA (ha : RdE X a fa) (hb : RdE X b fb) : PuE X (.BinOp a .Mult b pos) (e2 gRepA fa fb) := pu_bin ((op_rep.or op_repT).or op_rep1) r2_repA ha hb
end
theorem g_repA {x : D} {k : Nat} (h : 1 ≤ k ∧ k ≤ 1000) : gRepA (.tup [x]) (.int k) = some (.tup (List.replicate k x)) := by
  unfold gRepA gRep1
  by_cases h1 : k = 1
  · subst h1; rfl
  · dsimp only
    rw [if_neg (by omega)]
    show (if (([x].length ≠ 0 ∧ [x].length ≤ 1000) ∧ (2 : Int) ≤ k ∧ (k : Int) ≤ 1000) then some (D.tup (List.replicate (k : Int).toNat [x]).flatten) else none) = _
    rw [if_pos ⟨⟨by simp, by simp⟩, by omega, by omega⟩, Int.toNat_natCast]
    have : ∀ n : Nat, (List.replicate n [x]).flatten = List.replicate n x := by
      intro n
      induction n with
      | zero => rfl
      | succ n ih => rw [List.replicate_succ, List.flatten_cons, ih, List.replicate_succ]; rfl
    rw [this]
theorem g_repL {x : D} {k : Nat} (h : k ≤ 1000) : gRepA (.lst [x]) (.int k) = some (.lst (List.replicate k x)) := by
  show gRep (.lst [x]) (.int k) = _
  show (if ((-9223372036854775808 : Int) ≤ k ∧ (k : Int) < 9223372036854775808) ∧ [x].length * (k : Int).toNat ≤ 16777216 then some (D.lst (List.replicate (k : Int).toNat [x]).flatten) else none) = _
  rw [Int.toNat_natCast, if_pos ⟨⟨by omega, by omega⟩, by simp; omega⟩]
  have : ∀ n : Nat, (List.replicate n [x]).flatten = List.replicate n x := by
    intro n
    induction n with
    | zero => rfl
    | succ n ih => rw [List.replicate_succ, List.flatten_cons, ih, List.replicate_succ]; rfl
  rw [this]
end PL

namespace PL
open PySem PySem.Spec PyProof.Rows L2

/-! ## reading the combinators: plain -/
def Wp (f : DS) (ρ : DEnv) (N : DEnv → Prop) (R : D → Prop) : Prop := ∃ r, f ρ = some r ∧ match r with | .nx ρ' => N ρ' | .rt d => R d | _ => False
section
variable {f g : DS} {ρ : DEnv} {N M : DEnv → Prop} {R : D → Prop} {fe : DE} {d : D}
theorem Wp.mono (h : Wp f ρ M R) (k : ∀ ρ', M ρ' → N ρ') : Wp f ρ N R := by
  obtain ⟨r, h1, h2⟩ := h
  refine ⟨r, h1, ?_⟩
  cases r with
  | nx ρ' => exact k _ h2
  | rt d => exact h2
  | bk _ => exact h2
  | ct _ => exact h2
theorem Wp.mono2 {R' : D → Prop} (h : Wp f ρ M R') (k : ∀ ρ', M ρ' → N ρ') (k2 : ∀ d, R' d → R d) : Wp f ρ N R := by
  obtain ⟨r, h1, h2⟩ := h
  refine ⟨r, h1, ?_⟩
  cases r with
  | nx ρ' => exact k _ h2
  | rt d => exact k2 _ h2
  | bk _ => exact h2
  | ct _ => exact h2
theorem wp_seq (h : Wp f ρ (fun ρ' => Wp g ρ' N R) R) : Wp (sSeq f g) ρ N R := by
  obtain ⟨r, h1, h2⟩ := h
  unfold Wp sSeq
  rw [h1]
  cases r with
  | nx ρ' => exact h2
  | rt d => exact ⟨_, rfl, h2⟩
  | bk _ => exact h2.elim
  | ct _ => exact h2.elim
theorem wp_skip (h : N ρ) : Wp sSkip ρ N R := ⟨_, rfl, h⟩
theorem wp_asg {i : Nat} (h : fe ρ = some d) (k : N (ρ.set i (.p d))) : Wp (sAsg (.nm i) fe) ρ N R := ⟨.nx (ρ.set i (.p d)), by unfold sAsg; rw [h]; rfl, k⟩
theorem wp_asgT {is : List Nat} {ds : List D} {ρ' : DEnv} (h : fe ρ = some (.tup ds)) (hs : setAll is ds ρ = some ρ') (k : N ρ') : Wp (sAsg (.tp is) fe) ρ N R := ⟨.nx ρ', by
  unfold sAsg; rw [h]
  show (bindT (.tp is) (.p (.tup ds)) ρ).map DRes.nx = _
  show (setAll is ds ρ).map DRes.nx = _
  rw [hs]; rfl, k⟩
theorem wp_par {i j : Nat} {fa fb : DE} {d e : D} (h1 : fa ρ = some d) (h2 : fb ρ = some e) (k : N ((ρ.set i (.p d)).set j (.p e))) : Wp (sPar i j fa fb) ρ N R := ⟨.nx _, by unfold sPar; rw [h1]; simp [h2], k⟩
theorem wp_ret (h : fe ρ = some d) (k : R d) : Wp (sRet fe) ρ N R := ⟨.rt d, by unfold sRet; rw [h]; rfl, k⟩
theorem wp_drop (h : fe ρ = some d) (k : N ρ) : Wp (sDrop fe) ρ N R := ⟨.nx ρ, by unfold sDrop; rw [h]; rfl, k⟩
theorem wp_if {c : DB} {b : Bool} (h : c ρ = some b) (k1 : b = true → Wp f ρ N R) (k2 : b = false → Wp g ρ N R) : Wp (sIf c f g) ρ N R := by
  cases b with
  | true => obtain ⟨r, h1, h2⟩ := k1 rfl; exact ⟨r, by unfold sIf; rw [h]; exact h1, h2⟩
  | false => obtain ⟨r, h1, h2⟩ := k2 rfl; exact ⟨r, by unfold sIf; rw [h]; exact h1, h2⟩
theorem wp_ifT {c : DB} (h : c ρ = some true) (k : Wp f ρ N R) : Wp (sIf c f g) ρ N R := wp_if h (fun _ => k) (fun e => by cases e)
theorem wp_ifF {c : DB} (h : c ρ = some false) (k : Wp g ρ N R) : Wp (sIf c f g) ρ N R := wp_if h (fun e => by cases e) (fun _ => k)
theorem wp_pre {i : Nat} (h : Wp f (freeze i ρ) N R) : Wp (sPre i f) ρ N R := h
theorem wp_own {i : Nat} {fl : DL} {ds : List D} (h : fl ρ = some ds) (k : N (ρ.set i (.ol ds))) : Wp (sOwn i fl) ρ N R := ⟨.nx _, by unfold sOwn; rw [h]; rfl, k⟩
theorem wp_ownLL {i : Nat} {fl : DEnv → Option (List (List D))} {ds : List (List D)} (h : fl ρ = some ds) (k : N (ρ.set i (.oll ds))) : Wp (sOwnLL i fl) ρ N R := ⟨.nx _, by unfold sOwnLL; rw [h]; rfl, k⟩
theorem szB_of {n : Nat} (h : n ≤ 16777216) : szB n = true := decide_eq_true h
theorem wp_app {i : Nat} {xs : List D} (h1 : ρ i = some (.ol xs)) (h2 : fe ρ = some d) (h3 : xs.length < 16777216) (k : N (ρ.set i (.ol (xs ++ [d])))) : Wp (sApp i fe) ρ N R := ⟨.nx _, by
  unfold sApp
  rw [h1, h2]
  show (if szB (xs.length + 1) = true then _ else _) = _
  rw [if_pos (szB_of (by omega))], k⟩
theorem wp_setLL {i : Nat} {f1 f2 : DE} {xss : List (List D)} {xs : List D} {k1 k2 : Nat} (h1 : ρ i = some (.oll xss)) (he : fe ρ = some d) (hf1 : f1 ρ = some (.int k1)) (hf2 : f2 ρ = some (.int k2)) (hx : xss[k1]? = some xs) (hk : k2 < xs.length)
    (k : N (ρ.set i (.oll (xss.set k1 (xs.set k2 d))))) : Wp (sSetLL i f1 f2 fe) ρ N R := ⟨.nx _, by
  unfold sSetLL
  rw [h1, he, hf1, hf2]
  have hl := (List.getElem?_eq_some_iff.mp hx).1
  have e1 : ixN xss.length (k1 : Int) = some k1 := by unfold ixN; rw [if_pos (by omega), if_pos (by omega)]; simp
  have e2 : ixN xs.length (k2 : Int) = some k2 := by unfold ixN; rw [if_pos (by omega), if_pos (by omega)]; simp
  simp only [e1, hx, e2, Option.bind_some, Option.map_some], k⟩
/-- a def's answer -/
theorem fn_of_wp {n : Nat} {b : DS} {ds : List D} (hl : ds.length = n) (h : Wp b (env0 ds) (fun _ => R .non) R) : ∃ d, fnD n b ds = some d ∧ R d := by
  obtain ⟨r, h1, h2⟩ := h
  unfold fnD
  rw [if_pos hl, h1]
  cases r with
  | nx ρ' => exact ⟨_, rfl, h2⟩
  | rt d => exact ⟨_, rfl, h2⟩
  | bk _ => exact h2.elim
  | ct _ => exact h2.elim
theorem fn_eq {n : Nat} {b : DS} {ds : List D} {d : D} (hl : ds.length = n) (h : Wp b (env0 ds) (fun _ => D.non = d) (fun e => e = d)) : fnD n b ds = some d := by
  obtain ⟨e, h1, rfl⟩ := fn_of_wp (R := fun e => e = d) hl h
  exact h1

/-! ### loops -/
theorem wp_forC {it : DI} {tg : Tg} {body : DS} (ds : List D) (h : it ρ = some (ds.map .p)) (I : Nat → DEnv → Prop) (h0 : I 0 ρ)
    (hs : ∀ k d ρ, ds[k]? = some d → I k ρ → ∃ ρ1, bindT tg (.p d) ρ = some ρ1 ∧ Wp body ρ1 (I (k + 1)) R) (hd : ∀ ρ, I ds.length ρ → N ρ) : Wp (sFor it tg body) ρ N R := by
  have main : ∀ (n k : Nat) (ρ : DEnv), n + k = ds.length → I k ρ → ∃ r, forL tg body ((ds.drop k).map .p) ρ = some r ∧ match r with | .nx ρ' => N ρ' | .rt d => R d | _ => False := by
    intro n
    induction n with
    | zero =>
      intro k ρ e hI
      have : k = ds.length := by omega
      subst this
      rw [List.drop_length]
      exact ⟨_, rfl, hd ρ hI⟩
    | succ n ih =>
      intro k ρ e hI
      have hk : k < ds.length := by omega
      rw [List.drop_eq_getElem_cons hk, List.map_cons]
      obtain ⟨ρ1, b1, r, b2, b3⟩ := hs k _ ρ (List.getElem?_eq_getElem hk) hI
      unfold forL
      rw [b1]
      simp only [Option.bind_some, b2]
      cases r with
      | nx ρ' => exact ih (k + 1) ρ' (by omega) b3
      | rt d => exact ⟨_, rfl, b3⟩
      | bk _ => exact b3.elim
      | ct _ => exact b3.elim
  obtain ⟨r, h1, h2⟩ := main ds.length 0 ρ (by omega) h0
  rw [List.drop_zero] at h1
  exact ⟨r, by unfold sFor; rw [h]; exact h1, h2⟩
theorem rng_eval {lo hi : DE} (a b : Nat) (ha : lo ρ = some (.int a)) (hb : hi ρ = some (.int b)) (h1 : a ≤ 1000000000) (h2 : b ≤ 1000000000) : iRng lo hi ρ = some (((List.range (b - a)).map fun i => D.int ((a + i : Nat) : Int)).map .p) := by
  unfold iRng
  rw [ha, hb]
  show (if _ then _ else _) = _
  rw [if_pos ⟨by omega, by omega, by omega, by omega⟩]
  unfold rngCells
  have e : ((b : Int) - (a : Int)).toNat = b - a := by omega
  rw [e, List.map_map]
  rfl
theorem wp_forN {lo hi : DE} {j : Nat} {body : DS} (a b : Nat) (ha : lo ρ = some (.int a)) (hb : hi ρ = some (.int b)) (h1 : a ≤ 1000000000) (h2 : b ≤ 1000000000) (I : Nat → DEnv → Prop) (h0 : I a ρ)
    (hs : ∀ k ρ, a ≤ k → k < b → I k ρ → Wp body (ρ.set j (.p (.int (k : Nat)))) (I (k + 1)) R) (hd : ∀ ρ, I (a + (b - a)) ρ → N ρ) : Wp (sFor (iRng lo hi) (.nm j) body) ρ N R := by
  refine wp_forC _ (rng_eval a b ha hb h1 h2) (fun k ρ => I (a + k) ρ) h0 (fun k d ρ e hI => ?_) (fun ρ hI => hd ρ (by simpa using hI))
  rw [List.getElem?_map] at e
  by_cases hk : k < b - a
  · rw [List.getElem?_range hk] at e
    cases e
    exact ⟨_, rfl, hs (a + k) ρ (by omega) (by omega) hI⟩
  · rw [List.getElem?_eq_none (by simp; omega)] at e; cases e
theorem seq_lst {xs : List D} (h : fe ρ = some (.lst xs)) : iOf asS fe ρ = some (xs.map .p) := by unfold iOf; rw [h]; rfl
theorem seq_tup {xs : List D} (h : fe ρ = some (.tup xs)) : iOf asS fe ρ = some (xs.map .p) := by unfold iOf; rw [h]; rfl
theorem seqL_lst {xs : List D} (h : fe ρ = some (.lst xs)) : iOf asL fe ρ = some (xs.map .p) := by unfold iOf; rw [h]; rfl
/-! ### comprehensions -/
theorem ev_comp {α : Type} {it : DI} {tg : Tg} {ws : List Nat} {cond : DB} {elt : DE} (xs : List α) (f : α → D) (c : α → Bool) (g : α → D) (h : it ρ = some ((xs.map f).map .p))
    (hs : ∀ x ∈ xs, ∃ ρ1, bindT tg (.p (f x)) (ρ.wipe ws) = some ρ1 ∧ cond ρ1 = some (c x) ∧ (c x = true → elt ρ1 = some (g x))) (hl : xs.length ≤ 16777216) : eComp it tg ws cond elt ρ = some ((xs.filter c).map g) := by
  have main : ∀ l : List α, (∀ x ∈ l, x ∈ xs) → compL tg ws cond elt ρ ((l.map f).map .p) = some ((l.filter c).map g) := by
    intro l
    induction l with
    | nil => intro _; rfl
    | cons x l ih =>
      intro hm
      obtain ⟨ρ1, b1, b2, b3⟩ := hs x (hm x List.mem_cons_self)
      rw [List.map_cons, List.map_cons]
      unfold compL
      have ih' := ih fun y hy => hm y (List.mem_cons_of_mem _ hy)
      rw [b1]
      simp only [Option.bind_some, b2, ih']
      cases hc : c x with
      | true => rw [List.filter_cons_of_pos hc, if_pos rfl, b3 hc]; rfl
      | false => rw [List.filter_cons_of_neg (by rw [hc]; decide), if_neg (by decide)]
  unfold eComp
  rw [h]
  simp only [Option.bind_some, main xs fun _ h => h]
  rw [if_pos (szB_of _)]
  rw [List.length_map]
  exact Nat.le_trans (List.length_filter_le _ _) hl
theorem ev_compY {α : Type} {it : DI} {tg : Tg} {ws : List Nat} {elt : DE} (xs : List α) (f : α → D) (g : α → D) (h : it ρ = some ((xs.map f).map .p))
    (hs : ∀ x ∈ xs, ∃ ρ1, bindT tg (.p (f x)) (ρ.wipe ws) = some ρ1 ∧ elt ρ1 = some (g x)) (hl : xs.length ≤ 16777216) : eComp it tg ws bYes elt ρ = some (xs.map g) := by
  have := ev_comp (cond := bYes) xs f (fun _ => true) g h (fun x hx => let ⟨ρ1, a, b⟩ := hs x hx; ⟨ρ1, a, rfl, fun _ => b⟩) hl
  rw [this]
  congr 2
  rw [List.filter_eq_self]
  intro a _; rfl
theorem ev_new {fl : DL} {ds : List D} (h : fl ρ = some ds) : eNew fl ρ = some (.lst ds) := by unfold eNew; rw [h]; rfl
theorem ev_rng {lo hi : DE} (a b : Nat) (ha : lo ρ = some (.int a)) (hb : hi ρ = some (.int b)) (h1 : a ≤ 1000000000) (h2 : b ≤ 1000000000) : iRng lo hi ρ = some (((List.range (b - a)).map fun i => D.int ((a + i : Nat) : Int)).map .p) := rng_eval a b ha hb h1 h2
end
theorem atI_at {α : Type} {xs : List α} {i : Nat} (h : i < xs.length) : atI xs (i : Int) = some xs[i] := atI_nat (List.getElem?_eq_getElem h)
theorem eqv_int (i j : Int) : D.eqv (.int i) (.int j) = decide (i = j) := by
  show PyData.eqv (.int i) (.int j) = _
  simp [PyData.eqv]; by_cases h : i = j <;> simp [h]
end PL

namespace PL
open PySem PySem.Spec PyProof.Rows L2

/-! ## data of the laws, and evaluation by rules -/
def ofI (l : List Int) : D := .lst (l.map .int)
def ofR (l : List Int) : D := .tup (l.map .int)
def ofT (t : List (List Int)) : D := .tup (t.map ofR)
def ofLL (t : List (List Int)) : D := .lst (t.map ofI)
def gi (l : List Int) (i : Int) : Int := l.getD i.toNat 0
def row (t : List (List Int)) (i : Int) : List Int := t.getD i.toNat []
abbrev en (t : List (List Int)) (i j : Int) : Int := gi (row t i) j
theorem getD_get {α : Type} (l : List α) (d : α) {i : Nat} (h : i < l.length) : l.getD i d = l[i] := by simp [List.getD, h]
def Rect (t : List (List Int)) (m w : Nat) : Prop := t.length = m ∧ ∀ r ∈ t, r.length = w
theorem len_row {t : List (List Int)} {m w : Nat} {i : Int} (h : Rect t m w) (hi : 0 ≤ i ∧ i < m) : (row t i).length = w := by
  unfold row
  have : i.toNat < t.length := by have := h.1; omega
  rw [getD_get _ _ this]
  exact h.2 _ (List.getElem_mem _)
theorem mem_row {t : List (List Int)} {i : Int} (hi : 0 ≤ i ∧ i < t.length) : row t i ∈ t := by
  unfold row
  have : i.toNat < t.length := by omega
  rw [getD_get _ _ this]
  exact List.getElem_mem _
section
variable {ρ : DEnv} {a b c : DE} {x y z d : D} {g : D → D → Option D} {i j : Int} {fl gl : DL} {ds es : List D} {p q : Bool} {t u : DB}
theorem ev_pv {i : Nat} (h : ρ i = some (.p d)) : ePv i ρ = some d := by unfold ePv; rw [h]
theorem ev_rv {i : Nat} (h : ρ i = some (.p d)) : eRv i ρ = some d := by unfold eRv; rw [h]
theorem ev_rvo {i : Nat} (h : ρ i = some (.ol ds)) : eRv i ρ = some (.lst ds) := by unfold eRv; rw [h]
theorem ev_c : eC d ρ = some d := rfl
theorem ev_e2 (h1 : a ρ = some x) (h2 : b ρ = some y) (h3 : g x y = some z) : e2 g a b ρ = some z := by unfold e2; rw [h1]; show (b ρ).bind _ = _; rw [h2]; exact h3
theorem ev_e1 {g : D → Option D} (h1 : a ρ = some x) (h3 : g x = some z) : e1 g a ρ = some z := by unfold e1; rw [h1]; exact h3
theorem ev_nil : dNil ρ = some [] := rfl
theorem ev_cons (h1 : a ρ = some x) (h2 : fl ρ = some ds) : dCons a fl ρ = some (x :: ds) := by unfold dCons; rw [h1]; show (fl ρ).map _ = _; rw [h2]; rfl
theorem ev_tup (h : fl ρ = some ds) (h2 : szB ds.length = true) : eTup fl ρ = some (.tup ds) := by unfold eTup; rw [h]; show (if _ then _ else _) = _; rw [if_pos h2]
theorem ev_sz (h : fl ρ = some ds) (h2 : szB ds.length = true) : dSz fl ρ = some ds := by unfold dSz; rw [h]; show (if _ then _ else _) = _; rw [if_pos h2]
theorem ev_blt {g : List D → Option D} (h : fl ρ = some ds) (h2 : g ds = some z) : eBlt g fl ρ = some z := by unfold eBlt; rw [h]; exact h2
theorem ev_dblt {g : List D → Option (List D)} (h : fl ρ = some ds) (h2 : g ds = some es) : dBlt g fl ρ = some es := by unfold dBlt; rw [h]; exact h2
theorem ev_call {F : List D → Option D} (h : fl ρ = some ds) (h2 : F ds = some z) : eCall F fl ρ = some z := by unfold eCall; rw [h]; exact h2
theorem ev_tV (h : a ρ = some (.bl p)) : tV a ρ = some p := by unfold tV; rw [h]; rfl
theorem ev_bNot (h : t ρ = some p) : bNot t ρ = some (!p) := by unfold bNot; rw [h]; rfl
theorem ev_bAnd (h : t ρ = some p) (h2 : u ρ = some q) : bAnd t u ρ = some (p && q) := by unfold bAnd; rw [h]; cases p <;> simp [h2]
theorem ev_bOr (h : t ρ = some p) (h2 : u ρ = some q) : bOr t u ρ = some (p || q) := by unfold bOr; rw [h]; cases p <;> simp [h2]
theorem ev_bAndF (h : t ρ = some false) : bAnd t u ρ = some false := by unfold bAnd; rw [h]; rfl
theorem ev_bOrT (h : t ρ = some true) : bOr t u ρ = some true := by unfold bOr; rw [h]; rfl
theorem ev_bAnd' (h : t ρ = some p) (h2 : p = true → u ρ = some q) : bAnd t u ρ = some (p && q) := by unfold bAnd; rw [h]; cases p <;> simp [h2]
theorem ev_bOr' (h : t ρ = some p) (h2 : p = false → u ρ = some q) : bOr t u ρ = some (p || q) := by unfold bOr; rw [h]; cases p <;> simp [h2]
theorem ev_eAnd (h : a ρ = some (.bl p)) (h2 : b ρ = some (.bl q)) : eAnd a b ρ = some (.bl (p && q)) := by unfold eAnd; rw [h]; cases p <;> simp [h2]
theorem ev_eOr (h : a ρ = some (.bl p)) (h2 : b ρ = some (.bl q)) : eOr a b ρ = some (.bl (p || q)) := by unfold eOr; rw [h]; cases p <;> simp [h2]
theorem ev_eAnd' (h : a ρ = some (.bl p)) (h2 : p = true → b ρ = some (.bl q)) : eAnd a b ρ = some (.bl (p && q)) := by unfold eAnd; rw [h]; cases p <;> simp [h2]
theorem ev_eOr' (h : a ρ = some (.bl p)) (h2 : p = false → b ρ = some (.bl q)) : eOr a b ρ = some (.bl (p || q)) := by unfold eOr; rw [h]; cases p <;> simp [h2]
theorem ev_eNot (h : a ρ = some (.bl p)) : eNot a ρ = some (.bl (!p)) := by unfold eNot; rw [h]; rfl
theorem ev_eNeg (h : a ρ = some (.int i)) : eNeg a ρ = some (.int (-i)) := by unfold eNeg; rw [h]; rfl
theorem ev_if (h : t ρ = some p) (h1 : p = true → a ρ = some x) (h2 : p = false → b ρ = some y) : eIf t a b ρ = some (if p = true then x else y) := by unfold eIf; rw [h]; cases p <;> simp [h1, h2]
theorem ev_ifI (h : t ρ = some p) (h1 : p = true → a ρ = some (.int i)) (h2 : p = false → b ρ = some (.int j)) : eIf t a b ρ = some (.int (if p = true then i else j)) := by rw [ev_if h h1 h2]; cases p <;> rfl
theorem ev_ifT (h : t ρ = some true) (h1 : a ρ = some x) : eIf t a b ρ = some x := by unfold eIf; rw [h]; exact h1
theorem ev_ifF (h : t ρ = some false) (h1 : b ρ = some x) : eIf t a b ρ = some x := by unfold eIf; rw [h]; exact h1
theorem ev_chain {k : Int} (h1 : a ρ = some (.int i)) (h2 : b ρ = some (.int j)) (h3 : c ρ = some (.int k)) : eChain gLe gLe a b c ρ = some (.bl (decide (i ≤ j) && decide (j ≤ k))) := by
  unfold eChain; rw [h1, h2, h3]
  show (match D.bl (decide (i ≤ j)) with | .bl true => _ | .bl false => _ | _ => _) = _
  cases decide (i ≤ j) <;> rfl
theorem ev_newI {l : List Int} (h : fl ρ = some (l.map .int)) : eNew fl ρ = some (ofI l) := ev_new h
/-- arithmetic -/
theorem g_mulL (h : i.natAbs < 18446744073709551616) : gMul (.int i) (.int j) = some (.int (i * j)) := by
  show (if mulB i j = true then _ else _) = _
  rw [if_pos]; unfold mulB; simp [h]
theorem g_mulR (h : j.natAbs < 18446744073709551616) : gMul (.int i) (.int j) = some (.int (i * j)) := by
  show (if mulB i j = true then _ else _) = _
  rw [if_pos]; unfold mulB; simp [h]
theorem g_mul (h : mulB i j = true) : gMul (.int i) (.int j) = some (.int (i * j)) := if_pos h
theorem mulB_l (h : i.natAbs < 18446744073709551616) : mulB i j = true := by unfold mulB; simp [h]
theorem mulB_r (h : j.natAbs < 18446744073709551616) : mulB i j = true := by unfold mulB; simp [h]
theorem g_div (h : 0 < j ∧ j < 4294967296) : gDiv (.int i) (.int j) = some (.int (i / j)) := if_pos h
theorem g_mod (h : 0 < j) : gMod (.int i) (.int j) = some (.int (i % j)) := if_pos h
theorem g_pow (h : 0 ≤ j ∧ j ≤ 1000 ∧ i.natAbs < 1000) : gPow (.int i) (.int j) = some (.int (i ^ j.toNat)) := if_pos h
theorem g_eqI : gEq (.int i) (.int j) = some (.bl (decide (i = j))) := by show some (D.bl (D.eqv _ _)) = _; rw [eqv_int]
theorem g_neI : gNe (.int i) (.int j) = some (.bl (!decide (i = j))) := by show some (D.bl (!D.eqv _ _)) = _; rw [eqv_int]
theorem eqv_bl {p q : Bool} : D.eqv (.bl p) (.bl q) = decide (p = q) := by cases p <;> cases q <;> rfl
theorem g_eqB : gEq (.bl p) (.bl q) = some (.bl (decide (p = q))) := by show some (D.bl (D.eqv _ _)) = _; rw [eqv_bl]
theorem g_neB : gNe (.bl p) (.bl q) = some (.bl (!decide (p = q))) := by show some (D.bl (!D.eqv _ _)) = _; rw [eqv_bl]
/-- of the shapes -/
theorem at_map {α : Type} {f : α → D} {l : List α} {e : α} (h : 0 ≤ i ∧ i < l.length) : atI (l.map f) i = some (f (l.getD i.toNat e)) := by
  have h2 : i.toNat < l.length := by omega
  have : i = ((i.toNat : Nat) : Int) := by omega
  rw [this, atI_at (by simpa using h2), List.getElem_map]
  simp only [Int.toNat_natCast]
  rw [getD_get _ _ h2]
theorem g_ixI {l : List Int} (h : 0 ≤ i ∧ i < l.length) : gIx (ofI l) (.int i) = some (.int (gi l i)) := at_map h
theorem g_ixR {l : List Int} (h : 0 ≤ i ∧ i < l.length) : gIx (ofR l) (.int i) = some (.int (gi l i)) := at_map h
theorem g_ixT {l : List (List Int)} (h : 0 ≤ i ∧ i < l.length) : gIx (ofT l) (.int i) = some (ofR (row l i)) := at_map h
theorem g_ixLL {l : List (List Int)} (h : 0 ≤ i ∧ i < l.length) : gIx (ofLL l) (.int i) = some (ofI (row l i)) := at_map h
theorem g_ixS {ns : List Int} (h : 0 ≤ i ∧ i < ns.length) : gIx (.scr ns) (.int i) = some (.int (gi ns i)) := by
  have h2 : i.toNat < ns.length := by omega
  have : i = ((i.toNat : Nat) : Int) := by omega
  show (atI ns i).map D.int = _
  rw [this, atI_at h2]
  unfold gi
  simp only [Int.toNat_natCast]
  rw [getD_get _ _ h2]; rfl
theorem g_lenI {l : List Int} : b1 gLen [ofI l] = some (.int l.length) := by show some (D.int ((l.map D.int).length : Nat)) = _; rw [List.length_map]
theorem g_lenR {l : List Int} : b1 gLen [ofR l] = some (.int l.length) := by show some (D.int ((l.map D.int).length : Nat)) = _; rw [List.length_map]
theorem g_lenT {l : List (List Int)} : b1 gLen [ofT l] = some (.int l.length) := by show some (D.int ((l.map ofR).length : Nat)) = _; rw [List.length_map]
theorem g_lenLL {l : List (List Int)} : b1 gLen [ofLL l] = some (.int l.length) := by show some (D.int ((l.map ofI).length : Nat)) = _; rw [List.length_map]
theorem g_sumI {l : List Int} : b1 gSum [ofI l] = some (.int l.sum) := by show (intsD (l.map .int)).map _ = _; rw [intsD_map]; rfl
def mn (l : List Int) : Int := match l with | [] => 0 | n :: ns => ns.foldl min n
def mx (l : List Int) : Int := match l with | [] => 0 | n :: ns => ns.foldl max n
theorem minL_mn {l : List Int} (h : l ≠ []) : minL l = some (mn l) := by cases l with | nil => exact absurd rfl h | cons a l => rfl
theorem maxL_mx {l : List Int} (h : l ≠ []) : maxL l = some (mx l) := by cases l with | nil => exact absurd rfl h | cons a l => rfl
theorem g_minI {l : List Int} (h : l ≠ []) : gMin [ofI l] = some (.int (mn l)) := by show (intsD (l.map .int)).bind _ = _; rw [intsD_map]; show (minL l).map _ = _; rw [minL_mn h]; rfl
theorem g_minR {l : List Int} (h : l ≠ []) : gMin [ofR l] = some (.int (mn l)) := by show (intsD (l.map .int)).bind _ = _; rw [intsD_map]; show (minL l).map _ = _; rw [minL_mn h]; rfl
theorem g_maxI {l : List Int} (h : l ≠ []) : gMax [ofI l] = some (.int (mx l)) := by show (intsD (l.map .int)).bind _ = _; rw [intsD_map]; show (maxL l).map _ = _; rw [maxL_mx h]; rfl
theorem g_maxR {l : List Int} (h : l ≠ []) : gMax [ofR l] = some (.int (mx l)) := by show (intsD (l.map .int)).bind _ = _; rw [intsD_map]; show (maxL l).map _ = _; rw [maxL_mx h]; rfl
theorem g_tupI {l : List Int} : b1 gTuple [ofI l] = some (ofR l) := rfl
theorem g_tupR {l : List Int} : b1 gTuple [ofR l] = some (ofR l) := rfl
theorem g_abs : b1 gAbs [.int i] = some (.int (if i < 0 then -i else i)) := rfl
/-- walks -/
theorem it_I {l : List Int} (h : a ρ = some (ofI l)) : iOf asS a ρ = some ((l.map .int).map .p) := seq_lst h
theorem it_R {l : List Int} (h : a ρ = some (ofR l)) : iOf asS a ρ = some ((l.map .int).map .p) := seq_tup h
theorem it_T {l : List (List Int)} (h : a ρ = some (ofT l)) : iOf asS a ρ = some ((l.map ofR).map .p) := seq_tup h
theorem it_LL {l : List (List Int)} (h : a ρ = some (ofLL l)) : iOf asS a ρ = some ((l.map ofI).map .p) := seq_lst h
end
theorem zip2D_map {α β : Type} (f : α → D) (g : β → D) (as : List α) (bs : List β) : zip2D (as.map f) (bs.map g) = ((as.zip bs).map fun p => D.tup [f p.1, g p.2]).map .p := by
  induction as generalizing bs with
  | nil => rfl
  | cons a as ih => cases bs with | nil => rfl | cons b bs => simp only [List.map_cons, zip2D, List.zip_cons_cons, ih]
theorem zip3D_map {α β γ : Type} (f : α → D) (g : β → D) (h : γ → D) (as : List α) (bs : List β) (cs : List γ) : zip3D (as.map f) (bs.map g) (cs.map h) = ((as.zip (bs.zip cs)).map fun p => D.tup [f p.1, g p.2.1, h p.2.2]).map .p := by
  induction as generalizing bs cs with
  | nil => rfl
  | cons a as ih => cases bs with | nil => rfl | cons b bs => cases cs with | nil => rfl | cons c cs => simp only [List.map_cons, zip3D, List.zip_cons_cons, ih]
theorem it_z2 {ρ : DEnv} {a b : DE} {x y : D} {b1 b2 : Bool} {α β : Type} {f : α → D} {g : β → D} {as : List α} {bs : List β} (h1 : a ρ = some x) (h2 : b ρ = some y) (q1 : seqD x = some (b1, as.map f)) (q2 : seqD y = some (b2, bs.map g)) :
    iZ2 a b ρ = some (((as.zip bs).map fun p => D.tup [f p.1, g p.2]).map .p) := by
  unfold iZ2; rw [h1, h2]
  show (seqD x).bind _ = _
  rw [q1]; show (seqD y).map _ = _; rw [q2, Option.map_some, zip2D_map]
theorem sq_I {l : List Int} : seqD (ofI l) = some (true, l.map .int) := rfl
theorem sq_R {l : List Int} : seqD (ofR l) = some (false, l.map .int) := rfl
theorem sq_T {l : List (List Int)} : seqD (ofT l) = some (false, l.map ofR) := rfl
theorem sq_LL {l : List (List Int)} : seqD (ofLL l) = some (true, l.map ofI) := rfl
end PL
namespace PL
open PySem PySem.Spec PyProof.Rows L2
def ofTl (t : List (List Int)) : D := .lst (t.map ofR)
theorem g_tupT {l : List (List Int)} : b1 gTuple [ofTl l] = some (ofT l) := rfl
section
variable {ρ : DEnv} {a b c : DE} {it : DI} {ws : List Nat} {elt : DE} {cond : DB} {α : Type}
theorem new_comp {β : Type} (emb : β → D) (xs : List α) (f : α → D) (h : α → β) {j : Nat} (hit : it ρ = some ((xs.map f).map .p)) (hl : xs.length ≤ 16777216) (hs : ∀ x ∈ xs, elt ((ρ.wipe ws).set j (.p (f x))) = some (emb (h x))) :
    eNew (eComp it (.nm j) ws bYes elt) ρ = some (.lst ((xs.map h).map emb)) := by
  rw [List.map_map]
  exact ev_new (ev_compY xs f (fun x => emb (h x)) hit (fun x hx => ⟨_, rfl, hs x hx⟩) hl)
theorem new_comp2 {β : Type} (emb : β → D) (xs : List α) (f1 f2 : α → D) (h : α → β) {j1 j2 : Nat} (hit : it ρ = some ((xs.map fun x => D.tup [f1 x, f2 x]).map .p)) (hl : xs.length ≤ 16777216) (hs : ∀ x ∈ xs, elt (((ρ.wipe ws).set j1 (.p (f1 x))).set j2 (.p (f2 x))) = some (emb (h x))) :
    eNew (eComp it (.tp [j1, j2]) ws bYes elt) ρ = some (.lst ((xs.map h).map emb)) := by
  rw [List.map_map]
  exact ev_new (ev_compY xs _ (fun x => emb (h x)) hit (fun x hx => ⟨_, rfl, hs x hx⟩) hl)
theorem new_comp3 {β : Type} (emb : β → D) (xs : List α) (f1 f2 f3 : α → D) (h : α → β) {j1 j2 j3 : Nat} (hit : it ρ = some ((xs.map fun x => D.tup [f1 x, f2 x, f3 x]).map .p)) (hl : xs.length ≤ 16777216) (hs : ∀ x ∈ xs, elt ((((ρ.wipe ws).set j1 (.p (f1 x))).set j2 (.p (f2 x))).set j3 (.p (f3 x))) = some (emb (h x))) :
    eNew (eComp it (.tp [j1, j2, j3]) ws bYes elt) ρ = some (.lst ((xs.map h).map emb)) := by
  rw [List.map_map]
  exact ev_new (ev_compY xs _ (fun x => emb (h x)) hit (fun x hx => ⟨_, rfl, hs x hx⟩) hl)
theorem new_compF {β : Type} (emb : β → D) (xs : List α) (f : α → D) (h : α → β) (p : α → Bool) {j : Nat} (hit : it ρ = some ((xs.map f).map .p)) (hl : xs.length ≤ 16777216) (hc : ∀ x ∈ xs, cond ((ρ.wipe ws).set j (.p (f x))) = some (p x)) (hs : ∀ x ∈ xs, p x = true → elt ((ρ.wipe ws).set j (.p (f x))) = some (emb (h x))) :
    eNew (eComp it (.nm j) ws cond elt) ρ = some (.lst (((xs.filter p).map h).map emb)) := by
  rw [List.map_map]
  exact ev_new (ev_comp xs f p (fun x => emb (h x)) hit (fun x hx => ⟨_, rfl, hc x hx, hs x hx⟩) hl)
theorem new_comp2F {β : Type} (emb : β → D) (xs : List α) (f1 f2 : α → D) (h : α → β) (p : α → Bool) {j1 j2 : Nat} (hit : it ρ = some ((xs.map fun x => D.tup [f1 x, f2 x]).map .p)) (hl : xs.length ≤ 16777216) (hc : ∀ x ∈ xs, cond (((ρ.wipe ws).set j1 (.p (f1 x))).set j2 (.p (f2 x))) = some (p x))
    (hs : ∀ x ∈ xs, p x = true → elt (((ρ.wipe ws).set j1 (.p (f1 x))).set j2 (.p (f2 x))) = some (emb (h x))) :
    eNew (eComp it (.tp [j1, j2]) ws cond elt) ρ = some (.lst (((xs.filter p).map h).map emb)) := by
  rw [List.map_map]
  exact ev_new (ev_comp xs _ p (fun x => emb (h x)) hit (fun x hx => ⟨_, rfl, hc x hx, hs x hx⟩) hl)
theorem new_comp3F {β : Type} (emb : β → D) (xs : List α) (f1 f2 f3 : α → D) (h : α → β) (p : α → Bool) {j1 j2 j3 : Nat} (hit : it ρ = some ((xs.map fun x => D.tup [f1 x, f2 x, f3 x]).map .p)) (hl : xs.length ≤ 16777216) (hc : ∀ x ∈ xs, cond ((((ρ.wipe ws).set j1 (.p (f1 x))).set j2 (.p (f2 x))).set j3 (.p (f3 x))) = some (p x))
    (hs : ∀ x ∈ xs, p x = true → elt ((((ρ.wipe ws).set j1 (.p (f1 x))).set j2 (.p (f2 x))).set j3 (.p (f3 x))) = some (emb (h x))) :
    eNew (eComp it (.tp [j1, j2, j3]) ws cond elt) ρ = some (.lst (((xs.filter p).map h).map emb)) := by
  rw [List.map_map]
  exact ev_new (ev_comp xs _ p (fun x => emb (h x)) hit (fun x hx => ⟨_, rfl, hc x hx, hs x hx⟩) hl)
theorem new_compN {β : Type} (emb : β → D) {lo hi : DE} (n : Nat) (h : Nat → β) {j : Nat} (h1 : lo ρ = some (.int 0)) (h2 : hi ρ = some (.int n)) (hl : n ≤ 16777216) (hs : ∀ k, k < n → elt ((ρ.wipe ws).set j (.p (.int (k : Nat)))) = some (emb (h k))) :
    eNew (eComp (iRng lo hi) (.nm j) ws bYes elt) ρ = some (.lst (((List.range n).map h).map emb)) := by
  have := rng_eval 0 n h1 h2 (by omega) (by omega)
  rw [Nat.sub_zero] at this
  refine new_comp emb (List.range n) _ h this (by rw [List.length_range]; exact hl) (fun k hk => ?_)
  have := hs k (List.mem_range.mp hk)
  rw [Nat.zero_add]
  exact this
theorem ev_tupOf {l : List D} (h : a ρ = some (.lst l)) : eBlt (b1 gTuple) (dCons a dNil) ρ = some (.tup l) := ev_blt (ev_cons h ev_nil) rfl
end
theorem gi_map {f : Int → Int} {l : List Int} {i : Int} (h : 0 ≤ i ∧ i < l.length) : gi (l.map f) i = f (gi l i) := by
  unfold gi
  rw [getD_get _ _ (by rw [List.length_map]; omega), getD_get _ _ (by omega), List.getElem_map]
theorem gi_rng {f : Nat → Int} {n : Nat} {i : Int} (h : 0 ≤ i ∧ i < n) : gi ((List.range n).map f) i = f i.toNat := by
  unfold gi
  rw [getD_get _ _ (by rw [List.length_map, List.length_range]; omega), List.getElem_map, List.getElem_range]
theorem row_map {α : Type} {f : α → List Int} {l : List α} {i : Int} (h : 0 ≤ i ∧ i < l.length) : row (l.map f) i = f (l[i.toNat]'(by omega)) := by
  unfold row
  rw [getD_get _ _ (by rw [List.length_map]; omega), List.getElem_map]
theorem mem_gi {l : List Int} {i : Int} (h : 0 ≤ i ∧ i < l.length) : gi l i ∈ l := by
  unfold gi
  rw [getD_get _ _ (by omega)]
  exact List.getElem_mem _
theorem ext_gi {l m : List Int} (h : l.length = m.length) (k : ∀ i : Int, 0 ≤ i → i < l.length → gi l i = gi m i) : l = m := by
  apply List.ext_getElem h
  intro i h1 h2
  have := k i (by omega) (by omega)
  unfold gi at this
  rw [getD_get _ _ (by simpa using h1), getD_get _ _ (by simpa using h2)] at this
  simpa using this
theorem ext_rect {s t : List (List Int)} {m w : Nat} (hs : Rect s m w) (ht : Rect t m w) (k : ∀ i j : Int, 0 ≤ i → i < m → 0 ≤ j → j < w → en s i j = en t i j) : s = t := by
  apply List.ext_getElem (hs.1.trans ht.1.symm)
  intro i h1 h2
  have hi : (i : Int) < m := by have := hs.1; omega
  have e1 : s[i] = row s i := by unfold row; rw [getD_get _ _ (by simpa using h1)]; simp
  have e2 : t[i] = row t i := by unfold row; rw [getD_get _ _ (by simpa using h2)]; simp
  rw [e1, e2]
  have l1 := len_row hs (i := i) ⟨by omega, hi⟩
  have l2 := len_row ht (i := i) ⟨by omega, hi⟩
  apply ext_gi (l1.trans l2.symm)
  intro j h3 h4
  exact k i j (by omega) hi h3 (by omega)
/-- rounded sums -/
def mkT (u : Int) (R C : List Int) : List (List Int) := R.map fun r => C.map fun c => (r + c) / u
theorem mkT_rect {u : Int} {R C : List Int} : Rect (mkT u R C) R.length C.length := ⟨by unfold mkT; rw [List.length_map], fun r h => by
  unfold mkT at h
  obtain ⟨x, _, rfl⟩ := List.mem_map.mp h
  rw [List.length_map]⟩
theorem mkT_en {u : Int} {R C : List Int} {i j : Int} (hi : 0 ≤ i ∧ i < R.length) (hj : 0 ≤ j ∧ j < C.length) : en (mkT u R C) i j = (gi R i + gi C j) / u := by
  unfold en mkT
  rw [row_map hi, gi_map hj]
  unfold gi
  rw [getD_get R _ (by omega)]
end PL
namespace PL
open PySem PySem.Spec PyProof.Rows L2
def cutI {α : Type} (xs : List α) (lo hi : Option Int) : List α := (xs.drop (HT.sIx xs.length 0 lo)).take (HT.sIx xs.length xs.length hi - HT.sIx xs.length 0 lo)
theorem cutD_map {α : Type} (f : α → D) (l : List α) (lo hi : Option Int) : cutD (l.map f) lo hi = (cutI l lo hi).map f := by
  unfold cutD cutI; rw [List.length_map, ← List.map_drop, ← List.map_take]
theorem cutI_sub {α : Type} {l : List α} {lo hi : Option Int} {x : α} (h : x ∈ cutI l lo hi) : x ∈ l := List.mem_of_mem_drop (List.mem_of_mem_take h)
theorem cutI_len {α : Type} {l : List α} {i j : Nat} (h : i ≤ j) (hj : j ≤ l.length) : (cutI l (some (i : Int)) (some (j : Int))).length = j - i := by
  unfold cutI
  rw [HT.sIx_nat, HT.sIx_nat, List.length_take, List.length_drop]
  omega
theorem cutI_from {α : Type} {l : List α} {i : Nat} : cutI l (some (i : Int)) none = l.drop i := by
  unfold cutI
  rw [HT.sIx_nat, HT.sIx_none]
  by_cases h : i ≤ l.length
  · rw [Nat.min_eq_left h]
    exact List.take_of_length_le (by rw [List.length_drop]; exact Nat.le_refl _)
  · rw [Nat.min_eq_right (by omega), List.drop_eq_nil_of_le (Nat.le_refl _), List.drop_eq_nil_of_le (by omega : l.length ≤ i), List.take_nil]
theorem cutI_to {α : Type} {l : List α} {j : Nat} : cutI l none (some (j : Int)) = l.take j := by
  unfold cutI
  rw [HT.sIx_nat, HT.sIx_none, List.drop_zero, Nat.sub_zero]
  by_cases h : j ≤ l.length
  · rw [Nat.min_eq_left h]
  · rw [Nat.min_eq_right (by omega), List.take_of_length_le (Nat.le_refl _), List.take_of_length_le (by omega)]
section
variable {ρ : DEnv} {a b c : DE} {lo hi : DO} {o1 o2 : Option Int} {i : Int}
theorem ev_oSome (h : a ρ = some (.int i)) : oSome a ρ = some (some i) := by unfold oSome; rw [h]; rfl
theorem ev_oNo : oNo ρ = some none := rfl
theorem ev_cutI {l : List Int} (h : a ρ = some (ofI l)) (h1 : lo ρ = some o1) (h2 : hi ρ = some o2) : eCut a lo hi ρ = some (ofI (cutI l o1 o2)) := by
  unfold eCut; rw [h, h1, h2]
  show some (D.lst (cutD (l.map .int) o1 o2)) = _
  rw [cutD_map]; rfl
theorem ev_cutR {l : List Int} (h : a ρ = some (ofR l)) (h1 : lo ρ = some o1) (h2 : hi ρ = some o2) : eCut a lo hi ρ = some (ofR (cutI l o1 o2)) := by
  unfold eCut; rw [h, h1, h2]
  show some (D.tup (cutD (l.map .int) o1 o2)) = _
  rw [cutD_map]; rfl
theorem ev_cutT {l : List (List Int)} (h : a ρ = some (ofT l)) (h1 : lo ρ = some o1) (h2 : hi ρ = some o2) : eCut a lo hi ρ = some (ofT (cutI l o1 o2)) := by
  unfold eCut; rw [h, h1, h2]
  show some (D.tup (cutD (l.map ofR) o1 o2)) = _
  rw [cutD_map]; rfl
theorem ev_cut {l : List D} (h : a ρ = some (.lst l)) (h1 : lo ρ = some o1) (h2 : hi ρ = some o2) : eCut a lo hi ρ = some (.lst (cutD l o1 o2)) := by
  unfold eCut; rw [h, h1, h2]; rfl
end
end PL
namespace PL
open PySem PySem.Spec PyProof.Rows L2
/-- equality of data of one shape -/
def Faith {α : Type} [DecidableEq α] (f : α → D) : Prop := ∀ x y : α, D.eqv (f x) (f y) = decide (x = y)
theorem eqvAll_faith {α : Type} [DecidableEq α] {f : α → D} (hf : Faith f) : ∀ xs ys : List α, PyData.eqvAll (D.toPs (xs.map f)) (D.toPs (ys.map f)) = decide (xs = ys)
  | [], [] => rfl
  | [], _ :: _ => rfl
  | _ :: _, [] => rfl
  | x :: xs, y :: ys => by
    have h := hf x y
    unfold D.eqv at h
    rw [List.map_cons, List.map_cons, D.toPs, D.toPs, PyData.eqvAll, eqvAll_faith hf xs ys, h]
    by_cases h1 : x = y <;> by_cases h2 : xs = ys <;> simp [h1, h2]
theorem faith_lst {α : Type} [DecidableEq α] {f : α → D} (hf : Faith f) : Faith fun xs : List α => D.lst (xs.map f) := fun xs ys => by
  show PyData.eqv (.list _) (.list _) = _
  rw [PyData.eqv, eqvAll_faith hf]
theorem faith_tup {α : Type} [DecidableEq α] {f : α → D} (hf : Faith f) : Faith fun xs : List α => D.tup (xs.map f) := fun xs ys => by
  show PyData.eqv (.tuple _) (.tuple _) = _
  rw [PyData.eqv, eqvAll_faith hf]
theorem faith_int : Faith D.int := eqv_int
theorem faith_I : Faith ofI := faith_lst faith_int
theorem faith_R : Faith ofR := faith_tup faith_int
theorem faith_T : Faith ofT := faith_tup faith_R
theorem faith_Tl : Faith ofTl := faith_lst faith_R
def OkN {α : Type} (f : α → D) (n : Nat) : Prop := ∀ x : α, (f x).ok n = true
theorem okn_lst {α : Type} {f : α → D} {n : Nat} (h : OkN f n) : OkN (fun xs : List α => D.lst (xs.map f)) (n + 1) := fun xs => by
  rw [ok_lst, List.all_map, List.all_eq_true]; exact fun x _ => h x
theorem okn_tup {α : Type} {f : α → D} {n : Nat} (h : OkN f n) : OkN (fun xs : List α => D.tup (xs.map f)) (n + 1) := fun xs => by
  rw [ok_tup, List.all_map, List.all_eq_true]; exact fun x _ => h x
theorem okn_int {n : Nat} : OkN D.int n := fun x => by cases n <;> rfl
theorem okn_I {n : Nat} : OkN ofI (n + 1) := okn_lst okn_int
theorem okn_R {n : Nat} : OkN ofR (n + 1) := okn_tup okn_int
theorem okn_T {n : Nat} : OkN ofT (n + 2) := okn_tup okn_R
theorem okn_Tl {n : Nat} : OkN ofTl (n + 2) := okn_lst okn_R
theorem g_eqF {α : Type} [DecidableEq α] {f : α → D} (hf : Faith f) (ho : OkN f 50) (x y : α) : gEq (f x) (f y) = some (.bl (decide (x = y))) := by unfold gEq; rw [ho x, ho y, hf x y]; rfl
theorem g_neF {α : Type} [DecidableEq α] {f : α → D} (hf : Faith f) (ho : OkN f 50) (x y : α) : gNe (f x) (f y) = some (.bl (!decide (x = y))) := by unfold gNe; rw [ho x, ho y, hf x y]; rfl
theorem g_eqR {x y : List Int} : gEq (ofR x) (ofR y) = some (.bl (decide (x = y))) := g_eqF faith_R okn_R x y
theorem g_eqT {x y : List (List Int)} : gEq (ofT x) (ofT y) = some (.bl (decide (x = y))) := g_eqF faith_T okn_T x y
theorem g_neT {x y : List (List Int)} : gNe (ofT x) (ofT y) = some (.bl (!decide (x = y))) := g_neF faith_T okn_T x y
theorem g_eqL {x y : List Int} : gEq (ofI x) (ofI y) = some (.bl (decide (x = y))) := g_eqF faith_I okn_I x y
theorem g_neL {x y : List Int} : gNe (ofI x) (ofI y) = some (.bl (!decide (x = y))) := g_neF faith_I okn_I x y
theorem g_inF {α : Type} [DecidableEq α] {f : α → D} (hf : Faith f) (ho : OkN f 49) (neg : Bool) (x : α) (ys : List α) : gInN neg (f x) (.lst (ys.map f)) = some (.bl (if neg then !decide (x ∈ ys) else decide (x ∈ ys))) := by
  have e : ((ys.map f).any fun z => z.eqv (f x)) = decide (x ∈ ys) := by
    induction ys with
    | nil => rfl
    | cons y ys ih =>
      rw [List.map_cons, List.any_cons, ih, hf y x]
      by_cases h1 : y = x <;> by_cases h2 : x ∈ ys <;> simp [h1, h2]
      exact fun h => h1 h.symm
  unfold gInN
  simp only [e]
  rw [if_pos]
  rw [ho x, List.all_map, Bool.true_and, List.all_eq_true]
  exact fun y _ => ho y
end PL
namespace PL
open PySem PySem.Spec PyProof.Rows L2
/-! ### own lists of lists -/
def llC (t : List (List Int)) : Cell := .oll (t.map fun r => r.map D.int)
def setT (t : List (List Int)) (a b v : Int) : List (List Int) := t.set a.toNat ((row t a).set b.toNat v)
theorem gi_set {l : List Int} {b v j : Int} (hb : 0 ≤ b ∧ b < l.length) (hj : 0 ≤ j ∧ j < l.length) : gi (l.set b.toNat v) j = if j = b then v else gi l j := by
  unfold gi
  rw [getD_get _ _ (by rw [List.length_set]; omega), List.getElem_set]
  by_cases h : j = b
  · rw [if_pos (by omega), if_pos h]
  · rw [if_neg (by omega), if_neg h, getD_get _ _ (by omega)]
theorem row_set {t : List (List Int)} {a i : Int} {r : List Int} (ha : 0 ≤ a ∧ a < t.length) (hi : 0 ≤ i ∧ i < t.length) : row (t.set a.toNat r) i = if i = a then r else row t i := by
  unfold row
  rw [getD_get _ _ (by rw [List.length_set]; omega), List.getElem_set]
  by_cases h : i = a
  · rw [if_pos (by omega), if_pos h]
  · rw [if_neg (by omega), if_neg h, getD_get _ _ (by omega)]
theorem rect_setT {t : List (List Int)} {m w : Nat} {a b v : Int} (h : Rect t m w) (ha : 0 ≤ a ∧ a < m) : Rect (setT t a b v) m w := ⟨by unfold setT; rw [List.length_set]; exact h.1, fun r hr => by
  unfold setT at hr
  rcases List.mem_or_eq_of_mem_set hr with hr | rfl
  · exact h.2 r hr
  · rw [List.length_set]; exact len_row h ha⟩
theorem en_setT {t : List (List Int)} {m w : Nat} {a b v i j : Int} (h : Rect t m w) (ha : 0 ≤ a ∧ a < m) (hb : 0 ≤ b ∧ b < w) (hi : 0 ≤ i ∧ i < m) (hj : 0 ≤ j ∧ j < w) : en (setT t a b v) i j = if i = a ∧ j = b then v else en t i j := by
  have e1 := h.1
  have e2 := len_row h ha
  unfold en setT
  rw [row_set (by omega) (by omega)]
  by_cases h1 : i = a
  · subst h1
    rw [if_pos rfl, gi_set (by omega) (by omega)]
    by_cases h2 : j = b
    · rw [if_pos h2, if_pos ⟨rfl, h2⟩]
    · rw [if_neg h2, if_neg fun h => h2 h.2]
  · rw [if_neg h1, if_neg fun h => h1 h.1]
section
variable {ρ : DEnv} {i : Nat} {fb fe f1 f2 : DE} {t : List (List Int)} {k a b v : Int}
theorem ev_lenLL (h : ρ i = some (llC t)) : eLenLL i ρ = some (.int t.length) := by unfold eLenLL; rw [h]; show some (D.int ((t.map fun r => r.map D.int).length : Nat)) = _; rw [List.length_map]
theorem ev_ixLL (h : ρ i = some (llC t)) (hb : fb ρ = some (.int k)) (hk : 0 ≤ k ∧ k < t.length) : eIxLL i fb ρ = some (ofI (row t k)) := by
  unfold eIxLL; rw [h, hb]
  show (atI (t.map fun r => r.map D.int) k).map D.lst = _
  have h2 : k.toNat < t.length := by omega
  have : k = ((k.toNat : Nat) : Int) := by omega
  rw [this, atI_at (by simpa using h2), List.getElem_map]
  unfold row
  simp only [Int.toNat_natCast]
  rw [getD_get _ _ h2]; rfl
theorem wp_setT {N : DEnv → Prop} {R : D → Prop} {m w : Nat} (h1 : ρ i = some (llC t)) (he : fe ρ = some (.int v)) (hf1 : f1 ρ = some (.int a)) (hf2 : f2 ρ = some (.int b)) (ht : Rect t m w) (ha : 0 ≤ a ∧ a < m) (hb : 0 ≤ b ∧ b < w) (k : N (ρ.set i (llC (setT t a b v)))) : Wp (sSetLL i f1 f2 fe) ρ N R := by
  have e1 := ht.1
  have e2 := len_row ht ha
  refine wp_setLL (k1 := a.toNat) (k2 := b.toNat) (xs := (row t a).map D.int) h1 he (by rw [hf1]; congr 2; omega) (by rw [hf2]; congr 2; omega) ?_ (by rw [List.length_map, e2]; omega) ?_
  · rw [List.getElem?_map, List.getElem?_eq_getElem (by omega : a.toNat < t.length)]
    unfold row
    rw [getD_get _ _ (by omega : a.toNat < t.length)]; rfl
  · have : llC (setT t a b v) = .oll ((t.map fun r => r.map D.int).set a.toNat (((row t a).map D.int).set b.toNat (.int v))) := by
      unfold llC setT; rw [List.map_set, List.map_set]
    rw [← this]; exact k
theorem own_LL {fa : DE} {j : Nat} {ws : List Nat} (h : fa ρ = some (ofT t)) (hl : t.length ≤ 16777216) : eCompLL (iOf asS fa) (.nm j) ws bYes (dBlt gList (dCons (eRv j) dNil)) ρ = some (t.map fun r => r.map D.int) := by
  have main : ∀ l : List (List Int), compLL (.nm j) ws bYes (dBlt gList (dCons (eRv j) dNil)) ρ ((l.map ofR).map .p) = some (l.map fun r => r.map D.int) := by
    intro l
    induction l with
    | nil => rfl
    | cons x l ih =>
      rw [List.map_cons, List.map_cons]
      unfold compLL
      show (some ((ρ.wipe ws).set j (.p (ofR x)))).bind _ = _
      rw [Option.bind_some, show bYes ((ρ.wipe ws).set j (.p (ofR x))) = some true from rfl, Option.bind_some, if_pos rfl, ev_dblt (ds := [ofR x]) (es := x.map D.int) (ev_cons (ev_rv (by unfold DEnv.set; rw [if_pos rfl])) ev_nil) rfl, Option.bind_some, ih]
      rfl
  unfold eCompLL
  rw [it_T h, Option.bind_some, main, Option.bind_some, if_pos]
  rw [List.length_map]; exact szB_of hl
theorem it_ll (h : ρ i = some (llC t)) : iLL i ρ = some (t.map fun r => .ol (r.map D.int)) := by unfold iLL; rw [h]; show some ((t.map fun r => r.map D.int).map Cell.ol) = _; rw [List.map_map]; rfl
theorem new_comp_ll {β : Type} (emb : β → D) (h : List Int → β) {it : DI} {j : Nat} {ws : List Nat} {elt : DE} (hit : it ρ = some (t.map fun r => .ol (r.map D.int))) (hl : t.length ≤ 16777216) (hs : ∀ r ∈ t, elt ((ρ.wipe ws).set j (.ol (r.map D.int))) = some (emb (h r))) :
    eNew (eComp it (.nm j) ws bYes elt) ρ = some (.lst ((t.map h).map emb)) := by
  have main : ∀ l : List (List Int), (∀ x ∈ l, x ∈ t) → compL (.nm j) ws bYes elt ρ (l.map fun r => .ol (r.map D.int)) = some ((l.map h).map emb) := by
    intro l
    induction l with
    | nil => intro _; rfl
    | cons x l ih =>
      intro hm
      rw [List.map_cons]
      unfold compL
      show (some ((ρ.wipe ws).set j (.ol (x.map D.int)))).bind _ = _
      rw [Option.bind_some, show bYes ((ρ.wipe ws).set j (.ol (x.map D.int))) = some true from rfl, Option.bind_some, if_pos rfl, hs x (hm x List.mem_cons_self), Option.bind_some, ih fun y hy => hm y (List.mem_cons_of_mem _ hy)]
      rfl
  refine ev_new ?_
  unfold eComp
  rw [hit, Option.bind_some, main t fun _ h => h, Option.bind_some, if_pos]
  rw [List.length_map, List.length_map]; exact szB_of hl
end
end PL

local macro_rules | `(tactic| walk_at "lk") => `(tactic| first | rfl | assumption)
local macro_rules | `(tactic| walk_at "g") => `(tactic| first | (with_reducible exact PL.g_lenI) | (with_reducible exact PL.g_lenR) | (with_reducible exact PL.g_lenT) | (with_reducible exact PL.g_lenLL) | (with_reducible exact PL.g_sumI) | (with_reducible exact PL.g_abs) | (with_reducible exact PL.g_tupI) | (with_reducible exact PL.g_tupR) | (with_reducible exact PL.g_tupT) | (with_reducible exact PL.g_eqI) | (with_reducible exact PL.g_neI) | (with_reducible exact PL.g_eqB) | (with_reducible exact PL.g_neB) | (with_reducible refine PL.g_ixI ?_) | (with_reducible refine PL.g_ixR ?_) | (with_reducible refine PL.g_ixT ?_) | (with_reducible refine PL.g_ixLL ?_) | (with_reducible refine PL.g_ixS ?_) | (with_reducible refine PL.g_minI ?_) | (with_reducible refine PL.g_minR ?_) | (with_reducible refine PL.g_maxI ?_) | (with_reducible refine PL.g_maxR ?_) | (with_reducible refine PL.g_div ?_) | (with_reducible refine PL.g_mod ?_) | (with_reducible refine PL.g_pow ?_) | (with_reducible refine PL.g_mulL (by (first | decide | omega))) | (with_reducible refine PL.g_mulR (by (first | decide | omega))) | (with_reducible refine PL.g_mul ?_) | (show (_ : Option _) = some _; rfl) | (show PL.szB _ = true; rfl))
local macro_rules | `(tactic| walk_at "ev1") => `(tactic| first | (with_reducible exact PL.ev_c) | (with_reducible exact PL.ev_nil) | ((with_reducible apply PL.ev_pv) <;> walk_at "lk") | ((with_reducible apply PL.ev_rv) <;> walk_at "lk") | ((with_reducible apply PL.ev_rvo) <;> walk_at "lk") | (with_reducible apply PL.ev_e2) | (with_reducible apply PL.ev_e1) | (with_reducible apply PL.ev_cons) | (with_reducible apply PL.ev_tup) | (with_reducible apply PL.ev_sz) | (with_reducible apply PL.ev_blt) | (with_reducible apply PL.ev_dblt) | (with_reducible apply PL.ev_call) | (with_reducible apply PL.ev_tV) | (with_reducible apply PL.ev_bNot) | (with_reducible apply PL.ev_bAnd) | (with_reducible apply PL.ev_bOr) | (with_reducible apply PL.ev_eAnd) | (with_reducible apply PL.ev_eOr) | (with_reducible apply PL.ev_eNot) | (with_reducible apply PL.ev_eNeg) | (with_reducible apply PL.ev_ifI) | (with_reducible apply PL.ev_chain) | (with_reducible apply PL.ev_oSome) | ((with_reducible apply PL.ev_lenLL) <;> walk_at "lk") | (with_reducible apply PL.ev_ixLL) | (with_reducible exact PL.ev_oNo))
local macro_rules | `(tactic| walk_at "ev") => `(tactic| repeat' first | walk_at "ev1" | walk_at "g" | (show (_ : PL.DEnv) _ = some _; first | rfl | assumption) | (intro hc; (first | (replace hc := of_decide_eq_true hc) | (replace hc := of_decide_eq_false hc) | skip)))
local macro_rules | `(tactic| walk_at "evo") => `(tactic| (walk_at "ev"; all_goals (first | omega | decide | skip)))
local macro_rules | `(tactic| walk_at "rc") => `(tactic| (refine ⟨?_, ?_⟩ <;> first | omega | (rw [PL.len_row (by assumption) (by omega)]; omega)))
local macro_rules | `(tactic| walk_at "evr") => `(tactic| (walk_at "ev"; all_goals (first | omega | decide | walk_at "rc" | skip)))

namespace PL
open PySem PySem.Spec PyProof.Rows L2
def b_is_integer : DS :=
 (sRet (eAnd (e1 (gIs .tint) (eRv 0)) (eAnd (eNot (e1 (gIs .tbool) (eRv 0))) (eChain gLe gLe (eRv 1) (eRv 0) (eRv 2)))))
def f_is_integer : List D → Option D := fnD 3 b_is_integer
def b_is_table : DS :=
 (sSeq (sIf (bOr (bNot (tV (e1 (gIs .ttuple) (eRv 0)))) (bNot (tV (eChain gLe gLe (eC (.int 1)) (eBlt (b1 gLen) (dCons (eRv 0) dNil)) (eC (.int 6))))))
 (sRet (eC (.bl false)))
 sSkip)
 (sSeq (sIf (bNot (tV (eBlt (b1 gAll) (dCons (eNew (eComp (iOf asS (ePv 0)) (.nm 1) [1] bYes (eAnd (e1 (gIs .ttuple) (eRv 1)) (eChain gLe gLe (eC (.int 1)) (eBlt (b1 gLen) (dCons (eRv 1) dNil)) (eC (.int 6)))))) dNil))))
 (sRet (eC (.bl false)))
 sSkip)
 (sSeq (sIf (tV (e2 gNe (eBlt (b1 gLen) (dCons (eNew (dSortSet (eNew (eComp (iOf asS (ePv 0)) (.nm 1) [1] bYes (eBlt (b1 gLen) (dCons (eRv 1) dNil)))))) dNil)) (eC (.int 1))))
 (sRet (eC (.bl false)))
 sSkip)
 (sRet (eBlt (b1 gAll) (dCons (eNew (eComp2 (iOf asS (ePv 0)) (.nm 1) [1, 2] (iOf asS (ePv 1)) (.nm 2) [2] bYes (eCall f_is_integer (dCons (ePv 2) (dCons (eNeg (eC (.int 999))) (dCons (eC (.int 999)) dNil)))))) dNil))))))
def f_is_table : List D → Option D := fnD 1 b_is_table
def b_Table_init : DXM :=
 (xmGuard (bNot (tV (eCall f_is_table (dCons (ePv 1) dNil)))) (Str.ofString "InvalidTable")
 (xmOf (mPut (Str.ofString "Table") (Str.ofString "rows_kept") (ePv 1)
 mEnd)))
noncomputable def f_Table_init : Ob → List D → Option (Ob × RD) := mWX 1 b_Table_init
def b_Table_len : DS :=
 (sRet (eBlt (b1 gLen) (dCons (eFld (Str.ofString "Table") 0 (Str.ofString "rows_kept")) dNil)))
noncomputable def f_Table_len : Ob → List D → Option D := mR 0 b_Table_len
def b_Table_rows : DS :=
 (sRet (eFld (Str.ofString "Table") 0 (Str.ofString "rows_kept")))
noncomputable def f_Table_rows : Ob → List D → Option D := mR 0 b_Table_rows
def b_Table_size : DS :=
 (sRet (eTup (dCons (eBlt (b1 gLen) (dCons (eFld (Str.ofString "Table") 0 (Str.ofString "rows_kept")) dNil)) (dCons (eBlt (b1 gLen) (dCons (e2 gIx (eFld (Str.ofString "Table") 0 (Str.ofString "rows_kept")) (eC (.int 0))) dNil)) dNil))))
noncomputable def f_Table_size : Ob → List D → Option D := mR 0 b_Table_size
def b_law_any_value (self : List D → Option D) : DS :=
 (sSeq (sAsg (.nm 2) (e2 gMod (e2 gIx (eRv 0) (eRv 1)) (eC (.int 12))))
 (sSeq (sAsg (.nm 3) (e2 gIx (eNew (dSz (dCons (e2 gSub (e2 gMod (e2 gIx (eRv 0) (e2 gAdd (eRv 1) (eC (.int 1)))) (eC (.int 12))) (eC (.int 2))) (dCons (e2 gSub (eC (.int 0)) (e2 gPow (eC (.int 10)) (eC (.int 39)))) (dCons (e2 gPow (eC (.int 10)) (eC (.int 39))) dNil))))) (e2 gMod (e2 gIx (eRv 0) (e2 gAdd (eRv 1) (eC (.int 2)))) (eC (.int 3)))))
 (sSeq (sIf (bOr (tV (e2 gLt (eRv 2) (eC (.int 4)))) (tV (e2 gGt (eRv 1) (eC (.int 3)))))
 (sRet (ePv 3))
 sSkip)
 (sSeq (sIf (tV (e2 gLt (eRv 2) (eC (.int 7))))
 (sRet (e2 gIx (eNew (dSz (dCons (eC (.bl true)) (dCons (eC (.bl false)) (dCons (eC .non) dNil))))) (e2 gSub (eRv 2) (eC (.int 4)))))
 sSkip)
 (sSeq (sIf (tV (e2 gLt (eRv 2) (eC (.int 9))))
 (sRet (e2 gIx (eNew (dSz (dCons (eC (.str (Str.ofString ""))) (dCons (eC (.str (Str.ofString "0"))) (dCons (eC (.str (Str.ofString "a"))) (dCons (eC (.str (Str.ofString "ax"))) (dCons (eC (.str (Str.ofString "3"))) (dCons (eC (.str (Str.ofString "none"))) (dCons (eC (.str (Str.ofString "A"))) (dCons (eC (.str (Str.ofString "~"))) dNil)))))))))) (e2 gMod (e2 gIx (eRv 0) (e2 gAdd (eRv 1) (eC (.int 3)))) (eC (.int 8)))))
 sSkip)
 (sSeq (sAsg (.nm 4) (eNew (eComp (iRng (eC (.int 0)) (e2 gMod (e2 gIx (eRv 0) (e2 gAdd (eRv 1) (eC (.int 4)))) (eC (.int 4)))) (.nm 5) [5] bYes (eCall self (dCons (e2 gAdd (eCut (eRv 0) (oSome (eRv 5)) oNo) (eCut (eRv 0) oNo (oSome (eRv 5)))) (dCons (e2 gAdd (eRv 1) (eC (.int 1))) dNil))))))
 (sRet (eIf (tV (e2 gEq (eRv 2) (eC (.int 9)))) (ePv 4) (eBlt (b1 gTuple) (dCons (eRv 4) dNil))))))))))
def f_law_any_value : Nat → List D → Option D
  | 0 => fun _ => none
  | k + 1 => fnD 2 (b_law_any_value (f_law_any_value k))
def b_law_cell : DS :=
 (sSeq (sIf (tV (e2 gLt (eRv 1) (eBlt (b1 gLen) (dCons (eRv 0) dNil))))
 (sRet (e2 gIx (eRv 0) (eRv 1)))
 sSkip)
 (sSeq (sIf (tV (e2 gEq (eBlt (b1 gLen) (dCons (eRv 0) dNil)) (eC (.int 0))))
 (sRet (e2 gAdd (e2 gMul (eC (.int 7919)) (eRv 1)) (eC (.int 101))))
 sSkip)
 (sRet (e2 gAdd (e2 gMod (e2 gIx (eRv 0) (e2 gMod (eRv 1) (eBlt (b1 gLen) (dCons (eRv 0) dNil)))) (eC (.int 1000003))) (e2 gMul (eC (.int 7919)) (eRv 1))))))
def f_law_cell : List D → Option D := fnD 2 b_law_cell
def b_law_digits : DS :=
 (sSeq (sAsg (.nm 4) (eTup (dCons (eC (.int 2147483647)) (dCons (eC (.int 2147483629)) (dCons (eC (.int 2147483587)) (dCons (eC (.int 2147483579)) (dCons (eC (.int 2147483563)) (dCons (eC (.int 2147483549)) (dCons (eC (.int 2147483543)) (dCons (eC (.int 2147483497)) dNil))))))))))
 (sSeq (sAsg (.nm 5) (eCall f_law_cell (dCons (ePv 0) (dCons (ePv 1) dNil))))
 (sSeq (sAsg (.nm 6) (eIf (tV (e2 gGe (eRv 5) (e2 gPow (eC (.int 10)) (eC (.int 18))))) (ePv 5) (eC (.int 0))))
 (sSeq (sOwn 7 (dSz dNil))
 (sSeq (sFor (iRng (eC (.int 0)) (eRv 2)) (.nm 8)
 (sSeq (sAsg (.nm 9) (e2 gMul (e2 gMod (eRv 5) (e2 gIx (eRv 4) (e2 gMod (eRv 8) (eC (.int 8))))) (e2 gAdd (eC (.int 48271)) (e2 gMul (e2 gMul (eC (.int 2)) (eRv 8)) (eRv 8)))))
 (sSeq (sAsg (.nm 9) (e2 gAdd (e2 gAdd (eRv 9) (e2 gMul (e2 gMul (eC (.int 7919)) (e2 gAdd (eRv 8) (eC (.int 1)))) (e2 gAdd (eRv 8) (eC (.int 1))))) (e2 gMul (eC (.int 104729)) (eRv 1))))
 (sSeq (sAsg (.nm 9) (e2 gMod (eRv 9) (e2 gIx (eRv 4) (e2 gMod (e2 gAdd (e2 gMul (eC (.int 3)) (eRv 8)) (eRv 1)) (eC (.int 8))))))
 (sSeq (sAsg (.nm 9) (e2 gMod (e2 gMul (e2 gMul (eRv 9) (eRv 9)) (eRv 9)) (e2 gIx (eRv 4) (e2 gMod (e2 gAdd (eRv 8) (eC (.int 5))) (eC (.int 8))))))
 (sSeq (sIf (tV (e2 gGt (eRv 6) (eC (.int 0))))
 (sAsg (.nm 9) (ePv 6))
 sSkip)
 (sSeq (sApp 7 (e2 gMod (eRv 9) (eRv 3)))
 (sAsg (.nm 6) (e2 gDiv (eRv 6) (eRv 3))))))))))
 (sPre 7 (sRet (ePv 7))))))))
def f_law_digits : List D → Option D := fnD 4 b_law_digits
def b_law_table : DS :=
 (sSeq (sAsg (.nm 3) (e2 gAdd (eC (.int 1)) (e2 gMod (e2 gIx (eRv 0) (eC (.int 0))) (eC (.int 7)))))
 (sSeq (sAsg (.nm 4) (eNew (eComp (iRng (eC (.int 0)) (eRv 2)) (.nm 6) [6] bYes (e2 gMod (e2 gIx (eRv 0) (e2 gAdd (eC (.int 1)) (eRv 6))) (eC (.int 300))))))
 (sSeq (sAsg (.nm 5) (eNew (eComp (iRng (eC (.int 0)) (eRv 1)) (.nm 6) [6] bYes (e2 gSub (e2 gMod (e2 gIx (eRv 0) (e2 gAdd (eC (.int 7)) (eRv 6))) (eC (.int 400))) (eC (.int 100))))))
 (sSeq (sIf (tV (e2 gEq (e2 gMod (e2 gIx (eRv 0) (eC (.int 13))) (eC (.int 3))) (eC (.int 0))))
 (sAsg (.nm 4) (eNew (eComp (iOf asS (eCut (eRv 0) (oSome (eC (.int 1))) (oSome (e2 gAdd (eC (.int 1)) (eRv 2))))) (.nm 7) [7] bYes (e2 gAdd (e2 gIx (eRv 4) (eC (.int 0))) (e2 gMod (eRv 7) (eC (.int 5)))))))
 sSkip)
 (sRet (eBlt (b1 gTuple) (dCons (eNew (eComp (iOf asS (ePv 5)) (.nm 8) [8] bYes (eBlt (b1 gTuple) (dCons (eNew (eComp (iOf asS (ePv 4)) (.nm 9) [9] bYes (e2 gDiv (e2 gAdd (eRv 8) (eRv 9)) (eRv 3)))) dNil)))) dNil)))))))
def f_law_table : List D → Option D := fnD 3 b_law_table
def words_k13 : List (Str × Str) := [((Str.ofString "InvalidTable"), (Str.ofString "grid value"))]
noncomputable def b_law_k13 : DS :=
 (sSeq (sFor (iRng (eC (.int 0)) (eC (.int 8))) (.nm 1)
 (sSeq (sAsg (.nm 2) (eCall f_law_digits (dCons (ePv 0) (dCons (ePv 1) (dCons (eC (.int 60)) (dCons (eC (.int 27720)) dNil))))))
 (sSeq (sAsg (.nm 3) (e2 gAdd (eC (.int 1)) (e2 gMod (e2 gIx (eRv 2) (eC (.int 50))) (eC (.int 6)))))
 (sSeq (sAsg (.nm 4) (eCall f_law_table (dCons (ePv 2) (dCons (eC (.int 3)) (dCons (ePv 3) dNil)))))
 (sSeq (sAsg (.nm 5) (eNew (dSz (dCons (eTup dNil) (dCons (e2 gRepA (eTup (dCons (eC (.int 1)) dNil)) (eC (.int 7))) (dCons (e2 gRepA (eTup (dCons (eC (.int 1000)) dNil)) (eRv 3)) (dCons (e2 gRepA (eTup (dCons (eC (.bl true)) dNil)) (eRv 3)) (dCons (e2 gRepA (eTup (dCons (eC .non) dNil)) (eRv 3)) (dCons (e2 gRepA (eNew (dSz (dCons (eC (.int 1)) dNil))) (eRv 3)) (dCons (eC .non) (dCons (eC (.int 5)) (dCons (eC (.str (Str.ofString "1"))) (dCons (e2 gRepA (eTup (dCons (eTup (dCons (eC (.int 1)) dNil)) dNil)) (eRv 3)) dNil)))))))))))))
 (sSeq (sAsg (.nm 5) (e2 gAdd (eRv 5) (eNew (dSz (dCons (e2 gRepA (eTup (dCons (eC (.int 1)) dNil)) (e2 gAdd (e2 gMod (eRv 3) (eC (.int 6))) (eC (.int 1)))) (dCons (eCall (f_law_any_value 6) (dCons (eCut (eRv 2) (oSome (eC (.int 9))) oNo) (dCons (eC (.int 0)) dNil))) (dCons (e2 gRepA (eTup (dCons (eC (.str (Str.ofString "1"))) dNil)) (eRv 3)) (dCons (e2 gRepA (eTup (dCons (eNeg (eC (.int 999))) dNil)) (eRv 3)) (dCons (e2 gRepA (eTup (dCons (eC (.int 999)) dNil)) (eRv 3)) dNil)))))))))
 (sSeq (sFor (iRng (eC (.int 0)) (eC (.int 10))) (.nm 6)
 (sSeq (sAsg (.nm 8) (eNew (dSz (dCons (e2 gIx (eRv 4) (e2 gMod (e2 gIx (eRv 2) (e2 gAdd (eC (.int 10)) (eRv 6))) (eC (.int 3)))) (dCons (e2 gIx (eRv 5) (e2 gMod (e2 gIx (eRv 2) (e2 gAdd (eC (.int 20)) (eRv 6))) (eC (.int 15)))) dNil)))))
 (sSeq (sAsg (.nm 9) (e2 gIx (eRv 8) (e2 gMod (e2 gIx (eRv 2) (e2 gAdd (eC (.int 30)) (eRv 6))) (eC (.int 2)))))
 (sSeq (sAsg (.nm 10) (e2 gIx (eRv 8) (e2 gMod (e2 gIx (eRv 2) (e2 gAdd (eC (.int 40)) (eRv 6))) (eC (.int 2)))))
 (sSeq (sAsg (.nm 11) (eCall f_is_table (dCons (eTup (dCons (ePv 9) (dCons (ePv 10) dNil))) dNil)))
 (sSeq (sTold 12 13 words_k13 (xMake (Str.ofString "Table") (starX f_Table_init) (dCons (ePv 9) (dCons (ePv 10) dNil))))
 (sSeq (sIf (tV (e2 gNe (eRv 13) (eIf (tV (ePv 11)) (eC (.str (Str.ofString ""))) (eC (.str (Str.ofString "grid value"))))))
 (sRet (eC (.bl false)))
 sSkip)
 (sSeq (sIf (bAnd (tV (ePv 11)) (bOr (tV (e2 gNe (eProp (Str.ofString "Table") 12 f_Table_rows) (eTup (dCons (ePv 9) (dCons (ePv 10) dNil))))) (tV (e2 gNe (eLenO (Str.ofString "Table") 12 f_Table_len) (eC (.int 2))))))
 (sRet (eC (.bl false)))
 sSkip)
 (sSeq (sIf (bAnd (tV (ePv 11)) (tV (e2 gNe (eProp (Str.ofString "Table") 12 f_Table_size) (eTup (dCons (eC (.int 2)) (dCons (eBlt (b1 gLen) (dCons (eRv 9) dNil)) dNil))))))
 (sRet (eC (.bl false)))
 sSkip)
 (sSeq (sTold 12 13 words_k13 (xMake (Str.ofString "Table") (starX f_Table_init) (dCons (ePv 9) dNil)))
 (sIf (tV (e2 gNe (eRv 13) (eIf (tV (eCall f_is_table (dCons (eTup (dCons (ePv 9) dNil)) dNil))) (eC (.str (Str.ofString ""))) (eC (.str (Str.ofString "grid value"))))))
 (sRet (eC (.bl false)))
 sSkip)))))))))))
 (sSeq (sIf (tV (e2 gNe (eTProp (Str.ofString "Table") (xMake (Str.ofString "Table") (starX f_Table_init) (dCons (e2 gIx (eRv 4) (eC (.int 0))) (dCons (e2 gIx (eRv 4) (eC (.int 1))) (dCons (e2 gIx (eRv 4) (eC (.int 2))) dNil)))) f_Table_rows) (eRv 4)))
 (sRet (eC (.bl false)))
 sSkip)
 (sSeq (sAsg (.nm 7) (e2 gIx (eRv 4) (eC (.int 0))))
 (sSeq (sIf (tV (e2 gNe (eTLen (Str.ofString "Table") (xMake (Str.ofString "Table") (starX f_Table_init) (dCons (ePv 7) (dCons (ePv 7) (dCons (ePv 7) (dCons (ePv 7) (dCons (ePv 7) (dCons (ePv 7) dNil))))))) f_Table_len) (eC (.int 6))))
 (sRet (eC (.bl false)))
 sSkip)
 (sIf (tV (e2 gNe (eTold words_k13 (xMake (Str.ofString "Table") (starX f_Table_init) (dCons (ePv 7) (dCons (ePv 7) (dCons (ePv 7) (dCons (ePv 7) (dCons (ePv 7) (dCons (ePv 7) (dCons (ePv 7) dNil))))))))) (eTup (dCons (eC .non) (dCons (eC (.str (Str.ofString "grid value"))) dNil)))))
 (sRet (eC (.bl false)))
 sSkip)))))))))))
 (sRet (eAnd (e2 gEq (eC (.int 6)) (eC (.int 6))) (eAnd (e2 gEq (eTold words_k13 (xMake (Str.ofString "Table") (starX f_Table_init) dNil)) (eTup (dCons (eC .non) (dCons (eC (.str (Str.ofString "grid value"))) dNil)))) (e2 gEq (eTProp (Str.ofString "Table") (xMake (Str.ofString "Table") (starX f_Table_init) (dCons (eTup (dCons (eC (.int 5)) dNil)) dNil)) f_Table_size) (eTup (dCons (eC (.int 1)) (dCons (eC (.int 1)) dNil))))))))
noncomputable def f_law_k13 : List D → Option D := fnD 1 b_law_k13

end PL

namespace PL
/-! ## the numbers of a real table: plain -/
def cr (t : List (List Int)) (i j a b : Int) : Int := en t i a + en t j b - en t i b - en t j a
def RealT (t : List (List Int)) (m w : Nat) : Prop := ∀ i j a b : Int, 0 ≤ i → i < j → j < m → 0 ≤ a → a < b → b < w → -1 ≤ cr t i j a b ∧ cr t i j a b ≤ 1
theorem real_all {t : List (List Int)} {m w : Nat} (h : RealT t m w) {i j a b : Int} (hi : 0 ≤ i ∧ i < m) (hj : 0 ≤ j ∧ j < m) (ha : 0 ≤ a ∧ a < w) (hb : 0 ≤ b ∧ b < w) : -1 ≤ cr t i j a b ∧ cr t i j a b ≤ 1 := by
  have k := h i j a b
  have k1 := h j i a b
  have k2 := h i j b a
  have k3 := h j i b a
  unfold cr at *
  rcases Int.lt_trichotomy i j with h1 | h1 | h1
  · rcases Int.lt_trichotomy a b with h2 | h2 | h2
    · exact k hi.1 h1 hj.2 ha.1 h2 hb.2
    · subst h2; omega
    · have := k2 hi.1 h1 hj.2 hb.1 h2 ha.2; omega
  · subst h1; omega
  · rcases Int.lt_trichotomy a b with h2 | h2 | h2
    · have := k1 hj.1 h1 hi.2 ha.1 h2 hb.2; omega
    · subst h2; omega
    · have := k3 hj.1 h1 hi.2 hb.1 h2 ha.2; omega
theorem div4 {u A B C E : Int} (hu : 0 < u) (h : A + B = C + E) : -1 ≤ A / u + B / u - C / u - E / u ∧ A / u + B / u - C / u - E / u ≤ 1 := by
  have h1 := Int.mul_ediv_add_emod A u
  have h2 := Int.mul_ediv_add_emod B u
  have h3 := Int.mul_ediv_add_emod C u
  have h4 := Int.mul_ediv_add_emod E u
  have a1 := Int.emod_nonneg A (Int.ne_of_gt hu)
  have a2 := Int.emod_nonneg B (Int.ne_of_gt hu)
  have a3 := Int.emod_nonneg C (Int.ne_of_gt hu)
  have a4 := Int.emod_nonneg E (Int.ne_of_gt hu)
  have b1 := Int.emod_lt_of_pos A hu
  have b2 := Int.emod_lt_of_pos B hu
  have b3 := Int.emod_lt_of_pos C hu
  have b4 := Int.emod_lt_of_pos E hu
  have e : u * (A / u + B / u - C / u - E / u) = u * (A / u) + u * (B / u) - u * (C / u) - u * (E / u) := by rw [Int.mul_sub, Int.mul_sub, Int.mul_add]
  have l1 : u * (A / u + B / u - C / u - E / u) < u * 2 := by omega
  have l2 : u * (-2) < u * (A / u + B / u - C / u - E / u) := by omega
  have := Int.lt_of_mul_lt_mul_left l1 (Int.le_of_lt hu)
  have := Int.lt_of_mul_lt_mul_left l2 (Int.le_of_lt hu)
  omega
theorem mkT_real {u : Int} {R C : List Int} (hu : 0 < u) : RealT (mkT u R C) R.length C.length := by
  intro i j a b h1 h2 h3 h4 h5 h6
  unfold cr
  rw [mkT_en ⟨h1, by omega⟩ ⟨h4, by omega⟩, mkT_en ⟨by omega, h3⟩ ⟨by omega, h6⟩, mkT_en ⟨h1, by omega⟩ ⟨by omega, h6⟩, mkT_en ⟨by omega, h3⟩ ⟨h4, by omega⟩]
  exact div4 hu (by omega)
theorem fmin_le' : ∀ (l : List Int) (a : Int), l.foldl min a ≤ a ∧ ∀ x ∈ l, l.foldl min a ≤ x
  | [], a => ⟨Int.le_refl _, by simp⟩
  | b :: l, a => by
    obtain ⟨h1, h2⟩ := fmin_le' l (min a b)
    rw [List.foldl_cons]
    refine ⟨by omega, fun x hx => ?_⟩
    rcases List.mem_cons.mp hx with rfl | hx
    · omega
    · exact h2 x hx
theorem fmin_mem' : ∀ (l : List Int) (a : Int), l.foldl min a = a ∨ l.foldl min a ∈ l
  | [], a => .inl rfl
  | b :: l, a => by
    rw [List.foldl_cons]
    rcases fmin_mem' l (min a b) with h | h
    · rw [h]
      by_cases hab : a ≤ b
      · left; omega
      · right; rw [show min a b = b by omega]; exact List.mem_cons_self
    · exact .inr (List.mem_cons_of_mem _ h)
theorem mn_le {l : List Int} {x : Int} (h : x ∈ l) : mn l ≤ x := by
  cases l with
  | nil => cases h
  | cons a l =>
    rcases List.mem_cons.mp h with rfl | h
    · exact (fmin_le' l x).1
    · exact (fmin_le' l a).2 x h
theorem mn_mem {l : List Int} (h : l ≠ []) : mn l ∈ l := by
  cases l with
  | nil => exact absurd rfl h
  | cons a l =>
    show l.foldl min a ∈ _
    rcases fmin_mem' l a with h | h
    · rw [h]; exact List.mem_cons_self
    · exact List.mem_cons_of_mem _ h
theorem mem_ix {l : List Int} {x : Int} (h : x ∈ l) : ∃ i : Int, 0 ≤ i ∧ i < l.length ∧ gi l i = x := by
  obtain ⟨i, h1, h2⟩ := List.mem_iff_getElem.mp h
  refine ⟨i, by omega, by omega, ?_⟩
  unfold gi
  rw [getD_get _ _ (by simpa using h1)]
  simpa using h2
theorem gi_zip {a b : List Int} {f : Int × Int → Int} {i : Int} (ha : 0 ≤ i ∧ i < a.length) (hb : i < b.length) : gi ((a.zip b).map f) i = f (gi a i, gi b i) := by
  unfold gi
  rw [getD_get _ _ (by rw [List.length_map, List.length_zip]; omega), List.getElem_map, List.getElem_zip, getD_get _ _ (by omega), getD_get _ _ (by omega)]
theorem mem_zip_ix {a b : List Int} {p : Int × Int} (h : p ∈ a.zip b) : ∃ i : Int, 0 ≤ i ∧ i < a.length ∧ i < b.length ∧ p = (gi a i, gi b i) := by
  obtain ⟨i, h1, h2⟩ := List.mem_iff_getElem.mp h
  rw [List.length_zip] at h1
  refine ⟨i, by omega, by omega, by omega, ?_⟩
  rw [List.getElem_zip] at h2
  unfold gi
  rw [getD_get _ _ (by simp; omega), getD_get _ _ (by simp; omega)]
  simp only [Int.toNat_natCast]
  exact h2.symm
theorem zip_mem_ix {a b : List Int} {i : Int} (h0 : 0 ≤ i) (h1 : i < a.length) (h2 : i < b.length) : (gi a i, gi b i) ∈ a.zip b := by
  unfold gi
  rw [getD_get _ _ (by omega), getD_get _ _ (by omega)]
  rw [List.mem_iff_getElem]
  exact ⟨i.toNat, by rw [List.length_zip]; omega, by rw [List.getElem_zip]⟩
theorem sum_le {α : Type} {f g : α → Int} : ∀ {l : List α}, (∀ x ∈ l, f x ≤ g x) → (l.map f).sum ≤ (l.map g).sum
  | [], _ => Int.le_refl _
  | a :: l, h => by
    rw [List.map_cons, List.map_cons, List.sum_cons, List.sum_cons]
    have h1 := h a List.mem_cons_self
    have h2 := sum_le fun x hx => h x (List.mem_cons_of_mem _ hx)
    omega
theorem sum_lt {α : Type} {f g : α → Int} {y : α} : ∀ {l : List α}, (∀ x ∈ l, f x ≤ g x) → y ∈ l → f y < g y → (l.map f).sum < (l.map g).sum
  | a :: l, h, hy, hl => by
    rw [List.map_cons, List.map_cons, List.sum_cons, List.sum_cons]
    have h1 := h a List.mem_cons_self
    have h2 := sum_le fun x hx => h x (List.mem_cons_of_mem _ hx)
    rcases List.mem_cons.mp hy with rfl | hy
    · omega
    · have := sum_lt (fun x hx => h x (List.mem_cons_of_mem _ hx)) hy hl
      omega
theorem sum_const {α : Type} (c : Int) : ∀ l : List α, (l.map fun _ => c).sum = c * l.length
  | [] => by simp
  | a :: l => by rw [List.map_cons, List.sum_cons, sum_const c l, List.length_cons, Int.natCast_add, Int.mul_add]; simp; omega
/-- steps of a row above the first one -/
def stp (t : List (List Int)) (r : List Int) : List Int := (r.zip (row t 0)).map fun p => p.1 - p.2
def rsd (s : List Int) : List Int := s.map fun x => x - mn s
def cnt (t : List (List Int)) (w : Nat) : List Int := (List.range w).map fun (j : Nat) => (((t.map (stp t)).map rsd).map fun s => gi s (j : Int)).sum
def cols (t : List (List Int)) (w : Nat) (u : Int) : List Int := ((row t 0).zip (cnt t w)).map fun p => p.1 * u + p.2
def high (c : List Int) (e : List Int) : List Int := ((c.zip e).filter fun p => decide (0 < p.2)).map fun p => p.1
def rowN (u : Int) (c : List Int) (p : List Int × List Int) : Int := mn p.1 * u + (if (!decide (high c p.2 = [])) = true then u - mn (high c p.2) else 0)
def rowsN (t : List (List Int)) (w : Nat) (u : Int) : List Int := ((t.map (stp t)).zip ((t.map (stp t)).map rsd)).map (rowN u (cnt t w))
section
variable {t : List (List Int)} {m w : Nat}
theorem stp_len (ht : Rect t m w) (hm : 1 ≤ m) {r : List Int} (hr : r ∈ t) : (stp t r).length = w := by
  unfold stp
  rw [List.length_map, List.length_zip, ht.2 r hr, len_row ht (by omega)]; omega
theorem stp_gi (ht : Rect t m w) (hm : 1 ≤ m) {r : List Int} (hr : r ∈ t) {j : Int} (hj : 0 ≤ j ∧ j < w) : gi (stp t r) j = gi r j - en t 0 j := by
  unfold stp
  have := ht.2 r hr
  have := len_row ht (i := 0) (by omega)
  rw [gi_zip (by omega) (by omega)]
theorem rsd_gi {s : List Int} {j : Int} (hj : 0 ≤ j ∧ j < s.length) : gi (rsd s) j = gi s j - mn s := gi_map hj
theorem rsd_len {s : List Int} : (rsd s).length = s.length := List.length_map _
/-- raised by 0 or 1 -/
theorem rsd_01 (ht : Rect t m w) (hm : 1 ≤ m) (hw : 1 ≤ w) (hR : RealT t m w) {i : Int} (hi : 0 ≤ i ∧ i < m) {j : Int} (hj : 0 ≤ j ∧ j < w) : 0 ≤ gi (rsd (stp t (row t i))) j ∧ gi (rsd (stp t (row t i))) j ≤ 1 := by
  have hr : row t i ∈ t := mem_row ⟨hi.1, by have := ht.1; omega⟩
  have hl := stp_len ht hm hr
  rw [rsd_gi (by omega)]
  have h1 : mn (stp t (row t i)) ≤ gi (stp t (row t i)) j := mn_le (mem_gi (by omega))
  obtain ⟨k, k0, k1, k2⟩ := mem_ix (mn_mem (l := stp t (row t i)) (by intro h; rw [h] at hl; simp at hl; omega))
  rw [← k2] at h1 ⊢
  rw [stp_gi ht hm hr hj, stp_gi ht hm hr (by omega)] at *
  have := real_all hR hi (j := 0) (by omega) hj (b := k) (by omega)
  unfold cr en at *
  omega
theorem cnt_gi (t : List (List Int)) {w : Nat} {j : Int} (hj : 0 ≤ j ∧ j < w) : gi (cnt t w) j = (t.map fun r => gi (rsd (stp t r)) j).sum := by
  unfold cnt
  rw [gi_rng hj, List.map_map, List.map_map]
  have e : ((j.toNat : Nat) : Int) = j := Int.toNat_of_nonneg hj.1
  show (t.map ((fun s => gi s ((j.toNat : Nat) : Int)) ∘ rsd ∘ stp t)).sum = _
  rw [e]; rfl
theorem cnt_len (t : List (List Int)) (w : Nat) : (cnt t w).length = w := by unfold cnt; rw [List.length_map, List.length_range]
theorem cnt_bd (ht : Rect t m w) (hm : 1 ≤ m) (hw : 1 ≤ w) (hR : RealT t m w) {j : Int} (hj : 0 ≤ j ∧ j < w) : 0 ≤ gi (cnt t w) j ∧ gi (cnt t w) j ≤ m := by
  rw [cnt_gi t hj]
  have h1 : ∀ r ∈ t, 0 ≤ gi (rsd (stp t r)) j ∧ gi (rsd (stp t r)) j ≤ 1 := by
    intro r hr
    obtain ⟨i, h1, h2⟩ := List.mem_iff_getElem.mp hr
    have : r = row t i := by unfold row; rw [getD_get _ _ (by simpa using h1)]; simpa using h2.symm
    rw [this]
    exact rsd_01 ht hm hw hR ⟨by omega, by have := ht.1; omega⟩ hj
  have a := sum_le (f := fun _ => (0 : Int)) (g := fun r => gi (rsd (stp t r)) j) fun r hr => (h1 r hr).1
  have b := sum_le (f := fun r => gi (rsd (stp t r)) j) (g := fun _ => (1 : Int)) fun r hr => (h1 r hr).2
  rw [sum_const] at a b
  have := ht.1
  omega
/-- raised alone in one row: counted more -/
theorem cnt_lt (ht : Rect t m w) (hm : 1 ≤ m) (hw : 1 ≤ w) (hR : RealT t m w) {i : Int} (hi : 0 ≤ i ∧ i < m) {j k : Int} (hj : 0 ≤ j ∧ j < w) (hk : 0 ≤ k ∧ k < w) (e0 : gi (rsd (stp t (row t i))) j = 0) (e1 : gi (rsd (stp t (row t i))) k = 1) : gi (cnt t w) j < gi (cnt t w) k := by
  rw [cnt_gi t hj, cnt_gi t hk]
  have hri : row t i ∈ t := mem_row ⟨hi.1, by have := ht.1; omega⟩
  refine sum_lt (y := row t i) (fun r hr => ?_) hri (by omega)
  obtain ⟨i', h1, h2⟩ := List.mem_iff_getElem.mp hr
  have hi' : 0 ≤ (i' : Int) ∧ (i' : Int) < m := ⟨by omega, by have := ht.1; omega⟩
  have : r = row t i' := by unfold row; rw [getD_get _ _ (by simpa using h1)]; simpa using h2.symm
  subst this
  have b1 := rsd_01 ht hm hw hR hi' hj
  have b2 := rsd_01 ht hm hw hR hi' hk
  have l1 := stp_len ht hm hri
  have l2 := stp_len ht hm hr
  rw [rsd_gi (by omega), stp_gi ht hm hri (by omega)] at e0 e1
  rw [rsd_gi (by omega), stp_gi ht hm hr (by omega)] at b1 b2 ⊢
  rw [rsd_gi (by omega), stp_gi ht hm hr (by omega)]
  have := real_all hR hi hi' hj hk
  unfold cr en at *
  omega
theorem rowsN_len (t : List (List Int)) (w : Nat) (u : Int) : (rowsN t w u).length = t.length := by
  unfold rowsN
  rw [List.length_map, List.length_zip, List.length_map, List.length_map, List.length_map]; omega
theorem cols_len (ht : Rect t m w) (hm : 1 ≤ m) (u : Int) : (cols t w u).length = w := by
  unfold cols
  rw [List.length_map, List.length_zip, cnt_len, len_row ht (by omega)]; omega
theorem rowsN_gi (ht : Rect t m w) (u : Int) {i : Int} (hi : 0 ≤ i ∧ i < m) : gi (rowsN t w u) i = rowN u (cnt t w) (stp t (row t i), rsd (stp t (row t i))) := by
  have := ht.1
  have hl := rowsN_len t w u
  unfold rowsN gi row at *
  rw [getD_get _ _ (by omega), getD_get _ _ (by omega), List.getElem_map, List.getElem_zip, List.getElem_map, List.getElem_map, List.getElem_map]
theorem cols_gi (ht : Rect t m w) (hm : 1 ≤ m) (u : Int) {j : Int} (hj : 0 ≤ j ∧ j < w) : gi (cols t w u) j = en t 0 j * u + gi (cnt t w) j := by
  unfold cols
  rw [gi_zip (by rw [len_row ht (by omega)]; omega) (by rw [cnt_len]; omega)]
theorem made_iff (ht : Rect t m w) (hm : 1 ≤ m) (hw : 1 ≤ w) : mkT (m + 1) (rowsN t w (m + 1)) (cols t w (m + 1)) = t ↔ RealT t m w := by
  have l1 := rowsN_len t w (m + 1)
  have l2 := cols_len ht hm (m + 1)
  have l0 := ht.1
  constructor
  · intro h
    have := mkT_real (u := m + 1) (R := rowsN t w (m + 1)) (C := cols t w (m + 1)) (by omega)
    rw [h, l1, l2, l0] at this
    exact this
  · intro hR
    have hrec := mkT_rect (u := m + 1) (R := rowsN t w (m + 1)) (C := cols t w (m + 1))
    rw [l1, l2, l0] at hrec
    refine ext_rect hrec ht fun i j i0 i1 j0 j1 => ?_
    rw [mkT_en (by omega) (by omega), rowsN_gi ht _ ⟨i0, i1⟩, cols_gi ht hm _ ⟨j0, j1⟩]
    have hri : row t i ∈ t := mem_row ⟨i0, by omega⟩
    have ls := stp_len ht hm hri
    have lc := cnt_len t w
    have cb := cnt_bd ht hm hw hR ⟨j0, j1⟩
    have e01 := rsd_01 ht hm hw hR ⟨i0, i1⟩ ⟨j0, j1⟩
    have hen : en t i j = en t 0 j + mn (stp t (row t i)) + gi (rsd (stp t (row t i))) j := by
      rw [rsd_gi (by omega), stp_gi ht hm hri ⟨j0, j1⟩]; unfold en; omega
    rw [hen]
    unfold rowN
    dsimp only
    generalize hs : stp t (row t i) = s at *
    have key : ∀ x : Int, 0 ≤ x → (x < m + 1 → gi (rsd s) j = 0) → (m + 1 ≤ x → gi (rsd s) j = 1) → x < 2 * (m + 1) → (mn s * (↑m + 1) + (x - gi (cnt t w) j) + (en t 0 j * (↑m + 1) + gi (cnt t w) j)) / (↑m + 1) = en t 0 j + mn s + gi (rsd s) j := by
      intro x x0 h1 h2 h3
      have e : mn s * (↑m + 1) + (x - gi (cnt t w) j) + (en t 0 j * (↑m + 1) + gi (cnt t w) j) = x + (↑m + 1) * (mn s + en t 0 j) := by
        generalize (m : Int) + 1 = M
        rw [Int.mul_comm (mn s) M, Int.mul_comm (en t 0 j) M, Int.mul_add]; omega
      rw [e, Int.add_mul_ediv_left _ _ (by omega)]
      by_cases hx : x < m + 1
      · rw [h1 hx, Int.ediv_eq_zero_of_lt x0 hx]; omega
      · have : x / (↑m + 1) = 1 := by
          have : x = (x - (m + 1)) + (m + 1) * 1 := by omega
          rw [this, Int.add_mul_ediv_left _ _ (by omega), Int.ediv_eq_zero_of_lt (by omega) (by omega)]; rfl
        rw [this, h2 (by omega)]; omega
    have lrs : (rsd s).length = w := rsd_len.trans ls
    have inH : ∀ k : Int, 0 ≤ k → k < w → 0 < gi (rsd s) k → gi (cnt t w) k ∈ high (cnt t w) (rsd s) := by
      intro k k0 k1 hk
      unfold high
      refine List.mem_map.mpr ⟨(gi (cnt t w) k, gi (rsd s) k), List.mem_filter.mpr ⟨zip_mem_ix k0 (by omega) (by omega), by simpa using hk⟩, rfl⟩
    have ofH : ∀ x ∈ high (cnt t w) (rsd s), ∃ k : Int, 0 ≤ k ∧ k < w ∧ gi (rsd s) k = 1 ∧ x = gi (cnt t w) k := by
      intro x hx
      unfold high at hx
      obtain ⟨p, hp, rfl⟩ := List.mem_map.mp hx
      obtain ⟨hp, hq⟩ := List.mem_filter.mp hp
      obtain ⟨k, k0, k1, k2, rfl⟩ := mem_zip_ix hp
      have hq := of_decide_eq_true hq
      have := rsd_01 ht hm hw hR ⟨i0, i1⟩ (j := k) ⟨k0, by omega⟩
      rw [hs] at this
      dsimp only at hq
      exact ⟨k, k0, by omega, by omega, rfl⟩
    by_cases hH : high (cnt t w) (rsd s) = []
    · have z : gi (rsd s) j = 0 := by
        by_cases hz : 0 < gi (rsd s) j
        · have := inH j j0 j1 hz
          rw [hH] at this; cases this
        · omega
      rw [if_neg (by simp [hH])]
      have := key (gi (cnt t w) j) cb.1 (fun _ => z) (by omega) (by omega)
      rw [Int.sub_self] at this
      exact this
    · rw [if_pos (by simp [hH])]
      obtain ⟨k, k0, k1, k2, k3⟩ := ofH _ (mn_mem hH)
      have ck := cnt_bd ht hm hw hR ⟨k0, k1⟩
      have := key (m + 1 - mn (high (cnt t w) (rsd s)) + gi (cnt t w) j) (by omega) ?_ ?_ (by omega)
      · rw [show (m : Int) + 1 - mn (high (cnt t w) (rsd s)) + gi (cnt t w) j - gi (cnt t w) j = m + 1 - mn (high (cnt t w) (rsd s)) by omega] at this
        exact this
      · intro hx
        by_cases hz : 0 < gi (rsd s) j
        · have := mn_le (inH j j0 j1 hz); omega
        · omega
      · intro hx
        by_cases hz : gi (rsd s) j = 0
        · have := cnt_lt ht hm hw hR ⟨i0, i1⟩ ⟨j0, j1⟩ ⟨k0, k1⟩ (by rw [hs]; exact hz) (by rw [hs]; exact k2)
          omega
        · omega
end
end PL

namespace PL
open PySem PySem.Spec PyProof.Rows L2
/-! ## more evaluation rules -/
section
variable {ρ : DEnv} {it it2 : DI} {tg tg2 : Tg} {ws ws2 : List Nat} {cond : DB} {elt a : DE} {α β : Type}
theorem ev_compL (xs : List α) (f : α → D) (c : α → Bool) (g : α → D) (hs : ∀ x ∈ xs, ∃ ρ1, bindT tg (.p (f x)) (ρ.wipe ws) = some ρ1 ∧ cond ρ1 = some (c x) ∧ (c x = true → elt ρ1 = some (g x))) :
    compL tg ws cond elt ρ ((xs.map f).map .p) = some ((xs.filter c).map g) := by
  induction xs with
  | nil => rfl
  | cons x l ih =>
    obtain ⟨ρ1, b1, b2, b3⟩ := hs x List.mem_cons_self
    rw [List.map_cons, List.map_cons]
    unfold compL
    have ih' := ih fun y hy => hs y (List.mem_cons_of_mem _ hy)
    rw [b1]
    simp only [Option.bind_some, b2, ih']
    cases hc : c x with
    | true => rw [List.filter_cons_of_pos hc, if_pos rfl, b3 hc]; rfl
    | false => rw [List.filter_cons_of_neg (by rw [hc]; decide), if_neg (by decide)]
theorem ev_comp2 (xs : List α) (f : α → D) (ys : α → List β) (g : β → D) (c : α → β → Bool) (h : α → β → D) (hit : it ρ = some ((xs.map f).map .p))
    (hs : ∀ x ∈ xs, ∃ ρ1, bindT tg (.p (f x)) (ρ.wipe ws) = some ρ1 ∧ it2 ρ1 = some (((ys x).map g).map .p) ∧ ∀ y ∈ ys x, ∃ ρ2, bindT tg2 (.p (g y)) (ρ1.wipe ws2) = some ρ2 ∧ cond ρ2 = some (c x y) ∧ (c x y = true → elt ρ2 = some (h x y)))
    (hl : (xs.flatMap fun x => ((ys x).filter (c x)).map (h x)).length ≤ 16777216) : eComp2 it tg ws it2 tg2 ws2 cond elt ρ = some (xs.flatMap fun x => ((ys x).filter (c x)).map (h x)) := by
  have main : ∀ l : List α, (∀ x ∈ l, x ∈ xs) → compL2 tg ws it2 tg2 ws2 cond elt ρ ((l.map f).map .p) = some (l.flatMap fun x => ((ys x).filter (c x)).map (h x)) := by
    intro l
    induction l with
    | nil => intro _; rfl
    | cons x l ih =>
      intro hm
      obtain ⟨ρ1, b1, b2, b3⟩ := hs x (hm x List.mem_cons_self)
      rw [List.map_cons, List.map_cons]
      unfold compL2
      rw [b1]
      simp only [Option.bind_some, b2, ev_compL (ys x) g (c x) (h x) b3, ih fun y hy => hm y (List.mem_cons_of_mem _ hy), Option.map_some, List.flatMap_cons]
  unfold eComp2
  rw [hit, Option.bind_some, main xs fun _ h => h, Option.bind_some, if_pos (szB_of hl)]
theorem flatMap_len {γ : Type} (f : α → List γ) (k : Nat) : ∀ xs : List α, (∀ x ∈ xs, (f x).length ≤ k) → (xs.flatMap f).length ≤ xs.length * k
  | [], _ => by simp
  | x :: xs, h => by
    rw [List.flatMap_cons, List.length_append, List.length_cons, Nat.add_mul]
    have h1 := h x List.mem_cons_self
    have h2 := flatMap_len f k xs fun y hy => h y (List.mem_cons_of_mem _ hy)
    omega
theorem g_all (bs : List Bool) : b1 gAll [.lst (bs.map .bl)] = some (.bl (bs.all id)) := by
  show (blsD (bs.map .bl)).map _ = _
  rw [blsD_map]; rfl
theorem ev_sortset {l : List Int} (h : a ρ = some (ofI l)) (hl : l.length < 64) : eNew (dSortSet a) ρ = some (ofI (sset l)) := by
  refine ev_new ?_
  unfold dSortSet
  rw [h]
  show (intsD (l.map .int)).bind _ = _
  rw [intsD_map]
  show (if l.length < 64 then _ else _) = _
  rw [if_pos hl]
theorem ev_callD {F : List D → Option D} {dd ds : List D} {fl : DL} {z : D} (h : fl ρ = some ds) (h2 : F (ds ++ dd) = some z) : eCallD F dd fl ρ = some z := by unfold eCallD; rw [h]; exact h2
theorem ev_disp3 {k1 k2 k3 k : Str} {f1 f2 f3 fk : DE} {d1 d2 d3 d : D} (h1 : f1 ρ = some d1) (h2 : f2 ρ = some d2) (h3 : f3 ρ = some d3) (hk : fk ρ = some (.str k)) (h : pick3 k1 k2 k3 d1 d2 d3 (.str k) = some d) : eDisp3 k1 k2 k3 f1 f2 f3 fk ρ = some d := by
  unfold eDisp3; rw [h1, h2, h3, hk]; exact h
end
theorem sset_const {w : Int} : ∀ {l : List Int}, l ≠ [] → (∀ x ∈ l, x = w) → sset l = [w] := fun {l} h0 h => by
  refine lt_unique (sset_lt l) (by simp) fun k => ?_
  rw [sset_mem, List.mem_singleton]
  constructor
  · exact h k
  · rintro rfl
    cases l with
    | nil => exact absurd rfl h0
    | cons a l => rw [h a List.mem_cons_self]; exact List.mem_cons_self
theorem eqv_str (a b : Str) : D.eqv (.str a) (.str b) = decide (a = b) := by
  show PyData.eqv (.str a) (.str b) = _
  simp only [PyData.eqv]
  by_cases h : a = b <;> simp [h]
theorem g_eqS {a b : Str} (ha : PyData.strOk a = true) (hb : PyData.strOk b = true) : gEq (.str a) (.str b) = some (.bl (decide (a = b))) := by
  unfold gEq
  rw [show (D.str a).ok 50 = true from ha, show (D.str b).ok 50 = true from hb, eqv_str]; rfl
theorem g_neS {a b : Str} (ha : PyData.strOk a = true) (hb : PyData.strOk b = true) : gNe (.str a) (.str b) = some (.bl (!decide (a = b))) := by
  unfold gNe
  rw [show (D.str a).ok 50 = true from ha, show (D.str b).ok 50 = true from hb, eqv_str]; rfl
end PL
namespace PL
open PySem PySem.Spec PyProof.Rows L2
theorem it_z3 {ρ : DEnv} {a b c : DE} {x y z : D} {b1 b2 b3 : Bool} {α β γ : Type} {f : α → D} {g : β → D} {h : γ → D} {as : List α} {bs : List β} {cs : List γ} (h1 : a ρ = some x) (h2 : b ρ = some y) (h3 : c ρ = some z) (q1 : seqD x = some (b1, as.map f)) (q2 : seqD y = some (b2, bs.map g)) (q3 : seqD z = some (b3, cs.map h)) :
    iZ3 a b c ρ = some (((as.zip (bs.zip cs)).map fun p => D.tup [f p.1, g p.2.1, h p.2.2]).map .p) := by
  unfold iZ3; rw [h1, h2, h3]
  show (seqD x).bind _ = _
  rw [q1]; show (seqD y).bind _ = _; rw [q2]; show (seqD z).map _ = _; rw [q3, Option.map_some, zip3D_map]
theorem g_repI {n : Nat} (k : Int) (hn : n ≤ 16777216) : gRep (.lst [.int k]) (.int n) = some (ofI (List.replicate n k)) := by
  have e : (List.replicate (n : Int).toNat [D.int k]).flatten = (List.replicate n k).map .int := by
    rw [Int.toNat_natCast]
    clear hn
    induction n with
    | zero => rfl
    | succ n ih => rw [List.replicate_succ, List.flatten_cons, ih, List.replicate_succ, List.map_cons]; rfl
  simp only [gRep]
  rw [if_pos ⟨⟨by omega, by omega⟩, by simp only [List.length_singleton, Int.toNat_natCast]; omega⟩, e]
  rfl
/-- filtered ranges -/
theorem new_compNF {ρ : DEnv} {ws : List Nat} {elt : DE} {cond : DB} {β : Type} (emb : β → D) {lo hi : DE} (n : Nat) (h : Nat → β) (p : Nat → Bool) {j : Nat} (h1 : lo ρ = some (.int 0)) (h2 : hi ρ = some (.int n)) (hl : n ≤ 16777216) (hc : ∀ k, k < n → cond ((ρ.wipe ws).set j (.p (.int (k : Nat)))) = some (p k))
    (hs : ∀ k, k < n → p k = true → elt ((ρ.wipe ws).set j (.p (.int (k : Nat)))) = some (emb (h k))) : eNew (eComp (iRng lo hi) (.nm j) ws cond elt) ρ = some (.lst ((((List.range n).filter p).map h).map emb)) := by
  have := rng_eval 0 n h1 h2 (by omega) (by omega)
  rw [Nat.sub_zero] at this
  refine new_compF emb (List.range n) _ h p this (by rw [List.length_range]; exact hl) (fun k hk => ?_) (fun k hk hp => ?_)
  · have := hc k (List.mem_range.mp hk)
    rw [Nat.zero_add]
    exact this
  · have := hs k (List.mem_range.mp hk) hp
    rw [Nat.zero_add]
    exact this
end PL

namespace PL
/-! ## levels of columns: plain -/
theorem nodup_lt : ∀ (n : Nat) (l : List Int), l.Nodup → (∀ x ∈ l, 0 ≤ x ∧ x < n) → l.length ≤ n
  | 0, [], _, _ => Nat.le_refl _
  | 0, x :: l, _, h => by have := h x List.mem_cons_self; omega
  | n + 1, l, hn, h => by
    have h1 := nodup_lt n (l.erase (n : Int)) (hn.erase _) fun x hx => by
      have := h x (List.mem_of_mem_erase hx)
      have hne : x ≠ (n : Int) := fun e => by
        subst e
        exact (List.Nodup.not_mem_erase hn) hx
      omega
    have := List.length_erase (l := l) (a := (n : Int))
    split at this <;> omega
theorem lt_nodup {l : List Int} (h : l.Pairwise (· < ·)) : l.Nodup := h.imp fun h => Int.ne_of_lt h
/-- the place in a rising list -/
def pos (l : List Int) (x : Int) : Int := (l.findIdx fun y => decide (y = x) : Nat)
theorem pos_bd {l : List Int} {x : Int} (h : x ∈ l) : 0 ≤ pos l x ∧ pos l x < l.length := by
  unfold pos
  have := List.findIdx_lt_length_of_exists (xs := l) (p := fun y => decide (y = x)) ⟨x, h, by simp⟩
  omega
theorem pos_gi {l : List Int} {x : Int} (h : x ∈ l) : gi l (pos l x) = x := by
  have hb := List.findIdx_lt_length_of_exists (xs := l) (p := fun y => decide (y = x)) ⟨x, h, by simp⟩
  have := List.findIdx_getElem (w := hb)
  unfold gi pos
  rw [getD_get _ _ (by simpa using hb)]
  simpa using this
theorem gi_lt {l : List Int} (h : l.Pairwise (· < ·)) {i j : Int} (i0 : 0 ≤ i) (hij : i < j) (hj : j < l.length) : gi l i < gi l j := by
  unfold gi
  rw [getD_get _ _ (by omega), getD_get _ _ (by omega)]
  exact List.pairwise_iff_getElem.mp h _ _ (by omega) (by omega) (by omega)
theorem pos_lt {l : List Int} (h : l.Pairwise (· < ·)) {x y : Int} (hx : x ∈ l) (hy : y ∈ l) : pos l x < pos l y ↔ x < y := by
  have bx := pos_bd hx
  have by' := pos_bd hy
  have gx := pos_gi hx
  have gy := pos_gi hy
  constructor
  · intro hlt
    have := gi_lt h bx.1 hlt by'.2
    omega
  · intro hlt
    rcases Int.lt_trichotomy (pos l x) (pos l y) with h1 | h1 | h1
    · exact h1
    · rw [h1, gy] at gx; omega
    · have := gi_lt h by'.1 h1 bx.2
      omega
theorem pos_of_gi {l : List Int} (h : l.Pairwise (· < ·)) {i : Int} (hi : 0 ≤ i ∧ i < l.length) : pos l (gi l i) = i := by
  have hm := mem_gi hi
  have b := pos_bd hm
  have g := pos_gi hm
  rcases Int.lt_trichotomy (pos l (gi l i)) i with h1 | h1 | h1
  · have := gi_lt h b.1 h1 hi.2; omega
  · exact h1
  · have := gi_lt h hi.1 h1 b.2; omega
/-- ranks -/
def kinds (t : List (List Int)) (w : Nat) : List Int := sset (cnt t w)
def rk (t : List (List Int)) (w : Nat) : List Int := (cnt t w).map (pos (kinds t w))
def un (t : List (List Int)) (w : Nat) : Nat := (kinds t w).length
theorem kinds_mem {t : List (List Int)} {w : Nat} {j : Int} (hj : 0 ≤ j ∧ j < w) : gi (cnt t w) j ∈ kinds t w := sset_mem.mpr (mem_gi (by rw [cnt_len]; exact hj))
theorem rk_len (t : List (List Int)) (w : Nat) : (rk t w).length = w := by unfold rk; rw [List.length_map, cnt_len]
theorem rk_gi {t : List (List Int)} {w : Nat} {j : Int} (hj : 0 ≤ j ∧ j < w) : gi (rk t w) j = pos (kinds t w) (gi (cnt t w) j) := gi_map (by rw [cnt_len]; exact hj)
theorem rk_bd {t : List (List Int)} {w : Nat} {j : Int} (hj : 0 ≤ j ∧ j < w) : 0 ≤ gi (rk t w) j ∧ gi (rk t w) j < un t w := by rw [rk_gi hj]; exact pos_bd (kinds_mem hj)
theorem rk_lt {t : List (List Int)} {w : Nat} {j k : Int} (hj : 0 ≤ j ∧ j < w) (hk : 0 ≤ k ∧ k < w) : gi (rk t w) j < gi (rk t w) k ↔ gi (cnt t w) j < gi (cnt t w) k := by
  rw [rk_gi hj, rk_gi hk]; exact pos_lt (sset_lt _) (kinds_mem hj) (kinds_mem hk)
/-- each rank is some column's -/
theorem rk_onto {t : List (List Int)} {w : Nat} {v : Int} (hv : 0 ≤ v ∧ v < un t w) : ∃ j : Int, 0 ≤ j ∧ j < w ∧ gi (rk t w) j = v := by
  have hm : gi (kinds t w) v ∈ cnt t w := sset_mem.mp (mem_gi hv)
  obtain ⟨j, j0, j1, j2⟩ := mem_ix hm
  rw [cnt_len] at j1
  exact ⟨j, j0, j1, by rw [rk_gi ⟨j0, j1⟩, j2]; exact pos_of_gi (sset_lt (cnt t w)) hv⟩
theorem sset_len (l : List Int) : (sset l).length ≤ l.length := by
  unfold sset
  induction l with
  | nil => exact Nat.le_refl _
  | cons a l ih =>
    rw [List.foldr_cons, List.length_cons]
    have : ∀ (k : Int) (xs : List Int), (insI k xs).length ≤ xs.length + 1 := by
      intro k xs
      induction xs with
      | nil => simp [insI]
      | cons x xs ih =>
        unfold insI
        split
        · simp
        · split
          · simp
          · simp only [List.length_cons]; omega
    exact Nat.le_trans (this _ _) (Nat.succ_le_succ ih)
theorem un_le_w (t : List (List Int)) (w : Nat) : un t w ≤ w := by
  have := sset_len (cnt t w)
  rw [cnt_len] at this; exact this
theorem un_pos {t : List (List Int)} {w : Nat} (hw : 1 ≤ w) : 1 ≤ un t w := by
  have := (rk_bd (t := t) (w := w) (j := 0) (by omega))
  omega
theorem foldl_max_le : ∀ (l : List Int) (a : Int), a ≤ l.foldl max a ∧ ∀ x ∈ l, x ≤ l.foldl max a
  | [], a => ⟨Int.le_refl _, by simp⟩
  | b :: l, a => by
    obtain ⟨h1, h2⟩ := foldl_max_le l (max a b)
    rw [List.foldl_cons]
    refine ⟨by omega, fun x hx => ?_⟩
    rcases List.mem_cons.mp hx with rfl | hx
    · omega
    · exact h2 x hx
theorem foldl_max_in : ∀ (l : List Int) (a : Int), l.foldl max a = a ∨ l.foldl max a ∈ l
  | [], a => .inl rfl
  | b :: l, a => by
    rw [List.foldl_cons]
    rcases foldl_max_in l (max a b) with h | h
    · rw [h]
      by_cases hab : b ≤ a
      · left; omega
      · right; rw [show max a b = b by omega]; exact List.mem_cons_self
    · exact .inr (List.mem_cons_of_mem _ h)
theorem le_mx {l : List Int} {x : Int} (h : x ∈ l) : x ≤ mx l := by
  cases l with
  | nil => exact absurd h (by simp)
  | cons a l =>
    rcases List.mem_cons.mp h with e | h
    · rw [e]; exact (foldl_max_le l a).1
    · exact (foldl_max_le l a).2 x h
theorem mx_mem {l : List Int} (h : l ≠ []) : mx l ∈ l := by
  cases l with
  | nil => exact absurd rfl h
  | cons a l =>
    show l.foldl max a ∈ _
    rcases foldl_max_in l a with h | h
    · rw [h]; exact List.mem_cons_self
    · exact List.mem_cons_of_mem _ h
theorem mx_rk {t : List (List Int)} {w : Nat} (hw : 1 ≤ w) : mx (rk t w) + 1 = un t w := by
  have hp := un_pos (t := t) hw
  have hne : rk t w ≠ [] := by intro h; have := rk_len t w; rw [h] at this; simp at this; omega
  obtain ⟨j, j0, j1, j2⟩ := rk_onto (t := t) (w := w) (v := un t w - 1) (by omega)
  have h1 := le_mx (mem_gi (l := rk t w) (i := j) (by rw [rk_len]; omega))
  obtain ⟨k, k0, k1, k2⟩ := mem_ix (mx_mem hne)
  rw [rk_len] at k1
  have h2 := rk_bd (t := t) (w := w) (j := k) ⟨k0, k1⟩
  omega
section
variable {t : List (List Int)} {m w : Nat}
theorem cnt_bd' (ht : Rect t m w) (hm : 1 ≤ m) (hw : 1 ≤ w) (hR : RealT t m w) {j : Int} (hj : 0 ≤ j ∧ j < w) : 0 ≤ gi (cnt t w) j ∧ gi (cnt t w) j < m := by
  refine ⟨(cnt_bd ht hm hw hR hj).1, ?_⟩
  rw [cnt_gi t hj]
  have h0 : row t 0 ∈ t := mem_row ⟨by omega, by have := ht.1; omega⟩
  have e0 : ∀ j : Int, 0 ≤ j → j < w → gi (stp t (row t 0)) j = 0 := fun j a b => by rw [stp_gi ht hm h0 ⟨a, b⟩]; unfold en; omega
  have hl := stp_len ht hm h0
  have e1 : gi (rsd (stp t (row t 0))) j = 0 := by
    rw [rsd_gi (by omega), e0 j hj.1 hj.2]
    obtain ⟨k, k0, k1, k2⟩ := mem_ix (mn_mem (l := stp t (row t 0)) (by intro h; rw [h] at hl; simp at hl; omega))
    rw [← k2, e0 k k0 (by omega)]; rfl
  have h1 : ∀ r ∈ t, gi (rsd (stp t r)) j ≤ 1 := by
    intro r hr
    obtain ⟨i, h1, h2⟩ := List.mem_iff_getElem.mp hr
    have : r = row t i := by unfold row; rw [getD_get _ _ (by simpa using h1)]; simpa using h2.symm
    rw [this]
    exact (rsd_01 ht hm hw hR ⟨by omega, by have := ht.1; omega⟩ hj).2
  have b := sum_lt (f := fun r => gi (rsd (stp t r)) j) (g := fun _ => (1 : Int)) h1 h0 (by show gi (rsd (stp t (row t 0))) j < 1; omega)
  rw [sum_const] at b
  have := ht.1
  omega
theorem un_le_m (ht : Rect t m w) (hm : 1 ≤ m) (hw : 1 ≤ w) (hR : RealT t m w) : un t w ≤ m := by
  refine nodup_lt m (kinds t w) (lt_nodup (sset_lt _)) fun x hx => ?_
  obtain ⟨j, j0, j1, j2⟩ := mem_ix (sset_mem.mp hx)
  rw [cnt_len] at j1
  rw [← j2]; exact cnt_bd' ht hm hw hR ⟨j0, j1⟩
/-! ### numbers from levels -/
def colL (t : List (List Int)) (L : List Int) (u : Int) : List Int := ((row t 0).zip L).map fun p => p.1 * u + p.2
theorem colL_gi {L : List Int} {u j : Int} (h0 : (row t 0).length = w) (hL : L.length = w) (hj : 0 ≤ j ∧ j < w) : gi (colL t L u) j = en t 0 j * u + gi L j := gi_zip (by omega) (by omega)
theorem colL_len {L : List Int} {u : Int} (h0 : (row t 0).length = w) (hL : L.length = w) : (colL t L u).length = w := by unfold colL; rw [List.length_map, List.length_zip]; omega
/-- raised columns by their levels -/
def highL (t : List (List Int)) (L : List Int) (r : List Int) : List Int := ((L.zip (r.zip (row t 0))).filter fun p => decide (mn (stp t r) < p.2.1 - p.2.2)).map fun p => p.1
def rowL (t : List (List Int)) (L : List Int) (u : Int) (r : List Int) : Int := mn (stp t r) * u + (if (!decide (highL t L r = [])) = true then u - mn (highL t L r) else 0)
theorem zip3_ix {a b c : List Int} {p : Int × Int × Int} (h : p ∈ a.zip (b.zip c)) : ∃ i : Int, 0 ≤ i ∧ i < a.length ∧ i < b.length ∧ i < c.length ∧ p = (gi a i, gi b i, gi c i) := by
  obtain ⟨i, h1, h2⟩ := List.mem_iff_getElem.mp h
  rw [List.length_zip, List.length_zip] at h1
  refine ⟨i, by omega, by omega, by omega, by omega, ?_⟩
  rw [List.getElem_zip, List.getElem_zip] at h2
  unfold gi
  rw [getD_get _ _ (by simp; omega), getD_get _ _ (by simp; omega), getD_get _ _ (by simp; omega)]
  simp only [Int.toNat_natCast]
  exact h2.symm
theorem zip3_mem {a b c : List Int} {i : Int} (h0 : 0 ≤ i) (h1 : i < a.length) (h2 : i < b.length) (h3 : i < c.length) : (gi a i, gi b i, gi c i) ∈ a.zip (b.zip c) := by
  unfold gi
  rw [getD_get _ _ (by omega), getD_get _ _ (by omega), getD_get _ _ (by omega)]
  rw [List.mem_iff_getElem]
  exact ⟨i.toNat, by rw [List.length_zip, List.length_zip]; omega, by rw [List.getElem_zip, List.getElem_zip]⟩
theorem made_lv (ht : Rect t m w) (hm : 1 ≤ m) (hw : 1 ≤ w) (hR : RealT t m w) {L : List Int} {u : Int} (hu : 0 < u) (hL : L.length = w) (hb : ∀ j : Int, 0 ≤ j → j < w → 0 ≤ gi L j ∧ gi L j < u)
    (hlt : ∀ j k : Int, 0 ≤ j → j < w → 0 ≤ k → k < w → gi (cnt t w) j < gi (cnt t w) k → gi L j < gi L k) : mkT u (t.map (rowL t L u)) (colL t L u) = t := by
  have l0 := ht.1
  have r0 := len_row ht (i := 0) (by omega)
  have l2 := colL_len (L := L) (u := u) r0 hL
  have hrec := mkT_rect (u := u) (R := t.map (rowL t L u)) (C := colL t L u)
  rw [l2, List.length_map, l0] at hrec
  refine ext_rect hrec ht fun i j i0 i1 j0 j1 => ?_
  have hgr : gi (t.map (rowL t L u)) i = rowL t L u (row t i) := by
    unfold gi row
    rw [getD_get _ _ (by rw [List.length_map]; omega), getD_get _ _ (by omega), List.getElem_map]
  rw [mkT_en ⟨i0, by rw [List.length_map]; omega⟩ (by omega), hgr, colL_gi r0 hL ⟨j0, j1⟩]
  have hri : row t i ∈ t := mem_row ⟨i0, by omega⟩
  have lr := ht.2 _ hri
  have ls := stp_len ht hm hri
  have cb := hb j j0 j1
  have e01 := rsd_01 ht hm hw hR ⟨i0, i1⟩ ⟨j0, j1⟩
  have hrs : ∀ k : Int, 0 ≤ k → k < w → gi (rsd (stp t (row t i))) k = en t i k - en t 0 k - mn (stp t (row t i)) := fun k a b => by rw [rsd_gi (by omega), stp_gi ht hm hri ⟨a, b⟩]
  have hen : en t i j = en t 0 j + mn (stp t (row t i)) + gi (rsd (stp t (row t i))) j := by rw [hrs j j0 j1]; omega
  rw [hen]
  unfold rowL
  have key : ∀ x : Int, 0 ≤ x → (x < u → gi (rsd (stp t (row t i))) j = 0) → (u ≤ x → gi (rsd (stp t (row t i))) j = 1) → x < 2 * u → (mn (stp t (row t i)) * u + (x - gi L j) + (en t 0 j * u + gi L j)) / u = en t 0 j + mn (stp t (row t i)) + gi (rsd (stp t (row t i))) j := by
    intro x x0 h1 h2 h3
    have e : mn (stp t (row t i)) * u + (x - gi L j) + (en t 0 j * u + gi L j) = x + u * (mn (stp t (row t i)) + en t 0 j) := by
      rw [Int.mul_comm (mn (stp t (row t i))) u, Int.mul_comm (en t 0 j) u, Int.mul_add]; omega
    rw [e, Int.add_mul_ediv_left _ _ (by omega)]
    by_cases hx : x < u
    · rw [h1 hx, Int.ediv_eq_zero_of_lt x0 hx]; omega
    · have : x / u = 1 := by
        have : x = (x - u) + u * 1 := by omega
        rw [this, Int.add_mul_ediv_left _ _ (by omega), Int.ediv_eq_zero_of_lt (by omega) (by omega)]; rfl
      rw [this, h2 (by omega)]; omega
  have inH : ∀ k : Int, 0 ≤ k → k < w → 0 < gi (rsd (stp t (row t i))) k → gi L k ∈ highL t L (row t i) := by
    intro k k0 k1 hk
    rw [hrs k k0 k1] at hk
    refine List.mem_map.mpr ⟨(gi L k, gi (row t i) k, gi (row t 0) k), List.mem_filter.mpr ⟨zip3_mem k0 (by omega) (by omega) (by omega), ?_⟩, rfl⟩
    refine decide_eq_true ?_
    show mn (stp t (row t i)) < gi (row t i) k - gi (row t 0) k
    unfold en at hk
    omega
  have ofH : ∀ x ∈ highL t L (row t i), ∃ k : Int, 0 ≤ k ∧ k < w ∧ gi (rsd (stp t (row t i))) k = 1 ∧ x = gi L k := by
    intro x hx
    obtain ⟨p, hp, rfl⟩ := List.mem_map.mp hx
    obtain ⟨hp, hq⟩ := List.mem_filter.mp hp
    obtain ⟨k, k0, k1, k2, k3, rfl⟩ := zip3_ix hp
    have hq := of_decide_eq_true hq
    have := rsd_01 ht hm hw hR ⟨i0, i1⟩ (j := k) ⟨k0, by omega⟩
    have e := hrs k k0 (by omega)
    dsimp only at hq
    unfold en at e
    exact ⟨k, k0, by omega, by omega, rfl⟩
  by_cases hH : highL t L (row t i) = []
  · have z : gi (rsd (stp t (row t i))) j = 0 := by
      by_cases hz : 0 < gi (rsd (stp t (row t i))) j
      · have := inH j j0 j1 hz
        rw [hH] at this; cases this
      · omega
    rw [if_neg (by simp [hH])]
    have := key (gi L j) cb.1 (fun _ => z) (by omega) (by omega)
    rw [Int.sub_self] at this
    exact this
  · rw [if_pos (by simp [hH])]
    obtain ⟨k, k0, k1, k2, k3⟩ := ofH _ (mn_mem hH)
    have ck := hb k k0 k1
    have := key (u - mn (highL t L (row t i)) + gi L j) (by omega) ?_ ?_ (by omega)
    · rw [show u - mn (highL t L (row t i)) + gi L j - gi L j = u - mn (highL t L (row t i)) by omega] at this
      exact this
    · intro hx
      by_cases hz : 0 < gi (rsd (stp t (row t i))) j
      · have := mn_le (inH j j0 j1 hz); omega
      · omega
    · intro hx
      by_cases hz : gi (rsd (stp t (row t i))) j = 0
      · have := hlt j k j0 j1 k0 k1 (cnt_lt ht hm hw hR ⟨i0, i1⟩ ⟨j0, j1⟩ ⟨k0, k1⟩ hz k2)
        omega
      · omega
/-- columns with the same part are alike in all rows: as many parts as kinds -/
theorem un_le_parts (ht : Rect t m w) (hm : 1 ≤ m) (hw : 1 ≤ w) {u : Nat} {X P : List Int} (hu : 0 < u) (hX : X.length = m) (hP : P.length = w) (hb : ∀ j : Int, 0 ≤ j → j < w → 0 ≤ gi P j ∧ gi P j < u) (h : mkT u X (colL t P u) = t) : un t w ≤ u := by
  have r0 := len_row ht (i := 0) (by omega)
  have l0 := ht.1
  have same : ∀ j k : Int, 0 ≤ j → j < w → 0 ≤ k → k < w → gi P j = gi P k → gi (cnt t w) j = gi (cnt t w) k := by
    intro j k j0 j1 k0 k1 e
    have hen : ∀ i : Int, 0 ≤ i → i < m → en t i j - en t 0 j = en t i k - en t 0 k := by
      intro i i0 i1
      have lc := colL_len (t := t) (L := P) (u := u) r0 hP
      have a := mkT_en (u := u) (R := X) (C := colL t P u) (i := i) (j := j) (by omega) (by omega)
      have b := mkT_en (u := u) (R := X) (C := colL t P u) (i := i) (j := k) (by omega) (by omega)
      rw [h, colL_gi r0 hP ⟨j0, j1⟩] at a
      rw [h, colL_gi r0 hP ⟨k0, k1⟩] at b
      have e1 : gi X i + (en t 0 j * ↑u + gi P j) = (gi X i + gi P j) + ↑u * en t 0 j := by rw [Int.mul_comm (en t 0 j)]; omega
      have e2 : gi X i + (en t 0 k * ↑u + gi P k) = (gi X i + gi P j) + ↑u * en t 0 k := by rw [Int.mul_comm (en t 0 k), e]; omega
      rw [e1, Int.add_mul_ediv_left _ _ (by omega)] at a
      rw [e2, Int.add_mul_ediv_left _ _ (by omega)] at b
      omega
    rw [cnt_gi t ⟨j0, j1⟩, cnt_gi t ⟨k0, k1⟩]
    congr 1
    apply List.map_congr_left
    intro r hr
    obtain ⟨i, h1, h2⟩ := List.mem_iff_getElem.mp hr
    have hri : r = row t i := by unfold row; rw [getD_get _ _ (by simpa using h1)]; simpa using h2.symm
    subst hri
    have ls := stp_len ht hm hr
    rw [rsd_gi (by omega), rsd_gi (by omega), stp_gi ht hm hr ⟨j0, j1⟩, stp_gi ht hm hr ⟨k0, k1⟩]
    have := hen i (by omega) (by omega)
    unfold en at *
    omega
  -- a column of each kind
  have hch : ∀ v : Int, ∃ j : Int, v ∈ kinds t w → 0 ≤ j ∧ j < w ∧ gi (cnt t w) j = v := fun v => by
    by_cases hv : v ∈ kinds t w
    · obtain ⟨j, j0, j1, j2⟩ := mem_ix (sset_mem.mp hv)
      rw [cnt_len] at j1
      exact ⟨j, fun _ => ⟨j0, j1, j2⟩⟩
    · exact ⟨0, fun h => absurd h hv⟩
  obtain ⟨f, hf⟩ := Classical.axiomOfChoice hch
  have hl : ((kinds t w).map fun v => gi P (f v)).length ≤ u := by
    refine nodup_lt u _ ?_ fun x hx => ?_
    · refine List.pairwise_map.mpr ((lt_nodup (sset_lt (cnt t w))).imp_of_mem fun {a b} ha hb' hab e => hab ?_)
      obtain ⟨a0, a1, a2⟩ := hf a ha
      obtain ⟨b0, b1, b2⟩ := hf b hb'
      rw [← a2, ← b2]
      exact same _ _ a0 a1 b0 b1 e
    · obtain ⟨v, hv, rfl⟩ := List.mem_map.mp hx
      obtain ⟨a0, a1, -⟩ := hf v hv
      exact hb _ a0 a1
  rw [List.length_map] at hl
  exact hl
end
end PL

namespace PL
/-! ## least ways: plain -/
abbrev Ways := Nat → Nat → Option Int
def LeO (a : Option Int) (v : Int) : Prop := ∃ x, a = some x ∧ x ≤ v
def stepW (f : Ways) (k : Nat) : Ways := fun i j => match f i k, f k j with
  | some a, some b => match f i j with | some c => some (if a + b < c then a + b else c) | none => some (a + b)
  | _, _ => f i j
def Tri (f : Ways) (k : Nat) : Prop := ∀ i j m, m < k → ∀ a b, f i m = some a → f m j = some b → LeO (f i j) (a + b)
theorem step_le {f : Ways} {k i j : Nat} {c : Int} (h : f i j = some c) : LeO (stepW f k i j) c := by
  unfold stepW
  split
  · rw [h]
    exact ⟨_, rfl, by split <;> omega⟩
  · exact ⟨c, h, Int.le_refl _⟩
theorem step_via {f : Ways} {k i j : Nat} {a b : Int} (h1 : f i k = some a) (h2 : f k j = some b) : LeO (stepW f k i j) (a + b) := by
  unfold stepW
  rw [h1, h2]
  cases f i j with
  | none => exact ⟨_, rfl, Int.le_refl _⟩
  | some c => exact ⟨_, rfl, by split <;> omega⟩
theorem step_cases {f : Ways} {k i j : Nat} {v : Int} (h : stepW f k i j = some v) : f i j = some v ∨ ∃ a b, f i k = some a ∧ f k j = some b ∧ v = a + b := by
  unfold stepW at h
  split at h
  · rename_i a b h1 h2
    cases e : f i j with
    | none => rw [e] at h; cases h; exact .inr ⟨a, b, h1, h2, rfl⟩
    | some c =>
      rw [e] at h
      have h : some (if a + b < c then a + b else c) = some v := h
      cases h
      split
      · exact .inr ⟨a, b, h1, h2, rfl⟩
      · exact .inl rfl
  · exact .inl h
theorem LeO.trans {a : Option Int} {v w : Int} (h : LeO a v) (k : v ≤ w) : LeO a w := let ⟨x, e, l⟩ := h; ⟨x, e, Int.le_trans l k⟩
theorem tri_step {f : Ways} {k : Nat} (hk : ∀ v, f k k = some v → 0 ≤ v) (h : Tri f k) : Tri (stepW f k) (k + 1) := by
  intro i j m hm a b h1 h2
  have viaK : ∀ {x y : Int}, f i k = some x → f k j = some y → x + y ≤ a + b → LeO (stepW f k i j) (a + b) := fun hx hy hl => (step_via hx hy).trans hl
  by_cases e : m = k
  · subst e
    have g1 : LeO (f i m) a := by
      rcases step_cases h1 with h | ⟨x, y, hx, hy, rfl⟩
      · exact ⟨a, h, Int.le_refl _⟩
      · have := hk _ hy; exact ⟨x, hx, by omega⟩
    have g2 : LeO (f m j) b := by
      rcases step_cases h2 with h | ⟨x, y, hx, hy, rfl⟩
      · exact ⟨b, h, Int.le_refl _⟩
      · have := hk _ hx; exact ⟨y, hy, by omega⟩
    obtain ⟨x, hx, lx⟩ := g1
    obtain ⟨y, hy, ly⟩ := g2
    exact viaK hx hy (by omega)
  · have hm : m < k := by omega
    rcases step_cases h1 with p1 | ⟨x1, y1, p1, q1, rfl⟩
    · rcases step_cases h2 with p2 | ⟨x2, y2, p2, q2, rfl⟩
      · obtain ⟨c, hc, lc⟩ := h i j m hm a b p1 p2
        exact (step_le hc).trans lc
      · obtain ⟨c, hc, lc⟩ := h i k m hm a x2 p1 p2
        exact viaK hc q2 (by omega)
    · rcases step_cases h2 with p2 | ⟨x2, y2, p2, q2, rfl⟩
      · obtain ⟨c, hc, lc⟩ := h k j m hm y1 b q1 p2
        exact viaK p1 hc (by omega)
      · obtain ⟨c, hc, lc⟩ := h k k m hm y1 x2 q1 p2
        have := hk _ hc
        exact viaK p1 q2 (by omega)
/-- between bounds -/
theorem between (L U : List Int) (h : ∀ l ∈ L, ∀ u ∈ U, l ≤ u) : ∃ x, (∀ l ∈ L, l ≤ x) ∧ ∀ u ∈ U, x ≤ u := by
  by_cases hL : L = []
  · subst hL
    exact ⟨mn U, by simp, fun u hu => mn_le hu⟩
  · exact ⟨mx L, fun l hl => le_mx hl, fun u hu => h _ (mx_mem hL) u hu⟩
/-- numbers for the nodes of a list, as the ways ask -/
def Feas (f : Ways) (ns : List Nat) (p : Nat → Int) : Prop := ∀ i ∈ ns, ∀ j ∈ ns, ∀ v, f i j = some v → p j - p i ≤ v
theorem feas_more {f : Ways} {n : Nat} (tri : Tri f n) (diag : ∀ i, i < n → ∀ v, f i i = some v → 0 ≤ v) {ns : List Nat} {p : Nat → Int} (hn : ∀ i ∈ ns, i < n) (h : Feas f ns p) {k : Nat} (hk : k < n) (hkn : k ∉ ns) : ∃ q, Feas f (k :: ns) q ∧ ∀ i ∈ ns, q i = p i := by
  obtain ⟨x, x1, x2⟩ := between (ns.filterMap fun i => (f k i).map fun v => p i - v) (ns.filterMap fun i => (f i k).map fun v => p i + v) (by
    intro l hl u hu
    obtain ⟨i, hi, hi2⟩ := List.mem_filterMap.mp hl
    obtain ⟨j, hj, hj2⟩ := List.mem_filterMap.mp hu
    obtain ⟨v, hv, rfl⟩ := Option.map_eq_some_iff.mp hi2
    obtain ⟨w, hw, rfl⟩ := Option.map_eq_some_iff.mp hj2
    obtain ⟨c, hc, lc⟩ := tri j i k hk w v hw hv
    have := h j hj i hi c hc
    omega)
  refine ⟨fun i => if i = k then x else p i, fun i hi j hj v hv => ?_, fun i hi => by
    have : i ≠ k := fun e => hkn (e ▸ hi)
    simp [this]⟩
  dsimp only
  by_cases ei : i = k
  · by_cases ej : j = k
    · subst ei; subst ej
      have := diag _ hk _ hv
      omega
    · have hj' : j ∈ ns := (List.mem_cons.mp hj).resolve_left ej
      rw [if_pos ei, if_neg ej]
      subst ei
      have := x1 (p j - v) (List.mem_filterMap.mpr ⟨j, hj', by rw [hv]; rfl⟩)
      omega
  · have hi' : i ∈ ns := (List.mem_cons.mp hi).resolve_left ei
    by_cases ej : j = k
    · rw [if_neg ei, if_pos ej]
      subst ej
      have := x2 (p i + v) (List.mem_filterMap.mpr ⟨i, hi', by rw [hv]; rfl⟩)
      omega
    · have hj' : j ∈ ns := (List.mem_cons.mp hj).resolve_left ej
      rw [if_neg ei, if_neg ej]
      exact h i hi' j hj' v hv
theorem feas_all {f : Ways} {n : Nat} (tri : Tri f n) (diag : ∀ i, i < n → ∀ v, f i i = some v → 0 ≤ v) {ns : List Nat} {p : Nat → Int} (hn : ∀ i ∈ ns, i < n) (h : Feas f ns p) : ∃ q : Nat → Int, (∀ i, i < n → ∀ j, j < n → ∀ v, f i j = some v → q j - q i ≤ v) ∧ ∀ i ∈ ns, q i = p i := by
  have main : ∀ k, k ≤ n → ∃ (ms : List Nat) (q : Nat → Int), Feas f ms q ∧ (∀ i ∈ ms, i < n) ∧ (∀ i, i < k → i ∈ ms) ∧ (∀ i ∈ ns, i ∈ ms ∧ q i = p i) := by
    intro k
    induction k with
    | zero => exact fun _ => ⟨ns, p, h, hn, fun i hi => absurd hi (by omega), fun i hi => ⟨hi, rfl⟩⟩
    | succ k ih =>
      intro hk
      obtain ⟨ms, q, a, b, c, d⟩ := ih (by omega)
      by_cases hm : k ∈ ms
      · refine ⟨ms, q, a, b, fun i hi => ?_, d⟩
        by_cases e : i = k
        · rw [e]; exact hm
        · exact c i (by omega)
      · obtain ⟨r, r1, r2⟩ := feas_more tri diag b a (by omega : k < n) hm
        refine ⟨k :: ms, r, r1, fun i hi => ?_, fun i hi => ?_, fun i hi => ⟨List.mem_cons_of_mem _ (d i hi).1, (r2 i (d i hi).1).trans (d i hi).2⟩⟩
        · rcases List.mem_cons.mp hi with rfl | hi
          · omega
          · exact b i hi
        · by_cases e : i = k
          · rw [e]; exact List.mem_cons_self
          · exact List.mem_cons_of_mem _ (c i (by omega))
  obtain ⟨ms, q, a, b, c, d⟩ := main n (Nat.le_refl _)
  exact ⟨q, fun i hi j hj v hv => a i (c i hi) j (c j hj) v hv, fun i hi => (d i hi).2⟩

/-! ### in place -/
def updW (f : Ways) (k i j : Nat) : Ways := fun a b => if a = i ∧ b = j then stepW f k i j else f a b
def BadW (n : Nat) (f : Ways) : Prop := ∃ i v, i < n ∧ f i i = some v ∧ v < 0
def Dom (n : Nat) (f : Ways) : Prop := ∀ i j v, f i j = some v → i < n ∧ j < n
/-- numbers for the edges -/
def Pot (f : Ways) (p : Nat → Int) : Prop := ∀ i j v, f i j = some v → p j - p i ≤ v
def Sound (E g : Ways) : Prop := ∀ Q : Nat → Nat → Int → Prop, (∀ i j k a b, Q i k a → Q k j b → Q i j (a + b)) → (∀ i j v, E i j = some v → Q i j v) → ∀ i j v, g i j = some v → Q i j v
theorem Sound.pot {E g : Ways} (h : Sound E g) (p : Nat → Int) (hp : Pot E p) : Pot g p := h (fun i j v => p j - p i ≤ v) (fun i j k a b h1 h2 => by omega) hp
def LeE (E g : Ways) : Prop := ∀ i j v, E i j = some v → LeO (g i j) v
def PInv (n : Nat) (f0 : Ways) (k a b : Nat) (g : Ways) : Prop := BadW n g ∨ (¬ BadW n f0 ∧ ∀ i j, g i j = if i < n ∧ j < n ∧ (i < a ∨ (i = a ∧ j < b)) then stepW f0 k i j else f0 i j)
def FW (n : Nat) (E : Ways) (k a b : Nat) (g : Ways) : Prop := Dom n g ∧ Sound E g ∧ LeE E g ∧ ∃ f0, Dom n f0 ∧ (BadW n f0 ∨ Tri f0 k) ∧ PInv n f0 k a b g
theorem step_left {f : Ways} {k i : Nat} (hk : ∀ v, f k k = some v → 0 ≤ v) : stepW f k i k = f i k := by
  unfold stepW
  cases h1 : f i k with
  | none => rfl
  | some a =>
    cases h2 : f k k with
    | none => rfl
    | some b =>
      have := hk _ h2
      show some (if a + b < a then a + b else a) = some a
      rw [if_neg (by omega)]
theorem step_right {f : Ways} {k j : Nat} (hk : ∀ v, f k k = some v → 0 ≤ v) : stepW f k k j = f k j := by
  unfold stepW
  cases h2 : f k k with
  | none => rfl
  | some b =>
    have := hk _ h2
    cases h1 : f k j with
    | none => rfl
    | some a =>
      show some (if b + a < a then b + a else a) = some a
      rw [if_neg (by omega)]
theorem step_dom {n : Nat} {f : Ways} (hd : Dom n f) {k i j : Nat} {v : Int} (h : stepW f k i j = some v) : i < n ∧ j < n := by
  rcases step_cases h with h | ⟨a, b, h1, h2, _⟩
  · exact hd _ _ _ h
  · exact ⟨(hd _ _ _ h1).1, (hd _ _ _ h2).2⟩
theorem upd_le {f : Ways} {k i j a b : Nat} {c : Int} (h : f a b = some c) : LeO (updW f k i j a b) c := by
  unfold updW
  split
  · rename_i e; rw [e.1, e.2] at h; exact step_le h
  · exact ⟨c, h, Int.le_refl _⟩
theorem upd_cases {f : Ways} {k i j a b : Nat} {v : Int} (h : updW f k i j a b = some v) : f a b = some v ∨ (a = i ∧ b = j ∧ ∃ x y, f i k = some x ∧ f k j = some y ∧ v = x + y) := by
  unfold updW at h
  split at h
  · rename_i e
    rcases step_cases h with h | h
    · exact .inl (by rw [e.1, e.2]; exact h)
    · exact .inr ⟨e.1, e.2, h⟩
  · exact .inl h
theorem upd_bad {n : Nat} {f : Ways} {k i j : Nat} (h : BadW n f) : BadW n (updW f k i j) := by
  obtain ⟨a, v, ha, hv, hl⟩ := h
  obtain ⟨w, hw, lw⟩ := upd_le (k := k) (i := i) (j := j) hv
  exact ⟨a, w, ha, hw, by omega⟩
theorem not_bad {n : Nat} {f : Ways} (h : ¬ BadW n f) (i : Nat) (hi : i < n) (v : Int) (hv : f i i = some v) : 0 ≤ v := by
  rcases Int.lt_or_le v 0 with hl | hl
  · exact absurd ⟨i, v, hi, hv, hl⟩ h
  · exact hl
theorem fw_start {n : Nat} {E : Ways} (h : Dom n E) : FW n E 0 0 0 E := ⟨h, fun _ _ h => h, fun _ _ v h => ⟨v, h, Int.le_refl _⟩, E, h, .inr (fun _ _ _ hm => absurd hm (by omega)), by
  by_cases hb : BadW n E
  · exact .inl hb
  · exact .inr ⟨hb, fun i j => by rw [if_neg (by omega)]⟩⟩
theorem fw_step {n : Nat} {E g : Ways} {k a b : Nat} (hk : k < n) (ha : a < n) (hb : b < n) (h : FW n E k a b g) : FW n E k a (b + 1) (updW g k a b) := by
  obtain ⟨h1, h2, h3, f0, h4, h5, h6⟩ := h
  refine ⟨fun i j v hv => ?_, fun Q hQ hp i j v hv => ?_, fun i j v hv => ?_, f0, h4, h5, ?_⟩
  · rcases upd_cases hv with hv | ⟨rfl, rfl, _⟩
    · exact h1 _ _ _ hv
    · exact ⟨ha, hb⟩
  · rcases upd_cases hv with hv | ⟨rfl, rfl, x, y, hx, hy, rfl⟩
    · exact h2 Q hQ hp _ _ _ hv
    · exact hQ _ _ _ _ _ (h2 Q hQ hp _ _ _ hx) (h2 Q hQ hp _ _ _ hy)
  · obtain ⟨w, hw, lw⟩ := h3 i j v hv
    exact (upd_le hw).trans lw
  · rcases h6 with h6 | ⟨hn, h6⟩
    · exact .inl (upd_bad h6)
    · refine .inr ⟨hn, fun i j => ?_⟩
      have hkk := not_bad hn k hk
      have e1 : g a k = f0 a k := by
        rw [h6]; split
        · exact step_left hkk
        · rfl
      have e2 : g k b = f0 k b := by
        rw [h6]; split
        · exact step_right hkk
        · rfl
      have e3 : g a b = f0 a b := by rw [h6, if_neg (by omega)]
      have e4 : stepW g k a b = stepW f0 k a b := by unfold stepW; rw [e1, e2, e3]
      unfold updW
      by_cases e : i = a ∧ j = b
      · obtain ⟨rfl, rfl⟩ := e
        rw [if_pos ⟨rfl, rfl⟩, if_pos ⟨ha, hb, .inr ⟨rfl, by omega⟩⟩, e4]
      · rw [if_neg e, h6]
        by_cases c : i < n ∧ j < n ∧ (i < a ∨ (i = a ∧ j < b))
        · rw [if_pos c, if_pos ⟨c.1, c.2.1, by omega⟩]
        · rw [if_neg c, if_neg (by omega)]
theorem fw_row {n : Nat} {E g : Ways} {k a : Nat} (h : FW n E k a n g) : FW n E k (a + 1) 0 g := by
  obtain ⟨h1, h2, h3, f0, h4, h5, h6⟩ := h
  refine ⟨h1, h2, h3, f0, h4, h5, h6.imp id fun ⟨hn, h6⟩ => ⟨hn, fun i j => ?_⟩⟩
  rw [h6]
  by_cases c : i < n ∧ j < n ∧ (i < a ∨ (i = a ∧ j < n))
  · rw [if_pos c, if_pos (by omega)]
  · rw [if_neg c, if_neg (by omega)]
theorem fw_phase {n : Nat} {E g : Ways} {k : Nat} (hk : k < n) (h : FW n E k n 0 g) : FW n E (k + 1) 0 0 g := by
  obtain ⟨h1, h2, h3, f0, h4, h5, h6⟩ := h
  refine ⟨h1, h2, h3, g, h1, ?_, ?_⟩
  · rcases h6 with h6 | ⟨hn, h6⟩
    · exact .inl h6
    · have e : g = stepW f0 k := by
        funext i j
        rw [h6]
        by_cases c : i < n ∧ j < n
        · rw [if_pos ⟨c.1, c.2, .inl c.1⟩]
        · rw [if_neg (by omega)]
          cases hf : f0 i j with
          | some v => exact absurd (h4 _ _ _ hf) c
          | none =>
            cases hs : stepW f0 k i j with
            | none => rfl
            | some v => exact absurd (step_dom h4 hs) c
      rw [e]
      exact .inr (tri_step (not_bad hn k hk) (h5.resolve_left hn))
  · by_cases hb : BadW n g
    · exact .inl hb
    · exact .inr ⟨hb, fun i j => by rw [if_neg (by omega)]⟩
structure Done (n : Nat) (E g : Ways) : Prop where
  dom : Dom n g
  sound : Sound E g
  le : LeE E g
  tri : BadW n g ∨ Tri g n
theorem fw_done {n : Nat} {E g : Ways} (h : FW n E n 0 0 g) : Done n E g := by
  obtain ⟨h1, h2, h3, f0, h4, h5, h6⟩ := h
  refine ⟨h1, h2, h3, ?_⟩
  rcases h6 with h6 | ⟨hn, h6⟩
  · exact .inl h6
  · have e : g = f0 := by funext i j; rw [h6, if_neg (by omega)]
    rw [e]
    exact h5
theorem Done.pot_no {n : Nat} {E g : Ways} (h : Done n E g) {p : Nat → Int} (hp : Pot E p) : ¬ BadW n g := fun ⟨i, v, hi, hv, hl⟩ => by
  have := h.sound.pot p hp _ _ _ hv
  omega
theorem Done.pot_of {n : Nat} {E g : Ways} (h : Done n E g) {q : Nat → Int} (hq : ∀ i, i < n → ∀ j, j < n → ∀ v, g i j = some v → q j - q i ≤ v) : Pot E q := fun i j v hv => by
  obtain ⟨w, hw, lw⟩ := h.le _ _ _ hv
  have hd := h.dom _ _ _ hw
  have := hq i hd.1 j hd.2 w hw
  omega
theorem Done.pot {n : Nat} {E g : Ways} (h : Done n E g) (hb : ¬ BadW n g) : ∃ p, Pot E p := by
  obtain ⟨q, hq, _⟩ := feas_all (ns := []) (p := fun _ => 0) (h.tri.resolve_left hb) (not_bad hb) (by simp) (fun i hi => by cases hi)
  exact ⟨q, h.pot_of hq⟩
theorem Done.pair {n : Nat} {E g : Ways} (h : Done n E g) (hb : ¬ BadW n g) {i j : Nat} (hi : i < n) (hj : j < n) (hij : i ≠ j) {x : Int} (h1 : ∀ v, g i j = some v → x ≤ v) (h2 : ∀ v, g j i = some v → -v ≤ x) : ∃ p, Pot E p ∧ p j - p i = x := by
  have hji : j ≠ i := fun e => hij e.symm
  obtain ⟨q, hq, hp⟩ := feas_all (ns := [i, j]) (p := fun k => if k = j then x else 0) (h.tri.resolve_left hb) (not_bad hb) (fun k hk => by
    rcases List.mem_cons.mp hk with rfl | hk
    · exact hi
    · rw [List.mem_singleton.mp hk]; exact hj) (fun a ha b hb' v hv => by
    rcases List.mem_cons.mp ha with rfl | ha
    · rcases List.mem_cons.mp hb' with rfl | hb'
      · have := not_bad hb _ hi _ hv; dsimp only; rw [if_neg hij]; omega
      · obtain rfl := List.mem_singleton.mp hb'
        have := h1 _ hv; dsimp only; rw [if_neg hij, if_pos rfl]; omega
    · obtain rfl := List.mem_singleton.mp ha
      rcases List.mem_cons.mp hb' with rfl | hb'
      · have := h2 _ hv; dsimp only; rw [if_neg hij, if_pos rfl]; omega
      · obtain rfl := List.mem_singleton.mp hb'
        have := not_bad hb _ hj _ hv; dsimp only; rw [if_pos rfl]; omega)
  refine ⟨q, h.pot_of hq, ?_⟩
  rw [hp i (by simp), hp j (by simp)]
  rw [if_neg hij, if_pos rfl]; omega
/-- whether two nodes hang together: numbers that can be moved apart -/
theorem Done.none_of_free {n : Nat} {E g : Ways} (h : Done n E g) {i j : Nat} (hf : ∀ t : Int, ∃ p, Pot E p ∧ t ≤ p j - p i) : g i j = none := by
  cases e : g i j with
  | none => rfl
  | some v =>
    obtain ⟨p, hp, hl⟩ := hf (v + 1)
    have := h.sound.pot p hp _ _ _ e
    omega
end PL

namespace PL
/-! ## tables with gaps: numbers and fillings -/
abbrev Gap := Nat → Nat → Option Int
def edF (F : Gap) (m w : Nat) : Ways := fun i j =>
  if i = j then (if i < m + w then some 0 else none)
  else if i < m ∧ m ≤ j ∧ j < m + w then (F i (j - m)).map fun e => -e * ((m + w + 1 : Nat) : Int)
  else if j < m ∧ m ≤ i ∧ i < m + w then (F j (i - m)).map fun e => (e + 1) * ((m + w + 1 : Nat) : Int) - 1
  else none
def Fill (F : Gap) (m w : Nat) (t : List (List Int)) : Prop := Rect t m w ∧ RealT t m w ∧ ∀ i j : Nat, i < m → j < w → ∀ v, F i j = some v → en t i j = v
theorem edF_dom (F : Gap) (m w : Nat) : Dom (m + w) (edF F m w) := fun i j v h => by
  unfold edF at h
  split at h
  · rename_i e
    split at h
    · omega
    · cases h
  · split at h
    · omega
    · split at h
      · omega
      · cases h
theorem edF_diag {F : Gap} {m w i : Nat} (h : i < m + w) : edF F m w i i = some 0 := by unfold edF; rw [if_pos rfl, if_pos h]
theorem edF_out {F : Gap} {m w i j : Nat} (hi : i < m) (hj : j < w) : edF F m w i (m + j) = (F i j).map fun e => -e * ((m + w + 1 : Nat) : Int) := by
  unfold edF; rw [if_neg (by omega), if_pos (by omega), show m + j - m = j by omega]
theorem edF_back {F : Gap} {m w i j : Nat} (hi : i < m) (hj : j < w) : edF F m w (m + j) i = (F i j).map fun e => (e + 1) * ((m + w + 1 : Nat) : Int) - 1 := by
  unfold edF; rw [if_neg (by omega), if_neg (by omega), if_pos (by omega), show m + j - m = j by omega]
theorem edF_cases {F : Gap} {m w i j : Nat} {v : Int} (h : edF F m w i j = some v) : (i = j ∧ v = 0) ∨ (∃ c e, i < m ∧ c < w ∧ j = m + c ∧ F i c = some e ∧ v = -e * ((m + w + 1 : Nat) : Int)) ∨ (∃ c e, j < m ∧ c < w ∧ i = m + c ∧ F j c = some e ∧ v = (e + 1) * ((m + w + 1 : Nat) : Int) - 1) := by
  unfold edF at h
  split at h
  · rename_i e
    split at h
    · cases h; exact .inl ⟨e, rfl⟩
    · cases h
  · split at h
    · rename_i _ c
      obtain ⟨e, h1, h2⟩ := Option.map_eq_some_iff.mp h
      exact .inr (.inl ⟨j - m, e, c.1, by omega, by omega, h1, h2.symm⟩)
    · split at h
      · rename_i _ _ c
        obtain ⟨e, h1, h2⟩ := Option.map_eq_some_iff.mp h
        exact .inr (.inr ⟨i - m, e, c.1, by omega, by omega, h1, h2.symm⟩)
      · cases h
theorem pot_iff {F : Gap} {m w : Nat} {p : Nat → Int} : Pot (edF F m w) p ↔ ∀ i j : Nat, i < m → j < w → ∀ v, F i j = some v → (p i - p (m + j)) / ((m + w + 1 : Nat) : Int) = v := by
  have hu : (0 : Int) < ((m + w + 1 : Nat) : Int) := by omega
  constructor
  · intro h i j hi hj v hv
    have h1 := h i (m + j) (-v * ((m + w + 1 : Nat) : Int)) (by rw [edF_out hi hj, hv]; rfl)
    have h2 := h (m + j) i ((v + 1) * ((m + w + 1 : Nat) : Int) - 1) (by rw [edF_back hi hj, hv]; rfl)
    generalize ((m + w + 1 : Nat) : Int) = u at *
    apply Int.le_antisymm
    · have : (p i - p (m + j)) / u < v + 1 := (Int.ediv_lt_iff_lt_mul hu).mpr (by omega)
      omega
    · refine (Int.le_ediv_iff_mul_le hu).mpr ?_
      rw [Int.neg_mul] at h1
      omega
  · intro h i j v hv
    rcases edF_cases hv with ⟨rfl, rfl⟩ | ⟨c, e, hi, hc, rfl, hF, rfl⟩ | ⟨c, e, hj, hc, rfl, hF, rfl⟩
    · omega
    · have := h i c hi hc e hF
      generalize ((m + w + 1 : Nat) : Int) = u at *
      have := (Int.le_ediv_iff_mul_le hu).mp (Int.le_of_eq this.symm)
      rw [Int.neg_mul]
      omega
    · have := h j c hj hc e hF
      generalize ((m + w + 1 : Nat) : Int) = u at *
      have := (Int.ediv_lt_iff_lt_mul hu).mp (show (p j - p (m + c)) / u < e + 1 by omega)
      omega
theorem pot_fill {F : Gap} {m w : Nat} {p : Nat → Int} (h : Pot (edF F m w) p) : ∃ t, Fill F m w t ∧ ∀ i j : Nat, i < m → j < w → en t i j = (p i - p (m + j)) / ((m + w + 1 : Nat) : Int) := by
  have hu : (0 : Int) < ((m + w + 1 : Nat) : Int) := by omega
  have h := pot_iff.mp h
  generalize ((m + w + 1 : Nat) : Int) = u at *
  have l1 : ((List.range m).map fun i => p i).length = m := by rw [List.length_map, List.length_range]
  have l2 : ((List.range w).map fun j => -p (m + j)).length = w := by rw [List.length_map, List.length_range]
  have hen : ∀ i j : Nat, i < m → j < w → en (mkT u ((List.range m).map fun i => p i) ((List.range w).map fun j => -p (m + j))) i j = (p i - p (m + j)) / u := by
    intro i j hi hj
    rw [mkT_en (by rw [l1]; omega) (by rw [l2]; omega), gi_rng (by omega), gi_rng (by omega)]
    simp only [Int.toNat_natCast]
    rfl
  refine ⟨mkT u ((List.range m).map fun i => p i) ((List.range w).map fun j => -p (m + j)), ⟨?_, ?_, fun i j hi hj v hv => (hen i j hi hj).trans (h i j hi hj v hv)⟩, hen⟩
  · have := mkT_rect (u := u) (R := (List.range m).map fun i => p i) (C := (List.range w).map fun j => -p (m + j))
    rwa [l1, l2] at this
  · have := mkT_real (u := u) (R := (List.range m).map fun i => p i) (C := (List.range w).map fun j => -p (m + j)) hu
    rwa [l1, l2] at this
theorem real_nums {m w : Nat} (hm : 1 ≤ m) (hw : 1 ≤ w) {t : List (List Int)} (ht : Rect t m w) (hR : RealT t m w) : ∃ p : Nat → Int, ∀ i j : Nat, i < m → j < w → en t i j = (p i - p (m + j)) / ((m + w + 1 : Nat) : Int) := by
  have hu : (0 : Int) < ((m + w + 1 : Nat) : Int) := by omega
  have hun := un_le_w t w
  have hmk := made_lv ht hm hw hR (L := rk t w) (u := ((m + w + 1 : Nat) : Int)) hu (rk_len t w) (fun j h0 h1 => by have := rk_bd (t := t) ⟨h0, h1⟩; omega) (fun j k j0 j1 k0 k1 h => (rk_lt ⟨j0, j1⟩ ⟨k0, k1⟩).mpr h)
  refine ⟨fun k => if k < m then gi (t.map (rowL t (rk t w) ((m + w + 1 : Nat) : Int))) k else -gi (colL t (rk t w) ((m + w + 1 : Nat) : Int)) (k - m : Nat), fun i j hi hj => ?_⟩
  have e := mkT_en (u := ((m + w + 1 : Nat) : Int)) (R := t.map (rowL t (rk t w) ((m + w + 1 : Nat) : Int))) (C := colL t (rk t w) ((m + w + 1 : Nat) : Int)) (i := i) (j := j) (by rw [List.length_map, ht.1]; omega) (by rw [colL_len (len_row ht (i := 0) (by omega)) (rk_len t w)]; omega)
  rw [hmk] at e
  rw [e]
  dsimp only
  rw [if_pos hi, if_neg (by omega), show m + j - m = j by omega]
  congr 1
  omega
theorem fill_pot {F : Gap} {m w : Nat} (hm : 1 ≤ m) (hw : 1 ≤ w) {t : List (List Int)} (h : Fill F m w t) : ∃ p : Nat → Int, Pot (edF F m w) p ∧ ∀ i j : Nat, i < m → j < w → en t i j = (p i - p (m + j)) / ((m + w + 1 : Nat) : Int) := by
  obtain ⟨p, hp⟩ := real_nums hm hw h.1 h.2.1
  exact ⟨p, pot_iff.mpr fun i j hi hj v hv => (hp i j hi hj).symm.trans (h.2.2 i j hi hj v hv), hp⟩
section
variable {F : Gap} {m w : Nat} {g : Ways}
theorem good_iff (hm : 1 ≤ m) (hw : 1 ≤ w) (h : Done (m + w) (edF F m w) g) : ¬ BadW (m + w) g ↔ ∃ t, Fill F m w t := by
  constructor
  · intro hb
    obtain ⟨p, hp⟩ := h.pot hb
    obtain ⟨t, ht, _⟩ := pot_fill hp
    exact ⟨t, ht⟩
  · rintro ⟨t, ht⟩
    obtain ⟨p, hp, _⟩ := fill_pot hm hw ht
    exact h.pot_no hp
theorem can_iff (hm : 1 ≤ m) (hw : 1 ≤ w) (h : Done (m + w) (edF F m w) g) (hb : ¬ BadW (m + w) g) {r c : Nat} (hr : r < m) (hc : c < w) (v : Int) : (∃ t, Fill F m w t ∧ en t r c = v) ↔ (∀ x, g r (m + c) = some x → -x / ((m + w + 1 : Nat) : Int) ≤ v) ∧ (∀ x, g (m + c) r = some x → v ≤ x / ((m + w + 1 : Nat) : Int)) := by
  have hu : (0 : Int) < ((m + w + 1 : Nat) : Int) := by omega
  constructor
  · rintro ⟨t, ht, rfl⟩
    obtain ⟨p, hp, he⟩ := fill_pot hm hw ht
    rw [he r c hr hc]
    refine ⟨fun x hx => Int.ediv_le_ediv hu ?_, fun x hx => Int.ediv_le_ediv hu ?_⟩
    · have := h.sound.pot p hp _ _ _ hx; omega
    · have := h.sound.pot p hp _ _ _ hx; omega
  · rintro ⟨h1, h2⟩
    have key : ∃ x0 : Int, x0 / ((m + w + 1 : Nat) : Int) = v ∧ (∀ x, g r (m + c) = some x → -x ≤ x0) ∧ (∀ x, g (m + c) r = some x → x0 ≤ x) := by
      generalize ((m + w + 1 : Nat) : Int) = u at *
      have ev : v * u / u = v := Int.mul_ediv_cancel _ (by omega)
      have hup : ∀ x, g (m + c) r = some x → v * u ≤ x := fun x hx => (Int.le_ediv_iff_mul_le hu).mp (h2 x hx)
      cases e1 : g r (m + c) with
      | none => exact ⟨v * u, ev, ⟨fun x hx => (by cases hx), hup⟩⟩
      | some x =>
        have hx := h1 x e1
        by_cases hl : v * u ≤ -x
        · refine ⟨-x, Int.le_antisymm hx ((Int.le_ediv_iff_mul_le hu).mpr hl), fun y hy => by cases hy; exact Int.le_refl _, fun y hy => ?_⟩
          obtain ⟨z, hz, lz⟩ := (h.tri.resolve_left hb) r r (m + c) (by omega) x y e1 hy
          have := not_bad hb r (by omega) z hz
          omega
        · exact ⟨v * u, ev, fun y hy => by cases hy; omega, hup⟩
    obtain ⟨x0, hx0, k1, k2⟩ := key
    obtain ⟨p, hp, hd⟩ := h.pair hb (i := r) (j := m + c) (x := -x0) (by omega) (by omega) (by omega) (fun y hy => by have := k1 y hy; omega) (fun y hy => by have := k2 y hy; omega)
    obtain ⟨t, ht, he⟩ := pot_fill hp
    refine ⟨t, ht, ?_⟩
    rw [he r c hr hc, ← hx0]
    congr 1
    omega
end
def setF (F : Gap) (a b : Nat) (v : Option Int) : Gap := fun i j => if i = a ∧ j = b then v else F i j
theorem fill_set {F : Gap} {m w a b : Nat} {v : Int} {t : List (List Int)} (ha : a < m) (hb : b < w) : Fill (setF F a b (some v)) m w t ↔ Fill (setF F a b none) m w t ∧ en t a b = v := by
  constructor
  · rintro ⟨h1, h2, h3⟩
    refine ⟨⟨h1, h2, fun i j hi hj x hx => ?_⟩, h3 a b ha hb v (by unfold setF; rw [if_pos ⟨rfl, rfl⟩])⟩
    unfold setF at hx h3
    split at hx
    · cases hx
    · rename_i hn; exact h3 i j hi hj x (by rw [if_neg hn]; exact hx)
  · rintro ⟨⟨h1, h2, h3⟩, h4⟩
    refine ⟨h1, h2, fun i j hi hj x hx => ?_⟩
    unfold setF at hx h3
    split at hx
    · rename_i e; cases hx; rw [e.1, e.2]; exact h4
    · rename_i hn; exact h3 i j hi hj x (by rw [if_neg hn]; exact hx)
theorem setF_self {F : Gap} {a b : Nat} (h : F a b = v) : setF F a b v = F := by
  funext i j
  unfold setF
  split
  · rename_i e; rw [e.1, e.2, h]
  · rfl
theorem edF_congr {F G : Gap} {m w : Nat} (h : ∀ i j, i < m → j < w → F i j = G i j) : edF F m w = edF G m w := by
  funext i j
  unfold edF
  split
  · rfl
  · split
    · rename_i c; rw [h i (j - m) c.1 (by omega)]
    · split
      · rename_i c; rw [h j (i - m) c.1 (by omega)]
      · rfl
theorem fill_congr {F G : Gap} {m w : Nat} {t : List (List Int)} (h : ∀ i j, i < m → j < w → F i j = G i j) (hf : Fill F m w t) : Fill G m w t := ⟨hf.1, hf.2.1, fun i j hi hj v hv => hf.2.2 i j hi hj v (by rw [h i j hi hj]; exact hv)⟩
end PL

namespace PL
/-! ## rings of known entries -/
def waysL (F : Gap) (i j c : Nat) : List Int := (List.range c).filterMap fun k => match F i k, F j k with | some a, some b => some (a - b - 1) | _, _ => none
def ringE (F : Gap) (m w : Nat) : Ways := fun i j => if i < m ∧ j < m then (if waysL F i j w = [] then none else some (-(mx (waysL F i j w)))) else none
theorem ways_mem {F : Gap} {i j c : Nat} {x : Int} : x ∈ waysL F i j c ↔ ∃ k a b, k < c ∧ F i k = some a ∧ F j k = some b ∧ x = a - b - 1 := by
  unfold waysL
  rw [List.mem_filterMap]
  constructor
  · rintro ⟨k, hk, h⟩
    split at h
    · rename_i a b h1 h2
      cases h
      exact ⟨k, a, b, List.mem_range.mp hk, h1, h2, rfl⟩
    · cases h
  · rintro ⟨k, a, b, hk, h1, h2, rfl⟩
    exact ⟨k, List.mem_range.mpr hk, by rw [h1, h2]⟩
theorem ring_dom (F : Gap) (m w : Nat) : Dom m (ringE F m w) := fun i j v h => by
  unfold ringE at h
  split at h
  · assumption
  · cases h
theorem ring_some {F : Gap} {m w i j : Nat} {v : Int} (h : ringE F m w i j = some v) : i < m ∧ j < m ∧ ∃ k a b, k < w ∧ F i k = some a ∧ F j k = some b ∧ v = b - a + 1 := by
  unfold ringE at h
  split at h
  · rename_i hij
    split at h
    · cases h
    · rename_i hn
      cases h
      obtain ⟨k, a, b, hk, h1, h2, e⟩ := ways_mem.mp (mx_mem hn)
      exact ⟨hij.1, hij.2, k, a, b, hk, h1, h2, by omega⟩
  · cases h
theorem ring_le {F : Gap} {m w i j k : Nat} {a b : Int} (hi : i < m) (hj : j < m) (hk : k < w) (h1 : F i k = some a) (h2 : F j k = some b) : LeO (ringE F m w i j) (b - a + 1) := by
  have hx : a - b - 1 ∈ waysL F i j w := ways_mem.mpr ⟨k, a, b, hk, h1, h2, rfl⟩
  refine ⟨-(mx (waysL F i j w)), ?_, ?_⟩
  · unfold ringE
    rw [if_pos ⟨hi, hj⟩, if_neg (fun e => by rw [e] at hx; cases hx)]
  · have := le_mx hx
    omega
/-- numbers, strictly: in parts of a unit -/
def PotS (f : Ways) (u : Int) (p : Nat → Int) : Prop := ∀ i j v, f i j = some v → p j - p i < u * v
def FeasS (f : Ways) (u : Int) (ns : List Nat) (p : Nat → Int) : Prop := ∀ i ∈ ns, ∀ j ∈ ns, ∀ v, f i j = some v → p j - p i < u * v
def Pos (n : Nat) (g : Ways) : Prop := ∀ i, i < n → ∀ v, g i i = some v → 1 ≤ v
theorem feasS_more {f : Ways} {n : Nat} (tri : Tri f n) (diag : Pos n f) {ns : List Nat} {p : Nat → Int} {u : Int} (hu : 0 < u) (hn : ∀ i ∈ ns, i < n) (h : FeasS f u ns p) {k : Nat} (hk : k < n) (hkn : k ∉ ns) : ∃ q, FeasS f (2 * u) (k :: ns) q := by
  obtain ⟨x, x1, x2⟩ := between (ns.filterMap fun i => (f k i).map fun v => 2 * p i - 2 * (u * v) + 1) (ns.filterMap fun i => (f i k).map fun v => 2 * p i + 2 * (u * v) - 1) (by
    intro l hl r hr
    obtain ⟨i, hi, hi2⟩ := List.mem_filterMap.mp hl
    obtain ⟨j, hj, hj2⟩ := List.mem_filterMap.mp hr
    obtain ⟨v, hv, rfl⟩ := Option.map_eq_some_iff.mp hi2
    obtain ⟨w, hw, rfl⟩ := Option.map_eq_some_iff.mp hj2
    obtain ⟨c, hc, lc⟩ := tri j i k hk w v hw hv
    have h1 := h j hj i hi c hc
    have h2 : u * c ≤ u * (w + v) := Int.mul_le_mul_of_nonneg_left lc (by omega)
    rw [Int.mul_add] at h2
    omega)
  refine ⟨fun i => if i = k then x else 2 * p i, fun i hi j hj v hv => ?_⟩
  dsimp only
  rw [Int.mul_assoc]
  by_cases ei : i = k
  · by_cases ej : j = k
    · subst ei; subst ej
      have h1 := diag _ hk _ hv
      have h2 : 0 < u * v := Int.mul_pos hu (by omega)
      omega
    · have hj' : j ∈ ns := (List.mem_cons.mp hj).resolve_left ej
      rw [if_pos ei, if_neg ej]
      subst ei
      have := x1 (2 * p j - 2 * (u * v) + 1) (List.mem_filterMap.mpr ⟨j, hj', by rw [hv]; rfl⟩)
      omega
  · have hi' : i ∈ ns := (List.mem_cons.mp hi).resolve_left ei
    by_cases ej : j = k
    · rw [if_neg ei, if_pos ej]
      subst ej
      have := x2 (2 * p i + 2 * (u * v) - 1) (List.mem_filterMap.mpr ⟨i, hi', by rw [hv]; rfl⟩)
      omega
    · have hj' : j ∈ ns := (List.mem_cons.mp hj).resolve_left ej
      rw [if_neg ei, if_neg ej]
      have := h i hi' j hj' v hv
      omega
theorem feasS_all {f : Ways} {n : Nat} (tri : Tri f n) (diag : Pos n f) : ∃ (u : Int) (q : Nat → Int), 0 < u ∧ ∀ i, i < n → ∀ j, j < n → ∀ v, f i j = some v → q j - q i < u * v := by
  have main : ∀ k, k ≤ n → ∃ (u : Int) (ms : List Nat) (q : Nat → Int), 0 < u ∧ FeasS f u ms q ∧ (∀ i ∈ ms, i < n) ∧ (∀ i, i < k → i ∈ ms) := by
    intro k
    induction k with
    | zero => exact fun _ => ⟨1, [], fun _ => 0, by omega, fun i hi => (by cases hi), fun i hi => (by cases hi), fun i hi => absurd hi (by omega)⟩
    | succ k ih =>
      intro hk
      obtain ⟨u, ms, q, hu, a, b, c⟩ := ih (by omega)
      by_cases hm : k ∈ ms
      · refine ⟨u, ms, q, hu, a, b, fun i hi => ?_⟩
        by_cases e : i = k
        · rw [e]; exact hm
        · exact c i (by omega)
      · obtain ⟨r, r1⟩ := feasS_more tri diag hu b a (by omega : k < n) hm
        refine ⟨2 * u, k :: ms, r, by omega, r1, fun i hi => ?_, fun i hi => ?_⟩
        · rcases List.mem_cons.mp hi with rfl | hi
          · omega
          · exact b i hi
        · by_cases e : i = k
          · rw [e]; exact List.mem_cons_self
          · exact List.mem_cons_of_mem _ (c i (by omega))
  obtain ⟨u, ms, q, hu, a, b, c⟩ := main n (Nat.le_refl _)
  exact ⟨u, q, hu, fun i hi j hj v hv => a i (c i hi) j (c j hj) v hv⟩
/-- rings are right exactly if there is a filling -/
theorem ring_iff {F : Gap} {m w : Nat} {g : Ways} (hm : 1 ≤ m) (hw : 1 ≤ w) (h : Done m (ringE F m w) g) : Pos m g ↔ ∃ t, Fill F m w t := by
  constructor
  · intro hp
    have hb : ¬ BadW m g := fun ⟨i, v, hi, hv, hl⟩ => by have := hp i hi v hv; omega
    obtain ⟨u, p, hu, hq⟩ := feasS_all (h.tri.resolve_left hb) hp
    have hcol : ∀ c, c < w → ∃ y : Int, ∀ r, r < m → ∀ a, F r c = some a → a * u ≤ p r + y ∧ p r + y ≤ a * u + u - 1 := by
      intro c hc
      obtain ⟨y, y1, y2⟩ := between ((List.range m).filterMap fun r => (F r c).map fun a => a * u - p r) ((List.range m).filterMap fun r => (F r c).map fun a => a * u + u - 1 - p r) (by
        intro l hl x hx
        obtain ⟨i, hi, hi2⟩ := List.mem_filterMap.mp hl
        obtain ⟨j, hj, hj2⟩ := List.mem_filterMap.mp hx
        obtain ⟨a, ha, rfl⟩ := Option.map_eq_some_iff.mp hi2
        obtain ⟨b, hb', rfl⟩ := Option.map_eq_some_iff.mp hj2
        have hi := List.mem_range.mp hi
        have hj := List.mem_range.mp hj
        obtain ⟨v, hv, lv⟩ := ring_le hi hj hc ha hb'
        obtain ⟨z, hz, lz⟩ := h.le _ _ _ hv
        have k1 := hq i hi j hj z hz
        have k2 : u * z ≤ u * (b - a + 1) := Int.mul_le_mul_of_nonneg_left (by omega) (by omega)
        rw [Int.mul_add, Int.mul_sub, Int.mul_one, Int.mul_comm u b, Int.mul_comm u a] at k2
        omega)
      refine ⟨y, fun r hr a ha => ?_⟩
      have k1 := y1 (a * u - p r) (List.mem_filterMap.mpr ⟨r, List.mem_range.mpr hr, by rw [ha]; rfl⟩)
      have k2 := y2 (a * u + u - 1 - p r) (List.mem_filterMap.mpr ⟨r, List.mem_range.mpr hr, by rw [ha]; rfl⟩)
      omega
    obtain ⟨y, hy⟩ : ∃ y : Nat → Int, ∀ c, c < w → ∀ r, r < m → ∀ a, F r c = some a → a * u ≤ p r + y c ∧ p r + y c ≤ a * u + u - 1 :=
      ⟨fun c => if hc : c < w then Classical.choose (hcol c hc) else 0, fun c hc => by
        dsimp only
        rw [dif_pos hc]
        exact Classical.choose_spec (hcol c hc)⟩
    have l1 : ((List.range m).map fun i => p i).length = m := by rw [List.length_map, List.length_range]
    have l2 : ((List.range w).map fun j => y j).length = w := by rw [List.length_map, List.length_range]
    refine ⟨mkT u ((List.range m).map fun i => p i) ((List.range w).map fun j => y j), ?_, ?_, fun i j hi hj v hv => ?_⟩
    · have := mkT_rect (u := u) (R := (List.range m).map fun i => p i) (C := (List.range w).map fun j => y j)
      rwa [l1, l2] at this
    · have := mkT_real (u := u) (R := (List.range m).map fun i => p i) (C := (List.range w).map fun j => y j) hu
      rwa [l1, l2] at this
    · rw [mkT_en (by rw [l1]; omega) (by rw [l2]; omega), gi_rng (by omega), gi_rng (by omega)]
      simp only [Int.toNat_natCast]
      have := hy j hj i hi v hv
      apply Int.le_antisymm
      · have : (p i + y j) / u < v + 1 := (Int.ediv_lt_iff_lt_mul hu).mpr (by rw [Int.add_mul, Int.one_mul]; omega)
        omega
      · exact (Int.le_ediv_iff_mul_le hu).mpr this.1
  · rintro ⟨t, ht⟩ i hi v hv
    obtain ⟨p, hp⟩ := real_nums hm hw ht.1 ht.2.1
    have hu : (0 : Int) < ((m + w + 1 : Nat) : Int) := by omega
    generalize ((m + w + 1 : Nat) : Int) = u at *
    have := h.sound (fun i j v => p j - p i < u * v) (fun i j k a b h1 h2 => by rw [Int.mul_add]; omega) (fun i j v hv => by
      obtain ⟨hi, hj, k, a, b, hk, ha, hb, rfl⟩ := ring_some hv
      have e1 := (hp i k hi hk).symm.trans (ht.2.2 i k hi hk a ha)
      have e2 := (hp j k hj hk).symm.trans (ht.2.2 j k hj hk b hb)
      have k1 := (Int.ediv_lt_iff_lt_mul hu).mp (show (p j - p (m + k)) / u < b + 1 by omega)
      have k2 := (Int.le_ediv_iff_mul_le hu).mp (Int.le_of_eq e1.symm)
      rw [Int.add_mul, Int.one_mul] at k1
      rw [Int.mul_add, Int.mul_sub, Int.mul_one, Int.mul_comm u b, Int.mul_comm u a]
      omega) i i v hv
    have h0 : 0 < u * v := by omega
    rcases Int.lt_or_le v 1 with hl | hl
    · exfalso
      have : u * v ≤ u * 0 := Int.mul_le_mul_of_nonneg_left (by omega) (by omega)
      omega
    · exact hl
end PL

namespace PL
open PySem PySem.Spec PyProof.Rows L2
/-! ## tables with gaps, dicts: reading -/
def oi (o : Option Int) : D := match o with | none => .non | some v => .int v
def ofPR (r : List (Option Int)) : D := .tup (r.map oi)
def ofP (P : List (List (Option Int))) : D := .tup (P.map ofPR)
def pe (P : List (List (Option Int))) : Gap := fun i j => (P.getD i []).getD j none
def RectP (P : List (List (Option Int))) (m w : Nat) : Prop := P.length = m ∧ ∀ r ∈ P, r.length = w
theorem len_rowP {P : List (List (Option Int))} {m w i : Nat} (h : RectP P m w) (hi : i < m) : (P.getD i []).length = w := by
  rw [getD_get _ _ (by rw [h.1]; exact hi)]
  exact h.2 _ (List.getElem_mem _)
theorem atN_map {α : Type} {f : α → D} {l : List α} {e : α} {i : Nat} (h : i < l.length) : atI (l.map f) (i : Int) = some (f (l.getD i e)) := by
  rw [atI_at (by simpa using h), List.getElem_map, getD_get _ _ h]
theorem g_lenP {P : List (List (Option Int))} : b1 gLen [ofP P] = some (.int P.length) := by show some (D.int ((P.map ofPR).length : Nat)) = _; rw [List.length_map]
theorem g_lenPR {r : List (Option Int)} : b1 gLen [ofPR r] = some (.int r.length) := by show some (D.int ((r.map oi).length : Nat)) = _; rw [List.length_map]
theorem g_ixP {P : List (List (Option Int))} {i : Nat} (h : i < P.length) : gIx (ofP P) (.int i) = some (ofPR (P.getD i [])) := atN_map h
theorem g_ixPR {r : List (Option Int)} {j : Nat} (h : j < r.length) : gIx (ofPR r) (.int j) = some (oi (r.getD j none)) := atN_map h
section
variable {ρ : DEnv} {a b c fi fj : DE} {P : List (List (Option Int))} {m w : Nat}
theorem ev_pe {i j : Nat} (hP : RectP P m w) (hi : i < m) (hj : j < w) (h0 : a ρ = some (ofP P)) (h1 : fi ρ = some (.int i)) (h2 : fj ρ = some (.int j)) : e2 gIx (e2 gIx a fi) fj ρ = some (oi (pe P i j)) :=
  ev_e2 (ev_e2 h0 h1 (g_ixP (by rw [hP.1]; exact hi))) h2 (g_ixPR (by rw [len_rowP hP hi]; exact hj))
theorem g_isN {neg : Bool} {o : Option Int} : gIsN neg (oi o) .non = some (.bl (if neg then o.isSome else o.isNone)) := by cases o <;> cases neg <;> rfl
/-! dicts -/
def wd (kvs : List ((Int × Int) × Int)) : Ways := fun i j => getK kvs ((i : Int), (j : Int))
theorem getK_put (d : List ((Int × Int) × Int)) (k : Int × Int) (v : Int) (l : Int × Int) : getK (putD d k v) l = if l = k then some v else getK d l := by
  have hmap : ∀ d : List ((Int × Int) × Int), getK (d.map fun p => if p.1 = k then (p.1, v) else p) l = if l = k then (if (d.any fun p => decide (p.1 = k)) = true then some v else none) else getK d l := by
    intro d
    induction d with
    | nil => by_cases e : l = k <;> simp [getK, e]
    | cons p d ih =>
      unfold getK at ih ⊢
      rw [List.map_cons, List.find?_cons, List.find?_cons, List.any_cons]
      by_cases h : p.1 = k
      · by_cases e : l = k
        · subst e; simp [h]
        · have h2 : ¬ p.1 = l := fun q => e (q.symm.trans h)
          have : ¬ k = l := fun q => e q.symm
          simp only [h, if_pos, this, decide_false, e, if_false]
          rw [ih, if_neg e]
      · rw [if_neg h]
        by_cases e : l = k
        · subst e
          have : ¬ p.1 = l := h
          simp only [this, decide_false, if_true, Bool.false_or]
          rw [ih, if_pos rfl]
        · rw [if_neg e]
          by_cases h3 : p.1 = l
          · simp [h3]
          · simp only [h3, decide_false]
            rw [ih, if_neg e]
  unfold putD
  split
  · rename_i h
    rw [hmap, h]
    simp
  · rename_i h
    have hk : getK d k = none := by
      unfold getK
      rw [Option.map_eq_none_iff, List.find?_eq_none]
      intro p hp hq
      exact h (List.any_eq_true.mpr ⟨p, hp, hq⟩)
    by_cases e : l = k
    · subst e
      rw [if_pos rfl]
      unfold getK at hk ⊢
      rw [Option.map_eq_none_iff] at hk
      rw [List.find?_append, hk]
      simp
    · rw [if_neg e]
      unfold getK
      rw [List.find?_append]
      have : ¬ k = l := fun q => e q.symm
      simp [this]
theorem wd_put (d : List ((Int × Int) × Int)) (a b : Nat) (v : Int) : wd (putD d ((a : Int), (b : Int)) v) = fun i j => if i = a ∧ j = b then some v else wd d i j := by
  funext i j
  unfold wd
  rw [getK_put]
  by_cases h : i = a ∧ j = b
  · rw [if_pos h, if_pos (by rw [h.1, h.2])]
  · rw [if_neg h, if_neg fun e => h (by
      have := Prod.mk.inj e
      omega)]
theorem put_len (d : List ((Int × Int) × Int)) (k : Int × Int) (v : Int) : (putD d k v).length ≤ d.length + 1 := by
  unfold putD
  split
  · rw [List.length_map]; omega
  · rw [List.length_append]; exact Nat.le_refl _
theorem ev_rvd {i : Nat} {kvs : List ((Int × Int) × Int)} (h : ρ i = some (.od kvs)) : eRv i ρ = some (.dct kvs) := by unfold eRv; rw [h]
theorem g_din {kvs : List ((Int × Int) × Int)} {i j : Int} : gDIn (.tup [.int i, .int j]) (.dct kvs) = some (.bl (getK kvs (i, j)).isSome) := rfl
theorem g_dget {kvs : List ((Int × Int) × Int)} {i j v : Int} (h : getK kvs (i, j) = some v) : gDGet (.dct kvs) (.tup [.int i, .int j]) = some (.int v) := by
  show (getK kvs (i, j)).map D.int = _
  rw [h]; rfl
theorem ev_dgetD {kvs : List ((Int × Int) × Int)} {i j v : Int} (h1 : a ρ = some (.dct kvs)) (h2 : b ρ = some (.tup [.int i, .int j])) (h3 : c ρ = some (.int v)) : eDGetD a b c ρ = some (.int ((getK kvs (i, j)).getD v)) := by
  unfold eDGetD; rw [h1, h2, h3]; rfl
theorem ev_k2 {i j : Int} (h1 : a ρ = some (.int i)) (h2 : b ρ = some (.int j)) : eTup (dCons a (dCons b dNil)) ρ = some (.tup [.int i, .int j]) := ev_tup (ev_cons h1 (ev_cons h2 ev_nil)) rfl
variable {N : DEnv → Prop} {R : D → Prop} {f : DS}
theorem wp_ownD {i : Nat} (k : N (ρ.set i (.od []))) : Wp (sOwnD i) ρ N R := ⟨_, rfl, k⟩
theorem wp_setD {i : Nat} {fk fe : DE} {kvs : List ((Int × Int) × Int)} {x y v : Int} (h1 : ρ i = some (.od kvs)) (h2 : fk ρ = some (.tup [.int x, .int y])) (h3 : fe ρ = some (.int v)) (hl : kvs.length < 16777216) (k : N (ρ.set i (.od (putD kvs (x, y) v)))) : Wp (sSetD i fk fe) ρ N R := ⟨.nx (ρ.set i (.od (putD kvs (x, y) v))), by
  unfold sSetD
  rw [h1, h2, h3]
  show (if szB (kvs.length + 1) = true then _ else _) = _
  rw [if_pos (szB_of (by omega))], k⟩
theorem wp_forL {it : DI} {j : Nat} {body : DS} (n : Nat) (h : it ρ = some (((List.range n).map fun i => D.int (i : Nat)).map .p)) (I : Nat → DEnv → Prop) (h0 : I 0 ρ)
    (hs : ∀ k ρ, k < n → I k ρ → Wp body (ρ.set j (.p (.int (k : Nat)))) (I (k + 1)) R) (hd : ∀ ρ, I n ρ → N ρ) : Wp (sFor it (.nm j) body) ρ N R := by
  refine wp_forC _ h I h0 (fun k d ρ e hI => ?_) (fun ρ hI => hd ρ (by simpa using hI))
  rw [List.getElem?_map] at e
  by_cases hk : k < n
  · rw [List.getElem?_range hk] at e
    cases e
    exact ⟨_, rfl, hs k ρ hk hI⟩
  · rw [List.getElem?_eq_none (by simp; omega)] at e; cases e
def nodesD (n : Nat) : D := .lst ((List.range n).map fun i => D.int (i : Nat))
theorem it_nodes {n : Nat} (h : a ρ = some (nodesD n)) : iOf asS a ρ = some (((List.range n).map fun i => D.int (i : Nat)).map .p) := seq_lst h
theorem ev_nodes {n : Nat} (h : a ρ = some (.int n)) (hn : n ≤ 1000000) : eNew (dRng (eC (.int 0)) a) ρ = some (nodesD n) := by
  refine ev_new (ds := (List.range n).map fun i => D.int (i : Nat)) ?_
  unfold dRng
  rw [h]
  show (if _ then _ else _) = _
  rw [if_pos (by omega)]
  have : ((n : Int) - 0).toNat = n := by omega
  rw [this]
  congr 1
  apply List.map_congr_left
  intro i _
  rw [Int.zero_add]
end
end PL
namespace PL
open PySem PySem.Spec PyProof.Rows L2
/-! own lists of lists with gaps -/
def llP (Q : List (List (Option Int))) : Cell := .oll (Q.map fun r => r.map oi)
def setP (Q : List (List (Option Int))) (a b : Nat) (v : Int) : List (List (Option Int)) := Q.set a ((Q.getD a []).set b (some v))
theorem rect_setP {Q : List (List (Option Int))} {m w a b : Nat} {v : Int} (h : RectP Q m w) (ha : a < m) : RectP (setP Q a b v) m w := ⟨by unfold setP; rw [List.length_set]; exact h.1, fun r hr => by
  unfold setP at hr
  rcases List.mem_or_eq_of_mem_set hr with hr | rfl
  · exact h.2 r hr
  · rw [List.length_set]; exact len_rowP h ha⟩
theorem pe_setP {Q : List (List (Option Int))} {m w a b i j : Nat} {v : Int} (h : RectP Q m w) (ha : a < m) (hb : b < w) (hi : i < m) (hj : j < w) : pe (setP Q a b v) i j = setF (pe Q) a b (some v) i j := by
  have hl := h.1
  have l2 := len_rowP h ha
  unfold pe setF setP
  rw [getD_get (Q.set a ((Q.getD a []).set b (some v))) [] (by rw [List.length_set]; omega), List.getElem_set]
  by_cases e : a = i
  · subst e
    rw [if_pos rfl, getD_get ((Q.getD a []).set b (some v)) none (by rw [List.length_set]; omega), List.getElem_set]
    by_cases e2 : b = j
    · subst e2; rw [if_pos rfl, if_pos ⟨rfl, rfl⟩]
    · rw [if_neg e2, if_neg (fun q => e2 q.2.symm)]
      exact (getD_get (Q.getD a []) none (by omega)).symm
  · rw [if_neg e, if_neg (fun q => e q.1.symm), ← getD_get Q [] (by omega)]
section
variable {ρ : DEnv} {i : Nat} {fb fe f1 f2 : DE} {Q : List (List (Option Int))} {m w : Nat}
theorem ev_lenLLP (h : ρ i = some (llP Q)) : eLenLL i ρ = some (.int Q.length) := by unfold eLenLL; rw [h]; show some (D.int ((Q.map fun r => r.map oi).length : Nat)) = _; rw [List.length_map]
theorem ev_ixLLP {k : Nat} (h : ρ i = some (llP Q)) (hb : fb ρ = some (.int k)) (hk : k < Q.length) : eIxLL i fb ρ = some (.lst ((Q.getD k []).map oi)) := by
  unfold eIxLL; rw [h, hb]
  show (atI (Q.map fun r => r.map oi) (k : Int)).map D.lst = _
  rw [atI_at (by simpa using hk), List.getElem_map, getD_get _ _ hk]; rfl
theorem wp_setP {N : DEnv → Prop} {R : D → Prop} {a b : Nat} {v : Int} (h1 : ρ i = some (llP Q)) (he : fe ρ = some (.int v)) (hf1 : f1 ρ = some (.int a)) (hf2 : f2 ρ = some (.int b)) (ht : RectP Q m w) (ha : a < m) (hb : b < w) (k : N (ρ.set i (llP (setP Q a b v)))) : Wp (sSetLL i f1 f2 fe) ρ N R := by
  have e1 := ht.1
  have e2 := len_rowP ht ha
  refine wp_setLL (k1 := a) (k2 := b) (xs := (Q.getD a []).map oi) h1 he hf1 hf2 ?_ (by rw [List.length_map, e2]; omega) ?_
  · rw [List.getElem?_map, List.getElem?_eq_getElem (by omega : a < Q.length), getD_get _ _ (by omega : a < Q.length)]; rfl
  · have : llP (setP Q a b v) = .oll ((Q.map fun r => r.map oi).set a (((Q.getD a []).map oi).set b (.int v))) := by
      unfold llP setP; rw [List.map_set, List.map_set]; rfl
    rw [← this]; exact k
theorem own_LLP {fa : DE} {j : Nat} {ws : List Nat} (h : fa ρ = some (ofP Q)) (hl : Q.length ≤ 16777216) : eCompLL (iOf asS fa) (.nm j) ws bYes (dBlt gList (dCons (eRv j) dNil)) ρ = some (Q.map fun r => r.map oi) := by
  have main : ∀ l : List (List (Option Int)), compLL (.nm j) ws bYes (dBlt gList (dCons (eRv j) dNil)) ρ ((l.map ofPR).map .p) = some (l.map fun r => r.map oi) := by
    intro l
    induction l with
    | nil => rfl
    | cons x l ih =>
      rw [List.map_cons, List.map_cons]
      unfold compLL
      show (some ((ρ.wipe ws).set j (.p (ofPR x)))).bind _ = _
      rw [Option.bind_some, show bYes ((ρ.wipe ws).set j (.p (ofPR x))) = some true from rfl, Option.bind_some, if_pos rfl, ev_dblt (ds := [ofPR x]) (es := x.map oi) (ev_cons (ev_rv (by unfold DEnv.set; rw [if_pos rfl])) ev_nil) rfl, Option.bind_some, ih]
      rfl
  unfold eCompLL
  rw [show iOf asS fa ρ = some ((Q.map ofPR).map .p) from seq_tup h, Option.bind_some, main, Option.bind_some, if_pos]
  rw [List.length_map]; exact szB_of hl
theorem tup_LLP {j : Nat} {ws : List Nat} (h : ρ i = some (llP Q)) (hl : Q.length ≤ 16777216) : eBlt (b1 gTuple) (dCons (eNew (eComp (iLL i) (.nm j) ws bYes (eBlt (b1 gTuple) (dCons (eRv j) dNil)))) dNil) ρ = some (ofP Q) := by
  have main : ∀ l : List (List (Option Int)), compL (.nm j) ws bYes (eBlt (b1 gTuple) (dCons (eRv j) dNil)) ρ (l.map fun r => .ol (r.map oi)) = some (l.map ofPR) := by
    intro l
    induction l with
    | nil => rfl
    | cons x l ih =>
      rw [List.map_cons]
      unfold compL
      show (some ((ρ.wipe ws).set j (.ol (x.map oi)))).bind _ = _
      rw [Option.bind_some, show bYes ((ρ.wipe ws).set j (.ol (x.map oi))) = some true from rfl, Option.bind_some, if_pos rfl, ev_tupOf (l := x.map oi) (ev_rvo (by unfold DEnv.set; rw [if_pos rfl])), Option.bind_some, ih]
      rfl
  refine ev_tupOf (l := Q.map ofPR) (ev_new ?_)
  unfold eComp
  have : iLL i ρ = some (Q.map fun r => .ol (r.map oi)) := by unfold iLL; rw [h]; show some ((Q.map fun r => r.map oi).map Cell.ol) = _; rw [List.map_map]; rfl
  rw [this, Option.bind_some, main, Option.bind_some, if_pos]
  rw [List.length_map]; exact szB_of hl
end
/-! full tables -/
def toP (t : List (List Int)) : List (List (Option Int)) := t.map fun r => r.map some
theorem ofP_toP (t : List (List Int)) : ofP (toP t) = ofT t := by
  unfold ofP toP ofT
  rw [List.map_map]
  congr 1
  apply List.map_congr_left
  intro r _
  show ofPR (r.map some) = ofR r
  unfold ofPR ofR
  rw [List.map_map]; rfl
theorem rect_toP {t : List (List Int)} {m w : Nat} (h : Rect t m w) : RectP (toP t) m w := ⟨by unfold toP; rw [List.length_map]; exact h.1, fun r hr => by
  obtain ⟨x, hx, rfl⟩ := List.mem_map.mp hr
  rw [List.length_map]; exact h.2 x hx⟩
theorem pe_toP {t : List (List Int)} {m w i j : Nat} (h : Rect t m w) (hi : i < m) (hj : j < w) : pe (toP t) i j = some (en t i j) := by
  have hl := h.1
  have lr := len_row h (i := i) (by omega)
  unfold pe toP
  rw [getD_get (t.map fun r => r.map some) [] (by rw [List.length_map]; omega), List.getElem_map]
  have e : t[i]'(by omega) = row t i := by unfold row; rw [getD_get _ _ (by simp only [Int.toNat_natCast]; omega)]; simp
  rw [e, getD_get ((row t i).map some) none (by rw [List.length_map]; omega), List.getElem_map]
  unfold en gi
  rw [getD_get (row t i) 0 (by simp only [Int.toNat_natCast]; omega)]
  simp
theorem ext_P {P Q : List (List (Option Int))} {m w : Nat} (hP : RectP P m w) (hQ : RectP Q m w) (h : ∀ i j, i < m → j < w → pe P i j = pe Q i j) : P = Q := by
  have h1 := hP.1
  have h2 := hQ.1
  apply List.ext_getElem (h1.trans h2.symm)
  intro i a1 a2
  have e1 := len_rowP hP (i := i) (by omega)
  have e2 := len_rowP hQ (i := i) (by omega)
  have k := h i
  unfold pe at k
  rw [getD_get _ _ a1] at e1 k
  rw [getD_get _ _ a2] at e2 k
  apply List.ext_getElem (e1.trans e2.symm)
  intro j b1 b2
  have := k j (by omega) (by omega)
  rwa [getD_get _ _ b1, getD_get _ _ b2] at this
theorem fill_self {t : List (List Int)} {m w : Nat} (ht : Rect t m w) (hR : RealT t m w) : Fill (pe (toP t)) m w t := ⟨ht, hR, fun i j hi hj v hv => by
  rw [pe_toP ht hi hj] at hv; cases hv; rfl⟩
theorem fill_full {t s : List (List Int)} {m w : Nat} (ht : Rect t m w) (h : Fill (pe (toP t)) m w s) : s = t := by
  refine ext_rect h.1 ht fun i j i0 i1 j0 j1 => ?_
  have := h.2.2 i.toNat j.toNat (by omega) (by omega) (en t i.toNat j.toNat) (pe_toP ht (by omega) (by omega))
  rwa [Int.toNat_of_nonneg i0, Int.toNat_of_nonneg j0] at this
end PL

namespace PL
open PySem PySem.Spec PyProof.Rows L2
/-! ## one entry another one; ends of ranges -/
def withP (Q : List (List (Option Int))) (a b : Nat) (v : Option Int) : List (List (Option Int)) := Q.set a ((Q.getD a []).set b v)
theorem rect_withP {Q : List (List (Option Int))} {m w a b : Nat} {v : Option Int} (h : RectP Q m w) (ha : a < m) : RectP (withP Q a b v) m w := ⟨by unfold withP; rw [List.length_set]; exact h.1, fun r hr => by
  unfold withP at hr
  rcases List.mem_or_eq_of_mem_set hr with hr | rfl
  · exact h.2 r hr
  · rw [List.length_set]; exact len_rowP h ha⟩
theorem pe_withP {Q : List (List (Option Int))} {m w a b i j : Nat} {v : Option Int} (h : RectP Q m w) (ha : a < m) (hb : b < w) (hi : i < m) (hj : j < w) : pe (withP Q a b v) i j = setF (pe Q) a b v i j := by
  have hl := h.1
  have l2 := len_rowP h ha
  unfold pe setF withP
  rw [getD_get (Q.set a ((Q.getD a []).set b v)) [] (by rw [List.length_set]; omega), List.getElem_set]
  by_cases e : a = i
  · subst e
    rw [if_pos rfl, getD_get ((Q.getD a []).set b v) none (by rw [List.length_set]; omega), List.getElem_set]
    by_cases e2 : b = j
    · subst e2; rw [if_pos rfl, if_pos ⟨rfl, rfl⟩]
    · rw [if_neg e2, if_neg (fun q => e2 q.2.symm)]
      exact (getD_get (Q.getD a []) none (by omega)).symm
  · rw [if_neg e, if_neg (fun q => e q.1.symm), ← getD_get Q [] (by omega)]
theorem eqv_oi (x y : Option Int) : D.eqv (oi x) (oi y) = decide (x = y) := by
  cases x with
  | none => cases y with | none => rfl | some b => rfl
  | some a => cases y with
    | none => rfl
    | some b => refine (eqv_int a b).trans ?_; simp
theorem faith_oi : Faith oi := eqv_oi
theorem okn_oi {n : Nat} : OkN oi n := fun x => by cases x <;> cases n <;> rfl
theorem faith_PR : Faith ofPR := faith_tup faith_oi
theorem okn_PR {n : Nat} : OkN ofPR (n + 1) := okn_tup okn_oi
theorem faith_P : Faith ofP := faith_tup faith_PR
theorem okn_P {n : Nat} : OkN ofP (n + 2) := okn_tup okn_PR
def pr2 (a b : Option Int) : D := .tup [oi a, oi b]
theorem g_ne2 {a b c d : Option Int} : gNe (pr2 a b) (pr2 c d) = some (.bl (!decide (a = c ∧ b = d))) := by
  refine (g_neF faith_PR okn_PR [a, b] [c, d]).trans ?_
  simp
theorem g_eq2 {a b c d : Option Int} : gEq (pr2 a b) (pr2 c d) = some (.bl (decide (a = c ∧ b = d))) := by
  refine (g_eqF faith_PR okn_PR [a, b] [c, d]).trans ?_
  simp
section
variable {ρ : DEnv} {a b c : DE} {lo hi : DO} {o1 o2 : Option Int} {N : DEnv → Prop} {R : D → Prop}
theorem ev_cutPR {l : List (Option Int)} (h : a ρ = some (ofPR l)) (h1 : lo ρ = some o1) (h2 : hi ρ = some o2) : eCut a lo hi ρ = some (ofPR (cutI l o1 o2)) := by
  unfold eCut; rw [h, h1, h2]
  show some (D.tup (cutD (l.map oi) o1 o2)) = _
  rw [cutD_map]; rfl
theorem ev_cutP {l : List (List (Option Int))} (h : a ρ = some (ofP l)) (h1 : lo ρ = some o1) (h2 : hi ρ = some o2) : eCut a lo hi ρ = some (ofP (cutI l o1 o2)) := by
  unfold eCut; rw [h, h1, h2]
  show some (D.tup (cutD (l.map ofPR) o1 o2)) = _
  rw [cutD_map]; rfl
theorem g_addT {α : Type} (f : α → D) {x y : List α} (h : x.length + y.length ≤ 16777216) : gAdd (.tup (x.map f)) (.tup (y.map f)) = some (.tup ((x ++ y).map f)) := by
  show (if szB ((x.map f).length + (y.map f).length) = true then _ else _) = _
  rw [if_pos (szB_of (by rw [List.length_map, List.length_map]; exact h)), List.map_append]
theorem g_addL {α : Type} (f : α → D) {x y : List α} (h : x.length + y.length ≤ 16777216) : gAdd (.lst (x.map f)) (.lst (y.map f)) = some (.lst ((x ++ y).map f)) := by
  show (if szB ((x.map f).length + (y.map f).length) = true then _ else _) = _
  rw [if_pos (szB_of (by rw [List.length_map, List.length_map]; exact h)), List.map_append]
theorem wp_forI {lo hi : DE} {j : Nat} {body : DS} (a b : Int) (ha : lo ρ = some (.int a)) (hb : hi ρ = some (.int b)) (h1 : -1000000000 ≤ a ∧ a ≤ 1000000000) (h2 : -1000000000 ≤ b ∧ b ≤ 1000000000) (I : DEnv → Prop) (h0 : I ρ)
    (hs : ∀ (k : Int) ρ, a ≤ k → k < b → I ρ → Wp body (ρ.set j (.p (.int k))) I R) (hd : ∀ ρ, I ρ → N ρ) : Wp (sFor (iRng lo hi) (.nm j) body) ρ N R := by
  refine wp_forC ((List.range (b - a).toNat).map fun i => D.int (a + (i : Nat))) ?_ (fun _ => I) h0 (fun k d ρ e hI => ?_) hd
  · unfold iRng
    rw [ha, hb]
    show (if _ then _ else _) = _
    rw [if_pos ⟨h1.1, h1.2, h2.1, h2.2⟩]
    unfold rngCells
    rw [List.map_map]; rfl
  · rw [List.getElem?_map] at e
    by_cases hk : k < (b - a).toNat
    · rw [List.getElem?_range hk] at e
      cases e
      exact ⟨_, rfl, hs _ ρ (by omega) (by omega) hI⟩
    · rw [List.getElem?_eq_none (by simp; omega)] at e; cases e
end
theorem ends {lo hi : Option Int} {A B v0 : Int} (h : ∀ v, ((∀ x, lo = some x → x ≤ v) ∧ (∀ x, hi = some x → v ≤ x)) ↔ A ≤ v ∧ v ≤ B) (h0 : A ≤ v0 ∧ v0 ≤ B) : lo = some A ∧ hi = some B := by
  have k0 := (h v0).mpr h0
  constructor
  · cases hl : lo with
    | none =>
      have := (h (A - 1)).mp ⟨fun x hx => (by rw [hl] at hx; cases hx), fun x hx => (by have := k0.2 x hx; omega)⟩
      omega
    | some a =>
      have h1 := k0.1 a hl
      have h2 := (h a).mp ⟨fun x hx => (by rw [hl] at hx; cases hx; omega), fun x hx => (by have := k0.2 x hx; omega)⟩
      have h3 := ((h A).mpr ⟨Int.le_refl _, by omega⟩).1 a hl
      congr 1; omega
  · cases hl : hi with
    | none =>
      have := (h (B + 1)).mp ⟨fun x hx => (by have := k0.1 x hx; omega), fun x hx => (by rw [hl] at hx; cases hx)⟩
      omega
    | some a =>
      have h1 := k0.2 a hl
      have h2 := (h a).mp ⟨fun x hx => (by have := k0.1 x hx; omega), fun x hx => (by rw [hl] at hx; cases hx; omega)⟩
      have h3 := ((h B).mpr ⟨by omega, Int.le_refl _⟩).2 a hl
      congr 1; omega
theorem ends_free {lo hi : Option Int} (h : ∀ v, (∀ x, lo = some x → x ≤ v) ∧ (∀ x, hi = some x → v ≤ x)) : lo = none ∧ hi = none := by
  constructor
  · cases hl : lo with
    | none => rfl
    | some a => have := (h (a - 1)).1 a hl; omega
  · cases hl : hi with
    | none => rfl
    | some a => have := (h (a + 1)).2 a hl; omega
/-- one entry of a real table another one -/
theorem real_set {t : List (List Int)} {m w : Nat} (ht : Rect t m w) (hR : RealT t m w) {r c v : Int} (hr : 0 ≤ r ∧ r < m) (hc : 0 ≤ c ∧ c < w) :
    RealT (setT t r c v) m w ↔ ∀ i j : Int, 0 ≤ i → i < m → 0 ≤ j → j < w → i ≠ r → j ≠ c → -1 ≤ v - (en t r j + en t i c - en t i j) ∧ v - (en t r j + en t i c - en t i j) ≤ 1 := by
  have hen : ∀ i j : Int, 0 ≤ i → i < m → 0 ≤ j → j < w → en (setT t r c v) i j = if i = r ∧ j = c then v else en t i j := fun i j i0 i1 j0 j1 => en_setT ht hr hc ⟨i0, i1⟩ ⟨j0, j1⟩
  constructor
  · intro h i j i0 i1 j0 j1 hir hjc
    have := real_all h (i := r) (j := i) (a := c) (b := j) hr ⟨i0, i1⟩ hc ⟨j0, j1⟩
    unfold cr at this
    rw [hen r c hr.1 hr.2 hc.1 hc.2, hen i j i0 i1 j0 j1, hen r j hr.1 hr.2 j0 j1, hen i c i0 i1 hc.1 hc.2, if_pos ⟨rfl, rfl⟩, if_neg (fun e => hir e.1), if_neg (fun e => hjc e.2), if_neg (fun e => hir e.1)] at this
    omega
  · intro h i j a b i0 ij jm a0 ab bw
    have o := hR i j a b i0 ij jm a0 ab bw
    unfold cr at o ⊢
    rw [hen i a i0 (by omega) a0 (by omega), hen j b (by omega) jm (by omega) bw, hen i b i0 (by omega) (by omega) bw, hen j a (by omega) jm a0 (by omega)]
    by_cases c1 : i = r
    · subst c1
      by_cases c2 : a = c
      · subst c2
        have := h j b (by omega) jm (by omega) bw (by omega) (by omega)
        rw [if_pos ⟨rfl, rfl⟩, if_neg (by omega), if_neg (by omega), if_neg (by omega)]
        omega
      · by_cases c3 : b = c
        · subst c3
          have := h j a (by omega) jm (by omega) (by omega) (by omega) (by omega)
          rw [if_neg (by omega), if_neg (by omega), if_pos ⟨rfl, rfl⟩, if_neg (by omega)]
          omega
        · rw [if_neg (by omega), if_neg (by omega), if_neg (by omega), if_neg (by omega)]
          exact o
    · by_cases c1 : j = r
      · subst c1
        by_cases c2 : a = c
        · subst c2
          have := h i b (by omega) (by omega) (by omega) bw (by omega) (by omega)
          rw [if_neg (by omega), if_neg (by omega), if_neg (by omega), if_pos ⟨rfl, rfl⟩]
          omega
        · by_cases c3 : b = c
          · subst c3
            have := h i a (by omega) (by omega) (by omega) (by omega) (by omega) (by omega)
            rw [if_neg (by omega), if_pos ⟨rfl, rfl⟩, if_neg (by omega), if_neg (by omega)]
            omega
          · rw [if_neg (by omega), if_neg (by omega), if_neg (by omega), if_neg (by omega)]
            exact o
      · rw [if_neg (by omega), if_neg (by omega), if_neg (by omega), if_neg (by omega)]
        exact o
theorem with_toP {t : List (List Int)} {m w r c : Nat} {v : Int} (ht : Rect t m w) (hr : r < m) (hc : c < w) : withP (toP t) r c (some v) = toP (setT t r c v) := by
  refine ext_P (rect_withP (rect_toP ht) hr) (rect_toP (rect_setT ht (by omega))) fun i j hi hj => ?_
  rw [pe_withP (rect_toP ht) hr hc hi hj, pe_toP (rect_setT ht (by omega)) hi hj, en_setT ht (by omega) (by omega) (by omega) (by omega)]
  unfold setF
  by_cases e : i = r ∧ j = c
  · rw [if_pos e, if_pos (by omega)]
  · rw [if_neg e, if_neg (by omega), pe_toP ht hi hj]
/-- fillings of a table with one gap -/
theorem fill_gap {t s : List (List Int)} {m w r c : Nat} (ht : Rect t m w) (hr : r < m) (hc : c < w) : Fill (pe (withP (toP t) r c none)) m w s ↔ s = setT t r c (en s r c) ∧ RealT s m w ∧ Rect s m w := by
  constructor
  · intro h
    refine ⟨?_, h.2.1, h.1⟩
    refine ext_rect h.1 (rect_setT ht (by omega)) fun i j i0 i1 j0 j1 => ?_
    rw [en_setT ht (by omega) (by omega) ⟨i0, i1⟩ ⟨j0, j1⟩]
    by_cases e : i = r ∧ j = c
    · rw [if_pos e, e.1, e.2]
    · rw [if_neg e]
      have k := h.2.2 i.toNat j.toNat (by omega) (by omega) (en t i j) (by
        rw [pe_withP (rect_toP ht) hr hc (by omega) (by omega)]
        unfold setF
        rw [if_neg (by omega), pe_toP ht (by omega) (by omega), Int.toNat_of_nonneg i0, Int.toNat_of_nonneg j0])
      rwa [Int.toNat_of_nonneg i0, Int.toNat_of_nonneg j0] at k
  · rintro ⟨h1, h2, h3⟩
    refine ⟨h3, h2, fun i j hi hj v hv => ?_⟩
    rw [pe_withP (rect_toP ht) hr hc hi hj] at hv
    unfold setF at hv
    split at hv
    · cases hv
    · rename_i e
      rw [pe_toP ht hi hj] at hv
      cases hv
      rw [h1, en_setT ht (by omega) (by omega) (by omega) (by omega), if_neg (by omega)]
theorem can_gap {t : List (List Int)} {m w r c : Nat} {v : Int} (ht : Rect t m w) (hr : r < m) (hc : c < w) : (∃ s, Fill (pe (withP (toP t) r c none)) m w s ∧ en s r c = v) ↔ RealT (setT t r c v) m w := by
  constructor
  · rintro ⟨s, hs, rfl⟩
    obtain ⟨h1, h2, -⟩ := (fill_gap ht hr hc).mp hs
    rw [← h1]; exact h2
  · intro h
    have e : en (setT t r c v) r c = v := by rw [en_setT ht (by omega) (by omega) (by omega) (by omega), if_pos ⟨rfl, rfl⟩]
    exact ⟨setT t r c v, (fill_gap ht hr hc).mpr ⟨by rw [e], h, rect_setT ht (by omega)⟩, e⟩
end PL

namespace PL
open PySem PySem.Spec PyProof.Rows L2
/-! ## data of any kind -/
def Atom (d : D) : Prop := d = .non ∨ (∃ b, d = .bl b) ∨ (∃ i, d = .int i) ∨ ∃ z, d = .str z ∧ PyData.strOk z = true
def Vd (L : Nat) : Nat → D → Prop
  | 0, d => Atom d
  | k + 1, d => Atom d ∨ ∃ xs, (d = .lst xs ∨ d = .tup xs) ∧ xs.length ≤ L ∧ ∀ x ∈ xs, Vd L k x
theorem Vd.atom {L : Nat} : ∀ {k : Nat} {d : D}, Atom d → Vd L k d
  | 0, _, h => h
  | _ + 1, _, h => .inl h
theorem Vd.mono {L L' : Nat} (hL : L ≤ L') : ∀ {k k' : Nat} {d : D}, k ≤ k' → Vd L k d → Vd L' k' d
  | 0, _, _, _, h => Vd.atom h
  | k + 1, 0, _, hk, _ => absurd hk (by omega)
  | k + 1, k' + 1, _, hk, h => by
    rcases h with h | ⟨xs, h1, h2, h3⟩
    · exact .inl h
    · exact .inr ⟨xs, h1, by omega, fun x hx => (h3 x hx).mono hL (by omega)⟩
theorem atom_ok {d : D} (h : Atom d) (n : Nat) : d.ok n = true := by
  rcases h with rfl | ⟨b, rfl⟩ | ⟨i, rfl⟩ | ⟨z, rfl, hz⟩
  · cases n <;> rfl
  · cases n <;> rfl
  · cases n <;> rfl
  · cases n <;> exact hz
theorem Vd.ok {L : Nat} : ∀ {k : Nat} {d : D}, Vd L k d → ∀ n, k ≤ n → d.ok n = true
  | 0, _, h, n, _ => atom_ok h n
  | k + 1, d, h, n, hn => by
    rcases h with h | ⟨xs, h1, h2, h3⟩
    · exact atom_ok h n
    · obtain ⟨n', rfl⟩ : ∃ n', n = n' + 1 := ⟨n - 1, by omega⟩
      rcases h1 with rfl | rfl
      · rw [ok_lst, List.all_eq_true]
        exact fun x hx => (h3 x hx).ok n' (by omega)
      · rw [ok_tup, List.all_eq_true]
        exact fun x hx => (h3 x hx).ok n' (by omega)
theorem Vd.items {L k : Nat} {d : D} {xs : List D} (h : Vd L k d) (e : d = .lst xs ∨ d = .tup xs) : ∃ k', k = k' + 1 ∧ xs.length ≤ L ∧ ∀ x ∈ xs, Vd L k' x := by
  have na : ¬ Atom d := by
    rintro (h | ⟨b, h⟩ | ⟨i, h⟩ | ⟨z, h, _⟩) <;> rcases e with e | e <;> rw [e] at h <;> cases h
  cases k with
  | zero => exact absurd h na
  | succ k =>
    rcases h with h | ⟨ys, h1, h2, h3⟩
    · exact absurd h na
    · have : ys = xs := by
        rcases h1 with rfl | rfl <;> rcases e with e | e <;> cases e <;> rfl
      subst this
      exact ⟨k, rfl, h2, h3⟩
theorem Vd.mk {L k : Nat} {xs : List D} {d : D} (e : d = .lst xs ∨ d = .tup xs) (h1 : xs.length ≤ L) (h2 : ∀ x ∈ xs, Vd L k x) : Vd L (k + 1) d := .inr ⟨xs, e, h1, h2⟩
/-- a list of data against the empty list -/
theorem g_neN {xs : List D} (h : ∀ x ∈ xs, x.ok 49 = true) : gNe (.lst xs) (.lst []) = some (.bl (!decide (xs = []))) := by
  unfold gNe
  rw [ok_lst xs 49, List.all_eq_true.mpr h, show (D.lst []).ok 50 = true from rfl, Bool.and_self, if_pos rfl]
  have : D.eqv (.lst xs) (.lst []) = decide (xs = []) := by
    show PyData.eqv (.list _) (.list _) = _
    rw [PyData.eqv]
    cases xs with
    | nil => rfl
    | cons x xs => rfl
  rw [this]
/-! tables: the check -/
def isI (v : D) : Bool := match v with | .int i => decide (-999 ≤ i) && decide (i ≤ 999) | _ => false
def entOk (gaps : Bool) (v : D) : Bool := match v with | .non => gaps | v => isI v
def tl (d : D) : Option (List D) := match d with | .tup xs => some xs | _ => none
def rowOk (gaps : Bool) (n : Nat) (r : D) : Bool := match tl r with
  | none => false
  | some xs => (decide (1 ≤ xs.length) && decide (xs.length ≤ 6)) && (decide (xs.length = n) && xs.all (entOk gaps))
def headN (rows : List D) : Nat := match rows with | [] => 0 | r :: _ => match tl r with | some xs => xs.length | none => 0
def TabOk (gaps : Bool) (v : D) : Bool := match tl v with
  | none => false
  | some rows => (decide (1 ≤ rows.length) && decide (rows.length ≤ 6)) && rows.all (rowOk gaps (headN rows))
theorem tl_some {d : D} {xs : List D} (h : tl d = some xs) : d = .tup xs := by
  unfold tl at h
  split at h
  · cases h; rfl
  · cases h
theorem tl_isTy {d : D} : d.isTy .ttuple = (tl d).isSome := by cases d <;> rfl
theorem dec12 {n : Nat} : (decide ((1 : Int) ≤ (n : Nat)) && decide (((n : Nat) : Int) ≤ 6)) = (decide (1 ≤ n) && decide (n ≤ 6)) := by
  rw [show decide ((1 : Int) ≤ (n : Nat)) = decide (1 ≤ n) from decide_eq_decide.mpr (by omega), show decide (((n : Nat) : Int) ≤ 6) = decide (n ≤ 6) from decide_eq_decide.mpr (by omega)]
theorem ev_tupLen {ρ : DEnv} {a : DE} {xs : List D} (h : a ρ = some (.tup xs)) : eBlt (b1 gLen) (dCons a dNil) ρ = some (.int xs.length) := ev_blt (ev_cons h ev_nil) rfl
theorem ev_chk {ρ : DEnv} {a : DE} {xs : List D} (h : a ρ = some (.tup xs)) : eChain gLe gLe (eC (.int 1)) (eBlt (b1 gLen) (dCons a dNil)) (eC (.int 6)) ρ = some (.bl (decide (1 ≤ xs.length) && decide (xs.length ≤ 6))) := by
  rw [ev_chain ev_c (ev_tupLen h) ev_c, dec12]
end PL

namespace PL
open PySem PySem.Spec PyProof.Rows L2
theorem cell_spec (ns : List Int) (k : Nat) : ∃ i : Int, f_law_cell [.scr ns, .int k] = some (.int i) := by
  suffices h : ∃ d, f_law_cell [.scr ns, .int k] = some d ∧ ∃ i : Int, d = .int i by
    obtain ⟨d, h1, i, rfl⟩ := h
    exact ⟨i, h1⟩
  refine fn_of_wp rfl ?_
  unfold b_law_cell
  apply wp_seq
  refine wp_if (by walk_at "ev") (fun hb => ?_) (fun hb => ?_)
  · have hb := of_decide_eq_true hb
    refine wp_ret (by walk_at "evo") ?_
    exact ⟨_, rfl⟩
  · apply wp_skip
    apply wp_seq
    refine wp_if (by walk_at "ev") (fun hb => ?_) (fun hb => ?_)
    · refine wp_ret (by walk_at "ev") ?_
      exact ⟨_, rfl⟩
    · apply wp_skip
      have hb := of_decide_eq_false hb
      have h0 := Int.emod_nonneg (k : Int) hb
      have h1 := Int.emod_lt_of_pos (k : Int) (by omega : (0 : Int) < ns.length)
      refine wp_ret (by walk_at "evo") ?_
      exact ⟨_, rfl⟩
theorem digits_spec (ns : List Int) (k n : Nat) (base : Int) (hn : n ≤ 1000) (hb : 0 < base ∧ base < 4294967296) : ∃ ds : List Int, f_law_digits [.scr ns, .int k, .int n, .int base] = some (ofI ds) ∧ ds.length = n ∧ ∀ d ∈ ds, 0 ≤ d ∧ d < base := by
  obtain ⟨c, hc⟩ := cell_spec ns k
  suffices h : ∃ d, f_law_digits [.scr ns, .int k, .int n, .int base] = some d ∧ ∃ ds : List Int, d = ofI ds ∧ ds.length = n ∧ ∀ d ∈ ds, 0 ≤ d ∧ d < base by
    obtain ⟨d, h1, i, rfl, h3⟩ := h
    exact ⟨i, h1, h3⟩
  obtain ⟨P, hP⟩ : ∃ P : List Int, P = [2147483647, 2147483629, 2147483587, 2147483579, 2147483563, 2147483549, 2147483543, 2147483497] := ⟨_, rfl⟩
  have hP8 : P.length = 8 := by rw [hP]; rfl
  have prim : ∀ i : Int, 0 < gi P (i % 8) ∧ gi P (i % 8) < 2147483648 := by
    intro i
    have h0 := Int.emod_nonneg i (by decide : (8 : Int) ≠ 0)
    have h1 := Int.emod_lt_of_pos i (by decide : (0 : Int) < 8)
    generalize i % 8 = j at *
    have : j = 0 ∨ j = 1 ∨ j = 2 ∨ j = 3 ∨ j = 4 ∨ j = 5 ∨ j = 6 ∨ j = 7 := by omega
    rw [hP]
    rcases this with rfl | rfl | rfl | rfl | rfl | rfl | rfl | rfl <;> decide
  refine fn_of_wp rfl ?_
  unfold b_law_digits
  apply wp_seq
  refine wp_asg (d := ofR P) (by rw [hP]; rfl) ?_
  apply wp_seq
  refine wp_asg (by walk_at "ev"; exact hc) ?_
  apply wp_seq
  refine wp_asg (by walk_at "evo") ?_
  apply wp_seq
  refine wp_own (ds := []) rfl ?_
  apply wp_seq
  have hr : 0 ≤ (if decide ((10 : Int) ^ (18 : Int).toNat ≤ c) = true then c else 0) := by
    split
    · rename_i h; have h := of_decide_eq_true h
      exact Int.le_trans (by decide) h
    · decide
  refine wp_forN 0 n (by walk_at "ev") (by walk_at "ev") (by omega) (by omega) (fun t ρ => ∃ (ds : List Int) (r : Int), ρ 1 = some (.p (.int k)) ∧ ρ 3 = some (.p (.int base)) ∧ ρ 4 = some (.p (ofR P)) ∧
    ρ 5 = some (.p (.int c)) ∧ ρ 6 = some (.p (.int r)) ∧ 0 ≤ r ∧ ρ 7 = some (.ol (ds.map .int)) ∧ ds.length = t ∧ ∀ d ∈ ds, 0 ≤ d ∧ d < base) ?_ ?_ ?_
  · exact ⟨[], _, rfl, rfl, rfl, rfl, rfl, hr, rfl, rfl, by simp⟩
  · rintro t ρ - ht ⟨ds, r, h1, h3, h4, h5, h6, hr, h7, hl, hd⟩
    have htt : (t : Int) * t ≤ 1000 * 1000 := Int.mul_le_mul (by omega) (by omega) (by omega) (by omega)
    have htt0 : 0 ≤ (t : Int) * t := Int.mul_nonneg (by omega) (by omega)
    have e2t : 2 * (t : Int) * t = 2 * (t * t) := Int.mul_assoc _ _ _
    have p1 := prim t
    apply wp_seq
    refine wp_asg (by walk_at "evo") ?_
    apply wp_seq
    refine wp_asg (by walk_at "evo") ?_
    apply wp_seq
    have p2 := prim (3 * t + k)
    refine wp_asg (by walk_at "evo") ?_
    have q1 := Int.emod_nonneg (c % gi P (↑t % 8) * (48271 + 2 * ↑t * ↑t) + 7919 * (↑t + 1) * (↑t + 1) + 104729 * ↑k) (Int.ne_of_gt p2.1)
    have q2 := Int.emod_lt_of_pos (c % gi P (↑t % 8) * (48271 + 2 * ↑t * ↑t) + 7919 * (↑t + 1) * (↑t + 1) + 104729 * ↑k) p2.1
    generalize (c % gi P (↑t % 8) * (48271 + 2 * ↑t * ↑t) + 7919 * (↑t + 1) * (↑t + 1) + 104729 * ↑k) % gi P ((3 * ↑t + ↑k) % 8) = mix at q1 q2 ⊢
    have p3 := prim (t + 5)
    apply wp_seq
    refine wp_asg (by walk_at "evo") ?_
    generalize mix * mix * mix % gi P ((↑t + 5) % 8) = mix
    apply wp_seq
    refine Wp.mono (M := fun ρ' => ∃ m : Int, ρ' 1 = some (.p (.int k)) ∧ ρ' 3 = some (.p (.int base)) ∧ ρ' 4 = some (.p (ofR P)) ∧ ρ' 5 = some (.p (.int c)) ∧ ρ' 6 = some (.p (.int r)) ∧ ρ' 7 = some (.ol (ds.map .int)) ∧ ρ' 9 = some (.p (.int m))) ?_ ?_
    · refine wp_if (by walk_at "ev") (fun hb => ?_) (fun hb => ?_)
      · refine wp_asg (by walk_at "ev") ?_
        exact ⟨r, h1, h3, h4, h5, h6, h7, rfl⟩
      · apply wp_skip
        exact ⟨mix, h1, h3, h4, h5, h6, h7, rfl⟩
    · rintro ρ' ⟨m, h1, h3, h4, h5, h6, h7, h9⟩
      apply wp_seq
      refine wp_app h7 (by walk_at "evo") (by rw [List.length_map]; omega) ?_
      refine wp_asg (by walk_at "evo") ?_
      refine ⟨ds ++ [m % base], r / base, h1, h3, h4, h5, rfl, Int.ediv_nonneg hr (by omega), ?_, by rw [List.length_append, hl]; rfl, ?_⟩
      · rw [List.map_append]; rfl
      · intro d hd'
        rcases List.mem_append.mp hd' with h | h
        · exact hd d h
        · rw [List.mem_singleton] at h; subst h
          exact ⟨Int.emod_nonneg _ (by omega), Int.emod_lt_of_pos _ hb.1⟩
  · rintro ρ ⟨ds, r, h1, h3, h4, h5, h6, hr, h7, hl, hd⟩
    refine wp_pre ?_
    have : freeze 7 ρ = ρ.set 7 (.p (ofI ds)) := by unfold freeze; rw [h7]; rfl
    rw [this]
    refine wp_ret (by walk_at "ev") ?_
    exact ⟨ds, rfl, by omega, hd⟩
end PL

namespace PL
open PySem PySem.Spec PyProof.Rows L2
theorem table_spec (ds : List Int) (m w : Nat) (hd : 14 ≤ ds.length) (hm : 1 ≤ m ∧ m ≤ 6) (hw : 1 ≤ w ∧ w ≤ 6) : ∃ (u : Int) (R C : List Int), f_law_table [ofI ds, .int m, .int w] = some (ofT (mkT u R C)) ∧ (0 < u ∧ u ≤ 7) ∧ R.length = m ∧ C.length = w ∧
    (∀ r ∈ R, -100 ≤ r ∧ r < 300) ∧ ∀ c ∈ C, 0 ≤ c ∧ c < 304 := by
  suffices h : ∃ d, f_law_table [ofI ds, .int m, .int w] = some d ∧ ∃ (u : Int) (R C : List Int), d = ofT (mkT u R C) ∧ (0 < u ∧ u ≤ 7) ∧ R.length = m ∧ C.length = w ∧
    (∀ r ∈ R, -100 ≤ r ∧ r < 300) ∧ ∀ c ∈ C, 0 ≤ c ∧ c < 304 by
    obtain ⟨d, h1, u, R, C, rfl, h3⟩ := h
    exact ⟨u, R, C, h1, h3⟩
  refine fn_of_wp rfl ?_
  unfold b_law_table
  apply wp_seq
  refine wp_asg (by walk_at "evo") ?_
  apply wp_seq
  refine wp_asg (d := ofI ((List.range w).map fun (k : Nat) => gi ds (1 + k) % 300)) (new_compN .int w _ (by walk_at "ev") (by walk_at "ev") (by omega) (fun k hk => by walk_at "evo")) ?_
  apply wp_seq
  refine wp_asg (d := ofI ((List.range m).map fun (k : Nat) => gi ds (7 + k) % 400 - 100)) (new_compN .int m _ (by walk_at "ev") (by walk_at "ev") (by omega) (fun k hk => by walk_at "evo")) ?_
  generalize hu : 1 + gi ds 0 % 7 = u
  have hu1 : 0 < u ∧ u ≤ 7 := by omega
  generalize hC : (List.range w).map (fun (k : Nat) => gi ds (1 + k) % 300) = C
  have hC1 : C.length = w := by rw [← hC]; simp
  have hC2 : ∀ c ∈ C, 0 ≤ c ∧ c < 300 := by
    intro c hc
    rw [← hC] at hc
    obtain ⟨k, _, rfl⟩ := List.mem_map.mp hc
    omega
  generalize hR : (List.range m).map (fun (k : Nat) => gi ds (7 + k) % 400 - 100) = R
  have hR1 : R.length = m := by rw [← hR]; simp
  have hR2 : ∀ c ∈ R, -100 ≤ c ∧ c < 300 := by
    intro c hc
    rw [← hR] at hc
    obtain ⟨k, _, rfl⟩ := List.mem_map.mp hc
    omega
  apply wp_seq
  refine Wp.mono (M := fun ρ => ∃ C : List Int, C.length = w ∧ (∀ c ∈ C, 0 ≤ c ∧ c < 304) ∧ ρ 3 = some (.p (.int u)) ∧ ρ 4 = some (.p (ofI C)) ∧ ρ 5 = some (.p (ofI R))) ?_ ?_
  · refine wp_if (by walk_at "evo") (fun hb => ?_) (fun hb => ?_)
    · refine wp_asg (d := ofI ((cutI ds (some 1) (some (1 + w))).map fun x => gi C 0 + x % 5)) (new_comp .int _ _ _ (it_I (ev_cutI (by walk_at "evo") (by walk_at "evo") (by walk_at "evo"))) ?_ (fun x hx => by walk_at "evo")) ?_
      · have := cutI_len (l := ds) (i := 1) (j := 1 + w) (by omega) (by omega)
        rw [Int.natCast_add] at this
        exact Nat.le_trans (Nat.le_of_eq this) (by omega)
      · refine ⟨_, ?_, ?_, rfl, rfl, rfl⟩
        · have := cutI_len (l := ds) (i := 1) (j := 1 + w) (by omega) (by omega)
          rw [Int.natCast_add] at this
          rw [List.length_map]
          exact this.trans (by omega)
        · intro c hc
          obtain ⟨x, _, rfl⟩ := List.mem_map.mp hc
          have := hC2 _ (mem_gi (l := C) (i := 0) (by omega))
          omega
    · apply wp_skip
      exact ⟨C, hC1, fun c hc => ⟨(hC2 c hc).1, by have := (hC2 c hc).2; omega⟩, rfl, rfl, rfl⟩
  · rintro ρ ⟨C, hC1, hC2, h3, h4, h5⟩
    refine wp_ret (d := ofT (mkT u R C)) (ev_tupOf (new_comp ofR R _ _ (it_I (by walk_at "ev")) (by omega) (fun r hr => ev_tupOf (new_comp .int C _ _ (it_I (by walk_at "ev")) (by omega) (fun c hc => by walk_at "evo"))))) ?_
    exact ⟨u, R, C, rfl, hu1, hR1, hC1, hR2, hC2⟩
end PL

namespace PL
open PySem PySem.Spec PyProof.Rows L2
theorem int_body {ρ : DEnv} {v : D} (h0 : ρ 0 = some (.p v)) (h1 : ρ 1 = some (.p (.int (-999)))) (h2 : ρ 2 = some (.p (.int 999))) : eAnd (e1 (gIs .tint) (eRv 0)) (eAnd (eNot (e1 (gIs .tbool) (eRv 0))) (eChain gLe gLe (eRv 1) (eRv 0) (eRv 2))) ρ = some (.bl (isI v)) := by
  have hf : v.isTy .tint = false → isI v = false → eAnd (e1 (gIs .tint) (eRv 0)) (eAnd (eNot (e1 (gIs .tbool) (eRv 0))) (eChain gLe gLe (eRv 1) (eRv 0) (eRv 2))) ρ = some (.bl (isI v)) := fun e1' e2' => by
    have : e1 (gIs .tint) (eRv 0) ρ = some (.bl false) := ev_e1 (ev_rv h0) (by unfold gIs; rw [e1'])
    unfold eAnd
    rw [this, e2']; rfl
  cases v with
  | int i => exact (ev_eAnd (p := true) (q := isI (.int i)) (ev_e1 (ev_rv h0) rfl) (ev_eAnd (p := true) (q := isI (.int i)) (ev_eNot (p := false) (ev_e1 (ev_rv h0) rfl)) (ev_chain (ev_rv h1) (ev_rv h0) (ev_rv h2))))
  | bl b =>
    have : eAnd (eNot (e1 (gIs .tbool) (eRv 0))) (eChain gLe gLe (eRv 1) (eRv 0) (eRv 2)) ρ = some (.bl false) := by
      have : eNot (e1 (gIs .tbool) (eRv 0)) ρ = some (.bl false) := ev_eNot (p := true) (ev_e1 (ev_rv h0) rfl)
      unfold eAnd
      rw [this]; rfl
    exact ev_eAnd (p := true) (q := false) (ev_e1 (ev_rv h0) rfl) this
  | non => exact hf rfl rfl
  | str z => exact hf rfl rfl
  | scr ns => exact hf rfl rfl
  | lst xs => exact hf rfl rfl
  | tup xs => exact hf rfl rfl
  | dct kvs => exact hf rfl rfl
theorem is_integer_any (v : D) : f_is_integer [v, .int (-999), .int 999] = some (.bl (isI v)) := by
  refine fn_eq rfl ?_
  exact wp_ret (int_body rfl rfl rfl) rfl
end PL

namespace PL
open PySem PySem.Spec PyProof.Rows L2
def rowSz (r : D) : Bool := match tl r with | none => false | some xs => decide (1 ≤ xs.length) && decide (xs.length ≤ 6)
def lenD (r : D) : Int := match tl r with | some xs => xs.length | none => 0
theorem rowSz_no {gaps : Bool} {n : Nat} {r : D} (h : rowSz r = false) : rowOk gaps n r = false := by
  unfold rowSz at h
  unfold rowOk
  cases e : tl r with
  | none => rfl
  | some xs =>
    rw [e] at h
    have h : (decide (1 ≤ xs.length) && decide (xs.length ≤ 6)) = false := h
    show ((decide (1 ≤ xs.length) && decide (xs.length ≤ 6)) && _) = false
    rw [h]; rfl
theorem flat_lenA {α β : Type} {f : α → List β} {n : Nat} : ∀ {l : List α}, (∀ x ∈ l, (f x).length ≤ n) → (l.flatMap f).length ≤ l.length * n
  | [], _ => by simp
  | x :: l, h => by
    have h1 := h x List.mem_cons_self
    have h2 := flat_lenA fun y hy => h y (List.mem_cons_of_mem x hy)
    rw [List.flatMap_cons, List.length_append, List.length_cons, Nat.add_mul]
    omega
theorem is_table_spec {v : D} {k : Nat} (hv : Vd 20 k v) (hk : k ≤ 20) : f_is_table [v] = some (.bl (TabOk false v)) := by
  refine fn_eq rfl ?_
  unfold b_is_table
  apply wp_seq
  have hty : tV (e1 (gIs .ttuple) (eRv 0)) (env0 [v]) = some (tl v).isSome := ev_tV (ev_e1 (ev_rv rfl) (by unfold gIs; rw [tl_isTy]))
  cases ht : tl v with
  | none =>
    rw [ht] at hty
    refine wp_ifT (ev_bOrT (ev_bNot (p := false) hty)) (wp_ret ev_c ?_)
    unfold TabOk
    rw [ht]
  | some rows =>
    rw [ht] at hty
    obtain rfl := tl_some ht
    have hT : TabOk false (.tup rows) = ((decide (1 ≤ rows.length) && decide (rows.length ≤ 6)) && rows.all (rowOk false (headN rows))) := rfl
    refine wp_if (ev_bOr (p := false) (ev_bNot (p := true) hty) (ev_bNot (ev_tV (ev_chk (ev_rv rfl))))) (fun hb => wp_ret ev_c ?_) (fun hb => wp_skip ?_)
    · have : (decide (1 ≤ rows.length) && decide (rows.length ≤ 6)) = false := by
        cases e : (decide (1 ≤ rows.length) && decide (rows.length ≤ 6)) with
        | false => rfl
        | true => rw [e] at hb; cases hb
      rw [hT, this]; rfl
    have hlen : (decide (1 ≤ rows.length) && decide (rows.length ≤ 6)) = true := by
      cases e : (decide (1 ≤ rows.length) && decide (rows.length ≤ 6)) with
      | true => rfl
      | false => rw [e] at hb; cases hb
    have hlen' : 1 ≤ rows.length ∧ rows.length ≤ 6 := by simpa using hlen
    obtain ⟨k', rfl, -, hit⟩ := hv.items (.inr rfl)
    have hstop : ∀ r ∈ rows, rowOk false (headN rows) r = false → (D.bl false) = .bl (TabOk false (.tup rows)) := fun r hr h => by
      rw [hT]
      have : rows.all (rowOk false (headN rows)) = false := by
        rw [List.all_eq_false]
        exact ⟨r, hr, by rw [h]; decide⟩
      rw [this, Bool.and_false]
    have hrowit : iOf asS (ePv 0) (env0 [D.tup rows]) = some ((rows.map fun x => x).map .p) := by rw [List.map_id']; exact seq_tup (ev_pv rfl)
    apply wp_seq
    have hc1 : eNew (eComp (iOf asS (ePv 0)) (.nm 1) [1] bYes (eAnd (e1 (gIs .ttuple) (eRv 1)) (eChain gLe gLe (eC (.int 1)) (eBlt (b1 gLen) (dCons (eRv 1) dNil)) (eC (.int 6))))) (env0 [D.tup rows]) = some (.lst ((rows.map rowSz).map .bl)) := new_comp .bl rows (fun x => x) rowSz hrowit (by omega) fun r hr => by
      cases hr' : tl r with
      | none =>
        have : e1 (gIs .ttuple) (eRv 1) (((env0 [D.tup rows]).wipe [1]).set 1 (.p r)) = some (.bl false) := ev_e1 (ev_rv rfl) (by unfold gIs; rw [tl_isTy, hr']; rfl)
        unfold eAnd rowSz
        rw [this, hr']; rfl
      | some xs =>
        have h2 : rowSz r = (decide (1 ≤ xs.length) && decide (xs.length ≤ 6)) := by unfold rowSz; rw [hr']
        rw [h2]
        have := tl_some hr'
        exact ev_eAnd (p := true) (ev_e1 (ev_rv rfl) (by unfold gIs; rw [tl_isTy, hr']; rfl)) (ev_chk (ev_rv (by rw [this]; rfl)))
    refine wp_if (ev_bNot (ev_tV (ev_blt (ev_cons hc1 ev_nil) (g_all _)))) (fun hb => wp_ret ev_c ?_) (fun hb => wp_skip ?_)
    · have : ¬ ∀ r ∈ rows, rowSz r = true := fun h => by
        have : (rows.map rowSz).all id = true := by rw [List.all_map, List.all_eq_true]; exact h
        rw [this] at hb; cases hb
      obtain ⟨r, hr⟩ := Classical.not_forall.mp this
      obtain ⟨hr, hn⟩ := Classical.not_imp.mp hr
      exact hstop r hr (rowSz_no (by simpa using hn))
    have hsz : ∀ r ∈ rows, rowSz r = true := fun r hr => by
      have : (rows.map rowSz).all id = true := by
        cases e : (rows.map rowSz).all id with
        | true => rfl
        | false => rw [e] at hb; cases hb
      rw [List.all_map, List.all_eq_true] at this
      exact this r hr
    have htup : ∀ r ∈ rows, ∃ xs, r = .tup xs ∧ tl r = some xs ∧ xs.length ≤ 6 := fun r hr => by
      have h := hsz r hr
      unfold rowSz at h
      cases e : tl r with
      | none => rw [e] at h; cases h
      | some xs =>
        rw [e] at h
        have : 1 ≤ xs.length ∧ xs.length ≤ 6 := by simpa using h
        exact ⟨xs, tl_some e, rfl, this.2⟩
    apply wp_seq
    have hc2 : eNew (eComp (iOf asS (ePv 0)) (.nm 1) [1] bYes (eBlt (b1 gLen) (dCons (eRv 1) dNil))) (env0 [D.tup rows]) = some (ofI (rows.map lenD)) := new_comp .int rows (fun x => x) lenD hrowit (by omega) fun r hr => by
      obtain ⟨xs, e1, e2, -⟩ := htup r hr
      have : lenD r = xs.length := by unfold lenD; rw [e2]
      rw [this]
      exact ev_tupLen (ev_rv (by rw [← e1]; rfl))
    have hhead : ∃ r0, r0 ∈ rows ∧ lenD r0 = headN rows := by
      cases rows with
      | nil => simp at hlen'
      | cons a l =>
        refine ⟨a, List.mem_cons_self, ?_⟩
        have : headN (a :: l) = (match tl a with | some xs => xs.length | none => 0) := rfl
        rw [this]
        unfold lenD
        cases tl a <;> rfl
    obtain ⟨r0, hr0, hl0⟩ := hhead
    refine wp_if (ev_tV (ev_e2 (ev_blt (ev_cons (ev_sortset hc2 (by rw [List.length_map]; omega)) ev_nil) g_lenI) ev_c g_neI)) (fun hb => wp_ret ev_c ?_) (fun hb => wp_skip ?_)
    · have hne : ¬ ((sset (rows.map lenD)).length : Int) = 1 := by simpa using hb
      replace hne : (sset (rows.map lenD)).length ≠ 1 := by omega
      have : ¬ ∀ r ∈ rows, lenD r = headN rows := fun h => hne (by
        rw [sset_const (w := headN rows) (by intro e; rw [List.map_eq_nil_iff] at e; rw [e] at hr0; cases hr0) (fun x hx => by
          obtain ⟨r, hr, rfl⟩ := List.mem_map.mp hx
          exact h r hr)]
        rfl)
      obtain ⟨r, hr⟩ := Classical.not_forall.mp this
      obtain ⟨hr, hn⟩ := Classical.not_imp.mp hr
      obtain ⟨xs, e1, e2, -⟩ := htup r hr
      refine hstop r hr ?_
      have : lenD r = xs.length := by unfold lenD; rw [e2]
      unfold rowOk
      rw [e2]
      show ((decide (1 ≤ xs.length) && decide (xs.length ≤ 6)) && (decide (xs.length = headN rows) && xs.all (entOk _))) = false
      rw [decide_eq_false (show ¬ xs.length = headN rows by omega), Bool.false_and, Bool.and_false]
    have hall : ∀ r ∈ rows, lenD r = headN rows := fun r hr => by
      have h1 : (sset (rows.map lenD)).length = 1 := by
        rw [Bool.not_eq_false', decide_eq_true_iff] at hb
        omega
      obtain ⟨x, hx⟩ := List.length_eq_one_iff.mp h1
      have a : lenD r ∈ sset (rows.map lenD) := sset_mem.mpr (List.mem_map.mpr ⟨r, hr, rfl⟩)
      have b : lenD r0 ∈ sset (rows.map lenD) := sset_mem.mpr (List.mem_map.mpr ⟨r0, hr0, rfl⟩)
      rw [hx, List.mem_singleton] at a b
      rw [← hl0, a, b]
    have hc3 := ev_comp2 (ρ := env0 [D.tup rows]) (it := iOf asS (ePv 0)) (tg := .nm 1) (ws := [1, 2]) (it2 := iOf asS (ePv 1)) (tg2 := .nm 2) (ws2 := [2]) (cond := bYes) (elt := eCall f_is_integer (dCons (ePv 2) (dCons (eNeg (eC (.int 999))) (dCons (eC (.int 999)) dNil)))) rows (fun x => x) (fun r => (tl r).getD []) (fun x => x) (fun _ _ => true) (fun _ x => .bl (entOk false x)) hrowit (fun r hr => by
      obtain ⟨xs, e1, e2, -⟩ := htup r hr
      refine ⟨_, rfl, ?_, fun x hx => ⟨_, rfl, rfl, fun _ => ?_⟩⟩
      · rw [List.map_id', e2]
        exact seq_tup (xs := xs) (ev_pv (d := .tup xs) (by rw [← e1]; rfl))
      · have : entOk false x = isI x := by cases x <;> rfl
        rw [this]
        exact ev_call (ev_cons (ev_pv rfl) (ev_cons (ev_eNeg ev_c) (ev_cons ev_c ev_nil))) (is_integer_any x)) (by
      have := flat_lenA (l := rows) (f := fun r => (((tl r).getD []).filter fun _ => true).map fun x => D.bl (entOk false x)) (n := 6) (fun r hr => by
        obtain ⟨xs, e1, e2, h6⟩ := htup r hr
        rw [List.length_map, e2]
        exact Nat.le_trans (List.length_filter_le _ _) h6)
      omega)
    have hflat : (rows.flatMap fun r => (((tl r).getD []).filter fun _ => true).map fun x => D.bl (entOk false x)) = ((rows.flatMap fun r => ((tl r).getD []).map (entOk false)).map .bl) := by
      rw [List.map_flatMap]
      congr 1
      funext r
      rw [List.filter_eq_self.mpr (fun _ _ => rfl), List.map_map]; rfl
    rw [hflat] at hc3
    refine wp_ret (ev_blt (ev_cons (ev_new hc3) ev_nil) (g_all _)) ?_
    congr 1
    rw [hT, hlen, Bool.true_and, Bool.eq_iff_iff, List.all_eq_true, List.all_eq_true]
    constructor
    · intro h r hr
      obtain ⟨xs, e1, e2, -⟩ := htup r hr
      have h1 := hsz r hr
      have h2 := hall r hr
      have : lenD r = xs.length := by unfold lenD; rw [e2]
      unfold rowSz at h1
      rw [e2] at h1
      replace h1 : (decide (1 ≤ xs.length) && decide (xs.length ≤ 6)) = true := h1
      unfold rowOk
      rw [e2]
      show ((decide (1 ≤ xs.length) && decide (xs.length ≤ 6)) && (decide (xs.length = headN rows) && xs.all (entOk false))) = true
      rw [h1, decide_eq_true (by omega), Bool.true_and, Bool.true_and, List.all_eq_true]
      intro x hx
      exact h _ (List.mem_flatMap.mpr ⟨r, hr, List.mem_map.mpr ⟨x, by rw [e2]; exact hx, rfl⟩⟩)
    · intro h b hb
      obtain ⟨r, hr, hb⟩ := List.mem_flatMap.mp hb
      obtain ⟨x, hx, rfl⟩ := List.mem_map.mp hb
      obtain ⟨xs, e1, e2, -⟩ := htup r hr
      rw [e2] at hx
      have := h r hr
      unfold rowOk at this
      rw [e2] at this
      have : ((decide (1 ≤ xs.length) && decide (xs.length ≤ 6)) && (decide (xs.length = headN rows) && xs.all (entOk false))) = true := this
      simp only [Bool.and_eq_true, List.all_eq_true] at this
      exact this.2.2 x hx
end PL

namespace PL
open PySem PySem.Spec PyProof.Rows L2
theorem wp_asgE {fe : DE} {ρ : DEnv} {N : DEnv → Prop} {R : D → Prop} {i : Nat} (P : D → Prop) (h : ∃ d, fe ρ = some d ∧ P d) (k : ∀ d, P d → N (ρ.set i (.p d))) : Wp (sAsg (.nm i) fe) ρ N R := by
  obtain ⟨d, h1, h2⟩ := h
  exact wp_asg h1 (k d h2)
theorem wp_retE {fe : DE} {ρ : DEnv} {N : DEnv → Prop} {R : D → Prop} (h : ∃ d, fe ρ = some d ∧ R d) : Wp (sRet fe) ρ N R := by
  obtain ⟨d, h1, h2⟩ := h
  exact wp_ret h1 h2
theorem ev_ixE {a b : DE} {ρ : DEnv} {xs : List D} {i : Int} (P : D → Prop) (h1 : a ρ = some (.lst xs)) (h2 : b ρ = some (.int i)) (h : 0 ≤ i ∧ i < xs.length) (hP : ∀ x ∈ xs, P x) : ∃ d, e2 gIx a b ρ = some d ∧ P d := by
  obtain ⟨j, rfl⟩ : ∃ j : Nat, i = j := ⟨i.toNat, by omega⟩
  have hj : j < xs.length := by omega
  exact ⟨xs[j], ev_e2 h1 h2 (atI_at hj), hP _ (List.getElem_mem hj)⟩
theorem atom_int {i : Int} : Atom (.int i) := .inr (.inr (.inl ⟨_, rfl⟩))
theorem atom_bl {b : Bool} : Atom (.bl b) := .inr (.inl ⟨_, rfl⟩)
theorem atom_non : Atom .non := .inl rfl
theorem atom_str {z : Str} (h : PyData.strOk z = true) : Atom (.str z) := .inr (.inr (.inr ⟨_, rfl, h⟩))
theorem any_value_spec : ∀ (n k : Nat) (ds : List Int), k ≤ 4 → 5 ≤ k + n → 9 ≤ ds.length ∧ ds.length ≤ 1000 → (∀ x ∈ ds, 0 ≤ x) → ∃ v, f_law_any_value n [ofI ds, .int k] = some v ∧ Vd 3 (4 - k) v
  | 0, k, ds, hk, hn, _, _ => absurd hn (by omega)
  | n + 1, k, ds, hk, hn, hl, h0 => by
    have ih := any_value_spec n
    have hg : ∀ i : Int, 0 ≤ i → i < 9 → 0 ≤ gi ds i := fun i a b => h0 _ (mem_gi (by omega))
    have c0 := hg k (by omega) (by omega)
    have c1 := hg (k + 2) (by omega) (by omega)
    have c3 := hg (k + 3) (by omega) (by omega)
    have c4 := hg (k + 4) (by omega) (by omega)
    refine fn_of_wp rfl ?_
    unfold b_law_any_value
    apply wp_seq
    refine wp_asg (d := .int (gi ds k % 12)) (ev_e2 (ev_e2 (ev_rv rfl) (ev_rv rfl) (g_ixI (by omega))) ev_c (g_mod (by omega))) ?_
    apply wp_seq
    refine wp_asgE Atom (ev_ixE Atom (ev_new (ev_sz (ev_cons (ev_e2 (ev_e2 (ev_e2 (ev_rv rfl) (ev_e2 (ev_rv rfl) ev_c rfl) (g_ixI (by omega))) ev_c (g_mod (by omega))) ev_c rfl) (ev_cons (ev_e2 ev_c (ev_e2 ev_c ev_c (g_pow (by decide))) rfl) (ev_cons (ev_e2 ev_c ev_c (g_pow (by decide))) ev_nil))) rfl)) (ev_e2 (ev_e2 (ev_rv rfl) (ev_e2 (ev_rv rfl) ev_c rfl) (g_ixI (by omega))) ev_c (g_mod (by omega))) (by simp only [List.length_cons, List.length_nil]; omega) ?_) ?_
    · intro x hx
      simp only [List.mem_cons, List.not_mem_nil, or_false] at hx
      rcases hx with rfl | rfl | rfl <;> exact atom_int
    intro num hnum
    apply wp_seq
    refine wp_if (ev_bOr (ev_tV (ev_e2 (ev_rv rfl) ev_c rfl)) (ev_tV (ev_e2 (ev_rv rfl) ev_c rfl))) (fun _ => wp_ret (ev_pv rfl) (Vd.atom hnum)) (fun hb => wp_skip ?_)
    have hb' : 4 ≤ gi ds k % 12 ∧ k ≤ 3 := by
      rw [Bool.or_eq_false_iff] at hb
      have q1 := of_decide_eq_false hb.1
      have q2 := of_decide_eq_false hb.2
      omega
    apply wp_seq
    refine wp_if (ev_tV (ev_e2 (ev_rv rfl) ev_c rfl)) (fun h => wp_retE ?_) (fun h => wp_skip ?_)
    · have h := of_decide_eq_true h
      refine ev_ixE _ (ev_new (ev_sz (ev_cons ev_c (ev_cons ev_c (ev_cons ev_c ev_nil))) rfl)) (ev_e2 (ev_rv rfl) ev_c rfl) (by simp only [List.length_cons, List.length_nil]; omega) ?_
      intro x hx
      simp only [List.mem_cons, List.not_mem_nil, or_false] at hx
      rcases hx with rfl | rfl | rfl
      · exact Vd.atom atom_bl
      · exact Vd.atom atom_bl
      · exact Vd.atom atom_non
    have h := of_decide_eq_false h
    apply wp_seq
    refine wp_if (ev_tV (ev_e2 (ev_rv rfl) ev_c rfl)) (fun h => wp_retE ?_) (fun h => wp_skip ?_)
    · refine ev_ixE _ (ev_new (ev_sz (ev_cons ev_c (ev_cons ev_c (ev_cons ev_c (ev_cons ev_c (ev_cons ev_c (ev_cons ev_c (ev_cons ev_c (ev_cons ev_c ev_nil)))))))) rfl)) (ev_e2 (ev_e2 (ev_rv rfl) (ev_e2 (ev_rv rfl) ev_c rfl) (g_ixI (by omega))) ev_c (g_mod (by omega))) (by simp only [List.length_cons, List.length_nil]; omega) ?_
      intro x hx
      simp only [List.mem_cons, List.not_mem_nil, or_false] at hx
      rcases hx with rfl | rfl | rfl | rfl | rfl | rfl | rfl | rfl <;> exact Vd.atom (atom_str (by first | rfl | decide +kernel))
    have h2 := of_decide_eq_false h
    apply wp_seq
    have hrot : ∀ j : Nat, ∃ v, j < 4 → f_law_any_value n [ofI (ds.drop j ++ ds.take j), .int ((k : Int) + 1)] = some v ∧ Vd 3 (3 - k) v := fun j => by
      by_cases hj : j < 4
      · obtain ⟨v, q1, q2⟩ := ih (k + 1) (ds.drop j ++ ds.take j) (by omega) (by omega) (by rw [List.length_append, List.length_drop, List.length_take]; omega) (fun x hx => by
          rcases List.mem_append.mp hx with hx | hx
          · exact h0 _ (List.mem_of_mem_drop hx)
          · exact h0 _ (List.mem_of_mem_take hx))
        exact ⟨v, fun _ => ⟨q1, by rw [show 3 - k = 4 - (k + 1) by omega]; exact q2⟩⟩
      · exact ⟨.non, fun h => absurd h hj⟩
    have hm : ∃ m : Nat, gi ds (k + 4) % 4 = m ∧ m < 4 := ⟨(gi ds (k + 4) % 4).toNat, by omega, by omega⟩
    obtain ⟨m, hm, hm4⟩ := hm
    refine wp_asgE (fun d => ∃ xs : List D, d = .lst xs ∧ xs.length ≤ 3 ∧ ∀ x ∈ xs, Vd 3 (3 - k) x) ⟨_, new_compN id m (fun j => Classical.choose (hrot j)) ev_c (ev_e2 (ev_e2 (ev_rv rfl) (ev_e2 (ev_rv rfl) ev_c rfl) (g_ixI (by omega))) ev_c (by rw [← hm]; exact g_mod (by omega))) (by omega) (fun j hj => ?_), _, rfl, ?_, ?_⟩ ?_
    · refine ev_call (ev_cons (ev_e2 (ev_cutI (ev_rv rfl) (ev_oSome (ev_rv rfl)) ev_oNo) (ev_cutI (ev_rv rfl) ev_oNo (ev_oSome (ev_rv rfl))) (z := ofI (ds.drop j ++ ds.take j)) ?_) (ev_cons (ev_e2 (ev_rv rfl) ev_c rfl) ev_nil)) (Classical.choose_spec (hrot j) (by omega)).1
      rw [cutI_from, cutI_to]
      exact g_addL D.int (by rw [List.length_drop, List.length_take]; omega)
    · rw [List.length_map, List.length_map, List.length_range]; omega
    · intro x hx
      rw [List.map_id] at hx
      obtain ⟨j, hj, rfl⟩ := List.mem_map.mp hx
      exact (Classical.choose_spec (hrot j) (by rw [List.mem_range] at hj; omega)).2
    rintro d ⟨xs, rfl, hx1, hx2⟩
    refine wp_ret (ev_if (ev_tV (ev_e2 (ev_rv rfl) ev_c g_eqI)) (fun _ => ev_pv rfl) (fun _ => ev_blt (ev_cons (ev_rv rfl) ev_nil) rfl)) ?_
    rw [show 4 - k = (3 - k) + 1 by omega]
    split
    · exact Vd.mk (.inl rfl) hx1 hx2
    · exact Vd.mk (.inr rfl) hx1 hx2
end PL

namespace PL
open PySem PySem.Spec PyProof.Rows L2
/-! ## rules for methods -/
theorem fnM_eq {n : Nat} {b : DS} {a : Addr} {o : Ob} {ds : List D} {d : D} (hl : ds.length = n) (h : Wp b (envM a o ds) (fun _ => D.non = d) (fun e => e = d)) : fnM n b a o ds = some d := by
  obtain ⟨r, h1, h2⟩ := h
  unfold fnM
  rw [if_pos hl, h1]
  cases r with
  | nx ρ' => rw [← h2]; rfl
  | rt e => rw [← h2]; rfl
  | bk _ => exact h2.elim
  | ct _ => exact h2.elim
theorem ev_fldR {ρ : DEnv} {i : Nat} {a : Addr} {o : Ob} {cn f : Str} {d : D} (h : ρ i = some (.rb a o)) (hc : o.cn = cn) (hl : o.look f = some d) : eFld cn i f ρ = some d := by
  unfold eFld
  rw [h]
  show (if o.cn = cn then o.look f else none) = _
  rw [if_pos hc, hl]
theorem self_rb {ρ : DEnv} {a : Addr} {o : Ob} (h : ρ 0 = some (.rb a o)) : selfO ρ = some (a, o) := by unfold selfO; rw [h]
theorem mp_end {ρ : DEnv} {a : Addr} {o : Ob} (h : ρ 0 = some (.rb a o)) : mEnd ρ = some (o, .non) := by unfold mEnd; rw [self_rb h]; rfl
theorem mp_ret {ρ : DEnv} {a : Addr} {o : Ob} {e : DE} {d : D} (h : ρ 0 = some (.rb a o)) (he : e ρ = some d) : mRet e ρ = some (o, d) := by unfold mRet; rw [he, self_rb h]; rfl
theorem mp_put {ρ : DEnv} {a : Addr} {o : Ob} {cn f : Str} {e : DE} {g : DM} {d : D} {r : Ob × D} (h : ρ 0 = some (.rb a o)) (he : e ρ = some d) (hc : o.cn = cn) (hl : o.ns.length < 1000) (k : g (ρ.set 0 (.rb a (o.put f d))) = some r) : mPut cn f e g ρ = some r := by
  unfold mPut
  rw [he, self_rb h]
  show (if o.cn = cn ∧ o.ns.length < 1000 then _ else none) = _
  rw [if_pos ⟨hc, hl⟩]; exact k
theorem mp_pre {ρ ρ' : DEnv} {a : Addr} {o : Ob} {b : DS} {g : DM} {r : Ob × D} (h : ρ 0 = some (.rb a o)) (hb : b ρ = some (.nx ρ')) (k : g (restr a ρ') = some r) : mPre b g ρ = some r := by
  unfold mPre
  rw [hb]
  show (selfO ρ).bind _ = _
  rw [self_rb h]; exact k
theorem mp_if {ρ : DEnv} {a : Addr} {o : Ob} {c : DB} {g : DM} {r : Ob × D} (h : ρ 0 = some (.rb a o)) (hc : c ρ = some false) (k : g (restr a ρ) = some r) : mPre (sIf c sNo sSkip) g ρ = some r :=
  mp_pre (ρ' := ρ) h (by unfold sIf; rw [hc]; rfl) k
theorem restr_rb {ρ : DEnv} {a : Addr} {o : Ob} (h : ρ 0 = some (.rb a o)) : restr a ρ 0 = some (.rb a o) := by
  unfold restr
  rw [h]
  exact if_pos ⟨rfl, rfl⟩
theorem restr_p {ρ : DEnv} {a : Addr} {i : Nat} {d : D} (h : ρ i = some (.p d)) : restr a ρ i = some (.p d) := by
  unfold restr
  rw [h]
theorem fnW_eq {n : Nat} {b : DM} {a : Addr} {o : Ob} {ds : List D} {r : Ob × D} (hl : ds.length = n) (h : b (envM a o ds) = some r) : fnW n b a o ds = some r := by unfold fnW; rw [if_pos hl, h]
end PL

namespace PL
open PySem PySem.Spec PyProof.Rows L2
/-! ## Table -/
abbrev cT : Str := Str.ofString "Table"
abbrev nRK : Str := Str.ofString "rows_kept"
abbrev xIT : Str := Str.ofString "InvalidTable"
def tabO (v : D) : Ob := ⟨cT, [nRK], [v]⟩
def newT : Ob := ⟨cT, [], []⟩
theorem look_rk (v : D) : (tabO v).look nRK = some v := rfl
theorem put_rk (v : D) : newT.put nRK v = tabO v := rfl
theorem no_rk (v : D) {m : Str} (h : m ≠ nRK) : m ∉ (tabO v).ns := by
  show m ∉ [nRK]
  simpa using h
theorem tinit {v : D} {k : Nat} (hv : Vd 20 k v) (hk : k ≤ 20) : f_Table_init newT [v] = some (if TabOk false v = true then (tabO v, .val .non) else (newT, .err xIT)) := mWX_eq fun a => by
  show (if [v].length = 1 then b_Table_init (envM a newT [v]) else none) = _
  rw [if_pos (show [v].length = 1 from rfl)]
  unfold b_Table_init xmGuard
  have e : bNot (tV (eCall f_is_table (dCons (ePv 1) dNil))) (envM a newT [v]) = some (!TabOk false v) := ev_bNot (ev_tV (ev_call (ev_cons (ev_pv rfl) ev_nil) (is_table_spec hv hk)))
  rw [e]
  cases TabOk false v with
  | false => rfl
  | true =>
    show (if (!true) = true then (selfO (envM a newT [v])).map (fun x => (x.2, RD.err xIT)) else xmOf _ _) = some (tabO v, RD.val .non)
    rw [if_neg (by decide)]
    unfold xmOf
    have e2 : mPut cT nRK (ePv 1) mEnd (envM a newT [v]) = some (tabO v, .non) := mp_put (a := a) (o := newT) (d := v) rfl (ev_pv rfl) rfl (by decide) (mp_end (a := a) (o := tabO v) rfl)
    rw [e2]
    rfl
theorem tmake {fs : DL} {ρ : DEnv} {ds : List D} {k : Nat} (h : fs ρ = some ds) (hv : Vd 20 k (.tup ds)) (hk : k ≤ 20) (hl : ds.length ≤ 1000) : xMake cT (starX f_Table_init) fs ρ = some (if TabOk false (.tup ds) = true then .obj (tabO (.tup ds)) else .err xIT) := by
  unfold xMake
  rw [h]
  show (starX f_Table_init newT ds).bind _ = _
  unfold starX
  rw [if_pos hl, tinit hv hk]
  cases TabOk false (.tup ds) <;> rfl
theorem trows (v : D) : f_Table_rows (tabO v) [] = some v := mR_eq fun a => fnM_eq rfl (by
  unfold b_Table_rows
  exact wp_ret (ev_fldR (a := a) rfl rfl (look_rk v)) rfl)
theorem tlen (ds : List D) : f_Table_len (tabO (.tup ds)) [] = some (.int ds.length) := mR_eq fun a => fnM_eq rfl (by
  unfold b_Table_len
  exact wp_ret (ev_blt (ev_cons (ev_fldR (a := a) rfl rfl (look_rk _)) ev_nil) rfl) rfl)
theorem tsize {t : List (List Int)} {m w : Nat} (h : Rect t m w) (hm : 1 ≤ m) : f_Table_size (tabO (ofT t)) [] = some (.tup [.int m, .int w]) := mR_eq fun a => fnM_eq rfl (by
  unfold b_Table_size
  have hf : eFld cT 0 nRK (envM a (tabO (ofT t)) []) = some (ofT t) := ev_fldR (a := a) rfl rfl (look_rk _)
  refine wp_ret (ev_tup (ev_cons (ev_blt (ev_cons hf ev_nil) g_lenT) (ev_cons (ev_blt (ev_cons (ev_e2 hf ev_c (g_ixT (by have := h.1; omega))) ev_nil) g_lenR) ev_nil)) rfl) ?_
  rw [h.1, len_row h (by omega)])
/-! ### rules -/
theorem wp_toldO {ρ : DEnv} {N : DEnv → Prop} {R : D → Prop} {i j : Nat} {words : List (Str × Str)} {fB : DX} {o : Ob} (h : fB ρ = some (.obj o)) (k : N ((ρ.set i (.ob o)).set j (.p (.str Str.empty)))) : Wp (sTold i j words fB) ρ N R := ⟨_, by unfold sTold; rw [h]; rfl, k⟩
theorem wp_toldE {ρ : DEnv} {N : DEnv → Prop} {R : D → Prop} {i j : Nat} {words : List (Str × Str)} {fB : DX} {cn z : Str} (h : fB ρ = some (.err cn)) (hw : words.lookup cn = some z) (k : N ((ρ.set i (.p .non)).set j (.p (.str z)))) : Wp (sTold i j words fB) ρ N R := ⟨.nx ((ρ.set i (.p .non)).set j (.p (.str z))), by
  unfold sTold; rw [h]
  show (words.lookup cn).map _ = _
  rw [hw]; rfl, k⟩
theorem ev_toldE {ρ : DEnv} {words : List (Str × Str)} {fB : DX} {cn z : Str} (h : fB ρ = some (.err cn)) (hw : words.lookup cn = some z) : eTold words fB ρ = some (.tup [.non, .str z]) := by
  unfold eTold; rw [h]
  show (words.lookup cn).map _ = _
  rw [hw]; rfl
theorem ev_tprop {ρ : DEnv} {cn : Str} {fx : DX} {M : Ob → List D → Option D} {o : Ob} {d : D} (h : fx ρ = some (.obj o)) (hc : o.cn = cn) (hM : M o [] = some d) : eTProp cn fx M ρ = some d := by
  unfold eTProp; rw [h]
  show (if o.cn = cn then M o [] else none) = _
  rw [if_pos hc, hM]
theorem ev_prop2 {ρ : DEnv} {cn : Str} {i : Nat} {M : Ob → List D → Option D} {o : Ob} {d : D} (h2 : ρ i = some (.ob o)) (hc : o.cn = cn) (hM : M o [] = some d) : eProp cn i M ρ = some d := by
  unfold eProp
  rw [h2]
  show (if o.cn = cn then M o [] else none) = _
  rw [if_pos hc, hM]
theorem nat_ok {n : Nat} (h : n < 1000000000) : gNat (some (.int n)) = some (.int n) := by
  show (if (0 : Int) ≤ n ∧ (n : Int) < 1000000000 then some (D.int n) else none) = _
  rw [if_pos ⟨by omega, by omega⟩]
theorem ev_tlen {ρ : DEnv} {cn : Str} {fx : DX} {M : Ob → List D → Option D} {o : Ob} {n : Nat} (h : fx ρ = some (.obj o)) (hc : o.cn = cn) (hM : M o [] = some (.int n)) (hn : n < 1000000000) : eTLen cn fx M ρ = some (.int n) := by
  unfold eTLen; rw [ev_tprop h hc hM]; exact nat_ok hn
theorem ev_lenO {ρ : DEnv} {cn : Str} {i : Nat} {M : Ob → List D → Option D} {o : Ob} {n : Nat} (h2 : ρ i = some (.ob o)) (hc : o.cn = cn) (hM : M o [] = some (.int n)) (hn : n < 1000000000) : eLenO cn i M ρ = some (.int n) := by
  unfold eLenO; rw [ev_prop2 h2 hc hM]; exact nat_ok hn
/-! ### what is a table -/
theorem isI_int {v : D} (h : isI v = true) : ∃ i : Int, v = .int i ∧ -999 ≤ i ∧ i ≤ 999 := by
  unfold isI at h
  split at h
  · rename_i i
    rw [Bool.and_eq_true, decide_eq_true_iff, decide_eq_true_iff] at h
    exact ⟨i, rfl, h.1, h.2⟩
  · cases h
theorem ents_ints : ∀ {xs : List D}, xs.all (entOk false) = true → ∃ l : List Int, xs = l.map .int
  | [], _ => ⟨[], rfl⟩
  | x :: xs, h => by
    rw [List.all_cons, Bool.and_eq_true] at h
    obtain ⟨l, rfl⟩ := ents_ints h.2
    have h1 : isI x = true := by
      have := h.1
      unfold entOk at this
      split at this
      · cases this
      · exact this
    obtain ⟨i, rfl, -⟩ := isI_int h1
    exact ⟨i :: l, rfl⟩
theorem rowOk_row {n : Nat} {r : D} (h : rowOk false n r = true) : ∃ l : List Int, r = ofR l ∧ l.length = n ∧ 1 ≤ n ∧ n ≤ 6 := by
  unfold rowOk at h
  cases e : tl r with
  | none => rw [e] at h; cases h
  | some xs =>
    rw [e] at h
    have h : ((decide (1 ≤ xs.length) && decide (xs.length ≤ 6)) && (decide (xs.length = n) && xs.all (entOk false))) = true := h
    simp only [Bool.and_eq_true, decide_eq_true_iff] at h
    obtain ⟨⟨h1, h2⟩, h3, h4⟩ := h
    obtain ⟨l, rfl⟩ := ents_ints h4
    rw [List.length_map] at h1 h2 h3
    exact ⟨l, tl_some e, h3, by omega, by omega⟩
theorem rows_rect {n : Nat} : ∀ {rows : List D}, rows.all (rowOk false n) = true → ∃ t : List (List Int), rows = t.map ofR ∧ ∀ r ∈ t, r.length = n
  | [], _ => ⟨[], rfl, fun _ h => by cases h⟩
  | r :: rows, h => by
    rw [List.all_cons, Bool.and_eq_true] at h
    obtain ⟨t, rfl, ht⟩ := rows_rect h.2
    obtain ⟨l, rfl, hl, -⟩ := rowOk_row h.1
    exact ⟨l :: t, rfl, fun x hx => by
      rcases List.mem_cons.mp hx with rfl | hx
      · exact hl
      · exact ht x hx⟩
theorem tabOk_rect {ds : List D} (h : TabOk false (.tup ds) = true) : ∃ (t : List (List Int)) (w : Nat), ds = t.map ofR ∧ Rect t ds.length w ∧ (1 ≤ ds.length ∧ ds.length ≤ 6) ∧ 1 ≤ w ∧ w ≤ 6 := by
  have h : ((decide (1 ≤ ds.length) && decide (ds.length ≤ 6)) && ds.all (rowOk false (headN ds))) = true := h
  simp only [Bool.and_eq_true, decide_eq_true_iff] at h
  obtain ⟨⟨h1, h2⟩, h3⟩ := h
  obtain ⟨t, e, ht⟩ := rows_rect h3
  have hw : 1 ≤ headN ds ∧ headN ds ≤ 6 := by
    cases ds with
    | nil => simp at h1
    | cons d ds =>
      rw [List.all_cons, Bool.and_eq_true] at h3
      obtain ⟨l, -, -, h5, h6⟩ := rowOk_row h3.1
      exact ⟨h5, h6⟩
  exact ⟨t, headN ds, e, ⟨by rw [e, List.length_map], ht⟩, ⟨h1, h2⟩, hw⟩
theorem rowOk_of {n : Nat} {l : List Int} (hn : 1 ≤ n ∧ n ≤ 6) (hl : l.length = n) (hb : ∀ x ∈ l, -999 ≤ x ∧ x ≤ 999) : rowOk false n (ofR l) = true := by
  show ((decide (1 ≤ (l.map D.int).length) && decide ((l.map D.int).length ≤ 6)) && (decide ((l.map D.int).length = n) && (l.map D.int).all (entOk false))) = true
  rw [List.length_map, hl, decide_eq_true hn.1, decide_eq_true hn.2, decide_eq_true rfl, Bool.true_and, Bool.true_and, Bool.true_and, List.all_map, List.all_eq_true]
  intro x hx
  have := hb x hx
  show (decide (-999 ≤ x) && decide (x ≤ 999)) = true
  rw [decide_eq_true this.1, decide_eq_true this.2]; rfl
theorem tabOk_of {t : List (List Int)} {m w : Nat} (h : Rect t m w) (hm : 1 ≤ m ∧ m ≤ 6) (hw : 1 ≤ w ∧ w ≤ 6) (hb : ∀ r ∈ t, ∀ x ∈ r, -999 ≤ x ∧ x ≤ 999) : TabOk false (ofT t) = true := by
  have hh : headN (t.map ofR) = w := by
    cases t with
    | nil => have := h.1; simp at this; omega
    | cons r t =>
      have : r.length = w := h.2 r List.mem_cons_self
      show (r.map D.int).length = w
      rw [List.length_map]; exact this
  show ((decide (1 ≤ (t.map ofR).length) && decide ((t.map ofR).length ≤ 6)) && (t.map ofR).all (rowOk false (headN (t.map ofR)))) = true
  rw [hh, List.length_map, h.1, decide_eq_true hm.1, decide_eq_true hm.2, Bool.true_and, Bool.true_and, List.all_map, List.all_eq_true]
  exact fun r hr => rowOk_of hw (h.2 r hr) (hb r hr)
theorem tabOk_big {ds : List D} (h : 6 < ds.length) : TabOk false (.tup ds) = false := by
  show ((decide (1 ≤ ds.length) && decide (ds.length ≤ 6)) && ds.all (rowOk false (headN ds))) = false
  rw [decide_eq_false (show ¬ ds.length ≤ 6 by omega), Bool.and_false, Bool.false_and]
theorem vd_tup {k : Nat} {ds : List D} (hl : ds.length ≤ 20) (h : ∀ x ∈ ds, Vd 20 k x) : Vd 20 (k + 1) (.tup ds) := Vd.mk (.inr rfl) hl h
theorem vd_ofR {l : List Int} (h : l.length ≤ 20) : Vd 20 1 (ofR l) := Vd.mk (.inr rfl) (by rw [List.length_map]; exact h) (fun x hx => by
  obtain ⟨i, -, rfl⟩ := List.mem_map.mp hx
  exact Vd.atom atom_int)
theorem vd_repT {x : D} {n k : Nat} (hn : n ≤ 20) (h : Vd 20 k x) : Vd 20 (k + 1) (.tup (List.replicate n x)) := Vd.mk (.inr rfl) (by rw [List.length_replicate]; exact hn) fun y hy => by rw [(List.mem_replicate.mp hy).2]; exact h
theorem vd_repL {x : D} {n k : Nat} (hn : n ≤ 20) (h : Vd 20 k x) : Vd 20 (k + 1) (.lst (List.replicate n x)) := Vd.mk (.inl rfl) (by rw [List.length_replicate]; exact hn) fun y hy => by rw [(List.mem_replicate.mp hy).2]; exact h
end PL

namespace PL
open PySem PySem.Spec PyProof.Rows L2
theorem pS_ok : PyData.strOk (Str.ofString "grid value") = true ∧ PyData.strOk (Str.ofString "") = true := by decide +kernel
theorem g_neSS (z : Str) (h : PyData.strOk z = true) : gNe (.str z) (.str z) = some (.bl false) := (g_neS h h).trans (by rw [decide_eq_true rfl]; rfl)
theorem eqv_pair (z : Str) : D.eqv (.tup [.non, .str z]) (.tup [.non, .str z]) = true := by
  show PyData.eqv (.tuple [.none, .str z]) (.tuple [.none, .str z]) = true
  simp [PyData.eqv, PyData.eqvAll]
theorem g_pair (z : Str) (h : PyData.strOk z = true) : gEq (.tup [.non, .str z]) (.tup [.non, .str z]) = some (.bl true) ∧ gNe (.tup [.non, .str z]) (.tup [.non, .str z]) = some (.bl false) := by
  have hok : (D.tup [.non, .str z]).ok 50 = true := by
    rw [ok_tup, List.all_eq_true]
    intro x hx
    simp only [List.mem_cons, List.not_mem_nil, or_false] at hx
    rcases hx with rfl | rfl
    · rfl
    · exact h
  constructor
  · unfold gEq; rw [hok, eqv_pair]; rfl
  · unfold gNe; rw [hok, eqv_pair]; rfl
theorem x_gv : words_k13.lookup xIT = some (Str.ofString "grid value") := by decide
theorem div_bd13 {x u : Int} (hu : 0 < u ∧ u ≤ 7) (hx : -100 ≤ x ∧ x < 604) : -100 ≤ x / u ∧ x / u < 604 := by
  have : u = 1 ∨ u = 2 ∨ u = 3 ∨ u = 4 ∨ u = 5 ∨ u = 6 ∨ u = 7 := by omega
  rcases this with rfl | rfl | rfl | rfl | rfl | rfl | rfl <;> omega
theorem ev_tup2 {a b : DE} {ρ : DEnv} {x y : D} (h : a ρ = some x) (h2 : b ρ = some y) : eTup (dCons a (dCons b dNil)) ρ = some (.tup [x, y]) := ev_tup (ev_cons h (ev_cons h2 ev_nil)) rfl
theorem ev_tup1 {a : DE} {ρ : DEnv} {x : D} (h : a ρ = some x) : eTup (dCons a dNil) ρ = some (.tup [x]) := ev_tup (ev_cons h ev_nil) rfl
theorem if_told {ρ : DEnv} {c : DB} {b : Bool} (h : c ρ = some b) : eIf c (eC (.str (Str.ofString ""))) (eC (.str (Str.ofString "grid value"))) ρ = some (.str (if b = true then Str.ofString "" else Str.ofString "grid value")) := by
  rw [ev_if h (fun _ => ev_c) (fun _ => ev_c)]
  cases b <;> rfl
theorem g_addDL13 {a b : List D} (h : a.length + b.length ≤ 16777216) : gAdd (.lst a) (.lst b) = some (.lst (a ++ b)) := if_pos (szB_of h)
theorem wp_toldB {ρ : DEnv} {N : DEnv → Prop} {R : D → Prop} {i j : Nat} {words : List (Str × Str)} {fB : DX} {o : Ob} {cn z : Str} {b : Bool} (h : fB ρ = some (if b = true then .obj o else .err cn)) (hw : words.lookup cn = some z)
    (k : ∀ c : Cell, (b = true → c = .ob o) → N ((ρ.set i c).set j (.p (.str (if b = true then Str.ofString "" else z))))) : Wp (sTold i j words fB) ρ N R := by
  cases b with
  | true => exact wp_toldO h (k (.ob o) (fun _ => rfl))
  | false => exact wp_toldE h hw (k (.p .non) (fun e => by cases e))
theorem tab2 {x y : D} (h : TabOk false (.tup [x, y]) = true) : ∃ (r0 r1 : List Int) (w : Nat), x = ofR r0 ∧ y = ofR r1 ∧ r0.length = w ∧ r1.length = w ∧ 1 ≤ w ∧ w ≤ 6 := by
  obtain ⟨t, w, e, hr, -, hw⟩ := tabOk_rect h
  match t, e with
  | [r0, r1], e =>
    simp only [List.map_cons, List.map_nil, List.cons.injEq, and_true] at e
    exact ⟨r0, r1, w, e.1, e.2, hr.2 r0 (by simp), hr.2 r1 (by simp), hw⟩
theorem if_neStr {b : Bool} : gNe (.str (if b = true then Str.ofString "" else Str.ofString "grid value")) (.str (if b = true then Str.ofString "" else Str.ofString "grid value")) = some (.bl false) := by
  cases b
  · exact g_neSS _ pS_ok.1
  · exact g_neSS _ pS_ok.2
theorem g_neR13 {x y : List Int} : gNe (ofR x) (ofR y) = some (.bl (!decide (x = y))) := g_neF faith_R okn_R x y
theorem tmakeT {fs : DL} {ρ : DEnv} {t : List (List Int)} {k : Nat} (h : fs ρ = some (t.map ofR)) (hv : Vd 20 k (ofT t)) (hk : k ≤ 20) (hl : t.length ≤ 1000) (hb : TabOk false (ofT t) = true) : xMake cT (starX f_Table_init) fs ρ = some (.obj (tabO (ofT t))) :=
  (tmake h hv hk (by rw [List.length_map]; exact hl)).trans (by
    show some (if TabOk false (ofT t) = true then Rx.obj (tabO (ofT t)) else .err xIT) = _
    rw [if_pos hb])
theorem law_k13_true (ns : List Int) : f_law_k13 [.scr ns] = some (.bl true) := by
  refine fn_eq rfl ?_
  unfold b_law_k13
  apply wp_seq
  refine wp_forN 0 8 ev_c ev_c (by omega) (by omega) (fun k ρ => ρ 0 = some (.p (.scr ns))) rfl ?_ ?_
  · intro idx ρ _ hidx h0
    obtain ⟨ds, hd1, hd2, hd3⟩ := digits_spec ns idx 60 27720 (by omega) (by omega)
    apply wp_seq
    refine wp_asg (ev_call (ev_cons (ev_pv (by exact h0)) (ev_cons (ev_pv rfl) (ev_cons ev_c (ev_cons ev_c ev_nil)))) hd1) ?_
    have hm1 := Int.emod_nonneg (gi ds 50) (by omega : (6 : Int) ≠ 0)
    have hm2 := Int.emod_lt_of_pos (gi ds 50) (by omega : (0 : Int) < 6)
    obtain ⟨w, hw⟩ : ∃ w : Nat, 1 + gi ds 50 % 6 = w := ⟨(1 + gi ds 50 % 6).toNat, by omega⟩
    have hw3 : 1 ≤ w ∧ w ≤ 6 := by omega
    apply wp_seq
    refine wp_asg (d := .int w) (by rw [← hw]; walk_at "ev"; all_goals first | omega | decide) ?_
    obtain ⟨u, R0, C0, ht, hu, hR0, hC0, bR, bC⟩ := table_spec ds 3 w (by omega) (by omega) hw3
    apply wp_seq
    refine wp_asg (ev_call (ev_cons (ev_pv rfl) (ev_cons ev_c (ev_cons (ev_pv rfl) ev_nil))) ht) ?_
    have hrec : Rect (mkT u R0 C0) 3 w := by rw [← hR0, ← hC0]; exact mkT_rect
    have hbd : ∀ q ∈ mkT u R0 C0, ∀ x ∈ q, -999 ≤ x ∧ x ≤ 999 := fun q hq x hx => by
      unfold mkT at hq
      obtain ⟨r, hr, rfl⟩ := List.mem_map.mp hq
      obtain ⟨c, hc, rfl⟩ := List.mem_map.mp hx
      have h1 := bR r hr
      have h2 := bC c hc
      have := div_bd13 (x := r + c) hu (by omega)
      omega
    clear ht bR bC
    generalize mkT u R0 C0 = t at *
    have hl := hrec.1
    -- the odd rows
    obtain ⟨va, av1, av2⟩ := any_value_spec 6 0 (ds.drop 9) (by omega) (by omega) (by rw [List.length_drop]; omega) (fun x hx => (hd3 x (List.mem_of_mem_drop hx)).1)
    obtain ⟨k0, hk0⟩ : ∃ k0 : Nat, (w : Int) % 6 + 1 = k0 := ⟨((w : Int) % 6 + 1).toNat, by omega⟩
    have hk1 : 1 ≤ k0 ∧ k0 ≤ 6 := by omega
    let os1 : List D := [.tup [], .tup (List.replicate 7 (.int 1)), .tup (List.replicate w (.int 1000)), .tup (List.replicate w (.bl true)), .tup (List.replicate w .non), .lst (List.replicate w (.int 1)), .non, .int 5, .str (Str.ofString "1"), .tup (List.replicate w (.tup [.int 1]))]
    let os2 : List D := [.tup (List.replicate k0 (.int 1)), va, .tup (List.replicate w (.str (Str.ofString "1"))), .tup (List.replicate w (.int (-999))), .tup (List.replicate w (.int 999))]
    apply wp_seq
    refine wp_asg (d := .lst os1) (ev_new (ev_sz (ev_cons (ev_tup ev_nil rfl) (ev_cons (ev_e2 (ev_tup1 ev_c) ev_c (g_repA (k := 7) (by omega))) (ev_cons (ev_e2 (ev_tup1 ev_c) (ev_rv rfl) (g_repA (k := w) (by omega))) (ev_cons (ev_e2 (ev_tup1 ev_c) (ev_rv rfl) (g_repA (k := w) (by omega))) (ev_cons (ev_e2 (ev_tup1 ev_c) (ev_rv rfl) (g_repA (k := w) (by omega)))
      (ev_cons (ev_e2 (ev_new (ev_sz (ev_cons ev_c ev_nil) rfl)) (ev_rv rfl) (g_repL (k := w) (by omega))) (ev_cons ev_c (ev_cons ev_c (ev_cons ev_c (ev_cons (ev_e2 (ev_tup1 (ev_tup1 ev_c)) (ev_rv rfl) (g_repA (k := w) (by omega))) ev_nil)))))))))) rfl)) ?_
    apply wp_seq
    refine wp_asg (d := .lst (os1 ++ os2)) (ev_e2 (ev_rv rfl) (ev_new (ds := os2) (ev_sz (ev_cons (ev_e2 (ev_tup1 ev_c) (y := .int k0) (by rw [← hk0]; exact ev_e2 (ev_e2 (ev_rv rfl) ev_c (g_mod (by omega))) ev_c rfl) (g_repA (k := k0) (by omega)))
      (ev_cons (ev_call (ev_cons (ev_cutI (o1 := some ((9 : Nat) : Int)) (o2 := none) (ev_rv rfl) (ev_oSome ev_c) ev_oNo) (ev_cons ev_c ev_nil)) (by rw [cutI_from]; exact av1)) (ev_cons (ev_e2 (ev_tup1 ev_c) (ev_rv rfl) (g_repA (k := w) (by omega))) (ev_cons (ev_e2 (ev_tup1 (ev_eNeg ev_c)) (ev_rv rfl) (g_repA (k := w) (by omega))) (ev_cons (ev_e2 (ev_tup1 ev_c) (ev_rv rfl) (g_repA (k := w) (by omega))) ev_nil))))) rfl)) (g_addDL13 (by show 10 + 5 ≤ _; omega))) ?_
    have hlen : (os1 ++ os2).length = 15 := rfl
    have hstr : PyData.strOk (Str.ofString "1") = true := by decide +kernel
    have hos : ∀ x ∈ os1 ++ os2, Vd 20 10 x := by
      have up : ∀ {x : D} {k : Nat}, Vd 20 k x → k ≤ 10 → Vd 20 10 x := fun h hk => h.mono (Nat.le_refl _) hk
      intro x hx
      rcases List.mem_append.mp hx with hx | hx
      · simp only [os1, List.mem_cons, List.not_mem_nil, or_false] at hx
        rcases hx with rfl | rfl | rfl | rfl | rfl | rfl | rfl | rfl | rfl | rfl
        · exact up (k := 1) (vd_tup (by simp) (fun x hx => by cases hx)) (by omega)
        · exact up (k := 1) (vd_repT (by omega) (Vd.atom atom_int)) (by omega)
        · exact up (k := 1) (vd_repT (by omega) (Vd.atom atom_int)) (by omega)
        · exact up (k := 1) (vd_repT (by omega) (Vd.atom atom_bl)) (by omega)
        · exact up (k := 1) (vd_repT (by omega) (Vd.atom atom_non)) (by omega)
        · exact up (k := 1) (vd_repL (by omega) (Vd.atom atom_int)) (by omega)
        · exact Vd.atom atom_non
        · exact Vd.atom atom_int
        · exact Vd.atom (atom_str hstr)
        · exact up (k := 2) (vd_repT (by omega) (vd_repT (n := 1) (by omega) (Vd.atom atom_int))) (by omega)
      · simp only [os2, List.mem_cons, List.not_mem_nil, or_false] at hx
        rcases hx with rfl | rfl | rfl | rfl | rfl
        · exact up (k := 1) (vd_repT (by omega) (Vd.atom atom_int)) (by omega)
        · exact av2.mono (by omega) (by omega)
        · exact up (k := 1) (vd_repT (by omega) (Vd.atom (atom_str hstr))) (by omega)
        · exact up (k := 1) (vd_repT (by omega) (Vd.atom atom_int)) (by omega)
        · exact up (k := 1) (vd_repT (by omega) (Vd.atom atom_int)) (by omega)
    generalize os1 ++ os2 = os at *
    clear av1 av2
    have hds : ds.length = 60 := hd2
    apply wp_seq
    refine wp_forN 0 10 ev_c ev_c (by omega) (by omega) (fun k ρ => ρ 0 = some (.p (.scr ns)) ∧ ρ 2 = some (.p (ofI ds)) ∧ ρ 4 = some (.p (ofT t)) ∧ ρ 5 = some (.p (.lst os))) ⟨h0, rfl, rfl, rfl⟩ ?_ ?_
    · clear h0
      rintro k ρ - hk ⟨h0, h2, h4, h5⟩
      apply wp_seq
      have hx : (e2 gIx (eRv 4) (e2 gMod (e2 gIx (eRv 2) (e2 gAdd (eC (.int 10)) (eRv 6))) (eC (.int 3)))) (ρ.set 6 (.p (.int (k : Nat)))) = some (ofR (row t (gi ds (10 + k) % 3))) :=
        ev_e2 (ev_rv (by exact h4)) (ev_e2 (ev_e2 (ev_rv (by exact h2)) (ev_e2 ev_c (ev_rv rfl) rfl) (g_ixI (by omega))) ev_c (g_mod (by omega))) (g_ixT (by omega))
      obtain ⟨y, hy1, hy2⟩ : ∃ d, (e2 gIx (eRv 5) (e2 gMod (e2 gIx (eRv 2) (e2 gAdd (eC (.int 20)) (eRv 6))) (eC (.int 15)))) (ρ.set 6 (.p (.int (k : Nat)))) = some d ∧ Vd 20 10 d :=
        ev_ixE _ (ev_rv (by exact h5)) (ev_e2 (ev_e2 (ev_rv (by exact h2)) (ev_e2 ev_c (ev_rv rfl) rfl) (g_ixI (by omega))) ev_c (g_mod (by omega))) (by rw [hlen]; omega) hos
      have hxv : Vd 20 10 (ofR (row t (gi ds (10 + k) % 3))) := (vd_ofR (by rw [len_row hrec (by omega)]; omega)).mono (Nat.le_refl _) (by omega)
      generalize ofR (row t (gi ds (10 + k) % 3)) = x at *
      refine wp_asg (d := .lst [x, y]) (ev_new (ev_sz (ev_cons hx (ev_cons hy1 ev_nil)) rfl)) ?_
      have hxy : ∀ z ∈ [x, y], Vd 20 10 z := fun z hz => by
        simp only [List.mem_cons, List.not_mem_nil, or_false] at hz
        rcases hz with rfl | rfl
        · exact hxv
        · exact hy2
      apply wp_seq
      refine wp_asgE (Vd 20 10) (ev_ixE _ (ev_rv rfl) (ev_e2 (ev_e2 (ev_rv (by exact h2)) (ev_e2 ev_c (ev_rv rfl) rfl) (g_ixI (by omega))) ev_c (g_mod (by omega))) (by show 0 ≤ _ ∧ _ < ((2 : Nat) : Int); omega) hxy) ?_
      intro one h1v
      apply wp_seq
      refine wp_asgE (Vd 20 10) (ev_ixE _ (ev_rv rfl) (ev_e2 (ev_e2 (ev_rv (by exact h2)) (ev_e2 ev_c (ev_rv rfl) rfl) (g_ixI (by omega))) ev_c (g_mod (by omega))) (by show 0 ≤ _ ∧ _ < ((2 : Nat) : Int); omega) hxy) ?_
      intro other h2v
      have hv2 : Vd 20 11 (.tup [one, other]) := vd_tup (by simp) fun z hz => by
        simp only [List.mem_cons, List.not_mem_nil, or_false] at hz
        rcases hz with rfl | rfl
        · exact h1v
        · exact h2v
      have hv1 : Vd 20 11 (.tup [one]) := vd_tup (by simp) fun z hz => by
        simp only [List.mem_cons, List.not_mem_nil, or_false] at hz
        subst hz; exact h1v
      apply wp_seq
      refine wp_asg (ev_call (ev_cons (ev_tup2 (ev_pv rfl) (ev_pv rfl)) ev_nil) (is_table_spec hv2 (by omega))) ?_
      apply wp_seq
      refine wp_toldB (tmake (ds := [one, other]) (ev_cons (ev_pv rfl) (ev_cons (ev_pv rfl) ev_nil)) hv2 (by omega) (by simp)) x_gv ?_
      intro c hc
      apply wp_seq
      refine wp_ifF (ev_tV (ev_e2 (ev_rv rfl) (if_told (ev_tV (ev_pv rfl))) if_neStr)) (wp_skip ?_)
      apply wp_seq
      refine wp_ifF ((ev_bAnd' (q := false) (ev_tV (ev_pv rfl)) (fun hb => ?_)).trans (by rw [Bool.and_false])) (wp_skip ?_)
      · obtain ⟨r0, r1, w2, rfl, rfl, e0, e1, hw2⟩ := tab2 hb
        have e := hc hb
        subst e
        exact ev_bOr (p := false) (q := false) (ev_tV (ev_e2 (ev_prop2 rfl rfl (trows _)) (ev_tup2 (ev_pv rfl) (ev_pv rfl)) ((g_neT (x := [r0, r1]) (y := [r0, r1])).trans (by rw [decide_eq_true rfl]; rfl)))) (ev_tV (ev_e2 (ev_lenO rfl rfl (tlen _) (by show 2 < _; omega)) ev_c rfl))
      apply wp_seq
      refine wp_ifF ((ev_bAnd' (q := false) (ev_tV (ev_pv rfl)) (fun hb => ?_)).trans (by rw [Bool.and_false])) (wp_skip ?_)
      · obtain ⟨r0, r1, w2, rfl, rfl, e0, e1, hw2⟩ := tab2 hb
        have e := hc hb
        subst e
        have hr2 : Rect [r0, r1] 2 w2 := ⟨rfl, fun r hr => by
          simp only [List.mem_cons, List.not_mem_nil, or_false] at hr
          rcases hr with rfl | rfl
          · exact e0
          · exact e1⟩
        exact ev_tV (ev_e2 (ev_prop2 (o := tabO (ofT [r0, r1])) rfl rfl (tsize hr2 (by omega))) (ev_tup2 ev_c (ev_blt (ev_cons (ev_rv rfl) ev_nil) g_lenR)) (by rw [e0]; exact (g_neR13 (x := [((2 : Nat) : Int), (w2 : Int)]) (y := [((2 : Nat) : Int), (w2 : Int)])).trans (by rw [decide_eq_true rfl]; rfl)))
      apply wp_seq
      refine wp_toldB (tmake (ds := [one]) (ev_cons (ev_pv rfl) ev_nil) hv1 (by omega) (by simp)) x_gv ?_
      intro c2 hc2
      refine wp_ifF (ev_tV (ev_e2 (ev_rv rfl) (if_told (ev_tV (ev_call (ev_cons (ev_tup1 (ev_pv rfl)) ev_nil) (is_table_spec hv1 (by omega))))) if_neStr)) (wp_skip ?_)
      exact ⟨h0, h2, h4, h5⟩
    · clear h0
      rintro ρ ⟨h0, h2, h4, h5⟩
      obtain ⟨r0, r1, r2, rfl⟩ : ∃ r0 r1 r2, t = [r0, r1, r2] := by
        match t, hl with
        | [r0, r1, r2], _ => exact ⟨r0, r1, r2, rfl⟩
      have hbok : TabOk false (ofT [r0, r1, r2]) = true := tabOk_of hrec (by omega) hw3 hbd
      have vt : ∀ (s : List (List Int)), s.length ≤ 20 → (∀ r ∈ s, r.length ≤ 20) → Vd 20 2 (ofT s) := fun s hs hr => vd_tup (by rw [List.length_map]; exact hs) fun x hx => by
        obtain ⟨r, hr', rfl⟩ := List.mem_map.mp hx
        exact vd_ofR (hr r hr')
      have hw0 : r0.length = w := hrec.2 r0 (by simp)
      apply wp_seq
      refine wp_ifF (ev_tV (ev_e2 (ev_tprop (o := tabO (ofT [r0, r1, r2])) ((tmakeT (t := [r0, r1, r2]) (ev_cons (ev_e2 (ev_rv h4) ev_c (g_ixT (by show 0 ≤ _ ∧ _ < ((3 : Nat) : Int); omega))) (ev_cons (ev_e2 (ev_rv h4) ev_c (g_ixT (by show 0 ≤ _ ∧ _ < ((3 : Nat) : Int); omega))) (ev_cons (ev_e2 (ev_rv h4) ev_c (g_ixT (by show 0 ≤ _ ∧ _ < ((3 : Nat) : Int); omega))) ev_nil)))
        (vt [r0, r1, r2] (by simp) (fun r hr => by rw [hrec.2 r hr]; omega)) (by omega) (by simp) hbok)) rfl (trows _)) (ev_rv h4) (g_neT.trans (by rw [decide_eq_true rfl]; rfl)))) (wp_skip ?_)
      apply wp_seq
      refine wp_asg (d := ofR r0) (ev_e2 (ev_rv h4) ev_c (g_ixT (by show 0 ≤ _ ∧ _ < ((3 : Nat) : Int); omega))) ?_
      have h6 : Rect [r0, r0, r0, r0, r0, r0] 6 w := ⟨rfl, fun r hr => by
        simp only [List.mem_cons, List.not_mem_nil, or_false, or_self] at hr
        rw [hr]; exact hw0⟩
      have hb6 : TabOk false (ofT [r0, r0, r0, r0, r0, r0]) = true := tabOk_of h6 (by omega) hw3 fun r hr x hx => by
        simp only [List.mem_cons, List.not_mem_nil, or_false, or_self] at hr
        rw [hr] at hx
        exact hbd r0 (by simp) x hx
      apply wp_seq
      refine wp_ifF (ev_tV (ev_e2 (ev_tlen (o := tabO (ofT [r0, r0, r0, r0, r0, r0])) (n := 6) ((tmakeT (t := [r0, r0, r0, r0, r0, r0]) (ev_cons (ev_pv rfl) (ev_cons (ev_pv rfl) (ev_cons (ev_pv rfl) (ev_cons (ev_pv rfl) (ev_cons (ev_pv rfl) (ev_cons (ev_pv rfl) ev_nil))))))
        (vt [r0, r0, r0, r0, r0, r0] (by simp) (fun r hr => by rw [h6.2 r hr]; omega)) (by omega) (by simp) hb6)) rfl (tlen _) (by omega)) ev_c rfl)) (wp_skip ?_)
      refine wp_ifF (ev_tV (ev_e2 (ev_toldE ((tmake (ds := [ofR r0, ofR r0, ofR r0, ofR r0, ofR r0, ofR r0, ofR r0]) (ev_cons (ev_pv rfl) (ev_cons (ev_pv rfl) (ev_cons (ev_pv rfl) (ev_cons (ev_pv rfl) (ev_cons (ev_pv rfl) (ev_cons (ev_pv rfl) (ev_cons (ev_pv rfl) ev_nil)))))))
        (vt [r0, r0, r0, r0, r0, r0, r0] (by simp) (fun r hr => by
          simp only [List.mem_cons, List.not_mem_nil, or_false, or_self] at hr
          rw [hr, hw0]; omega)) (by omega) (by simp)).trans (by rw [tabOk_big (by simp)]; rfl)) x_gv) (ev_tup2 ev_c ev_c) (g_pair _ pS_ok.1).2)) (wp_skip ?_)
      exact h0
  · intro ρ h0
    have h5 : Rect [[(5 : Int)]] 1 1 := ⟨rfl, by decide⟩
    have hb5 : TabOk false (ofT [[(5 : Int)]]) = true := tabOk_of h5 (by omega) (by omega) (by decide)
    refine wp_ret (ev_eAnd (p := true) (q := true) (ev_e2 ev_c ev_c rfl) (ev_eAnd (p := true) (q := true) (ev_e2 (ev_toldE ((tmake (ds := []) ev_nil (k := 1) (vd_tup (by simp) (fun x hx => by cases hx)) (by omega) (by simp)).trans rfl) x_gv) (ev_tup2 ev_c ev_c) (g_pair _ pS_ok.1).1)
      (ev_e2 (ev_tprop (o := tabO (ofT [[(5 : Int)]])) ((tmakeT (t := [[5]]) (ev_cons (ev_tup1 ev_c) ev_nil) (k := 2) (vd_tup (by simp) (fun x hx => by
        simp only [List.map_cons, List.map_nil, List.mem_cons, List.not_mem_nil, or_false] at hx
        subst hx; exact vd_ofR (by simp))) (by omega) (by simp) hb5)) rfl (tsize h5 (by omega))) (ev_tup2 ev_c ev_c) ((g_eqR (x := [((1 : Nat) : Int), ((1 : Nat) : Int)]) (y := [1, 1])).trans (by rw [decide_eq_true (by rfl)]))))) rfl
end PL

namespace W13
open PySem PySem.Spec PyProof.Rows L2 PL
def topS (i : Nat) : Stmt := PySem.Challenge.pw_roadtables_k13_tables_created.main.body.getD i (.Pass ⟨0, 0, 0, 0⟩)
abbrev s_law_error : Stmt := topS 20
theorem sc_law_error : FnScope ["e", "classes", "words", "word", "good"] ["e"] (defScope s_law_error) := ⟨rfl, rfl, rfl, by decide +kernel, rfl, by decide +kernel, by decide +kernel⟩
abbrev s_law_told : Stmt := topS 21
theorem sc_law_told : FnScope ["call", "e"] ["call"] (defScope s_law_told) := ⟨rfl, rfl, rfl, by decide +kernel, rfl, by decide +kernel, by decide +kernel⟩
abbrev s_is_integer : Stmt := topS 10
theorem sc_is_integer : FnScope ["value", "low", "high"] ["value", "low", "high"] (defScope s_is_integer) := ⟨rfl, rfl, rfl, by decide +kernel, rfl, by decide +kernel, by decide +kernel⟩
abbrev s_is_table : Stmt := topS 11
theorem sc_is_table : FnScope ["value", "row", "entry"] ["value"] (defScope s_is_table) := ⟨rfl, rfl, rfl, by decide +kernel, rfl, by decide +kernel, by decide +kernel⟩
abbrev s_Table_init : Stmt := inClass (topS 14) 1
theorem sc_Table_init : FnScope ["self", "rows"] ["self", "rows"] (defScope s_Table_init) := ⟨rfl, rfl, rfl, by decide +kernel, rfl, by decide +kernel, by decide +kernel⟩
abbrev s_Table_len : Stmt := inClass (topS 14) 4
theorem sc_Table_len : FnScope ["self"] ["self"] (defScope s_Table_len) := ⟨rfl, rfl, rfl, by decide +kernel, rfl, by decide +kernel, by decide +kernel⟩
abbrev s_Table_rows : Stmt := inClass (topS 14) 2
theorem sc_Table_rows : FnScope ["self"] ["self"] (defScope s_Table_rows) := ⟨rfl, rfl, rfl, by decide +kernel, rfl, by decide +kernel, by decide +kernel⟩
abbrev s_Table_size : Stmt := inClass (topS 14) 3
theorem sc_Table_size : FnScope ["self"] ["self"] (defScope s_Table_size) := ⟨rfl, rfl, rfl, by decide +kernel, rfl, by decide +kernel, by decide +kernel⟩
abbrev s_law_any_value : Stmt := topS 18
theorem sc_law_any_value : FnScope ["digits", "depth", "choice", "number", "parts", "k"] ["digits", "depth"] (defScope s_law_any_value) := ⟨rfl, rfl, rfl, by decide +kernel, rfl, by decide +kernel, by decide +kernel⟩
abbrev s_law_cell : Stmt := topS 16
theorem sc_law_cell : FnScope ["script", "index"] ["script", "index"] (defScope s_law_cell) := ⟨rfl, rfl, rfl, by decide +kernel, rfl, by decide +kernel, by decide +kernel⟩
abbrev s_law_digits : Stmt := topS 17
theorem sc_law_digits : FnScope ["script", "index", "count", "base", "primes", "cell", "rest", "digits", "k", "mixed"] ["script", "index", "count", "base"] (defScope s_law_digits) := ⟨rfl, rfl, rfl, by decide +kernel, rfl, by decide +kernel, by decide +kernel⟩
abbrev s_law_table : Stmt := topS 19
theorem sc_law_table : FnScope ["digits", "many", "wide", "unit", "columns", "rows", "k", "digit", "one", "other"] ["digits", "many", "wide"] (defScope s_law_table) := ⟨rfl, rfl, rfl, by decide +kernel, rfl, by decide +kernel, by decide +kernel⟩
abbrev s_law : Stmt := topS 22
theorem sc_law : FnScope ["script", "index", "digits", "wide", "table", "odd", "k", "row", "some", "one", "other", "good", "found", "told"] ["script"] (defScope s_law) := ⟨rfl, rfl, rfl, by decide +kernel, rfl, by decide +kernel, by decide +kernel⟩
structure T_Table (K : PySem.W.Frag) (mg : Str → Option Value) (C : Addr) : Prop where
  c : ClD K "Table" C
  m : mg "Table" = some (.ref C)
  rows_kept : NoAttr K C "rows_kept"
  k_MOST : GInt K C "MOST" 6
section
variable {P : Program} {w : World} {K : PySem.W.Frag} {mg : Str → Option Value} {base : Heap}
theorem ok_law_error {Dc : Addr} {z : Str} {b1 b2 b3 b4 b5 b6 b7 b8 : Bool} (C : ExcC K Dc) (k1 : IsB K mg Dc "InvalidTable" b1) (k2 : IsB K mg Dc "InvalidName" b2) (k3 : IsB K mg Dc "InvalidEntries" b3) (k4 : IsB K mg Dc "InvalidPlace" b4) (k5 : IsB K mg Dc "NotReal" b5) (k6 : IsB K mg Dc "TooMany" b6) (k7 : IsB K mg Dc "NothingToUndo" b7) (kv : mg "ValueError" = none) (k8 : PySem.W.kitOne K (.ref Dc) (.type "ValueError") = some b8) (hzz : ∀ a, b_law_error a b1 b2 b3 b4 b5 b6 b7 b8 (envE a) = some (.rt (.str z))) {f : Addr} {fd : FuncData} (F : Fun K "_law_error" "_law_error" s_law_error f fd) (T : BN mg) : FnHP P w K mg base 1 f fd ["e"] (spErr Dc z) :=
  err_ok F sc_law_error rfl (by decide) hzz fun cdv A outer s H E p hot hz hr => by
    have nd := sc_law_error.nd
    have hp : p ∈ [p] := List.mem_cons_self
    have hf := hasFields hot
    exact (ss_cons (st_set 1 (nw_lst (pa_consU (pu_isE 0 C hp hz hf T.isinstance k1) (pa_consU (pu_isE 0 C hp hz hf T.isinstance k2) (pa_consU (pu_isE 0 C hp hz hf T.isinstance k3) pa_nilU)))).pu nd)
 (ss_cons (st_set 1 (pu_add (rd_var 1) (nw_lst (pa_consU (pu_isE 0 C hp hz hf T.isinstance k4) (pa_consU (pu_isE 0 C hp hz hf T.isinstance k5) (pa_consU (pu_isE 0 C hp hz hf T.isinstance k6) pa_nilU)))).pu.rd) nd)
 (ss_cons (st_set 1 (pu_add (rd_var 1) (nw_lst (pa_consU (pu_isE 0 C hp hz hf T.isinstance k7) (pa_consU (pu_isV 0 C hp hz hf T.isinstance kv k8) pa_nilU))).pu.rd) nd)
 (ss_cons (st_set 2 (nw_lst (pa_consU pu_str (pa_consU pu_str (pa_consU pu_str (pa_consU pu_str (pa_consU pu_str (pa_consU pu_str (pa_consU pu_str (pa_consU pu_str pa_nilU))))))))).pu nd)
 (ss_one (st_ret (pu_join pu_str.rd (nw_zipH (own := [("word", 3), ("good", 4)]) hot hp (.tp [3, 4]) nd T.zip (pu_var 2) (pu_var 1) (by kernel_rfl) (fun _ _ _ _ _ hB => (pg_tupH hB (pgs_cons (pg_name (i := 3) nd rfl (by first | exact .inl rfl | exact .inr rfl)) (pgs_cons (pg_name (i := 4) nd rfl (by first | exact .inl rfl | exact .inr rfl)) pgs_nil)))) (fun _ _ _ _ _ => (pts_if (pt_valU (pu_var 4)))) (fun _ _ _ _ _ => (pu_var 3)) (slots_ok rfl) (by decide)).pu.rd)))))))
theorem ok_is_integer {f : Addr} {fd : FuncData} (F : Fun K "is_integer" "is_integer" s_is_integer f fd) (T : BN mg) : FnOk P w K mg base CX0 1 f fd ["value", "low", "high"] (spF K f_is_integer) :=
  pure_ok F sc_is_integer (by decide) fun cdv A outer s H E hr => by
    have nd := sc_is_integer.nd
    have hp := PassesOwn.never (M := model P w) (A := A.deeper (envOfC "is_integer" (defScope s_is_integer) s.heap.objs.size f cdv)) (env := (envOfC "is_integer" (defScope s_is_integer) s.heap.objs.size f cdv))
    exact (ss_one (st_ret (pu_and (pu_is_int T.isinstance T.int (rd_var 0)) (pu_and (pu_not (pu_is_bool T.isinstance T.bool (rd_var 0))) (pu_one (pu_chain c_le c_le (rd_var 1) (rd_var 0) (rd_var 2)))))))
theorem ok_is_table {f : Addr} {fd : FuncData} (F : Fun K "is_table" "is_table" s_is_table f fd) (T : BN mg) (h_is_integer : FnD P w K mg base 1 "is_integer" f_is_integer) : FnOk P w K mg base CX0 2 f fd ["value"] (spF K f_is_table) :=
  pure_ok F sc_is_table (by decide) fun cdv A outer s H E hr => by
    have nd := sc_is_table.nd
    have hp := PassesOwn.never (M := model P w) (A := A.deeper (envOfC "is_table" (defScope s_is_table) s.heap.objs.size f cdv)) (env := (envOfC "is_table" (defScope s_is_table) s.heap.objs.size f cdv))
    exact (ss_cons (st_if (PuW.pt (pw_orU (pt_notU (pt_valU (pu_is_tuple T.isinstance T.tuple (rd_var 0)))) (pw_or1U (pt_notU (pt_chainU c_le c_le pu_int.rd (pu_callB b_len T.len (ra_cons (rd_var 0) ra_nil)).rd pu_int.rd)))))
 (ss_one (st_ret pu_bl))
 ss_nil)
 (ss_cons (st_if (pt_notU (pt_valU (pu_callB (b_all rfl) T.all (ra_cons (nw_comp (own := [("row", 1)]) (.nm 1) rfl nd (ig_seq (pu_var 0)).weak (by kernel_rfl) (fun _ _ _ _ _ => (pg_name (i := 1) nd rfl (by first | exact .inl rfl | exact .inr rfl))) (fun _ _ _ _ _ => pts_no) (fun _ _ _ _ _ => (pu_and (pu_is_tuple T.isinstance T.tuple (rd_var 1)) (pu_one (pu_chain c_le c_le pu_int.rd (pu_callB b_len T.len (ra_cons (rd_var 1) ra_nil)).rd pu_int.rd)))) (slots_ok rfl) (by decide)).pu.rd ra_nil))))
 (ss_one (st_ret pu_bl))
 ss_nil)
 (ss_cons (st_if (pt_cmpU (c_ne hr.units) (pu_callB b_len T.len (ra_cons (nw_sortset T.sorted T.set rfl (nw_comp (own := [("row", 1)]) (.nm 1) rfl nd (ig_seq (pu_var 0)).weak (by kernel_rfl) (fun _ _ _ _ _ => (pg_name (i := 1) nd rfl (by first | exact .inl rfl | exact .inr rfl))) (fun _ _ _ _ _ => pts_no) (fun _ _ _ _ _ => (pu_callB b_len T.len (ra_cons (rd_var 1) ra_nil))) (slots_ok rfl) (by decide)).pu.rd).pu.rd ra_nil)).rd pu_int.rd)
 (ss_one (st_ret pu_bl))
 ss_nil)
 (ss_one (st_ret (pu_callB (b_all rfl) T.all (ra_cons (nw_comp2 (own := [("row", 1), ("entry", 2)]) (vs1 := [2]) (.nm 1) (.nm 2) rfl nd (ig_seq (pu_var 0)).weak (by kernel_rfl) (fun _ _ _ _ _ => (pg_name (i := 1) nd rfl (by first | exact .inl rfl | exact .inr rfl))) (fun _ _ _ _ _ => (ig_seq (pu_var 1))) (fun _ _ _ _ _ => (pg_name (i := 2) nd rfl (by first | exact .inl rfl | exact .inr rfl))) (fun _ _ _ _ _ => pts_no) (fun _ _ _ _ _ => (pu_call h_is_integer hr (pa_consU (pu_var 2) (pa_consU (pu_neg pu_int) (pa_consU pu_int pa_nilU))))) (slots_ok rfl) (slots_ok rfl) (by decide) (by decide) (by decide)).pu.rd ra_nil)))))))
theorem ok_Table_init {f C fI : Addr} {fd : FuncData} (F : Fun K "__init__" "Table.__init__" s_Table_init f fd) (T : BN mg) (TTable : T_Table K mg C) {D_InvalidTable : Addr} (X_InvalidTable : XcK K mg "InvalidTable" D_InvalidTable) (h_is_table : FnD P w K mg base 2 "is_table" f_is_table) : FnR P w K mg base (L2N.CX P w) 3 f (spWX K "Table" (starX f_Table_init)) :=
  methWSX_ok F sc_Table_init (by decide) (fun _ _ _ _ _ _ _ => rfl) (fun _ _ _ _ _ _ _ _ _ => rfl) mWX_ok fun cdv A outer s H E hr => by
    have nd := sc_Table_init.nd
    have hp := PassesOwn.never (M := model P w) (A := A.deeper (envOfC "Table.__init__" (defScope s_Table_init) s.heap.objs.size f cdv)) (env := (envOfC "Table.__init__" (defScope s_Table_init) s.heap.objs.size f cdv))
    exact (mx_guard rfl cxN_takes X_InvalidTable (pt_notU (pt_valU (pu_call h_is_table hr (pa_consU (pu_var 1) pa_nilU))))
 (mx_of (mm_put TTable.c TTable.rows_kept (pu_var 1)
 mm_nil)))
theorem ok_Table_len {f C fI : Addr} {fd : FuncData} (F : Fun K "__len__" "Table.__len__" s_Table_len f fd) (T : BN mg) (TTable : T_Table K mg C) : FnOk P w K mg base CX0 1 f fd ["self"] (spR K "Table" f_Table_len) :=
  methR_ok F sc_Table_len rfl (by decide) mR_ok fun cdv A outer s H E hr => by
    have nd := sc_Table_len.nd
    have hp := PassesOwn.never (M := model P w) (A := A.deeper (envOfC "Table.__len__" (defScope s_Table_len) s.heap.objs.size f cdv)) (env := (envOfC "Table.__len__" (defScope s_Table_len) s.heap.objs.size f cdv))
    exact (ss_one (st_ret (pu_callB b_len T.len (ra_cons (pu_fld 0 TTable.c TTable.rows_kept).rd ra_nil))))
theorem ok_Table_rows {f C fI : Addr} {fd : FuncData} (F : Fun K "rows" "Table.rows" s_Table_rows f fd) (T : BN mg) (TTable : T_Table K mg C) : FnOk P w K mg base CX0 1 f fd ["self"] (spR K "Table" f_Table_rows) :=
  methR_ok F sc_Table_rows rfl (by decide) mR_ok fun cdv A outer s H E hr => by
    have nd := sc_Table_rows.nd
    have hp := PassesOwn.never (M := model P w) (A := A.deeper (envOfC "Table.rows" (defScope s_Table_rows) s.heap.objs.size f cdv)) (env := (envOfC "Table.rows" (defScope s_Table_rows) s.heap.objs.size f cdv))
    exact (ss_one (st_ret (pu_fld 0 TTable.c TTable.rows_kept)))
theorem ok_Table_size {f C fI : Addr} {fd : FuncData} (F : Fun K "size" "Table.size" s_Table_size f fd) (T : BN mg) (TTable : T_Table K mg C) : FnOk P w K mg base CX0 1 f fd ["self"] (spR K "Table" f_Table_size) :=
  methR_ok F sc_Table_size rfl (by decide) mR_ok fun cdv A outer s H E hr => by
    have nd := sc_Table_size.nd
    have hp := PassesOwn.never (M := model P w) (A := A.deeper (envOfC "Table.size" (defScope s_Table_size) s.heap.objs.size f cdv)) (env := (envOfC "Table.size" (defScope s_Table_size) s.heap.objs.size f cdv))
    exact (ss_one (st_ret (pu_tup (pa_consU (pu_callB b_len T.len (ra_cons (pu_fld 0 TTable.c TTable.rows_kept).rd ra_nil)) (pa_consU (pu_callB b_len T.len (ra_cons (pu_ix (pu_fld 0 TTable.c TTable.rows_kept).rd pu_int.rd).rd ra_nil)) pa_nilU)))))
theorem ok_law_any_value {f : Addr} {fd : FuncData} (F : Fun K "_law_any_value" "_law_any_value" s_law_any_value f fd) (T : BN mg) {n' : Nat} {self : List D → Option D} (h_law_any_value : FnD P w K mg base n' "_law_any_value" self) (hn : 0 ≤ n') : FnOk P w K mg base CX0 (n' + 1) f fd ["digits", "depth"] (spF K (fnD 2 (b_law_any_value self))) :=
  pure_ok F sc_law_any_value (by decide) fun cdv A outer s H E hr => by
    have nd := sc_law_any_value.nd
    have hp := PassesOwn.never (M := model P w) (A := A.deeper (envOfC "_law_any_value" (defScope s_law_any_value) s.heap.objs.size f cdv)) (env := (envOfC "_law_any_value" (defScope s_law_any_value) s.heap.objs.size f cdv))
    exact (ss_cons (st_set 2 (pu_mod (pu_ix (rd_var 0) (rd_var 1)).rd pu_int.rd) nd)
 (ss_cons (st_set 3 (pu_ix (nw_lst (pa_consU (pu_sub (pu_mod (pu_ix (rd_var 0) (pu_add (rd_var 1) pu_int.rd).rd).rd pu_int.rd).rd pu_int.rd) (pa_consU (pu_sub pu_int.rd (pu_pow pu_int.rd pu_int.rd).rd) (pa_consU (pu_pow pu_int.rd pu_int.rd) pa_nilU)))).pu.rd (pu_mod (pu_ix (rd_var 0) (pu_add (rd_var 1) pu_int.rd).rd).rd pu_int.rd).rd) nd)
 (ss_cons (st_if (PuW.pt (pw_orU (pt_cmpU c_lt (rd_var 2) pu_int.rd) (pw_or1U (pt_cmpU c_gt (rd_var 1) pu_int.rd))))
 (ss_one (st_ret (pu_var 3)))
 ss_nil)
 (ss_cons (st_if (pt_cmpU c_lt (rd_var 2) pu_int.rd)
 (ss_one (st_ret (pu_ix (nw_lst (pa_consU pu_bl (pa_consU pu_bl (pa_consU pu_non pa_nilU)))).pu.rd (pu_sub (rd_var 2) pu_int.rd).rd)))
 ss_nil)
 (ss_cons (st_if (pt_cmpU c_lt (rd_var 2) pu_int.rd)
 (ss_one (st_ret (pu_ix (nw_lst (pa_consU pu_str (pa_consU pu_str (pa_consU pu_str (pa_consU pu_str (pa_consU pu_str (pa_consU pu_str (pa_consU pu_str (pa_consU pu_str pa_nilU))))))))).pu.rd (pu_mod (pu_ix (rd_var 0) (pu_add (rd_var 1) pu_int.rd).rd).rd pu_int.rd).rd)))
 ss_nil)
 (ss_cons (st_setC 4 (own := [("k", 5)]) (.nm 5) rfl nd (ig_range1 T.range (pu_mod (pu_ix (rd_var 0) (pu_add (rd_var 1) pu_int.rd).rd).rd pu_int.rd).rd).weak (by kernel_rfl) (fun _ _ _ _ _ => (pg_name (i := 5) nd rfl (by first | exact .inl rfl | exact .inr rfl))) (fun _ _ _ _ _ => pts_no) (fun _ _ _ _ _ => (pu_call h_law_any_value hr (pa_consU (pu_add (pu_slice (rd_var 0) (po_so (rd_var 5)) po_no).rd (pu_slice (rd_var 0) po_no (po_so (rd_var 5))).rd) (pa_consU (pu_add (rd_var 1) pu_int.rd) pa_nilU)) (Nat.le_refl _))) (slots_ok rfl) (by decide))
 (ss_one (st_ret (pu_if (pt_cmpU (c_eq hr.units) (rd_var 2) pu_int.rd) (pu_var 4) (pu_callT b_tuple T.tuple (ra_cons (rd_var 4) ra_nil)))))))))))
theorem ok_law_cell {f : Addr} {fd : FuncData} (F : Fun K "_law_cell" "_law_cell" s_law_cell f fd) (T : BN mg) : FnOk P w K mg base CX0 1 f fd ["script", "index"] (spF K f_law_cell) :=
  pure_ok F sc_law_cell (by decide) fun cdv A outer s H E hr => by
    have nd := sc_law_cell.nd
    have hp := PassesOwn.never (M := model P w) (A := A.deeper (envOfC "_law_cell" (defScope s_law_cell) s.heap.objs.size f cdv)) (env := (envOfC "_law_cell" (defScope s_law_cell) s.heap.objs.size f cdv))
    exact (ss_cons (st_if (pt_cmpU c_lt (rd_var 1) (pu_callB b_len T.len (ra_cons (rd_var 0) ra_nil)).rd)
 (ss_one (st_ret (pu_ix (rd_var 0) (rd_var 1))))
 ss_nil)
 (ss_cons (st_if (pt_cmpU (c_eq hr.units) (pu_callB b_len T.len (ra_cons (rd_var 0) ra_nil)).rd pu_int.rd)
 (ss_one (st_ret (pu_add (pu_mul pu_int.rd (rd_var 1)).rd pu_int.rd)))
 ss_nil)
 (ss_one (st_ret (pu_add (pu_mod (pu_ix (rd_var 0) (pu_mod (rd_var 1) (pu_callB b_len T.len (ra_cons (rd_var 0) ra_nil)).rd).rd).rd pu_int.rd).rd (pu_mul pu_int.rd (rd_var 1)).rd)))))
theorem ok_law_digits {f : Addr} {fd : FuncData} (F : Fun K "_law_digits" "_law_digits" s_law_digits f fd) (T : BN mg) (h_law_cell : FnD P w K mg base 1 "_law_cell" f_law_cell) : FnOk P w K mg base CX0 2 f fd ["script", "index", "count", "base"] (spF K f_law_digits) :=
  pure_ok F sc_law_digits (by decide) fun cdv A outer s H E hr => by
    have nd := sc_law_digits.nd
    have hp := PassesOwn.never (M := model P w) (A := A.deeper (envOfC "_law_digits" (defScope s_law_digits) s.heap.objs.size f cdv)) (env := (envOfC "_law_digits" (defScope s_law_digits) s.heap.objs.size f cdv))
    exact (ss_cons (st_set 4 (pu_tup (pa_consU pu_int (pa_consU pu_int (pa_consU pu_int (pa_consU pu_int (pa_consU pu_int (pa_consU pu_int (pa_consU pu_int (pa_consU pu_int pa_nilU))))))))) nd)
 (ss_cons (st_set 5 (pu_call h_law_cell hr (pa_consU (pu_var 0) (pa_consU (pu_var 1) pa_nilU))) nd)
 (ss_cons (st_set 6 (pu_if (pt_cmpU c_ge (rd_var 5) (pu_pow pu_int.rd pu_int.rd).rd) (pu_var 5) pu_int) nd)
 (ss_cons (st_own 7 (nw_lst pa_nilU) nd)
 (ss_cons (st_for (.nm 8) hp rfl (ig_range1 T.range (rd_var 2)) (pg_name (i := 8) nd rfl (by first | exact .inl rfl | exact .inr rfl))
 (ss_cons (st_set 9 (pu_mul (pu_mod (rd_var 5) (pu_ix (rd_var 4) (pu_mod (rd_var 8) pu_int.rd).rd).rd).rd (pu_add pu_int.rd (pu_mul (pu_mul pu_int.rd (rd_var 8)).rd (rd_var 8)).rd).rd) nd)
 (ss_cons (st_set 9 (pu_add (pu_add (rd_var 9) (pu_mul (pu_mul pu_int.rd (pu_add (rd_var 8) pu_int.rd).rd).rd (pu_add (rd_var 8) pu_int.rd).rd).rd).rd (pu_mul pu_int.rd (rd_var 1)).rd) nd)
 (ss_cons (st_set 9 (pu_mod (rd_var 9) (pu_ix (rd_var 4) (pu_mod (pu_add (pu_mul pu_int.rd (rd_var 8)).rd (rd_var 1)).rd pu_int.rd).rd).rd) nd)
 (ss_cons (st_set 9 (pu_mod (pu_mul (pu_mul (rd_var 9) (rd_var 9)).rd (rd_var 9)).rd (pu_ix (rd_var 4) (pu_mod (pu_add (rd_var 8) pu_int.rd).rd pu_int.rd).rd).rd) nd)
 (ss_cons (st_if (pt_cmpU c_gt (rd_var 6) pu_int.rd)
 (ss_one (st_set 9 (pu_var 6) nd))
 ss_nil)
 (ss_cons (st_app 7 (pu_mod (rd_var 9) (rd_var 3)))
 (ss_one (st_set 6 (pu_div (rd_var 6) (rd_var 3)) nd)))))))) (slots_ok rfl))
 (ss_one (st_pre 7 (st_ret (pu_var 7)))))))))
theorem ok_law_table {f : Addr} {fd : FuncData} (F : Fun K "_law_table" "_law_table" s_law_table f fd) (T : BN mg) : FnOk P w K mg base CX0 1 f fd ["digits", "many", "wide"] (spF K f_law_table) :=
  pure_ok F sc_law_table (by decide) fun cdv A outer s H E hr => by
    have nd := sc_law_table.nd
    have hp := PassesOwn.never (M := model P w) (A := A.deeper (envOfC "_law_table" (defScope s_law_table) s.heap.objs.size f cdv)) (env := (envOfC "_law_table" (defScope s_law_table) s.heap.objs.size f cdv))
    exact (ss_cons (st_set 3 (pu_add pu_int.rd (pu_mod (pu_ix (rd_var 0) pu_int.rd).rd pu_int.rd).rd) nd)
 (ss_cons (st_set 4 (nw_comp (own := [("k", 6)]) (.nm 6) rfl nd (ig_range1 T.range (rd_var 2)).weak (by kernel_rfl) (fun _ _ _ _ _ => (pg_name (i := 6) nd rfl (by first | exact .inl rfl | exact .inr rfl))) (fun _ _ _ _ _ => pts_no) (fun _ _ _ _ _ => (pu_mod (pu_ix (rd_var 0) (pu_add pu_int.rd (rd_var 6)).rd).rd pu_int.rd)) (slots_ok rfl) (by decide)).pu nd)
 (ss_cons (st_setC 5 (own := [("k", 6)]) (.nm 6) rfl nd (ig_range1 T.range (rd_var 1)).weak (by kernel_rfl) (fun _ _ _ _ _ => (pg_name (i := 6) nd rfl (by first | exact .inl rfl | exact .inr rfl))) (fun _ _ _ _ _ => pts_no) (fun _ _ _ _ _ => (pu_sub (pu_mod (pu_ix (rd_var 0) (pu_add pu_int.rd (rd_var 6)).rd).rd pu_int.rd).rd pu_int.rd)) (slots_ok rfl) (by decide))
 (ss_cons (st_if (pt_cmpU (c_eq hr.units) (pu_mod (pu_ix (rd_var 0) pu_int.rd).rd pu_int.rd).rd pu_int.rd)
 (ss_one (st_set 4 (nw_comp (own := [("digit", 7)]) (.nm 7) rfl nd (ig_seq (pu_slice (rd_var 0) (po_so pu_int.rd) (po_so (pu_add pu_int.rd (rd_var 2)).rd))).weak (by kernel_rfl) (fun _ _ _ _ _ => (pg_name (i := 7) nd rfl (by first | exact .inl rfl | exact .inr rfl))) (fun _ _ _ _ _ => pts_no) (fun _ _ _ _ _ => (pu_add (pu_ix (rd_var 4) pu_int.rd).rd (pu_mod (rd_var 7) pu_int.rd).rd)) (slots_ok rfl) (by decide)).pu nd))
 ss_nil)
 (ss_one (st_ret (pu_callT b_tuple T.tuple (ra_cons (nw_comp (own := [("one", 8)]) (.nm 8) rfl nd (ig_seq (pu_var 5)).weak (by kernel_rfl) (fun _ _ _ _ _ => (pg_name (i := 8) nd rfl (by first | exact .inl rfl | exact .inr rfl))) (fun _ _ _ _ _ => pts_no) (fun _ _ _ _ _ => (pu_callT b_tuple T.tuple (ra_cons (nw_comp (own := [("other", 9)]) (.nm 9) rfl nd (ig_seq (pu_var 4)).weak (by kernel_rfl) (fun _ _ _ _ _ => (pg_name (i := 9) nd rfl (by first | exact .inl rfl | exact .inr rfl))) (fun _ _ _ _ _ => pts_no) (fun _ _ _ _ _ => (pu_div (pu_add (rd_var 8) (rd_var 9)).rd (rd_var 3))) (slots_ok rfl) (by decide)).pu.rd ra_nil))) (slots_ok rfl) (by decide)).pu.rd ra_nil))))))))
theorem ok_law {f cL PL C fI : Addr} {kV doc pm ct oc : Value} {an od : Option Addr} {osl : Array (Option Value)} {L : List (Addr × Str)} (lk : K.lookup f = some ⟨oc, od, .func (PySem.W.fnOf "law" "law" (defArgs s_law) (defBody s_law) (defScope s_law) .none kV doc pm an (.ref cL) ct), osl⟩) (hcd : PySem.W.codeIn K (.ref cL) "law" = true) (T : BN mg) (TD : ToldD P w K mg base 5 s_law_told L) (W : WordsOk K words_k13 L) (TB : LamX.TabB base mg cL PL) (TTable : T_Table K mg C) (h_Table_init : FnR P w K mg base (L2N.CX P w) 3 fI (spWX K "Table" (starX f_Table_init))) (M_Table : Mk K C fI) (h_Table_len : LenD P w K mg base 1 C (spR K "Table" f_Table_len)) (h_Table_rows : PrD P w K mg base 1 C "rows" (spR K "Table" f_Table_rows)) (h_Table_size : PrD P w K mg base 1 C "size" (spR K "Table" f_Table_size)) (h_law_any_value : FnD P w K mg base 6 "_law_any_value" (f_law_any_value 6)) (h_law_digits : FnD P w K mg base 2 "_law_digits" f_law_digits) (h_law_table : FnD P w K mg base 1 "_law_table" f_law_table) (h_is_table : FnD P w K mg base 2 "is_table" f_is_table) :
    FnOk P w K mg base CX0 8 f (PySem.W.fnOf "law" "law" (defArgs s_law) (defBody s_law) (defScope s_law) .none kV doc pm an (.ref cL) ct) ["script"] (spL K [(PL, lamN "law")] f_law_k13) :=
  law_okL lk hcd sc_law (by decide) fun A outer s H E hr => by
    have nd := sc_law.nd
    have hp := PassesOwn.never (M := model P w) (A := A.deeper (envOfC "law" (defScope s_law) s.heap.objs.size f (.ref cL))) (env := (envOfC "law" (defScope s_law) s.heap.objs.size f (.ref cL)))
    have TL : TLd (cxOf CX0 P w K mg base ["script", "index", "digits", "wide", "table", "odd", "k", "row", "some", "one", "other", "good", "found", "told"] "law" (defScope s_law) f (.ref cL) A outer s H E).nox [(PL, lamN "law")] words_k13 5 := tld_law TD W TB rfl rfl
    exact (ls_cons (ls_forR (.nm 1) hp rfl T.range pu_int.rd (pg_name (i := 1) nd rfl (by first | exact .inl rfl | exact .inr rfl))
 (ls_cons (PuS.lu (st_set 2 (pu_call h_law_digits hr (pa_consU (pu_var 0) (pa_consU (pu_var 1) (pa_consU pu_int (pa_consU pu_int pa_nilU))))) nd))
 (ls_cons (PuS.lu (st_set 3 (pu_add pu_int.rd (pu_mod (pu_ix (rd_var 2) pu_int.rd).rd pu_int.rd).rd) nd))
 (ls_cons (PuS.lu (st_set 4 (pu_call h_law_table hr (pa_consU (pu_var 2) (pa_consU pu_int (pa_consU (pu_var 3) pa_nilU)))) nd))
 (ls_cons (PuS.lu (st_set 5 (nw_lst (pa_consU (pu_tup pa_nilU) (pa_consU (pu_repA (pu_tup (pa_consU pu_int pa_nilU)).rd pu_int.rd) (pa_consU (pu_repA (pu_tup (pa_consU pu_int pa_nilU)).rd (rd_var 3)) (pa_consU (pu_repA (pu_tup (pa_consU pu_bl pa_nilU)).rd (rd_var 3)) (pa_consU (pu_repA (pu_tup (pa_consU pu_non pa_nilU)).rd (rd_var 3)) (pa_consU (pu_repA (nw_lst (pa_consU pu_int pa_nilU)).pu.rd (rd_var 3)) (pa_consU pu_non (pa_consU pu_int (pa_consU pu_str (pa_consU (pu_repA (pu_tup (pa_consU (pu_tup (pa_consU pu_int pa_nilU)) pa_nilU)).rd (rd_var 3)) pa_nilU))))))))))).pu nd))
 (ls_cons (PuS.lu (st_set 5 (pu_add (rd_var 5) (nw_lst (pa_consU (pu_repA (pu_tup (pa_consU pu_int pa_nilU)).rd (pu_add (pu_mod (rd_var 3) pu_int.rd).rd pu_int.rd).rd) (pa_consU (pu_call h_law_any_value hr (pa_consU (pu_slice (rd_var 2) (po_so pu_int.rd) po_no) (pa_consU pu_int pa_nilU))) (pa_consU (pu_repA (pu_tup (pa_consU pu_str pa_nilU)).rd (rd_var 3)) (pa_consU (pu_repA (pu_tup (pa_consU (pu_neg pu_int) pa_nilU)).rd (rd_var 3)) (pa_consU (pu_repA (pu_tup (pa_consU pu_int pa_nilU)).rd (rd_var 3)) pa_nilU)))))).pu.rd) nd))
 (ls_cons (ls_forR (.nm 6) hp rfl T.range pu_int.rd (pg_name (i := 6) nd rfl (by first | exact .inl rfl | exact .inr rfl))
 (ls_cons (PuS.lu (st_set 8 (nw_lst (pa_consU (pu_ix (rd_var 4) (pu_mod (pu_ix (rd_var 2) (pu_add pu_int.rd (rd_var 6)).rd).rd pu_int.rd).rd) (pa_consU (pu_ix (rd_var 5) (pu_mod (pu_ix (rd_var 2) (pu_add pu_int.rd (rd_var 6)).rd).rd pu_int.rd).rd) pa_nilU))).pu nd))
 (ls_cons (PuS.lu (st_set 9 (pu_ix (rd_var 8) (pu_mod (pu_ix (rd_var 2) (pu_add pu_int.rd (rd_var 6)).rd).rd pu_int.rd).rd) nd))
 (ls_cons (PuS.lu (st_set 10 (pu_ix (rd_var 8) (pu_mod (pu_ix (rd_var 2) (pu_add pu_int.rd (rd_var 6)).rd).rd pu_int.rd).rd) nd))
 (ls_cons (PuS.lu (st_set 11 (pu_call h_is_table hr (pa_consU (pu_tup (pa_consU (pu_var 9) (pa_consU (pu_var 10) pa_nilU))) pa_nilU)) nd))
 (ls_cons (ls_told 12 13 (by decide) TL (hr.mono (by decide)) (by kernel_rfl) (fun A outer s H E f c' hr => (px_make TTable.c M_Table h_Table_init TTable.m hr (L2N.passes_call lamX_takes fun _ _ _ _ h => h) (pa_consU (pu_var 9) (pa_consU (pu_var 10) pa_nilU)))) (pg_tup rfl (pgs_cons (pg_name (i := 12) nd rfl (by first | exact .inl rfl | exact .inr rfl)) (pgs_cons (pg_name (i := 13) nd rfl (by first | exact .inl rfl | exact .inr rfl)) pgs_nil))) (slots_ok rfl))
 (ls_cons (PuS.lu (st_if (pt_cmpU (c_ne hr.units) (rd_var 13) (pu_if (pt_valU (pu_var 11)) pu_str pu_str).rd)
 (ss_one (st_ret pu_bl))
 ss_nil))
 (ls_cons (PuS.lu (st_if (PuW.pt (pw_andU (pt_valU (pu_var 11)) (pw_and1U (PuW.pt (pw_orU (pt_cmpU (c_ne hr.units) (pu_prop 12 TTable.c h_Table_rows hr).rd (pu_tup (pa_consU (pu_var 9) (pa_consU (pu_var 10) pa_nilU))).rd) (pw_or1U (pt_cmpU (c_ne hr.units) (pu_lenO 12 TTable.c h_Table_len T.len hr).rd pu_int.rd)))))))
 (ss_one (st_ret pu_bl))
 ss_nil))
 (ls_cons (PuS.lu (st_if (PuW.pt (pw_andU (pt_valU (pu_var 11)) (pw_and1U (pt_cmpU (c_ne hr.units) (pu_prop 12 TTable.c h_Table_size hr).rd (pu_tup (pa_consU pu_int (pa_consU (pu_callB b_len T.len (ra_cons (rd_var 9) ra_nil)) pa_nilU))).rd))))
 (ss_one (st_ret pu_bl))
 ss_nil))
 (ls_cons (ls_told 12 13 (by decide) TL (hr.mono (by decide)) (by kernel_rfl) (fun A outer s H E f c' hr => (px_make TTable.c M_Table h_Table_init TTable.m hr (L2N.passes_call lamX_takes fun _ _ _ _ h => h) (pa_consU (pu_var 9) pa_nilU))) (pg_tup rfl (pgs_cons (pg_name (i := 12) nd rfl (by first | exact .inl rfl | exact .inr rfl)) (pgs_cons (pg_name (i := 13) nd rfl (by first | exact .inl rfl | exact .inr rfl)) pgs_nil))) (slots_ok rfl))
 (ls_one (PuS.lu (st_if (pt_cmpU (c_ne hr.units) (rd_var 13) (pu_if (pt_valU (pu_call h_is_table hr (pa_consU (pu_tup (pa_consU (pu_var 9) pa_nilU)) pa_nilU))) pu_str pu_str).rd)
 (ss_one (st_ret pu_bl))
 ss_nil)))))))))))) (slots_ok rfl))
 (ls_cons (PuS.lu (st_if (pt_cmpU (c_ne hr.units) (pu_tprop TTable.c h_Table_rows hr (px_make TTable.c M_Table h_Table_init TTable.m hr passN0 (pa_consU (pu_ix (rd_var 4) pu_int.rd) (pa_consU (pu_ix (rd_var 4) pu_int.rd) (pa_consU (pu_ix (rd_var 4) pu_int.rd) pa_nilU))))).rd (rd_var 4))
 (ss_one (st_ret pu_bl))
 ss_nil))
 (ls_cons (PuS.lu (st_set 7 (pu_ix (rd_var 4) pu_int.rd) nd))
 (ls_cons (PuS.lu (st_if (pt_cmpU (c_ne hr.units) (pu_tlen TTable.c h_Table_len T.len hr (px_make TTable.c M_Table h_Table_init TTable.m hr passN0 (pa_consU (pu_var 7) (pa_consU (pu_var 7) (pa_consU (pu_var 7) (pa_consU (pu_var 7) (pa_consU (pu_var 7) (pa_consU (pu_var 7) pa_nilU)))))))).rd pu_int.rd)
 (ss_one (st_ret pu_bl))
 ss_nil))
 (ls_one (ls_if (lt_cmp (c_ne hr.units) (lu_told TL (hr.mono (by decide)) (by kernel_rfl) (fun A outer s H E f c' hr => (px_make TTable.c M_Table h_Table_init TTable.m hr (L2N.passes_call lamX_takes fun _ _ _ _ h => h) (pa_consU (pu_var 7) (pa_consU (pu_var 7) (pa_consU (pu_var 7) (pa_consU (pu_var 7) (pa_consU (pu_var 7) (pa_consU (pu_var 7) (pa_consU (pu_var 7) pa_nilU)))))))))) (pu_tup (pa_consU pu_non (pa_consU pu_str pa_nilU))).rd)
 (ls_one (PuS.lu (st_ret pu_bl)))
 ls_nil))))))))))) (slots_ok rfl))
 (ls_one (ls_ret (lu_and (PuE.lu (pu_cmp (c_eq hr.units) (pu_cint TTable.m TTable.k_MOST).rd pu_int.rd)) (lu_and (lu_cmp (c_eq hr.units) (lu_told TL (hr.mono (by decide)) (by kernel_rfl) (fun A outer s H E f c' hr => (px_make0 TTable.c M_Table h_Table_init TTable.m hr (L2N.passes_call lamX_takes fun _ _ _ _ h => h)))) (pu_tup (pa_consU pu_non (pa_consU pu_str pa_nilU))).rd) (lu_one (PuE.lu (pu_cmp (c_eq hr.units) (pu_tprop TTable.c h_Table_size hr (px_make TTable.c M_Table h_Table_init TTable.m hr passN0 (pa_consU (pu_tup (pa_consU pu_int pa_nilU)) pa_nilU))).rd (pu_tup (pa_consU pu_int (pa_consU pu_int pa_nilU))).rd))))))))
end
theorem law_true (ns : List Int) (h : ns.length ≤ 63) : PL.f_law_k13 [.scr ns] = some (.bl true) := PL.law_k13_true ns
theorem all_mk {l : PySem.W.OpenLaw} {w : World} {K : PySem.W.Frag} {h : Heap} {mg : Str → Option Value} {fa f0 f1 f2 f3 f4 f5 f6 f7 f8 f9 f10 f11 f12 : Addr} (X : K.In h) (G : h.Ns mainGlobals mg) (hfa : mg "law" = some (.ref fa))
    {od0 an0 od1 an1 od2 an2 od3 an3 od4 an4 od5 an5 od6 an6 od7 an7 od8 an8 od9 an9 od10 an10 od11 an11 od12 an12 : Option Addr} {sl0 sl1 sl2 sl3 sl4 sl5 sl6 sl7 sl8 sl9 sl10 sl11 sl12 : Array (Option Value)}
    {oc0 kV0 dc0 pm0 cd0 ct0 oc1 kV1 dc1 pm1 cd1 ct1 oc2 kV2 dc2 pm2 cd2 ct2 oc3 kV3 dc3 pm3 cd3 ct3 oc4 kV4 dc4 pm4 cd4 ct4 oc5 kV5 dc5 pm5 cd5 ct5 oc6 kV6 dc6 pm6 cd6 ct6 oc7 kV7 dc7 pm7 cd7 ct7 oc8 kV8 dc8 pm8 cd8 ct8 oc9 kV9 dc9 pm9 cd9 ct9 oc10 kV10 dc10 pm10 cd10 ct10 oc11 kV11 dc11 pm11 cd11 ct11 oc12 kV12 dc12 pm12 ct12 : Value}
    {cL PL : Addr}
    {C : Addr}
    (cA : PySem.W.nsIn K mainGlobals "Table" = some (some (.ref C)))
    (cpg : PySem.W.plainGet K C Str.empty = true)
    (chd : PySem.W.hasDictIn K C = true)
    (cpo : PySem.W.plainOver K C = true)
    (csa : PySem.W.findIn K (.ref C) "__setattr__" = some (some (.builtin "object.__setattr__")))
    (cmk : PySem.W.makesIn K C = true)
    (ckp : PySem.W.keepIn K (.ref C) = true)
    (cn_rows_kept : PySem.W.findIn K (.ref C) "rows_kept" = some none)
    {ct_MOST : Tok}
    (crd_MOST : PySem.W.readsIn K C (.type "type") = true)
    (cga_MOST : PySem.W.specialIn K (.ref C) "__getattribute__" = some (some (.builtin "type.__getattribute__")))
    (cv_MOST : PySem.W.findCls K (.ref C) (.type "type") "MOST" = some (.val (.int 6 ct_MOST)))
    {DR : Addr}
    (eR : PySem.W.nsIn K mainGlobals "RoadError" = some (some (.ref DR)))
    (eVE : PySem.W.nsIn K mainGlobals "ValueError" = some none)
    {D_InvalidTable : Addr}
    (e_InvalidTable : PySem.W.nsIn K mainGlobals "InvalidTable" = some (some (.ref D_InvalidTable)))
    {D_InvalidName : Addr}
    (e_InvalidName : PySem.W.nsIn K mainGlobals "InvalidName" = some (some (.ref D_InvalidName)))
    {D_InvalidEntries : Addr}
    (e_InvalidEntries : PySem.W.nsIn K mainGlobals "InvalidEntries" = some (some (.ref D_InvalidEntries)))
    {D_InvalidPlace : Addr}
    (e_InvalidPlace : PySem.W.nsIn K mainGlobals "InvalidPlace" = some (some (.ref D_InvalidPlace)))
    {D_NotReal : Addr}
    (e_NotReal : PySem.W.nsIn K mainGlobals "NotReal" = some (some (.ref D_NotReal)))
    {D_TooMany : Addr}
    (e_TooMany : PySem.W.nsIn K mainGlobals "TooMany" = some (some (.ref D_TooMany)))
    {D_NothingToUndo : Addr}
    (e_NothingToUndo : PySem.W.nsIn K mainGlobals "NothingToUndo" = some (some (.ref D_NothingToUndo)))
    (ehn : PySem.W.specialIn K (.builtin "object.__class__") "__get__" = some (some (.builtin "getset_descriptor.__get__")))
    (eht : PySem.W.takesIn K (.builtin "object.__class__") = some true)
    (e1_InvalidTable : PySem.W.excIn K D_InvalidTable [.type "ValueError", .type "Exception", .type "BaseException", .type "object"] "ValueError.__new__" = true)
    (e2_InvalidTable : PySem.W.keepIn K (.ref D_InvalidTable) = true)
    (e3_InvalidTable : PySem.W.subIn K (.ref D_InvalidTable) (.type "BaseException") = some true)
    (e4_InvalidTable : PySem.W.typeIn K (.ref D_InvalidTable) = some (.type "type"))
    (e5_InvalidTable : PySem.W.findIn K (.ref D_InvalidTable) "__getattribute__" = some (some (.builtin "BaseException.__getattribute__")))
    (e6_InvalidTable : PySem.W.findIn K (.ref D_InvalidTable) "__getattr__" = some none)
    (e7_InvalidTable : PySem.W.hasDictIn K D_InvalidTable = true)
    (e8_InvalidTable : PySem.W.findIn K (.ref D_InvalidTable) "__class__" = some (some (.builtin "object.__class__")))
    (e9_InvalidTable : PySem.W.mroIn K D_InvalidTable (.type "object") = some true)
    (b1_InvalidTable : PySem.W.kitOne K (.ref D_InvalidTable) (.ref D_InvalidTable) = some true)
    (b2_InvalidTable : PySem.W.kitOne K (.ref D_InvalidTable) (.ref D_InvalidName) = some false)
    (b3_InvalidTable : PySem.W.kitOne K (.ref D_InvalidTable) (.ref D_InvalidEntries) = some false)
    (b4_InvalidTable : PySem.W.kitOne K (.ref D_InvalidTable) (.ref D_InvalidPlace) = some false)
    (b5_InvalidTable : PySem.W.kitOne K (.ref D_InvalidTable) (.ref D_NotReal) = some false)
    (b6_InvalidTable : PySem.W.kitOne K (.ref D_InvalidTable) (.ref D_TooMany) = some false)
    (b7_InvalidTable : PySem.W.kitOne K (.ref D_InvalidTable) (.ref D_NothingToUndo) = some false)
    (b8_InvalidTable : PySem.W.kitOne K (.ref D_InvalidTable) (.type "ValueError") = some true)
    (bR_InvalidTable : PySem.W.exmOne K (.ref D_InvalidTable) (.ref DR) = some true)
    (a0 : PySem.W.nsIn K mainGlobals "_law_error" = some (some (.ref f0)))
    (l0 : K.lookup f0 = some ⟨oc0, od0, .func (PySem.W.fnOf "_law_error" "_law_error" (defArgs s_law_error) (defBody s_law_error) (defScope s_law_error) .none kV0 dc0 pm0 an0 cd0 ct0), sl0⟩)
    (c0 : PySem.W.codeIn K cd0 "_law_error" = true)
    (k0 : PySem.W.keepIn K (.ref f0) = true)
    (a1 : PySem.W.nsIn K mainGlobals "_law_told" = some (some (.ref f1)))
    (l1 : K.lookup f1 = some ⟨oc1, od1, .func (PySem.W.fnOf "_law_told" "_law_told" (defArgs s_law_told) (defBody s_law_told) (defScope s_law_told) .none kV1 dc1 pm1 an1 cd1 ct1), sl1⟩)
    (c1 : PySem.W.codeIn K cd1 "_law_told" = true)
    (k1 : PySem.W.keepIn K (.ref f1) = true)
    (a2 : PySem.W.nsIn K mainGlobals "is_integer" = some (some (.ref f2)))
    (l2 : K.lookup f2 = some ⟨oc2, od2, .func (PySem.W.fnOf "is_integer" "is_integer" (defArgs s_is_integer) (defBody s_is_integer) (defScope s_is_integer) .none kV2 dc2 pm2 an2 cd2 ct2), sl2⟩)
    (c2 : PySem.W.codeIn K cd2 "is_integer" = true)
    (k2 : PySem.W.keepIn K (.ref f2) = true)
    (a3 : PySem.W.nsIn K mainGlobals "is_table" = some (some (.ref f3)))
    (l3 : K.lookup f3 = some ⟨oc3, od3, .func (PySem.W.fnOf "is_table" "is_table" (defArgs s_is_table) (defBody s_is_table) (defScope s_is_table) .none kV3 dc3 pm3 an3 cd3 ct3), sl3⟩)
    (c3 : PySem.W.codeIn K cd3 "is_table" = true)
    (k3 : PySem.W.keepIn K (.ref f3) = true)
    (a4 : PySem.W.findIn K (.ref C) "__init__" = some (some (.ref f4)))
    (i4 : PySem.W.isFn K (.ref f4) = true)
    (l4 : K.lookup f4 = some ⟨oc4, od4, .func (PySem.W.fnOf "__init__" "Table.__init__" (defArgs s_Table_init) (defBody s_Table_init) (defScope s_Table_init) .none kV4 dc4 pm4 an4 cd4 ct4), sl4⟩)
    (c4 : PySem.W.codeIn K cd4 "Table.__init__" = true)
    (k4 : PySem.W.keepIn K (.ref f4) = true)
    (a5 : PySem.W.findIn K (.ref C) "__len__" = some (some (.ref f5)))
    (i5 : PySem.W.isFn K (.ref f5) = true)
    (l5 : K.lookup f5 = some ⟨oc5, od5, .func (PySem.W.fnOf "__len__" "Table.__len__" (defArgs s_Table_len) (defBody s_Table_len) (defScope s_Table_len) .none kV5 dc5 pm5 an5 cd5 ct5), sl5⟩)
    (c5 : PySem.W.codeIn K cd5 "Table.__len__" = true)
    (k5 : PySem.W.keepIn K (.ref f5) = true)
    {p6 : Addr}
    {rs6 : List Value}
    (a6 : PySem.W.findIn K (.ref C) "rows" = some (some (.ref p6)))
    (i6 : PySem.W.specialIn K (.ref p6) "__get__" = some (some (.builtin "property.__get__")))
    (j6 : PySem.W.takesIn K (.ref p6) = some true)
    (m6 : PySem.W.recIn K p6 "property" = some (.ref f6 :: rs6))
    (l6 : K.lookup f6 = some ⟨oc6, od6, .func (PySem.W.fnOf "rows" "Table.rows" (defArgs s_Table_rows) (defBody s_Table_rows) (defScope s_Table_rows) .none kV6 dc6 pm6 an6 cd6 ct6), sl6⟩)
    (c6 : PySem.W.codeIn K cd6 "Table.rows" = true)
    (k6 : PySem.W.keepIn K (.ref f6) = true)
    {p7 : Addr}
    {rs7 : List Value}
    (a7 : PySem.W.findIn K (.ref C) "size" = some (some (.ref p7)))
    (i7 : PySem.W.specialIn K (.ref p7) "__get__" = some (some (.builtin "property.__get__")))
    (j7 : PySem.W.takesIn K (.ref p7) = some true)
    (m7 : PySem.W.recIn K p7 "property" = some (.ref f7 :: rs7))
    (l7 : K.lookup f7 = some ⟨oc7, od7, .func (PySem.W.fnOf "size" "Table.size" (defArgs s_Table_size) (defBody s_Table_size) (defScope s_Table_size) .none kV7 dc7 pm7 an7 cd7 ct7), sl7⟩)
    (c7 : PySem.W.codeIn K cd7 "Table.size" = true)
    (k7 : PySem.W.keepIn K (.ref f7) = true)
    (a8 : PySem.W.nsIn K mainGlobals "_law_any_value" = some (some (.ref f8)))
    (l8 : K.lookup f8 = some ⟨oc8, od8, .func (PySem.W.fnOf "_law_any_value" "_law_any_value" (defArgs s_law_any_value) (defBody s_law_any_value) (defScope s_law_any_value) .none kV8 dc8 pm8 an8 cd8 ct8), sl8⟩)
    (c8 : PySem.W.codeIn K cd8 "_law_any_value" = true)
    (k8 : PySem.W.keepIn K (.ref f8) = true)
    (a9 : PySem.W.nsIn K mainGlobals "_law_cell" = some (some (.ref f9)))
    (l9 : K.lookup f9 = some ⟨oc9, od9, .func (PySem.W.fnOf "_law_cell" "_law_cell" (defArgs s_law_cell) (defBody s_law_cell) (defScope s_law_cell) .none kV9 dc9 pm9 an9 cd9 ct9), sl9⟩)
    (c9 : PySem.W.codeIn K cd9 "_law_cell" = true)
    (k9 : PySem.W.keepIn K (.ref f9) = true)
    (a10 : PySem.W.nsIn K mainGlobals "_law_digits" = some (some (.ref f10)))
    (l10 : K.lookup f10 = some ⟨oc10, od10, .func (PySem.W.fnOf "_law_digits" "_law_digits" (defArgs s_law_digits) (defBody s_law_digits) (defScope s_law_digits) .none kV10 dc10 pm10 an10 cd10 ct10), sl10⟩)
    (c10 : PySem.W.codeIn K cd10 "_law_digits" = true)
    (k10 : PySem.W.keepIn K (.ref f10) = true)
    (a11 : PySem.W.nsIn K mainGlobals "_law_table" = some (some (.ref f11)))
    (l11 : K.lookup f11 = some ⟨oc11, od11, .func (PySem.W.fnOf "_law_table" "_law_table" (defArgs s_law_table) (defBody s_law_table) (defScope s_law_table) .none kV11 dc11 pm11 an11 cd11 ct11), sl11⟩)
    (c11 : PySem.W.codeIn K cd11 "_law_table" = true)
    (k11 : PySem.W.keepIn K (.ref f11) = true)
    (a12 : PySem.W.nsIn K mainGlobals "law" = some (some (.ref f12)))
    (l12 : K.lookup f12 = some ⟨oc12, od12, .func (PySem.W.fnOf "law" "law" (defArgs s_law) (defBody s_law) (defScope s_law) .none kV12 dc12 pm12 an12 (.ref cL) ct12), sl12⟩)
    (c12 : PySem.W.codeIn K (.ref cL) "law" = true)
    (k12 : PySem.W.keepIn K (.ref f12) = true)
    (z0 : PySem.W.nsIn K mainGlobals "len" = some none)
    (z1 : PySem.W.nsIn K mainGlobals "range" = some none)
    (z2 : PySem.W.nsIn K mainGlobals "abs" = some none)
    (z3 : PySem.W.nsIn K mainGlobals "max" = some none)
    (z4 : PySem.W.nsIn K mainGlobals "min" = some none)
    (z5 : PySem.W.nsIn K mainGlobals "sum" = some none)
    (z6 : PySem.W.nsIn K mainGlobals "sorted" = some none)
    (z7 : PySem.W.nsIn K mainGlobals "set" = some none)
    (z8 : PySem.W.nsIn K mainGlobals "all" = some none)
    (z9 : PySem.W.nsIn K mainGlobals "list" = some none)
    (z10 : PySem.W.nsIn K mainGlobals "tuple" = some none)
    (z11 : PySem.W.nsIn K mainGlobals "zip" = some none)
    (z12 : PySem.W.nsIn K mainGlobals "enumerate" = some none)
    (z13 : PySem.W.nsIn K mainGlobals "isinstance" = some none)
    (z14 : PySem.W.nsIn K mainGlobals "int" = some none)
    (z15 : PySem.W.nsIn K mainGlobals "bool" = some none)
    (z16 : PySem.W.nsIn K mainGlobals "str" = some none)
    {ocL : Value}
    {odL : Option Addr}
    {vL : Array Value}
    {slL : Array (Option Value)}
    (lcL : K.lookup cL = some ⟨ocL, odL, .fields vL, slL⟩)
    (lpL : vL[11]? = some (.ref PL))
    (hcL : PySem.W.codeHdIn K cL PL = true)
    (hnL : K.lookup PL = none)
    (htL : h.get? PL = some { cls := .none, data := .fields #[] })
    : LamX.LawAtS l w K CX0 8 63 "script" mg fa h := by
  have e := hfa.symm.trans (PySem.W.mg_of X G a12)
  cases e
  have T : BN mg := ⟨PySem.W.mg_none_of X G z0, PySem.W.mg_none_of X G z1, PySem.W.mg_none_of X G z2, PySem.W.mg_none_of X G z3, PySem.W.mg_none_of X G z4, PySem.W.mg_none_of X G z5, PySem.W.mg_none_of X G z6, PySem.W.mg_none_of X G z7, PySem.W.mg_none_of X G z8, PySem.W.mg_none_of X G z9, PySem.W.mg_none_of X G z10, PySem.W.mg_none_of X G z11, PySem.W.mg_none_of X G z12, PySem.W.mg_none_of X G z13, PySem.W.mg_none_of X G z14, PySem.W.mg_none_of X G z15, PySem.W.mg_none_of X G z16⟩
  have F0 := fun_mk (st := s_law_error) l0 c0 k0
  have F1 := fun_mk (st := s_law_told) l1 c1 k1
  have F2 := fun_mk (st := s_is_integer) l2 c2 k2
  have F3 := fun_mk (st := s_is_table) l3 c3 k3
  have F4 := fun_mk (st := s_Table_init) l4 c4 k4
  have F5 := fun_mk (st := s_Table_len) l5 c5 k5
  have F6 := fun_mk (st := s_Table_rows) l6 c6 k6
  have F7 := fun_mk (st := s_Table_size) l7 c7 k7
  have F8 := fun_mk (st := s_law_any_value) l8 c8 k8
  have F9 := fun_mk (st := s_law_cell) l9 c9 k9
  have F10 := fun_mk (st := s_law_digits) l10 c10 k10
  have F11 := fun_mk (st := s_law_table) l11 c11 k11
  have F12 := fun_mk (st := s_law) l12 c12 k12
  have TTable : T_Table K mg C := ⟨⟨cA, ⟨cpg, chd, cpo, csa⟩⟩, PySem.W.mg_of X G cA, cn_rows_kept, ⟨⟨_, ⟨crd_MOST, cga_MOST⟩, ⟨cv_MOST, ⟨_, rfl⟩⟩⟩⟩⟩
  have X_InvalidTable : XcK K mg "InvalidTable" D_InvalidTable := ⟨e_InvalidTable, PySem.W.mg_of X G e_InvalidTable, e1_InvalidTable, e2_InvalidTable, e3_InvalidTable, e4_InvalidTable, ⟨e5_InvalidTable, e6_InvalidTable, e3_InvalidTable, e7_InvalidTable, e8_InvalidTable, ehn, eht, e9_InvalidTable⟩⟩
  refine lawAt (F := f_law_k13) X (fd := PySem.W.fnOf "law" "law" (defArgs s_law) (defBody s_law) (defScope s_law) .none kV12 dc12 pm12 an12 (.ref cL) ct12) (fun s v => .of_eq rfl) htL hnL hcL law_true fun base _ _ TB => ?_
  have h_is_integer : FnD l.prog w K mg base 1 "is_integer" f_is_integer := ⟨_, _, _, PySem.W.mg_of X G a2, k2, F2.binds (ps := ["value", "low", "high"]) fun _ _ _ _ _ _ us hl => (match us, hl with | [_, _, _], _ => rfl), ok_is_integer F2 T⟩
  have h_is_table : FnD l.prog w K mg base 2 "is_table" f_is_table := ⟨_, _, _, PySem.W.mg_of X G a3, k3, F3.binds (ps := ["value"]) fun _ _ _ _ _ _ us hl => (match us, hl with | [_], _ => rfl), ok_is_table F3 T h_is_integer⟩
  have M_Table : Mk K C f4 := ⟨cmk, a4, i4, ckp⟩
  have h_Table_init := ok_Table_init (P := l.prog) (w := w) (base := base) (C := C) (fI := f4) F4 T TTable X_InvalidTable h_is_table
  have h_Table_len : LenD l.prog w K mg base 1 C (spR K "Table" f_Table_len) := ⟨f5, a5, i5, fnR_of (ok_Table_len (C := C) (fI := C) F5 T TTable) (F5.binds (ps := ["self"]) fun _ _ _ _ _ _ us hl => (match us, hl with | [_], _ => rfl))⟩
  have h_Table_rows : PrD l.prog w K mg base 1 C "rows" (spR K "Table" f_Table_rows) := ⟨p6, f6, _, _, ⟨a6, i6, j6, ⟨_, m6⟩⟩, ok_Table_rows (C := C) (fI := C) F6 T TTable, (F6.binds (ps := ["self"]) fun _ _ _ _ _ _ us hl => (match us, hl with | [_], _ => rfl))⟩
  have h_Table_size : PrD l.prog w K mg base 1 C "size" (spR K "Table" f_Table_size) := ⟨p7, f7, _, _, ⟨a7, i7, j7, ⟨_, m7⟩⟩, ok_Table_size (C := C) (fI := C) F7 T TTable, (F7.binds (ps := ["self"]) fun _ _ _ _ _ _ us hl => (match us, hl with | [_], _ => rfl))⟩
  have h0_law_any_value : FnD l.prog w K mg base 0 "_law_any_value" (f_law_any_value 0) := ⟨_, _, _, PySem.W.mg_of X G a8, k8, F8.binds (ps := ["digits", "depth"]) fun _ _ _ _ _ _ us hl => (match us, hl with | [_, _], _ => rfl), fnok_none⟩
  have h1_law_any_value : FnD l.prog w K mg base 1 "_law_any_value" (f_law_any_value 1) := ⟨_, _, _, PySem.W.mg_of X G a8, k8, F8.binds (ps := ["digits", "depth"]) fun _ _ _ _ _ _ us hl => (match us, hl with | [_, _], _ => rfl), ok_law_any_value F8 T h0_law_any_value (by decide)⟩
  have h2_law_any_value : FnD l.prog w K mg base 2 "_law_any_value" (f_law_any_value 2) := ⟨_, _, _, PySem.W.mg_of X G a8, k8, F8.binds (ps := ["digits", "depth"]) fun _ _ _ _ _ _ us hl => (match us, hl with | [_, _], _ => rfl), ok_law_any_value F8 T h1_law_any_value (by decide)⟩
  have h3_law_any_value : FnD l.prog w K mg base 3 "_law_any_value" (f_law_any_value 3) := ⟨_, _, _, PySem.W.mg_of X G a8, k8, F8.binds (ps := ["digits", "depth"]) fun _ _ _ _ _ _ us hl => (match us, hl with | [_, _], _ => rfl), ok_law_any_value F8 T h2_law_any_value (by decide)⟩
  have h4_law_any_value : FnD l.prog w K mg base 4 "_law_any_value" (f_law_any_value 4) := ⟨_, _, _, PySem.W.mg_of X G a8, k8, F8.binds (ps := ["digits", "depth"]) fun _ _ _ _ _ _ us hl => (match us, hl with | [_, _], _ => rfl), ok_law_any_value F8 T h3_law_any_value (by decide)⟩
  have h5_law_any_value : FnD l.prog w K mg base 5 "_law_any_value" (f_law_any_value 5) := ⟨_, _, _, PySem.W.mg_of X G a8, k8, F8.binds (ps := ["digits", "depth"]) fun _ _ _ _ _ _ us hl => (match us, hl with | [_, _], _ => rfl), ok_law_any_value F8 T h4_law_any_value (by decide)⟩
  have h6_law_any_value : FnD l.prog w K mg base 6 "_law_any_value" (f_law_any_value 6) := ⟨_, _, _, PySem.W.mg_of X G a8, k8, F8.binds (ps := ["digits", "depth"]) fun _ _ _ _ _ _ us hl => (match us, hl with | [_, _], _ => rfl), ok_law_any_value F8 T h5_law_any_value (by decide)⟩
  have h_law_any_value := h6_law_any_value
  have h_law_cell : FnD l.prog w K mg base 1 "_law_cell" f_law_cell := ⟨_, _, _, PySem.W.mg_of X G a9, k9, F9.binds (ps := ["script", "index"]) fun _ _ _ _ _ _ us hl => (match us, hl with | [_, _], _ => rfl), ok_law_cell F9 T⟩
  have h_law_digits : FnD l.prog w K mg base 2 "_law_digits" f_law_digits := ⟨_, _, _, PySem.W.mg_of X G a10, k10, F10.binds (ps := ["script", "index", "count", "base"]) fun _ _ _ _ _ _ us hl => (match us, hl with | [_, _, _, _], _ => rfl), ok_law_digits F10 T h_law_cell⟩
  have h_law_table : FnD l.prog w K mg base 1 "_law_table" f_law_table := ⟨_, _, _, PySem.W.mg_of X G a11, k11, F11.binds (ps := ["digits", "many", "wide"]) fun _ _ _ _ _ _ us hl => (match us, hl with | [_, _, _], _ => rfl), ok_law_table F11 T⟩
  have E_InvalidTable : FnHP l.prog w K mg base 5 f0 _ ["e"] (spErr D_InvalidTable (Str.ofString "grid value")) := (ok_law_error (P := l.prog) (w := w) (base := base) X_InvalidTable.c ⟨⟨_, PySem.W.mg_of X G e_InvalidTable, b1_InvalidTable⟩⟩ ⟨⟨_, PySem.W.mg_of X G e_InvalidName, b2_InvalidTable⟩⟩ ⟨⟨_, PySem.W.mg_of X G e_InvalidEntries, b3_InvalidTable⟩⟩ ⟨⟨_, PySem.W.mg_of X G e_InvalidPlace, b4_InvalidTable⟩⟩ ⟨⟨_, PySem.W.mg_of X G e_NotReal, b5_InvalidTable⟩⟩ ⟨⟨_, PySem.W.mg_of X G e_TooMany, b6_InvalidTable⟩⟩ ⟨⟨_, PySem.W.mg_of X G e_NothingToUndo, b7_InvalidTable⟩⟩ (PySem.W.mg_none_of X G eVE) b8_InvalidTable (fun _ => err_run _ _ _ _ _ _ _ _ _ _ (by intro ρ e; subst e; rfl)) F0 T).mono (by decide)
  have TD : ToldD l.prog w K mg base 5 s_law_told [(D_InvalidTable, (Str.ofString "grid value"))] := ⟨⟨f1, _, PySem.W.mg_of X G a1, k1, F1, F1.binds (ps := ["call"]) fun _ _ _ _ _ _ us hl => (match us, hl with | [_], _ => rfl)⟩, ⟨_, _, _, _, _, _, _, _, _, _, _, _, _, _, _, _, _, _, rfl⟩, sc_law_told, ⟨f0, _, PySem.W.mg_of X G a0, k0, F0.binds (ps := ["e"]) fun _ _ _ _ _ _ us hl => (match us, hl with | [_], _ => rfl), List.forall_mem_cons.mpr ⟨E_InvalidTable, fun _ h => nomatch h⟩⟩, ⟨DR, PySem.W.mg_of X G eR, List.forall_mem_cons.mpr ⟨bR_InvalidTable, fun _ h => nomatch h⟩⟩, ⟨rfl, rfl, rfl, rfl⟩⟩
  exact ok_law l12 c12 T TD (wordsOk_cons e_InvalidTable (wordsOk_nil)) TB TTable h_Table_init M_Table h_Table_len h_Table_rows h_Table_size h_law_any_value h_law_digits h_law_table h_is_table
end W13
open PySem PySem.W PyProof.Rows
set_option maxHeartbeats 0 in
theorem PySem.Challenge.cw_roadtables_k13_tables_created_holds : PySem.Challenge.rw_roadtables_k13_tables_created.Holds := by
  w_on; o_law; k_head; (case hw => w_witness2)
  k_fill
  refine LamX.walk_ofTs (l := PySem.Challenge.rw_roadtables_k13_tables_created) (n := 63) (k := 8) (x := "script") (CX := fun _ => L2.CX0) rfl (by decide) rfl ⟨rfl, by decide, by decide⟩ (fun w h Y => PySem.W.km_in_of Y) ?F (fun _ _ _ _ _ h => h)
  case F =>
    intro w mg fa h Y KX G hmg
    refine' W13.all_mk KX G hmg ?cA ?cpg ?chd ?cpo ?csa ?cmk ?ckp ?cn_rows_kept ?crd_MOST ?cga_MOST ?cv_MOST ?eR ?eVE ?e_InvalidTable ?e_InvalidName ?e_InvalidEntries ?e_InvalidPlace ?e_NotReal ?e_TooMany ?e_NothingToUndo ?ehn ?eht ?e1_InvalidTable ?e2_InvalidTable ?e3_InvalidTable ?e4_InvalidTable ?e5_InvalidTable ?e6_InvalidTable ?e7_InvalidTable ?e8_InvalidTable ?e9_InvalidTable ?b1_InvalidTable ?b2_InvalidTable ?b3_InvalidTable ?b4_InvalidTable ?b5_InvalidTable ?b6_InvalidTable ?b7_InvalidTable ?b8_InvalidTable ?bR_InvalidTable ?a0 ?l0 ?c0 ?k0 ?a1 ?l1 ?c1 ?k1 ?a2 ?l2 ?c2 ?k2 ?a3 ?l3 ?c3 ?k3 ?a4 ?i4 ?l4 ?c4 ?k4 ?a5 ?i5 ?l5 ?c5 ?k5 ?a6 ?i6 ?j6 ?m6 ?l6 ?c6 ?k6 ?a7 ?i7 ?j7 ?m7 ?l7 ?c7 ?k7 ?a8 ?l8 ?c8 ?k8 ?a9 ?l9 ?c9 ?k9 ?a10 ?l10 ?c10 ?k10 ?a11 ?l11 ?c11 ?k11 ?a12 ?l12 ?c12 ?k12 ?z0 ?z1 ?z2 ?z3 ?z4 ?z5 ?z6 ?z7 ?z8 ?z9 ?z10 ?z11 ?z12 ?z13 ?z14 ?z15 ?z16 ?lcL ?lpL ?hcL ?hnL ?htL
    (case cA => k_is)
    (case cpg => k_is)
    (case chd => k_is)
    (case cpo => k_is)
    (case csa => k_is)
    (case cmk => k_is)
    (case ckp => k_is)
    (case cn_rows_kept => k_is)
    (case crd_MOST => k_is)
    (case cga_MOST => k_is)
    (case cv_MOST => k_is)
    (case eR => k_is)
    (case eVE => k_is)
    (case e_InvalidTable => k_is)
    (case e_InvalidName => k_is)
    (case e_InvalidEntries => k_is)
    (case e_InvalidPlace => k_is)
    (case e_NotReal => k_is)
    (case e_TooMany => k_is)
    (case e_NothingToUndo => k_is)
    (case ehn => k_is)
    (case eht => k_is)
    (case e1_InvalidTable => kernel_rfl)
    (case e2_InvalidTable => k_is)
    (case e3_InvalidTable => k_is)
    (case e4_InvalidTable => k_is)
    (case e5_InvalidTable => k_is)
    (case e6_InvalidTable => k_is)
    (case e7_InvalidTable => k_is)
    (case e8_InvalidTable => k_is)
    (case e9_InvalidTable => k_is)
    (case b1_InvalidTable => kernel_rfl)
    (case b2_InvalidTable => kernel_rfl)
    (case b3_InvalidTable => kernel_rfl)
    (case b4_InvalidTable => kernel_rfl)
    (case b5_InvalidTable => kernel_rfl)
    (case b6_InvalidTable => kernel_rfl)
    (case b7_InvalidTable => kernel_rfl)
    (case b8_InvalidTable => kernel_rfl)
    (case bR_InvalidTable => kernel_rfl)
    (case a0 => k_is)
    (case l0 => k_is)
    (case c0 => k_is)
    (case k0 => k_is)
    (case a1 => k_is)
    (case l1 => k_is)
    (case c1 => k_is)
    (case k1 => k_is)
    (case a2 => k_is)
    (case l2 => k_is)
    (case c2 => k_is)
    (case k2 => k_is)
    (case a3 => k_is)
    (case l3 => k_is)
    (case c3 => k_is)
    (case k3 => k_is)
    (case a4 => k_is)
    (case i4 => k_is)
    (case l4 => k_is)
    (case c4 => k_is)
    (case k4 => k_is)
    (case a5 => k_is)
    (case i5 => k_is)
    (case l5 => k_is)
    (case c5 => k_is)
    (case k5 => k_is)
    (case a6 => k_is)
    (case i6 => k_is)
    (case j6 => k_is)
    (case m6 => k_is)
    (case l6 => k_is)
    (case c6 => k_is)
    (case k6 => k_is)
    (case a7 => k_is)
    (case i7 => k_is)
    (case j7 => k_is)
    (case m7 => k_is)
    (case l7 => k_is)
    (case c7 => k_is)
    (case k7 => k_is)
    (case a8 => k_is)
    (case l8 => k_is)
    (case c8 => k_is)
    (case k8 => k_is)
    (case a9 => k_is)
    (case l9 => k_is)
    (case c9 => k_is)
    (case k9 => k_is)
    (case a10 => k_is)
    (case l10 => k_is)
    (case c10 => k_is)
    (case k10 => k_is)
    (case a11 => k_is)
    (case l11 => k_is)
    (case c11 => k_is)
    (case k11 => k_is)
    (case a12 => k_is)
    (case l12 => k_is)
    (case c12 => k_is)
    (case k12 => k_is)
    (case z0 => k_is)
    (case z1 => k_is)
    (case z2 => k_is)
    (case z3 => k_is)
    (case z4 => k_is)
    (case z5 => k_is)
    (case z6 => k_is)
    (case z7 => k_is)
    (case z8 => k_is)
    (case z9 => k_is)
    (case z10 => k_is)
    (case z11 => k_is)
    (case z12 => k_is)
    (case z13 => k_is)
    (case z14 => k_is)
    (case z15 => k_is)
    (case z16 => k_is)
    (case lcL => k_is)
    (case lpL => rfl)
    (case hcL => kernel_rfl)
    (case hnL => kernel_rfl)
    (case htL => exact PySem.W.km_tabs_of Y _ (by simp))

