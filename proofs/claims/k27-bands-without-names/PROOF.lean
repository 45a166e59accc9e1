import PyProof.Rows.All
import Wide.All
import OpenK.AllK
import Wide.FinOn
import PyProof.EqAt
import PyProof.EqKinds
import PyProof.TupleCall
import HandS.Base
import HandS.Call
import HandS.List
import HandS.Comp
import HandS.Iter
import HandS.Text
import HandS.Dict
import HandS.Words
import HandS.Ends
import HandS.ForMost
import HandS.TupAny
import HandS.TupMul
import HandS.Style
import PySem.Challenge.RW_sureslips_k27_bands_without_names
set_option Elab.async false
set_option linter.all false
set_option maxRecDepth 100000
set_option autoImplicit false
namespace Z
open PySem PySem.Spec L2

/-! ## data -/
inductive D where
  | non
  | bl (b : Bool)
  | int (i : Int)
  | str (s : Str)
  | tup (l : List D)
  | lst (l : List D)
  | dic (l : List (Str × D))
  | src
  | scr

/-- the ghost heap: what stands for good; where the law's source stands -/
structure Gh where
  g : Hp
  s : Option (Addr × Addr)

mutual
inductive Rp (K : PySem.W.Frag) (y : Gh) : V → D → Prop
  | non : Rp K y .non .non
  | bl (b : Bool) : Rp K y (.bl b) (.bl b)
  | int (i : Int) : Rp K y (.int i) (.int i)
  | str (x : Str) : Rp K y (.str x) (.str x)
  | tup {a : Addr} {xs : List V} {ds : List D} : SqT K y.g a xs → RpL K y xs ds → Rp K y (.ref a) (.tup ds)
  | lst {a : Addr} {xs : List V} {ds : List D} : y.g a = some (.lst xs) → RpL K y xs ds → Rp K y (.ref a) (.lst ds)
  | dic {a : Addr} {kvs : List (Key × V)} {ds : List (Str × D)} : y.g a = some (.dK kvs) → RpK K y kvs ds → Rp K y (.ref a) (.dic ds)
  | src {a c : Addr} : y.s = some (a, c) → Rp K y (.ref a) .src
  | scr {a : Addr} {ns : List Int} : SqL K y.g a (ns.map V.int) → ns.length ≤ 63 → Rp K y (.ref a) .scr
inductive RpL (K : PySem.W.Frag) (y : Gh) : List V → List D → Prop
  | nil : RpL K y [] []
  | cons {v : V} {vs : List V} {d : D} {ds : List D} : Rp K y v d → RpL K y vs ds → RpL K y (v :: vs) (d :: ds)
inductive RpK (K : PySem.W.Frag) (y : Gh) : List (Key × V) → List (Str × D) → Prop
  | nil : RpK K y [] []
  | cons {x : Str} {v : V} {vs : List (Key × V)} {d : D} {ds : List (Str × D)} : Rp K y v d → RpK K y vs ds → RpK K y ((.inr x, v) :: vs) ((x, d) :: ds)
end

/-- the one heap within the other -/
def Sub (H H' : Hp) : Prop := ∀ b o, H b = some o → H' b = some o
theorem Sub.refl (H : Hp) : Sub H H := fun _ _ h => h
theorem Sub.trans {A B C : Hp} (h : Sub A B) (k : Sub B C) : Sub A C := fun b o e => k b o (h b o e)
/-- the ghost grows -/
structure Gx (y y' : Gh) : Prop where
  g : Sub y.g y'.g
  s : ∀ p, y.s = some p → y'.s = some p
theorem Gx.refl (y : Gh) : Gx y y := ⟨Sub.refl _, fun _ h => h⟩
theorem Gx.trans {a b c : Gh} (h : Gx a b) (k : Gx b c) : Gx a c := ⟨h.g.trans k.g, fun p q => k.s p (h.s p q)⟩

theorem rd_same {G G' : Hp} {a : Addr} {u : HO} (h : Sub G G') (r : Rd G a u) : Rd G' a u := by
  rcases r with r | ⟨o, r⟩
  · exact .inl (h _ _ r)
  · exact .inr ⟨o, h _ _ r⟩
theorem sqT_same {K : PySem.W.Frag} {G G' : Hp} {a : Addr} {xs : List V} (h : Sub G G') (r : SqT K G a xs) : SqT K G' a xs := by
  rcases r with r | r
  · exact .inl (rd_same h r)
  · exact .inr r
theorem sqL_same {K : PySem.W.Frag} {G G' : Hp} {a : Addr} {xs : List V} (h : Sub G G') (r : SqL K G a xs) : SqL K G' a xs := by
  rcases r with r | r
  · exact .inl (rd_same h r)
  · exact .inr r

section
variable {K : PySem.W.Frag} {y y' : Gh}
mutual
theorem Rp.mono (x : Gx y y') : ∀ {v : V} {d : D}, Rp K y v d → Rp K y' v d
  | _, _, .non => .non
  | _, _, .bl b => .bl b
  | _, _, .int b => .int b
  | _, _, .str b => .str b
  | _, _, .tup h k => .tup (sqT_same x.g h) (RpL.mono x k)
  | _, _, .lst h k => .lst (x.g _ _ h) (RpL.mono x k)
  | _, _, .dic h k => .dic (x.g _ _ h) (RpK.mono x k)
  | _, _, .src h => .src (x.s _ h)
  | _, _, .scr h k => .scr (sqL_same x.g h) k
theorem RpL.mono (x : Gx y y') : ∀ {vs : List V} {ds : List D}, RpL K y vs ds → RpL K y' vs ds
  | _, _, .nil => .nil
  | _, _, .cons h k => .cons (Rp.mono x h) (RpL.mono x k)
theorem RpK.mono (x : Gx y y') : ∀ {vs : List (Key × V)} {ds : List (Str × D)}, RpK K y vs ds → RpK K y' vs ds
  | _, _, .nil => .nil
  | _, _, .cons h k => .cons (Rp.mono x h) (RpK.mono x k)
end
theorem RpL.length : ∀ {vs : List V} {ds : List D}, RpL K y vs ds → vs.length = ds.length
  | _, _, .nil => rfl
  | _, _, .cons _ k => congrArg (· + 1) (RpL.length k)
theorem RpL.get : ∀ {vs : List V} {ds : List D} {i : Nat} {d : D}, RpL K y vs ds → ds[i]? = some d → ∃ v, vs[i]? = some v ∧ Rp K y v d
  | _, _, _, _, .nil, e => by simp at e
  | _, _, 0, _, .cons r _, e => by simp at e; subst e; exact ⟨_, rfl, r⟩
  | _, _, i + 1, d, .cons _ t, e => by
    obtain ⟨v, h1, h2⟩ := RpL.get (i := i) (d := d) t (by simpa using e)
    exact ⟨v, by simpa using h1, h2⟩
theorem RpL.getV : ∀ {vs : List V} {ds : List D} {i : Nat} {v : V}, RpL K y vs ds → vs[i]? = some v → ∃ d, ds[i]? = some d ∧ Rp K y v d
  | _, _, _, _, .nil, e => by simp at e
  | _, _, 0, _, .cons r _, e => by simp at e; subst e; exact ⟨_, rfl, r⟩
  | _, _, i + 1, v, .cons _ t, e => by
    obtain ⟨d, h1, h2⟩ := RpL.getV (i := i) (v := v) t (by simpa using e)
    exact ⟨d, by simpa using h1, h2⟩
theorem RpL.append : ∀ {vs ws : List V} {ds es : List D}, RpL K y vs ds → RpL K y ws es → RpL K y (vs ++ ws) (ds ++ es)
  | _, _, _, _, .nil, s => s
  | _, _, _, _, .cons r t, s => .cons r (RpL.append t s)
theorem RpL.take : ∀ {vs : List V} {ds : List D} (n : Nat), RpL K y vs ds → RpL K y (vs.take n) (ds.take n)
  | _, _, 0, _ => .nil
  | _, _, _ + 1, .nil => .nil
  | _, _, n + 1, .cons r t => .cons r (RpL.take n t)
theorem RpL.drop : ∀ {vs : List V} {ds : List D} (n : Nat), RpL K y vs ds → RpL K y (vs.drop n) (ds.drop n)
  | _, _, 0, r => r
  | _, _, _ + 1, .nil => .nil
  | _, _, n + 1, .cons _ t => RpL.drop n t
theorem RpL.reverse : ∀ {vs : List V} {ds : List D}, RpL K y vs ds → RpL K y vs.reverse ds.reverse
  | _, _, .nil => .nil
  | _, _, .cons r t => by
    rw [List.reverse_cons, List.reverse_cons]
    exact (RpL.reverse t).append (.cons r .nil)
end

/-! ## states -/
inductive Sl where
  | un
  | va (d : D)
  | ow (ds : List D)

/-- the source of draws, with room for fu draws more -/
def SrcIn (a c : Addr) (H : Hp) (fu : Nat) : Prop :=
  a ≠ c ∧ ∃ (ns : List Int) (s n : Int), H a = some (.lst [.ref c, .int s, .int n]) ∧ H c = some (.lst (ns.map V.int)) ∧ ns.length ≤ 63 ∧ 0 ≤ s ∧ s < 2 ^ 40 ∧ 0 ≤ n ∧ n + fu ≤ 2 ^ 60

structure GOk (y : Gh) (H : Hp) (fu : Option Nat) : Prop where
  sub : Sub y.g H
  src : match fu with
    | none => y.s = none
    | some n => ∃ a c, y.s = some (a, c) ∧ y.g a = none ∧ y.g c = none ∧ SrcIn a c H n

/-- from one state to a later one: what is not the source's stays -/
structure Nx (y : Gh) (H : Hp) (y' : Gh) (H' : Hp) : Prop where
  x : Gx y y'
  frm : ∀ a o, H a = some o → (∀ p, y'.s = some p → a ≠ p.1 ∧ a ≠ p.2) → H' a = some o
  here : ∀ a, H a ≠ none → H' a ≠ none
  out : ∀ a, H a ≠ none → y.g a = none → y'.g a = none
  new : ∀ p, y'.s = some p → y.s = some p ∨ (H p.1 = none ∧ H p.2 = none)
theorem Nx.refl (y : Gh) (H : Hp) : Nx y H y H := ⟨Gx.refl y, fun _ _ h _ => h, fun _ h => h, fun _ _ h => h, fun _ h => .inl h⟩
theorem Nx.trans {y y' y'' : Gh} {H H' H'' : Hp} (a : Nx y H y' H') (b : Nx y' H' y'' H'') : Nx y H y'' H'' := by
  refine ⟨a.x.trans b.x, fun c o h k => ?_, fun c h => b.here c (a.here c h), fun c h k => b.out c (a.here c h) (a.out c h k), fun p h => ?_⟩
  · exact b.frm c o (a.frm c o h fun p e => k p (b.x.s p e)) k
  · rcases b.new p h with e | ⟨e1, e2⟩
    · exact a.new p e
    · refine .inr ⟨?_, ?_⟩
      · cases q : H p.1 with
        | none => rfl
        | some o => exact absurd e1 (a.here p.1 (by rw [q]; simp))
      · cases q : H p.2 with
        | none => rfl
        | some o => exact absurd e2 (a.here p.2 (by rw [q]; simp))

/-- not the source's -/
def Nsr (y : Gh) (a : Addr) : Prop := ∀ p, y.s = some p → a ≠ p.1 ∧ a ≠ p.2
theorem Nsr.next {y y' : Gh} {H H' : Hp} {a : Addr} (n : Nx y H y' H') (h : Nsr y a) (hh : H a ≠ none) : Nsr y' a := fun p e => by
  rcases n.new p e with k | ⟨k1, k2⟩
  · exact h p k
  · exact ⟨fun z => hh (z ▸ k1), fun z => hh (z ▸ k2)⟩

structure Ok (K : PySem.W.Frag) (y : Gh) (H : Hp) (σ : St) (ρ : List Sl) (fu : Option Nat) : Prop where
  g : GOk y H fu
  len : σ.length = ρ.length
  va : ∀ (i : Nat) (d : D), ρ[i]? = some (.va d) → ∃ v, σ[i]? = some (some v) ∧ Rp K y v d
  ow : ∀ (i : Nat) (ds : List D), ρ[i]? = some (.ow ds) → ∃ a vs, σ[i]? = some (some (.ref a)) ∧ y.g a = none ∧ H a = some (.lst vs) ∧ RpL K y vs ds ∧ Nsr y a
  sep : ∀ (i j : Nat) (ds es : List D) (a : Addr), ρ[i]? = some (.ow ds) → ρ[j]? = some (.ow es) → σ[i]? = some (some (.ref a)) → σ[j]? = some (some (.ref a)) → i = j

section
variable {K : PySem.W.Frag} {y y' : Gh} {H H' : Hp} {σ σ' : St} {ρ ρ' : List Sl} {fu fu' : Option Nat}
theorem Ok.next (o : Ok K y H σ ρ fu) (n : Nx y H y' H') (g : GOk y' H' fu') : Ok K y' H' σ ρ fu' := by
  refine ⟨g, o.len, fun i d e => ?_, fun i ds e => ?_, o.sep⟩
  · obtain ⟨v, h1, h2⟩ := o.va i d e
    exact ⟨v, h1, h2.mono n.x⟩
  · obtain ⟨a, vs, h1, h2, h3, h4, h5⟩ := o.ow i ds e
    have hh : H a ≠ none := by rw [h3]; simp
    have h5' := h5.next n hh
    exact ⟨a, vs, h1, n.out a hh h2, n.frm a _ h3 h5', h4.mono n.x, h5'⟩
/-- a slot is stored -/
theorem Ok.set (o : Ok K y H σ ρ fu) (i : Nat) {v : V} {d : D} (r : Rp K y v d) : Ok K y H (σ.set i (some v)) (ρ.set i (.va d)) fu := by
  refine ⟨o.g, by simpa using o.len, fun j e h => ?_, fun j ds h => ?_, fun j k ds es a h1 h2 h3 h4 => ?_⟩
  · by_cases hj : i = j
    · subst hj
      have hl : i < ρ.length := by
        have := (List.getElem?_eq_some_iff.mp h).1
        simpa using this
      rw [List.getElem?_set_self hl] at h
      cases h
      exact ⟨v, by rw [List.getElem?_set_self (by rw [o.len]; exact hl)], r⟩
    · rw [List.getElem?_set_ne hj] at h
      obtain ⟨w, h1, h2⟩ := o.va j e h
      exact ⟨w, by rw [List.getElem?_set_ne hj]; exact h1, h2⟩
  · by_cases hj : i = j
    · subst hj
      have hl : i < ρ.length := by
        have := (List.getElem?_eq_some_iff.mp h).1
        simpa using this
      rw [List.getElem?_set_self hl] at h
      cases h
    · rw [List.getElem?_set_ne hj] at h
      obtain ⟨a, vs, h1, h2⟩ := o.ow j ds h
      exact ⟨a, vs, by rw [List.getElem?_set_ne hj]; exact h1, h2⟩
  · have ne : ∀ {j : Nat} {ds : List D}, (ρ.set i (.va d))[j]? = some (.ow ds) → i ≠ j := fun {j ds} h q => by
      subst q
      have hl : i < ρ.length := by
        have := (List.getElem?_eq_some_iff.mp h).1
        simpa using this
      rw [List.getElem?_set_self hl] at h
      cases h
    have n1 := ne h1
    have n2 := ne h2
    rw [List.getElem?_set_ne n1] at h1 h3
    rw [List.getElem?_set_ne n2] at h2 h4
    exact o.sep j k ds es a h1 h2 h3 h4
end
end Z
namespace Z
open PySem PySem.Spec L2

/-! ## readings of data -/
abbrev Fu := Option Nat
abbrev KD := D → Fu → Prop
abbrev WE := List Sl → Fu → KD → Prop
abbrev WT := List Sl → Fu → (Bool → Fu → Prop) → Prop
abbrev WA := List Sl → Fu → (List D → Fu → Prop) → Prop

def RdE (K : PySem.W.Frag) (t : TE) (w : WE) : Prop := ∀ (σ : L2.St) (H : Hp) (y : Gh) (ρ : List Sl) (fu : Fu) (P : KD) (Q : VK), Ok K y H σ ρ fu → w ρ fu P →
  (∀ d fu' v H' y', P d fu' → GOk y' H' fu' → Nx y H y' H' → Rp K y' v d → Q v H') → t σ H Q
def RdT (K : PySem.W.Frag) (t : TT) (w : WT) : Prop := ∀ (σ : L2.St) (H : Hp) (y : Gh) (ρ : List Sl) (fu : Fu) (P : Bool → Fu → Prop) (Q : Bool → Hp → Prop), Ok K y H σ ρ fu → w ρ fu P →
  (∀ b fu' H' y', P b fu' → GOk y' H' fu' → Nx y H y' H' → Q b H') → t σ H Q
def RdA (K : PySem.W.Frag) (t : TA) (w : WA) : Prop := ∀ (σ : L2.St) (H : Hp) (y : Gh) (ρ : List Sl) (fu : Fu) (P : List D → Fu → Prop) (Q : List V → Hp → Prop), Ok K y H σ ρ fu → w ρ fu P →
  (∀ ds fu' vs H' y', P ds fu' → GOk y' H' fu' → Nx y H y' H' → RpL K y' vs ds → Q vs H') → t σ H Q
/-- a new list comes out -/
def RdL (K : PySem.W.Frag) (t : TE) (w : WA) : Prop := ∀ (σ : L2.St) (H : Hp) (y : Gh) (ρ : List Sl) (fu : Fu) (P : List D → Fu → Prop) (Q : VK), Ok K y H σ ρ fu → w ρ fu P →
  (∀ ds fu' p vs H' y', P ds fu' → GOk y' H' fu' → Nx y H y' H' → y'.g p = none → H p = none → H' p = some (.lst vs) → Nsr y' p → RpL K y' vs ds → Q (.ref p) H') → t σ H Q

/-- for a family of contexts (of a comprehension's block: one for each start) -/
structure WX {ι : Type} (F : ι → Cx) (K : PySem.W.Frag) (e : Expr) (w : WE) : Prop where
  ex : ∃ t, (∀ i, PE (F i) e t) ∧ RdE K t w
structure WTs {ι : Type} (F : ι → Cx) (K : PySem.W.Frag) (e : Expr) (w : WT) : Prop where
  ex : ∃ t, (∀ i, PT (F i) e t) ∧ RdT K t w
structure WWs {ι : Type} (F : ι → Cx) (K : PySem.W.Frag) (e : Expr) (w : WT) : Prop where
  ex : ∃ t, (∀ i, PW (F i) e t) ∧ RdT K t w
structure WAs {ι : Type} (F : ι → Cx) (K : PySem.W.Frag) (es : List Expr) (w : WA) : Prop where
  ex : ∃ t, (∀ i, PA (F i) es t) ∧ RdA K t w
structure WLs {ι : Type} (F : ι → Cx) (K : PySem.W.Frag) (e : Expr) (w : WA) : Prop where
  ex : ∃ t, (∀ i, PE (F i) e t) ∧ RdL K t w

section
variable {K : PySem.W.Frag} {y y' : Gh} {H H' : Hp} {fu : Fu}
/-- an object that is new comes to stay -/
theorem grow {p : Addr} {o : HO} (g : GOk y H fu) (np : H p = none) : GOk ⟨upd y.g p o, y.s⟩ (upd H p o) fu ∧ Nx y H ⟨upd y.g p o, y.s⟩ (upd H p o) := by
  have gp : y.g p = none := by
    cases q : y.g p with
    | none => rfl
    | some u => rw [g.sub p u q] at np; cases np
  have hsub : Sub y.g (upd y.g p o) := fun b u e => by
    rw [upd_ne (ne_of_none e gp)]
    exact e
  refine ⟨⟨fun b u e => ?_, ?_⟩, ⟨⟨hsub, fun _ h => h⟩, fun a u h _ => ?_, fun a h => ?_, fun a h k => ?_, fun _ h => .inl h⟩⟩
  · by_cases hb : b = p
    · subst hb
      have e' : upd y.g b o b = some u := e
      rw [upd_same] at e'
      rw [upd_same]
      exact e'
    · have e' : upd y.g p o b = some u := e
      rw [upd_ne hb] at e'
      rw [upd_ne hb]
      exact g.sub b u e'
  · have gs := g.src
    cases fu with
    | none => exact gs
    | some n =>
      obtain ⟨a, c, e1, e2, e3, e0, ns, s, m, h1, h2, h3⟩ := gs
      have na : a ≠ p := ne_of_none h1 np
      have nc : c ≠ p := ne_of_none h2 np
      refine ⟨a, c, e1, ?_, ?_, e0, ns, s, m, ?_, ?_, h3⟩
      · show upd y.g p o a = none
        rw [upd_ne na]; exact e2
      · show upd y.g p o c = none
        rw [upd_ne nc]; exact e3
      · rw [upd_ne na]; exact h1
      · rw [upd_ne nc]; exact h2
  · rw [upd_ne (ne_of_none h np)]
    exact h
  · by_cases ha : a = p
    · subst ha
      rw [upd_same]; simp
    · rw [upd_ne ha]; exact h
  · have na : a ≠ p := fun e => h (e ▸ np)
    show upd y.g p o a = none
    rw [upd_ne na]; exact k
/-- an object that is new, and nobody's yet -/
theorem alone {p : Addr} {o : HO} (g : GOk y H fu) (np : H p = none) : GOk y (upd H p o) fu ∧ Nx y H y (upd H p o) ∧ y.g p = none ∧ Nsr y p := by
  have gp : y.g p = none := by
    cases q : y.g p with
    | none => rfl
    | some u => rw [g.sub p u q] at np; cases np
  have hs : Sub H (upd H p o) := fun b u e => by
    rw [upd_ne (ne_of_none e np)]
    exact e
  refine ⟨⟨g.sub.trans hs, ?_⟩, ⟨Gx.refl y, fun a u h _ => hs a u h, fun a h => ?_, fun _ _ h => h, fun _ h => .inl h⟩, gp, fun q e => ?_⟩
  · have gs := g.src
    cases fu with
    | none => exact gs
    | some n =>
      obtain ⟨a, c, e1, e2, e3, e0, ns, s, m, h1, h2, h3⟩ := gs
      exact ⟨a, c, e1, e2, e3, e0, ns, s, m, hs _ _ h1, hs _ _ h2, h3⟩
  · cases q : H a with
    | none => exact absurd q h
    | some u => rw [hs a u q]; simp
  · have gs := g.src
    cases fu with
    | none =>
      have gs' : y.s = none := gs
      rw [gs'] at e; cases e
    | some n =>
      obtain ⟨a, c, e1, e2, e3, e0, ns, s, m, h1, h2, h3⟩ := gs
      rw [e1] at e
      cases e
      exact ⟨ne_of_none h1 np |>.symm, ne_of_none h2 np |>.symm⟩
/-- what is nobody's comes to stay -/
theorem settle {p : Addr} {o : HO} (g : GOk y H fu) (gp : y.g p = none) (hp : H p = some o) (ns : Nsr y p) : GOk ⟨upd y.g p o, y.s⟩ H fu ∧ Gx y ⟨upd y.g p o, y.s⟩ := by
  have hsub : Sub y.g (upd y.g p o) := fun b u e => by
    rw [upd_ne (ne_of_none e gp)]
    exact e
  refine ⟨⟨fun b u e => ?_, ?_⟩, ⟨hsub, fun _ h => h⟩⟩
  · have e' : upd y.g p o b = some u := e
    by_cases hb : b = p
    · subst hb
      rw [upd_same] at e'
      rw [hp]; exact e'
    · rw [upd_ne hb] at e'
      exact g.sub b u e'
  · have gs := g.src
    cases fu with
    | none => exact gs
    | some n =>
      obtain ⟨a, c, e1, e2, e3, r⟩ := gs
      obtain ⟨n1, n2⟩ := ns _ e1
      refine ⟨a, c, e1, ?_, ?_, r⟩
      · show upd y.g p o a = none
        rw [upd_ne (Ne.symm n1)]; exact e2
      · show upd y.g p o c = none
        rw [upd_ne (Ne.symm n2)]; exact e3
end

section
variable {ι : Type} {F : ι → Cx} {K : PySem.W.Frag} {a b c e : Expr} {es : List Expr} {wa wb wc : WE} {pos : Pos}

/-! ## names, constants -/
def wVar (i : Nat) : WE := fun ρ fu P => ∃ d, ρ[i]? = some (.va d) ∧ P d fu
def wC (d : D) : WE := fun _ fu P => P d fu
theorem rd_c {v : V} {d : D} (h : ∀ y, Rp K y v d) : RdE K (tC v) (wC d) := fun σ H y ρ fu P Q o hw k => k d fu v H y hw o.g (Nx.refl y H) (h y)
theorem wx_var (i : Nat) {x : Str} (h : ∀ k, PE (F k) (.Name x pos) (tVar i)) : WX F K (.Name x pos) (wVar i) :=
  ⟨_, h, fun σ H y ρ fu P Q o hw k => by
    obtain ⟨d, h1, h2⟩ := hw
    obtain ⟨v, h3, h4⟩ := o.va i d h1
    exact ⟨v, h3, k d fu v H y h2 o.g (Nx.refl y H) h4⟩⟩
theorem wx_int {i : Int} {j} : WX F K (.Constant (.int i) j pos) (wC (.int i)) := ⟨_, fun _ => pe_int, rd_c fun _ => .int i⟩
theorem wx_bl {i : Bool} {j} : WX F K (.Constant (.bool i) j pos) (wC (.bl i)) := ⟨_, fun _ => pe_bl, rd_c fun _ => .bl i⟩
theorem wx_non {j} : WX F K (.Constant .none j pos) (wC .non) := ⟨_, fun _ => pe_non, rd_c fun _ => .non⟩
theorem wx_str {x : Str} {j} : WX F K (.Constant (.str x) j pos) (wC (.str x)) := ⟨_, fun _ => pe_str, rd_c fun _ => .str x⟩
/-- a global that holds a constant -/
theorem wx_glob {x : Str} {v : V} {d : D} (h : ∀ k, PE (F k) (.Name x pos) (tC v)) (r : ∀ y, Rp K y v d) : WX F K (.Name x pos) (wC d) := ⟨_, h, rd_c r⟩

/-! ## operators -/
/-- an operation on data -/
def OpD (K : PySem.W.Frag) (r : R2) (f : D → D → Option D) : Prop := ∀ (H : Hp) (y : Gh) (fu : Fu) (x z : V) (p q d : D) (Q : VK), GOk y H fu → Rp K y x p → Rp K y z q → f p q = some d →
  (∀ v H' y', GOk y' H' fu → Nx y H y' H' → Rp K y' v d → Q v H') → r x z H Q
def wOp (f : D → D → Option D) (wa wb : WE) : WE := fun ρ fu P => wa ρ fu fun p fu1 => wb ρ fu1 fun q fu2 => ∃ d, f p q = some d ∧ P d fu2
theorem rd_op {r : R2} {f : D → D → Option D} {ta tb : TE} (hr : OpD K r f) (ha : RdE K ta wa) (hb : RdE K tb wb) : RdE K (tOp r ta tb) (wOp f wa wb) := fun σ H y ρ fu P Q o hw k => by
  refine ha σ H y ρ fu _ _ o hw fun p fu1 x H1 y1 h1 g1 n1 r1 => ?_
  refine hb σ H1 y1 ρ fu1 _ _ (o.next n1 g1) h1 fun q fu2 z H2 y2 h2 g2 n2 r2 => ?_
  obtain ⟨d, e, h2⟩ := h2
  exact hr H2 y2 fu2 x z p q d Q g2 (r1.mono n2.x) r2 e fun v H' y' g' n' r' => k d fu2 v H' y' h2 g' ((n1.trans n2).trans n') r'
theorem wx_op {op : Operator} {r : R2} {f : D → D → Option D} (ho : ∀ k, OpR (F k) (binaryOp op) r) (hr : OpD K r f) (ha : WX F K a wa) (hb : WX F K b wb) : WX F K (.BinOp a op b pos) (wOp f wa wb) := by
  obtain ⟨ta, pa, ra⟩ := ha.ex
  obtain ⟨tb, pb, rb⟩ := hb.ex
  exact ⟨_, fun k => pe_op (ho k) (pa k) (pb k), rd_op hr ra rb⟩
theorem wx_cmp {op : CmpOp} {r : R2} {f : D → D → Option D} (ho : ∀ k, OpR (F k) (compareOp op) r) (hr : OpD K r f) (ha : WX F K a wa) (hb : WX F K b wb) (hm : behindInMarks op b = false) : WX F K (.Compare a [op] [b] pos) (wOp f wa wb) := by
  obtain ⟨ta, pa, ra⟩ := ha.ex
  obtain ⟨tb, pb, rb⟩ := hb.ex
  exact ⟨_, fun k => pe_cmpR (ho k) (pa k) (pb k) hm, rd_op hr ra rb⟩
/-- a value that is a bool as a test -/
def wB (w : WE) : WT := fun ρ fu P => w ρ fu fun d fu' => ∃ k, d = .bl k ∧ P k fu'
theorem rd_b {t : TE} (h : RdE K t wa) : RdT K (tB t) (wB wa) := fun σ H y ρ fu P Q o hw k => by
  refine h σ H y ρ fu _ _ o hw fun d fu' v H' y' h' g' n' r' => ?_
  obtain ⟨j, rfl, h'⟩ := h'
  cases r'
  exact ⟨j, rfl, k j fu' H' y' h' g' n'⟩
theorem wt_cmp {op : CmpOp} {r : R2} {f : D → D → Option D} (ho : ∀ k, OpR (F k) (compareOp op) r) (hr : OpD K r f) (ha : WX F K a wa) (hb : WX F K b wb) (hm : behindInMarks op b = false) : WTs F K (.Compare a [op] [b] pos) (wB (wOp f wa wb)) := by
  obtain ⟨ta, pa, ra⟩ := ha.ex
  obtain ⟨tb, pb, rb⟩ := hb.ex
  exact ⟨_, fun k => pt_cmpR (ho k) (pa k) (pb k) hm, rd_b (rd_op hr ra rb)⟩
theorem wt_val (h : WX F K e wa) (he : ∀ k whole, isTrue e (F k).env whole = (do let v ← whole; standAt e.pos; holding [v] (truthy v)) := by intro _ _; rfl) : WTs F K e (wB wa) := by
  obtain ⟨t, p, r⟩ := h.ex
  exact ⟨_, fun k => pt_val (p k) (he k), rd_b r⟩

/-! ## and, or, not -/
variable {u u' : WT} {rest : List Expr}
def wAnd (u u' : WT) : WT := fun ρ fu P => u ρ fu fun k fu1 => if k = true then u' ρ fu1 P else P false fu1
def wOr (u u' : WT) : WT := fun ρ fu P => u ρ fu fun k fu1 => if k = true then P true fu1 else u' ρ fu1 P
def wNot (u : WT) : WT := fun ρ fu P => u ρ fu fun k fu1 => P (!k) fu1
theorem ww_and1 (ha : WTs F K a u) : WWs F K (.BoolOp .And [a] pos) u := let ⟨_, p, r⟩ := ha.ex; ⟨_, fun k => pw_and1 (p k), r⟩
theorem ww_or1 (ha : WTs F K a u) : WWs F K (.BoolOp .Or [a] pos) u := let ⟨_, p, r⟩ := ha.ex; ⟨_, fun k => pw_or1 (p k), r⟩
theorem ww_and (ha : WTs F K a u) (hb : WWs F K (.BoolOp .And (b :: rest) pos) u') : WWs F K (.BoolOp .And (a :: b :: rest) pos) (wAnd u u') := by
  obtain ⟨ta, pa, ra⟩ := ha.ex
  obtain ⟨tb, pb, rb⟩ := hb.ex
  refine ⟨_, fun k => pw_and (pa k) (pb k), fun σ H y ρ fu P Q o hw k => ?_⟩
  refine ra σ H y ρ fu _ _ o hw fun j fu1 H1 y1 h1 g1 n1 => ?_
  cases j with
  | false =>
    rw [if_neg Bool.false_ne_true] at h1 ⊢
    exact k _ _ _ _ h1 g1 n1
  | true =>
    rw [if_pos rfl] at h1 ⊢
    exact rb σ H1 y1 ρ fu1 _ _ (o.next n1 g1) h1 fun j2 fu2 H2 y2 h2 g2 n2 => k _ _ _ _ h2 g2 (n1.trans n2)
theorem ww_or (ha : WTs F K a u) (hb : WWs F K (.BoolOp .Or (b :: rest) pos) u') : WWs F K (.BoolOp .Or (a :: b :: rest) pos) (wOr u u') := by
  obtain ⟨ta, pa, ra⟩ := ha.ex
  obtain ⟨tb, pb, rb⟩ := hb.ex
  refine ⟨_, fun k => pw_or (pa k) (pb k), fun σ H y ρ fu P Q o hw k => ?_⟩
  refine ra σ H y ρ fu _ _ o hw fun j fu1 H1 y1 h1 g1 n1 => ?_
  cases j with
  | true =>
    rw [if_pos rfl] at h1 ⊢
    exact k _ _ _ _ h1 g1 n1
  | false =>
    rw [if_neg Bool.false_ne_true] at h1 ⊢
    exact rb σ H1 y1 ρ fu1 _ _ (o.next n1 g1) h1 fun j2 fu2 H2 y2 h2 g2 n2 => k _ _ _ _ h2 g2 (n1.trans n2)
theorem WWs.t (h : WWs F K e u) : WTs F K e u := let ⟨_, p, r⟩ := h.ex; ⟨_, fun k => (p k).pt, r⟩
theorem wt_not (ha : WTs F K a u) : WTs F K (.UnaryOp .Not a pos) (wNot u) := by
  obtain ⟨ta, pa, ra⟩ := ha.ex
  exact ⟨_, fun k => pt_not (pa k), fun σ H y ρ fu P Q o hw k => ra σ H y ρ fu _ _ o hw fun j fu1 H1 y1 h1 g1 n1 => k _ _ _ _ h1 g1 n1⟩
/-- as values: all but the last are bools -/
def wAndV (wa wb : WE) : WE := fun ρ fu P => wa ρ fu fun d fu1 => ∃ k, d = .bl k ∧ if k = true then wb ρ fu1 P else P (.bl false) fu1
def wOrV (wa wb : WE) : WE := fun ρ fu P => wa ρ fu fun d fu1 => ∃ k, d = .bl k ∧ if k = true then P (.bl true) fu1 else wb ρ fu1 P
def wNotV (wa : WE) : WE := fun ρ fu P => wa ρ fu fun d fu1 => ∃ k, d = .bl k ∧ P (.bl (!k)) fu1
theorem wx_one {op} (h : WX F K a wa) : WX F K (.BoolOp op [a] pos) wa := let ⟨_, p, r⟩ := h.ex; ⟨_, fun k => pe_one (p k), r⟩
theorem wx_and (ha : WX F K a wa) (hb : WX F K (.BoolOp .And (b :: rest) pos) wb) : WX F K (.BoolOp .And (a :: b :: rest) pos) (wAndV wa wb) := by
  obtain ⟨ta, pa, ra⟩ := ha.ex
  obtain ⟨tb, pb, rb⟩ := hb.ex
  refine ⟨_, fun k => pe_and (pa k) (pb k), fun σ H y ρ fu P Q o hw k => ?_⟩
  refine ra σ H y ρ fu _ _ o hw fun d fu1 v H1 y1 h1 g1 n1 r1 => ?_
  obtain ⟨j, rfl, h1⟩ := h1
  cases r1
  refine ⟨j, rfl, ?_⟩
  cases j with
  | false =>
    rw [if_neg Bool.false_ne_true] at h1 ⊢
    exact k _ _ _ _ _ h1 g1 n1 (.bl false)
  | true =>
    rw [if_pos rfl] at h1 ⊢
    exact rb σ H1 y1 ρ fu1 _ _ (o.next n1 g1) h1 fun d2 fu2 v2 H2 y2 h2 g2 n2 r2 => k _ _ _ _ _ h2 g2 (n1.trans n2) r2
theorem wx_or (ha : WX F K a wa) (hb : WX F K (.BoolOp .Or (b :: rest) pos) wb) : WX F K (.BoolOp .Or (a :: b :: rest) pos) (wOrV wa wb) := by
  obtain ⟨ta, pa, ra⟩ := ha.ex
  obtain ⟨tb, pb, rb⟩ := hb.ex
  refine ⟨_, fun k => pe_or (pa k) (pb k), fun σ H y ρ fu P Q o hw k => ?_⟩
  refine ra σ H y ρ fu _ _ o hw fun d fu1 v H1 y1 h1 g1 n1 r1 => ?_
  obtain ⟨j, rfl, h1⟩ := h1
  cases r1
  refine ⟨j, rfl, ?_⟩
  cases j with
  | true =>
    rw [if_pos rfl] at h1 ⊢
    exact k _ _ _ _ _ h1 g1 n1 (.bl true)
  | false =>
    rw [if_neg Bool.false_ne_true] at h1 ⊢
    exact rb σ H1 y1 ρ fu1 _ _ (o.next n1 g1) h1 fun d2 fu2 v2 H2 y2 h2 g2 n2 r2 => k _ _ _ _ _ h2 g2 (n1.trans n2) r2
theorem wx_not (ha : WX F K a wa) : WX F K (.UnaryOp .Not a pos) (wNotV wa) := by
  obtain ⟨ta, pa, ra⟩ := ha.ex
  refine ⟨_, fun k => pe_not (pa k), fun σ H y ρ fu P Q o hw k => ?_⟩
  refine ra σ H y ρ fu _ _ o hw fun d fu1 v H1 y1 h1 g1 n1 r1 => ?_
  obtain ⟨j, rfl, h1⟩ := h1
  cases r1
  exact ⟨j, rfl, k _ _ _ _ _ h1 g1 n1 (.bl _)⟩
/-- a if t else b -/
def wIf (u : WT) (wa wb : WE) : WE := fun ρ fu P => u ρ fu fun k fu1 => if k = true then wa ρ fu1 P else wb ρ fu1 P
theorem wx_if (hc : WTs F K c u) (ha : WX F K a wa) (hb : WX F K b wb) : WX F K (.IfExp c a b pos) (wIf u wa wb) := by
  obtain ⟨tc, pc, rc⟩ := hc.ex
  obtain ⟨ta, pa, ra⟩ := ha.ex
  obtain ⟨tb, pb, rb⟩ := hb.ex
  refine ⟨_, fun k => pe_ifExp (pc k) (pa k) (pb k), fun σ H y ρ fu P Q o hw k => ?_⟩
  refine rc σ H y ρ fu _ _ o hw fun j fu1 H1 y1 h1 g1 n1 => ?_
  cases j with
  | true =>
    rw [if_pos rfl] at h1 ⊢
    exact ra σ H1 y1 ρ fu1 _ _ (o.next n1 g1) h1 fun d2 fu2 v2 H2 y2 h2 g2 n2 r2 => k _ _ _ _ _ h2 g2 (n1.trans n2) r2
  | false =>
    rw [if_neg Bool.false_ne_true] at h1 ⊢
    exact rb σ H1 y1 ρ fu1 _ _ (o.next n1 g1) h1 fun d2 fu2 v2 H2 y2 h2 g2 n2 r2 => k _ _ _ _ _ h2 g2 (n1.trans n2) r2

/-! ## lists of arguments, displays -/
variable {v : WA}
def wNil : WA := fun _ fu P => P [] fu
def wCons (w : WE) (v : WA) : WA := fun ρ fu P => w ρ fu fun d fu1 => v ρ fu1 fun ds fu2 => P (d :: ds) fu2
theorem wa_nil : WAs F K [] wNil := ⟨_, fun _ => pa_nil, fun σ H y ρ fu P Q o hw k => k [] fu [] H y hw o.g (Nx.refl y H) .nil⟩
theorem rd_cons {ta : TE} {tr : TA} (ra : RdE K ta wa) (rr : RdA K tr v) : RdA K (tCons ta tr) (wCons wa v) := fun σ H y ρ fu P Q o hw k => by
  refine ra σ H y ρ fu _ _ o hw fun d fu1 x H1 y1 h1 g1 n1 r1 => ?_
  exact rr σ H1 y1 ρ fu1 _ _ (o.next n1 g1) h1 fun ds fu2 vs H2 y2 h2 g2 n2 r2 => k _ _ _ _ _ h2 g2 (n1.trans n2) (.cons (r1.mono n2.x) r2)
theorem wa_cons (ha : WX F K e wa) (hr : WAs F K es v) (hs : ∀ k, starEach (e :: es) (F k).env = (false, eval e (F k).env) :: starEach es (F k).env := by intro _; rfl) : WAs F K (e :: es) (wCons wa v) := by
  obtain ⟨ta, pa, ra⟩ := ha.ex
  obtain ⟨tr, pr, rr⟩ := hr.ex
  exact ⟨_, fun k => pa_cons (pa k) (pr k) (hs k), rd_cons ra rr⟩
def wTup (v : WA) : WE := fun ρ fu P => v ρ fu fun ds fu1 => ds.length ≤ sizeLine ∧ P (.tup ds) fu1
def wLst (v : WA) : WA := fun ρ fu P => v ρ fu fun ds fu1 => ds.length ≤ sizeLine ∧ P ds fu1
theorem wx_tup {x1} (h : WAs F K es v) : WX F K (.Tuple es x1 pos) (wTup v) := by
  obtain ⟨t, p, r⟩ := h.ex
  refine ⟨_, fun k => pe_tup (p k), fun σ H y ρ fu P Q o hw k => ?_⟩
  refine r σ H y ρ fu _ _ o hw fun ds fu1 vs H1 y1 h1 g1 n1 r1 => ⟨by rw [r1.length]; exact h1.1, fun q nq => ?_⟩
  obtain ⟨g2, n2⟩ := grow (o := .tup vs) g1 nq
  exact k _ _ _ _ _ h1.2 g2 (n1.trans n2) (.tup (.inl (.inl upd_same)) (r1.mono n2.x))
theorem wl_lst (h : WAs F K es v) : WLs F K (.List es pos) (wLst v) := by
  obtain ⟨t, p, r⟩ := h.ex
  refine ⟨_, fun k => pe_lst (p k), fun σ H y ρ fu P Q o hw k => ?_⟩
  refine r σ H y ρ fu _ _ o hw fun ds fu1 vs H1 y1 h1 g1 n1 r1 => ⟨by rw [r1.length]; exact h1.1, fun q nq => ?_⟩
  obtain ⟨g2, n2, z1, z2⟩ := alone (o := .lst vs) g1 nq
  refine k ds fu1 q vs _ y1 h1.2 g2 (n1.trans n2) z1 ?_ upd_same z2 r1
  cases e : H q with
  | none => rfl
  | some u => exact absurd nq (n1.here q (by rw [e]; simp))
/-- a new list as a value -/
def wFz (v : WA) : WE := fun ρ fu P => v ρ fu fun ds fu1 => P (.lst ds) fu1
theorem rd_fz {t : TE} (r : RdL K t v) : RdE K t (wFz v) := fun σ H y ρ fu P Q o hw k => by
  refine r σ H y ρ fu _ _ o hw fun ds fu1 q vs H1 y1 h1 g1 n1 z1 z0 z2 z3 r1 => ?_
  obtain ⟨g2, x2⟩ := settle g1 z1 z2 z3
  refine k _ _ _ _ _ h1 g2 ⟨n1.x.trans x2, n1.frm, n1.here, fun b hb kb => ?_, n1.new⟩ (.lst upd_same (r1.mono x2))
  have nb : b ≠ q := fun e => hb (e ▸ z0)
  show upd y1.g q _ b = none
  rw [upd_ne nb]
  exact n1.out b hb kb
theorem WLs.x (h : WLs F K e v) : WX F K e (wFz v) := let ⟨_, p, r⟩ := h.ex; ⟨_, p, rd_fz r⟩
end
end Z
namespace Z
open PySem PySem.Spec L2

/-! ## statements -/
structure DEnds where
  nx : List Sl → Fu → Prop
  rt : KD
  bk : List Sl → Fu → Prop
  ct : List Sl → Fu → Prop
abbrev WS := DEnds → List Sl → Fu → Prop

/-- the state within a def's body: y0, H0 at its entry -/
structure St0 (K : PySem.W.Frag) (y0 : Gh) (H0 : Hp) (y : Gh) (H : Hp) (σ : L2.St) (ρ : List Sl) (fu : Fu) : Prop where
  ok : Ok K y H σ ρ fu
  nx : Nx y0 H0 y H
  ow : ∀ (i : Nat) (ds : List D) (a : Addr), ρ[i]? = some (.ow ds) → σ[i]? = some (some (.ref a)) → H0 a = none

structure Sim (K : PySem.W.Frag) (y0 : Gh) (H0 : Hp) (B : DEnds) (E : Ends) : Prop where
  nx : ∀ σ ρ fu H y, B.nx ρ fu → St0 K y0 H0 y H σ ρ fu → E.nx σ H
  rt : ∀ d fu v H y, B.rt d fu → GOk y H fu → Nx y0 H0 y H → Rp K y v d → E.rt v H
  bk : ∀ σ ρ fu H y, B.bk ρ fu → St0 K y0 H0 y H σ ρ fu → E.bk σ H
  ct : ∀ σ ρ fu H y, B.ct ρ fu → St0 K y0 H0 y H σ ρ fu → E.ct σ H

def RdS (K : PySem.W.Frag) (t : TS) (w : WS) : Prop := ∀ (y0 : Gh) (H0 : Hp) (σ : L2.St) (H : Hp) (y : Gh) (ρ : List Sl) (fu : Fu) (B : DEnds) (E : Ends),
  St0 K y0 H0 y H σ ρ fu → w B ρ fu → Sim K y0 H0 B E → t E σ H
abbrev U1 (X : Cx) : Unit → Cx := fun _ => X
structure WSt (X : Cx) (st : Stmt) (w : WS) : Prop where
  ex : ∃ t, PS X st t ∧ RdS X.K t w
structure WSs (X : Cx) (st : List Stmt) (w : WS) : Prop where
  ex : ∃ t, PSs X st t ∧ RdS X.K t w

section
variable {K : PySem.W.Frag} {y y0 y' : Gh} {H H0 H' : Hp} {σ : L2.St} {ρ : List Sl} {fu fu' : Fu}
theorem St0.next (s : St0 K y0 H0 y H σ ρ fu) (n : Nx y H y' H') (g : GOk y' H' fu') : St0 K y0 H0 y' H' σ ρ fu' := ⟨s.ok.next n g, s.nx.trans n, s.ow⟩
theorem get_set_un {α : Type} {l : List α} {i j : Nat} {a b : α} (h : (l.set i a)[j]? = some b) : (i = j ∧ a = b) ∨ (i ≠ j ∧ l[j]? = some b) := by
  by_cases hj : i = j
  · subst hj
    have hl : i < l.length := by
      have := (List.getElem?_eq_some_iff.mp h).1
      simpa using this
    rw [List.getElem?_set_self hl] at h
    exact .inl ⟨rfl, Option.some.inj h⟩
  · rw [List.getElem?_set_ne hj] at h
    exact .inr ⟨hj, h⟩
theorem St0.set (s : St0 K y0 H0 y H σ ρ fu) (i : Nat) {v : V} {d : D} (r : Rp K y v d) : St0 K y0 H0 y H (σ.set i (some v)) (ρ.set i (.va d)) fu := by
  refine ⟨s.ok.set i r, s.nx, fun j ds a h1 h2 => ?_⟩
  rcases get_set_un h1 with ⟨_, e⟩ | ⟨ne, h1⟩
  · cases e
  · rw [List.getElem?_set_ne ne] at h2
    exact s.ow j ds a h1 h2
/-- a slot takes a new list -/
theorem St0.setL (s : St0 K y0 H0 y H σ ρ fu) (i : Nat) {p : Addr} {vs : List V} {ds : List D} (z1 : y.g p = none) (z2 : H p = some (.lst vs)) (z3 : Nsr y p) (r : RpL K y vs ds) (z0 : H0 p = none)
    (fresh : ∀ (j : Nat) (es : List D), ρ[j]? = some (.ow es) → σ[j]? ≠ some (some (.ref p))) : St0 K y0 H0 y H (σ.set i (some (.ref p))) (ρ.set i (.ow ds)) fu := by
  refine ⟨⟨s.ok.g, by simpa using s.ok.len, fun j d h => ?_, fun j es h => ?_, fun j k ds' es a h1 h2 h3 h4 => ?_⟩, s.nx, fun j es a h1 h2 => ?_⟩
  · rcases get_set_un h with ⟨_, e⟩ | ⟨ne, h⟩
    · cases e
    · obtain ⟨v, q1, q2⟩ := s.ok.va j d h
      exact ⟨v, by rw [List.getElem?_set_ne ne]; exact q1, q2⟩
  · have hj := (List.getElem?_eq_some_iff.mp h).1
    rcases get_set_un h with ⟨e0, e⟩ | ⟨ne, h⟩
    · subst e0
      cases e
      exact ⟨p, vs, List.getElem?_set_self (by rw [s.ok.len]; simpa using hj), z1, z2, r, z3⟩
    · obtain ⟨a, ws, q1, q2⟩ := s.ok.ow j es h
      exact ⟨a, ws, by rw [List.getElem?_set_ne ne]; exact q1, q2⟩
  · have hj := (List.getElem?_eq_some_iff.mp h1).1
    have hk := (List.getElem?_eq_some_iff.mp h2).1
    have low : ∀ {x : Nat}, x < (ρ.set i (.ow ds)).length → x < σ.length := fun h => by rw [s.ok.len]; simpa using h
    rcases get_set_un h1 with ⟨e0, e⟩ | ⟨ne, q1⟩
    · rcases get_set_un h2 with ⟨e0', e'⟩ | ⟨ne', q2⟩
      · rw [← e0, ← e0']
      · subst e0
        rw [List.getElem?_set_self (low hj)] at h3
        cases h3
        rw [List.getElem?_set_ne ne'] at h4
        exact absurd h4 (fresh k es q2)
    · rcases get_set_un h2 with ⟨e0', e'⟩ | ⟨ne', q2⟩
      · subst e0'
        rw [List.getElem?_set_self (low hk)] at h4
        cases h4
        rw [List.getElem?_set_ne ne] at h3
        exact absurd h3 (fresh j _ q1)
      · rw [List.getElem?_set_ne ne] at h3
        rw [List.getElem?_set_ne ne'] at h4
        exact s.ok.sep j k ds' es a q1 q2 h3 h4
  · have hj := (List.getElem?_eq_some_iff.mp h1).1
    rcases get_set_un h1 with ⟨e0, e⟩ | ⟨ne, q1⟩
    · subst e0
      rw [List.getElem?_set_self (by rw [s.ok.len]; simpa using hj)] at h2
      cases h2
      exact z0
    · rw [List.getElem?_set_ne ne] at h2
      exact s.ow j es a q1 h2
/-- the list of a slot is another now -/
theorem St0.write (s : St0 K y0 H0 y H σ ρ fu) {i : Nat} {p : Addr} {ds es : List D} {ws : List V} (h : ρ[i]? = some (.ow ds)) (hp : σ[i]? = some (some (.ref p))) (r : RpL K y ws es) :
    St0 K y0 H0 y (upd H p (.lst ws)) σ (ρ.set i (.ow es)) fu := by
  obtain ⟨p', vs, h1, h2, h3, h4, h5⟩ := s.ok.ow i ds h
  rw [hp] at h1
  cases h1
  have hH0 : H0 p = none := s.ow i ds p h hp
  have hl := (List.getElem?_eq_some_iff.mp h).1
  have ne_g : ∀ {b u}, y.g b = some u → b ≠ p := fun e z => by rw [z, h2] at e; cases e
  refine ⟨⟨⟨fun b u e => ?_, ?_⟩, by simpa using s.ok.len, fun j d e => ?_, fun j fs e => ?_, fun j k ds' fs a e1 e2 e3 e4 => ?_⟩, ?_, fun j fs a e1 e2 => ?_⟩
  · rw [upd_ne (ne_g e)]
    exact s.ok.g.sub b u e
  · have gs := s.ok.g.src
    cases fu with
    | none => exact gs
    | some n =>
      obtain ⟨a, c, e1, e2, e3, e0, ns, t, m, k1, k2, k3⟩ := gs
      obtain ⟨n1, n2⟩ := h5 _ e1
      exact ⟨a, c, e1, e2, e3, e0, ns, t, m, by rw [upd_ne (Ne.symm n1)]; exact k1, by rw [upd_ne (Ne.symm n2)]; exact k2, k3⟩
  · rcases get_set_un e with ⟨_, e⟩ | ⟨ne, e⟩
    · cases e
    · exact s.ok.va j d e
  · rcases get_set_un e with ⟨e0, e9⟩ | ⟨ne, e⟩
    · subst e0
      cases e9
      exact ⟨p, ws, hp, h2, upd_same, r, h5⟩
    · obtain ⟨a, xs, q1, q2, q3, q4, q5⟩ := s.ok.ow j fs e
      have na : a ≠ p := fun z => by
        subst z
        exact ne (s.ok.sep i j ds fs _ h e hp q1)
      exact ⟨a, xs, q1, q2, by rw [upd_ne na]; exact q3, q4, q5⟩
  · have own : ∀ {j : Nat} {fs : List D}, (ρ.set i (.ow es))[j]? = some (.ow fs) → ∃ gs, ρ[j]? = some (.ow gs) := fun {j fs} e => by
      rcases get_set_un e with ⟨e0, _⟩ | ⟨_, e⟩
      · exact ⟨ds, e0 ▸ h⟩
      · exact ⟨fs, e⟩
    obtain ⟨g1, q1⟩ := own e1
    obtain ⟨g2, q2⟩ := own e2
    exact s.ok.sep j k g1 g2 a q1 q2 e3 e4
  · refine ⟨s.nx.x, fun a u e k => ?_, fun a e => ?_, s.nx.out, s.nx.new⟩
    · have na : a ≠ p := fun z => by rw [z, hH0] at e; cases e
      rw [upd_ne na]
      exact s.nx.frm a u e k
    · by_cases na : a = p
      · rw [na, upd_same]; simp
      · rw [upd_ne na]; exact s.nx.here a e
  · rcases get_set_un e1 with ⟨e0, _⟩ | ⟨_, e⟩
    · subst e0
      exact s.ow _ ds a h e2
    · exact s.ow j fs a e e2
/-- the list of a slot stays as it is from now on -/
theorem St0.freeze (s : St0 K y0 H0 y H σ ρ fu) {i : Nat} {ds : List D} (h : ρ[i]? = some (.ow ds)) : ∃ y', St0 K y0 H0 y' H σ (ρ.set i (.va (.lst ds))) fu := by
  obtain ⟨p, vs, h1, h2, h3, h4, h5⟩ := s.ok.ow i ds h
  obtain ⟨g', x'⟩ := settle s.ok.g h2 h3 h5
  have hH0 : H0 p = none := s.ow i ds p h h1
  refine ⟨⟨upd y.g p (.lst vs), y.s⟩, ⟨g', by simpa using s.ok.len, fun j d e => ?_, fun j fs e => ?_, fun j k ds' fs a e1 e2 e3 e4 => ?_⟩, ?_, fun j fs a e1 e2 => ?_⟩
  · rcases get_set_un e with ⟨e0, e9⟩ | ⟨ne, e⟩
    · subst e0
      cases e9
      exact ⟨.ref p, h1, .lst upd_same (h4.mono x')⟩
    · obtain ⟨v, q1, q2⟩ := s.ok.va j d e
      exact ⟨v, q1, q2.mono x'⟩
  · rcases get_set_un e with ⟨_, e⟩ | ⟨ne, e⟩
    · cases e
    · obtain ⟨a, xs, q1, q2, q3, q4, q5⟩ := s.ok.ow j fs e
      have na : a ≠ p := fun z => by
        subst z
        exact ne (s.ok.sep i j ds fs _ h e h1 q1)
      exact ⟨a, xs, q1, by show upd y.g p _ a = none; rw [upd_ne na]; exact q2, q3, q4.mono x', q5⟩
  · rcases get_set_un e1 with ⟨_, e⟩ | ⟨_, e1⟩
    · cases e
    · rcases get_set_un e2 with ⟨_, e⟩ | ⟨_, e2⟩
      · cases e
      · exact s.ok.sep j k ds' fs a e1 e2 e3 e4
  · refine ⟨s.nx.x.trans x', s.nx.frm, s.nx.here, fun a e k => ?_, s.nx.new⟩
    have na : a ≠ p := fun z => e (z ▸ hH0)
    show upd y.g p _ a = none
    rw [upd_ne na]
    exact s.nx.out a e k
  · rcases get_set_un e1 with ⟨_, e⟩ | ⟨_, e1⟩
    · cases e
    · exact s.ow j fs a e1 e2
end

section
variable {X : Cx} {st : Stmt} {sts : List Stmt} {w w' : WS} {e c : Expr} {we : WE} {pos : Pos}
def zNext : WS := fun B ρ fu => B.nx ρ fu
def zSeq (w w' : WS) : WS := fun B ρ fu => w { B with nx := w' B } ρ fu
theorem rd_seq {K : PySem.W.Frag} {t u : TS} (h1 : RdS K t w) (h2 : RdS K u w') : RdS K (tSeq t u) (zSeq w w') := fun y0 H0 σ H y ρ fu B E s hw m =>
  h1 y0 H0 σ H y ρ fu _ _ s hw ⟨fun σ' ρ' fu' H' y' h s' => h2 y0 H0 σ' H' y' ρ' fu' B E s' h m, m.rt, m.bk, m.ct⟩
theorem zs_nil : WSs X [] zNext := ⟨_, pss_nil, fun y0 H0 σ H y ρ fu B E s hw m => m.nx σ ρ fu H y hw s⟩
theorem zs_cons (h1 : WSt X st w) (h2 : WSs X sts w') : WSs X (st :: sts) (zSeq w w') := by
  obtain ⟨t, p, r⟩ := h1.ex
  obtain ⟨u, p2, r2⟩ := h2.ex
  exact ⟨_, pss_cons p p2, rd_seq r r2⟩
theorem zs_one (h1 : WSt X st w) : WSs X [st] w := let ⟨_, p, r⟩ := h1.ex; ⟨_, pss_one p, r⟩
/-- a list of a slot stays from now on -/
def zFz (i : Nat) (w : WS) : WS := fun B ρ fu => match ρ[i]? with
  | some (.ow ds) => w B (ρ.set i (.va (.lst ds))) fu
  | _ => w B ρ fu
theorem rd_freeze {K : PySem.W.Frag} {t : TS} (i : Nat) (h : RdS K t w) : RdS K t (zFz i w) := fun y0 H0 σ H y ρ fu B E s hw m => by
  unfold zFz at hw
  split at hw
  · rename_i ds q
    obtain ⟨y', s'⟩ := s.freeze q
    exact h y0 H0 σ H y' _ fu B E s' hw m
  · exact h y0 H0 σ H y ρ fu B E s hw m
theorem zt_freeze (i : Nat) (h : WSt X st w) : WSt X st (zFz i w) := let ⟨_, p, r⟩ := h.ex; ⟨_, p, rd_freeze i r⟩
theorem zs_freeze (i : Nat) (h : WSs X sts w) : WSs X sts (zFz i w) := let ⟨_, p, r⟩ := h.ex; ⟨_, p, rd_freeze i r⟩

def zPass : WS := fun B ρ fu => B.nx ρ fu
theorem zt_pass : WSt X (.Pass pos) zPass := ⟨_, ps_pass, fun y0 H0 σ H y ρ fu B E s hw m => m.nx σ ρ fu H y hw s⟩
def zBreak : WS := fun B ρ fu => B.bk ρ fu
def zCont : WS := fun B ρ fu => B.ct ρ fu
theorem zt_break : WSt X (.Break pos) zBreak := ⟨_, ps_break, fun y0 H0 σ H y ρ fu B E s hw m => m.bk σ ρ fu H y hw s⟩
theorem zt_cont : WSt X (.Continue pos) zCont := ⟨_, ps_continue, fun y0 H0 σ H y ρ fu B E s hw m => m.ct σ ρ fu H y hw s⟩
def zExpr (we : WE) : WS := fun B ρ fu => we ρ fu fun _ fu' => B.nx ρ fu'
theorem zt_expr (h : WX (U1 X) X.K e we) (hs : swapsWith e none pos.line X.env = pure false := by rfl) : WSt X (.Expr e pos) (zExpr we) := by
  obtain ⟨t, p, r⟩ := h.ex
  exact ⟨_, ps_expr (p ()) hs, fun y0 H0 σ H y ρ fu B E s hw m => r σ H y ρ fu _ _ s.ok hw fun d fu' v H' y' h' g' n' r' => m.nx σ ρ fu' H' y' h' (s.next n' g')⟩
def zRet (we : WE) : WS := fun B ρ fu => we ρ fu B.rt
theorem zt_ret (h : WX (U1 X) X.K e we) : WSt X (.Return (some e) pos) (zRet we) := by
  obtain ⟨t, p, r⟩ := h.ex
  exact ⟨_, ps_ret (p ()), fun y0 H0 σ H y ρ fu B E s hw m => r σ H y ρ fu _ _ s.ok hw fun d fu' v H' y' h' g' n' r' => m.rt d fu' v H' y' h' g' (s.nx.trans n') r'⟩
def zRetN : WS := fun B _ fu => B.rt .non fu
theorem zt_retN : WSt X (.Return none pos) zRetN := ⟨_, ps_retN, fun y0 H0 σ H y ρ fu B E s hw m => m.rt .non fu .non H y hw s.ok.g s.nx .non⟩
def zIf (u : WT) (w w' : WS) : WS := fun B ρ fu => u ρ fu fun k fu' => if k = true then w B ρ fu' else w' B ρ fu'
theorem zt_if {u : WT} {b1 b2 : List Stmt} (hc : WTs (U1 X) X.K c u) (h1 : WSs X b1 w) (h2 : WSs X b2 w') : WSt X (.If c b1 b2 pos) (zIf u w w') := by
  obtain ⟨tc, pc, rc⟩ := hc.ex
  obtain ⟨t1, p1, r1⟩ := h1.ex
  obtain ⟨t2, p2, r2⟩ := h2.ex
  refine ⟨_, ps_if (pc ()) p1 p2, fun y0 H0 σ H y ρ fu B E s hw m => ?_⟩
  refine rc σ H y ρ fu _ _ s.ok hw fun k fu' H' y' h' g' n' => ?_
  cases k with
  | true =>
    rw [if_pos rfl] at h' ⊢
    exact r1 y0 H0 σ H' y' ρ fu' B E (s.next n' g') h' m
  | false =>
    rw [if_neg Bool.false_ne_true] at h' ⊢
    exact r2 y0 H0 σ H' y' ρ fu' B E (s.next n' g') h' m

/-! ## stores -/
def zSet (i : Nat) (we : WE) : WS := fun B ρ fu => we ρ fu fun d fu' => B.nx (ρ.set i (.va d)) fu'
theorem rd_set {K : PySem.W.Frag} {t : TE} (i : Nat) (r : RdE K t we) : RdS K (tAsg t (gName i)) (zSet i we) := fun y0 H0 σ H y ρ fu B E s hw m =>
  r σ H y ρ fu _ _ s.ok hw fun d fu' v H' y' h' g' n' r' => m.nx _ _ fu' H' y' h' ((s.next n' g').set i r')
def zSetL (i : Nat) (v : WA) : WS := fun B ρ fu => v ρ fu fun ds fu' => B.nx (ρ.set i (.ow ds)) fu'
theorem rd_setL {K : PySem.W.Frag} {t : TE} {v : WA} (i : Nat) (r : RdL K t v) : RdS K (tAsg t (gName i)) (zSetL i v) := fun y0 H0 σ H y ρ fu B E s hw m =>
  r σ H y ρ fu _ _ s.ok hw fun ds fu' p vs H' y' h' g' n' z1 z0 z2 z3 r' => m.nx _ _ fu' H' y' h' ((s.next n' g').setL i z1 z2 z3 r' (by
    cases q : H0 p with
    | none => rfl
    | some u => exact absurd z0 (s.nx.here p (by rw [q]; simp))) fun j es e1 e2 => by
      obtain ⟨a, ws, q1, q2, q3, _⟩ := s.ok.ow j es e1
      rw [e2] at q1
      cases q1
      rw [z0] at q3; cases q3)
theorem zt_set {x : Str} {i : Nat} {pos' : Pos} (hN : X.N.Nodup) (hi : X.N[i]? = some x) (hx : Loc X.env.scope x) (h : WX (U1 X) X.K e we) (hs : swapsWith e (some (.Name x pos')) pos.line X.env = pure false := by rfl)
    (hf : X.fn x = true ∨ X.env.scope.names.lookup x = some .local := by first | exact .inl rfl | exact .inr rfl | assumption) : WSt X (.Assign [.Name x pos'] e pos) (zSet i we) := by
  obtain ⟨t, p, r⟩ := h.ex
  exact ⟨_, ps_set hN hi hx (p ()) hs hf, rd_set i r⟩
theorem zt_setL {x : Str} {i : Nat} {pos' : Pos} {v : WA} (hN : X.N.Nodup) (hi : X.N[i]? = some x) (hx : Loc X.env.scope x) (h : WLs (U1 X) X.K e v) (hs : swapsWith e (some (.Name x pos')) pos.line X.env = pure false := by rfl)
    (hf : X.fn x = true ∨ X.env.scope.names.lookup x = some .local := by first | exact .inl rfl | exact .inr rfl | assumption) : WSt X (.Assign [.Name x pos'] e pos) (zSetL i v) := by
  obtain ⟨t, p, r⟩ := h.ex
  exact ⟨_, ps_set hN hi hx (p ()) hs hf, rd_setL i r⟩
end
end Z
namespace Z
open PySem PySem.Spec L2

/-! ## what is walked -/
/-- the iterator hands out the data ds, one after another -/
def Pres (K : PySem.W.Frag) (y : Gh) (J : It) (ds : List D) : Prop := ∀ (i : Nat) (H1 : Hp) (y1 : Gh) (fu1 : Fu), Gx y y1 → GOk y1 H1 fu1 →
  (ds.length ≤ i → J.stop i H1) ∧ ∀ d, ds[i]? = some d → J.go i H1 ∧ ∀ x H2, J.yld i H1 x H2 → ∃ y2, GOk y2 H2 fu1 ∧ Nx y1 H1 y2 H2 ∧ Rp K y2 x d
theorem Pres.up {K : PySem.W.Frag} {y y' : Gh} {J : It} {ds : List D} (h : Pres K y J ds) (x : Gx y y') : Pres K y' J ds := fun i H1 y1 fu1 x1 g1 => h i H1 y1 fu1 (x.trans x1) g1
def RdI (K : PySem.W.Frag) (t : TI) (w : WA) : Prop := ∀ (σ : L2.St) (H : Hp) (y : Gh) (ρ : List Sl) (fu : Fu) (P : List D → Fu → Prop) (R : It → Hp → Prop), Ok K y H σ ρ fu → w ρ fu P →
  (∀ ds fu' J H' y', P ds fu' → GOk y' H' fu' → Nx y H y' H' → Pres K y' J ds → R J H') → t σ H R
structure WI {ι : Type} (F : ι → Cx) (K : PySem.W.Frag) (tg iter : Expr) (w : WA) : Prop where
  ex : ∃ t, (∀ i, PI (F i) tg iter t) ∧ RdI K t w

/-- only the slots sl are touched -/
def Tch (sl : List Nat) (σ σ' : L2.St) : Prop := σ'.length = σ.length ∧ ∀ i, i ∉ sl → σ'[i]? = σ[i]?
theorem Tch.refl (sl : List Nat) (σ : L2.St) : Tch sl σ σ := ⟨rfl, fun _ _ => rfl⟩
theorem Tch.trans {sl sl' : List Nat} {σ σ' σ'' : L2.St} (a : Tch sl σ σ') (b : Tch sl' σ' σ'') : Tch (sl ++ sl') σ σ'' :=
  ⟨b.1.trans a.1, fun i h => (b.2 i fun k => h (List.mem_append_right _ k)).trans (a.2 i fun k => h (List.mem_append_left _ k))⟩
/-- a target -/
abbrev WG := D → List Sl → (List Sl → Prop) → Prop
def RdG (K : PySem.W.Frag) (g : TG) (sl : List Nat) (w : WG) : Prop := ∀ (y0 : Gh) (H0 : Hp) (v : V) (d : D) (σ : L2.St) (H : Hp) (y : Gh) (ρ : List Sl) (fu : Fu) (P : List Sl → Prop) (Q : L2.St → Hp → Prop),
  St0 K y0 H0 y H σ ρ fu → Rp K y v d → w d ρ P → (∀ σ' ρ', P ρ' → St0 K y0 H0 y H σ' ρ' fu → Tch sl σ σ' → Q σ' H) → g v σ H Q
structure WGt {ι : Type} (F : ι → Cx) (K : PySem.W.Frag) (tg : Expr) (sl : List Nat) (w : WG) : Prop where
  ex : ∃ g, (∀ i, PG (F i) tg g) ∧ RdG K g sl w
abbrev WGl := List D → List Sl → (List Sl → Prop) → Prop
def RdGl (K : PySem.W.Frag) (g : TGs) (sl : List Nat) (w : WGl) : Prop := ∀ (y0 : Gh) (H0 : Hp) (vs : List V) (ds : List D) (σ : L2.St) (H : Hp) (y : Gh) (ρ : List Sl) (fu : Fu) (P : List Sl → Prop) (Q : L2.St → Hp → Prop),
  St0 K y0 H0 y H σ ρ fu → RpL K y vs ds → w ds ρ P → (∀ σ' ρ', P ρ' → St0 K y0 H0 y H σ' ρ' fu → Tch sl σ σ' → Q σ' H) → g vs σ H Q
structure WGs {ι : Type} (F : ι → Cx) (K : PySem.W.Frag) (tgs : List Expr) (sl : List Nat) (w : WGl) : Prop where
  ex : ∃ g, (∀ i, PGs (F i) tgs g) ∧ RdGl K g sl w

section
variable {ι : Type} {F : ι → Cx} {K : PySem.W.Frag} {e : Expr} {es : List Expr} {wa : WE} {pos : Pos}
def gN (i : Nat) : WG := fun d ρ P => P (ρ.set i (.va d))
theorem wg_name {i : Nat} {x : Str} (h : ∀ k, PG (F k) (.Name x pos) (gName i)) : WGt F K (.Name x pos) [i] (gN i) :=
  ⟨_, h, fun y0 H0 v d σ H y ρ fu P Q s r hw k => k _ _ hw (s.set i r) ⟨by simp, fun j hj => List.getElem?_set_ne fun e => hj (by simp [e])⟩⟩
def glNil : WGl := fun ds ρ P => ds = [] ∧ P ρ
def glCons (g : WG) (gl : WGl) : WGl := fun ds ρ P => ∃ d r, ds = d :: r ∧ g d ρ fun ρ' => gl r ρ' P
theorem wgs_nil : WGs F K [] [] glNil := ⟨_, fun _ => pgs_nil, fun y0 H0 vs ds σ H y ρ fu P Q s r hw k => by
  obtain ⟨rfl, hw⟩ := hw
  cases r
  exact ⟨rfl, k _ _ hw s (Tch.refl _ _)⟩⟩
theorem wgs_cons {g : WG} {gl : WGl} {sl sl' : List Nat} (h1 : WGt F K e sl g) (h2 : WGs F K es sl' gl) (hs : ∀ k, (assignEach (e :: es) (F k).env).map (·.2) = assign e (F k).env :: (assignEach es (F k).env).map (·.2) := by intro _; rfl) : WGs F K (e :: es) (sl ++ sl') (glCons g gl) := by
  obtain ⟨t, p, r1⟩ := h1.ex
  obtain ⟨u, q, r2⟩ := h2.ex
  refine ⟨_, fun k => pgs_cons (p k) (q k) (hs k), fun y0 H0 vs ds σ H y ρ fu P Q s r hw k => ?_⟩
  obtain ⟨d, rr, rfl, hw⟩ := hw
  cases r with
  | cons a b =>
    refine ⟨_, _, rfl, r1 y0 H0 _ d σ H y ρ fu _ _ s a hw fun σ' ρ' h' s' t1 => ?_⟩
    exact r2 y0 H0 _ rr σ' H y ρ' fu P Q s' b h' fun σ2 ρ2 h2 s2 t2 => k σ2 ρ2 h2 s2 (t1.trans t2)
def gT (n : Nat) (gl : WGl) : WG := fun d ρ P => ∃ ds, d = .tup ds ∧ ds.length = n ∧ gl ds ρ P
theorem wg_tup {kk : Nat} {gl : WGl} {n : Nat} {sl : List Nat} (hK : ∀ k, (F k).K = K) (hc : ∀ k, (F k).calm = true) (h : WGs F K es sl gl)
    (hn : ∀ k, (assignEach es (F k).env).length = n := by intro _; rfl) (hst : ∀ k, (assignEach es (F k).env).findIdx? (·.1) = none := by intro _; rfl) : WGt F K (.Tuple es kk pos) sl (gT n gl) := by
  obtain ⟨u, q, r2⟩ := h.ex
  refine ⟨gTup K n u, fun k => by rw [← hK k]; exact pg_tup (hc k) (q k) (hn k) (hst k), fun y0 H0 v d σ H y ρ fu P Q s r hw k => ?_⟩
  obtain ⟨ds, rfl, hl, hw⟩ := hw
  cases r with
  | tup a b =>
    refine ⟨_, _, rfl, sqT_same s.ok.g.sub a, b.length.trans hl, ?_⟩
    exact r2 y0 H0 _ ds σ H y ρ fu P Q s b hw k

/-! ## lists, tuples, ranges, texts -/
def iSeq (wa : WE) : WA := fun ρ fu P => wa ρ fu fun d fu' => ∃ ds, (d = .lst ds ∨ d = .tup ds) ∧ P ds fu'
theorem pres_list {y : Gh} {a : Addr} {xs : List V} {ds : List D} (h : y.g a = some (.lst xs)) (r : RpL K y xs ds) : Pres K y (Itl K a) ds := fun i H1 y1 fu1 x1 g1 => by
  have hS : SqL K H1 a xs := .inl (.inl (g1.sub _ _ (x1.g _ _ h)))
  refine ⟨fun hl => ⟨xs, hS, by rw [r.length]; exact hl⟩, fun d hd => ?_⟩
  obtain ⟨v, hv, rv⟩ := r.get hd
  refine ⟨⟨xs, v, hS, hv⟩, fun x H2 hy => ?_⟩
  obtain ⟨rfl, hy⟩ := hy
  rw [hy xs hS] at hv
  cases hv
  exact ⟨y1, g1, Nx.refl _ _, rv.mono x1⟩
theorem pres_tup {y : Gh} {a : Addr} {xs : List V} {ds : List D} (h : SqT K y.g a xs) (r : RpL K y xs ds) : Pres K y (Itt K a) ds := fun i H1 y1 fu1 x1 g1 => by
  have hS : SqT K H1 a xs := sqT_same g1.sub (sqT_same x1.g h)
  refine ⟨fun hl => ⟨xs, hS, by rw [r.length]; exact hl⟩, fun d hd => ?_⟩
  obtain ⟨v, hv, rv⟩ := r.get hd
  refine ⟨⟨xs, v, hS, hv⟩, fun x H2 hy => ?_⟩
  obtain ⟨rfl, hy⟩ := hy
  rw [hy xs hS] at hv
  cases hv
  exact ⟨y1, g1, Nx.refl _ _, rv.mono x1⟩
def iL (wa : WE) : WA := fun ρ fu P => wa ρ fu fun d fu' => ∃ ds, d = .lst ds ∧ P ds fu'
def iT (wa : WE) : WA := fun ρ fu P => wa ρ fu fun d fu' => ∃ ds, d = .tup ds ∧ P ds fu'
theorem wi_list {tg : Expr} (hK : ∀ k, (F k).K = K) (h : WX F K e wa) : WI F K tg e (iL wa) := by
  obtain ⟨t, p, r⟩ := h.ex
  refine ⟨iList K t, fun k => by rw [← hK k]; exact pi_list (p k), fun σ H y ρ fu P R o hw k => ?_⟩
  refine r σ H y ρ fu _ _ o hw fun d fu' v H' y' h' g' n' r' => ?_
  obtain ⟨ds, rfl, h'⟩ := h'
  cases r' with
  | lst a b => exact ⟨_, rfl, ⟨_, .inl (.inl (g'.sub _ _ a))⟩, k ds fu' _ H' y' h' g' n' (pres_list a b)⟩
theorem wi_tup {tg : Expr} (hK : ∀ k, (F k).K = K) (h : WX F K e wa) : WI F K tg e (iT wa) := by
  obtain ⟨t, p, r⟩ := h.ex
  refine ⟨iTup K t, fun k => by rw [← hK k]; exact pi_tup (p k), fun σ H y ρ fu P R o hw k => ?_⟩
  refine r σ H y ρ fu _ _ o hw fun d fu' v H' y' h' g' n' r' => ?_
  obtain ⟨ds, rfl, h'⟩ := h'
  cases r' with
  | tup a b => exact ⟨_, rfl, ⟨_, sqT_same g'.sub a⟩, k ds fu' _ H' y' h' g' n' (pres_tup a b)⟩
/-- a text's signs -/
def signs (x : Str) : List D := x.cps.toList.map fun c => .str ⟨#[c]⟩
def iS (wa : WE) : WA := fun ρ fu P => wa ρ fu fun d fu' => ∃ x, d = .str x ∧ P (signs x) fu'
theorem wi_str {tg : Expr} (h : WX F K e wa) : WI F K tg e (iS wa) := by
  obtain ⟨t, p, r⟩ := h.ex
  refine ⟨iStr t, fun k => pi_str (p k), fun σ H y ρ fu P R o hw k => ?_⟩
  refine r σ H y ρ fu _ _ o hw fun d fu' v H' y' h' g' n' r' => ?_
  obtain ⟨x, rfl, h'⟩ := h'
  cases r'
  refine ⟨x, rfl, k _ fu' _ H' y' h' g' n' fun i H1 y1 fu1 x1 g1 => ⟨fun hl => ?_, fun d hd => ?_⟩⟩
  · have : x.cps.size ≤ i := by simpa [signs] using hl
    exact this
  · have hd' : (x.cps.toList.map fun c => D.str ⟨#[c]⟩)[i]? = some d := hd
    rw [List.getElem?_map] at hd'
    obtain ⟨c, hc, rfl⟩ := Option.map_eq_some_iff.mp hd'
    have hi : i < x.cps.size := by
      have := (List.getElem?_eq_some_iff.mp hc).1
      simpa using this
    refine ⟨hi, fun v H2 hy => ?_⟩
    obtain ⟨rfl, c', hc', rfl⟩ := hy
    rw [Array.getElem?_toList] at hc
    rw [hc] at hc'
    cases hc'
    exact ⟨y1, g1, Nx.refl _ _, .str _⟩
/-- lo, lo + 1, .. below hi -/
def rng (lo hi : Int) : List D := (List.range (hi - lo).toNat).map fun (k : Nat) => .int (lo + k)
theorem pres_rng {y : Gh} (lo hi : Int) : Pres K y (Itr lo (hi - lo).toNat) (rng lo hi) := fun i H1 y1 fu1 x1 g1 => by
  refine ⟨fun hl => ?_, fun d hd => ?_⟩
  · have : (hi - lo).toNat ≤ i := by simpa [rng] using hl
    exact this
  · have hd' : ((List.range (hi - lo).toNat).map fun (k : Nat) => D.int (lo + k))[i]? = some d := hd
    rw [List.getElem?_map] at hd'
    obtain ⟨c, hc, rfl⟩ := Option.map_eq_some_iff.mp hd'
    obtain ⟨hlt, hc⟩ := List.getElem?_eq_some_iff.mp hc
    have hlt' : i < (hi - lo).toNat := by simpa using hlt
    have hc' : c = i := by simpa using hc.symm
    subst hc'
    refine ⟨hlt', fun v H2 hy => ?_⟩
    obtain ⟨rfl, rfl⟩ := hy
    exact ⟨y1, g1, Nx.refl _ _, .int _⟩
def iR1 (wa : WE) : WA := fun ρ fu P => wa ρ fu fun d fu' => ∃ n : Int, d = .int n ∧ (-(2 ^ 62) ≤ n ∧ n < 2 ^ 62) ∧ P (rng 0 n) fu'
theorem wi_range1 {tg : Expr} {p : Pos} (hg : ∀ k, Gl (F k) "range") (hm : ∀ k, (F k).mg "range" = none) (h : WX F K e wa) (hs : ∀ k, starEach [e] (F k).env = [(false, eval e (F k).env)] := by intro _; rfl)
    (hs' : ∀ k, starEach [e] (F k).env = (false, eval e (F k).env) :: starEach [] (F k).env := by intro _; rfl) : WI F K tg (.Call (.Name "range" p) [e] [] pos) (iR1 wa) := by
  obtain ⟨t, q, r⟩ := h.ex
  refine ⟨_, fun k => pi_range1 (hg k) (hm k) (pa_cons (q k) pa_nil (hs' k)) (hs k), fun σ H y ρ fu P R o hw k => ?_⟩
  refine r σ H y ρ fu _ _ o hw fun d fu' v H' y' h' g' n' r' => ?_
  obtain ⟨n, rfl, ⟨h1, h2⟩, h'⟩ := h'
  cases r'
  have hp : Pres K y' (Itr 0 (n - 0).toNat) (rng 0 n) := pres_rng 0 n
  rw [Int.sub_zero] at hp
  exact ⟨n, rfl, h1, h2, k _ fu' _ H' y' h' g' n' hp⟩
def iR2 (wa wb : WE) : WA := fun ρ fu P => wa ρ fu fun d fu' => wb ρ fu' fun d' fu'' => ∃ m n : Int, d = .int m ∧ d' = .int n ∧ (-(2 ^ 62) ≤ m ∧ m < 2 ^ 62 ∧ -(2 ^ 62) ≤ n ∧ n < 2 ^ 62) ∧ P (rng m n) fu''
theorem wi_range2 {tg e2 : Expr} {wb : WE} {p : Pos} (hg : ∀ k, Gl (F k) "range") (hm : ∀ k, (F k).mg "range" = none) (h : WX F K e wa) (h2 : WX F K e2 wb)
    (hs : ∀ k, starEach [e, e2] (F k).env = [(false, eval e (F k).env), (false, eval e2 (F k).env)] := by intro _; rfl) (hs2 : ∀ k, starEach [e2] (F k).env = [(false, eval e2 (F k).env)] := by intro _; rfl)
    (hs3 : ∀ k, starEach [e, e2] (F k).env = (false, eval e (F k).env) :: starEach [e2] (F k).env := by intro _; rfl) (hs4 : ∀ k, starEach [e2] (F k).env = (false, eval e2 (F k).env) :: starEach [] (F k).env := by intro _; rfl) :
    WI F K tg (.Call (.Name "range" p) [e, e2] [] pos) (iR2 wa wb) := by
  obtain ⟨t, q, r⟩ := h.ex
  obtain ⟨t2, q2, r2⟩ := h2.ex
  refine ⟨_, fun k => pi_range2 (hg k) (hm k) (pa_cons (q k) (pa_cons (q2 k) pa_nil (hs4 k)) (hs3 k)) (hs k) (hs2 k), fun σ H y ρ fu P R o hw k => ?_⟩
  refine r σ H y ρ fu _ _ o hw fun d fu' v H' y' h' g' n' r' => ?_
  refine r2 σ H' y' ρ fu' _ _ (o.next n' g') h' fun d2 fu2 v2 H2 y2 h2 g2 n2 r2 => ?_
  obtain ⟨m, n, rfl, rfl, hb, h2⟩ := h2
  cases r'
  cases r2
  exact ⟨m, n, rfl, hb, k _ fu2 _ H2 y2 h2 g2 (n'.trans n2) (pres_rng m n)⟩
end

/-! ## for -/
section
variable {K : PySem.W.Frag} {y y0 y' : Gh} {H H0 H' : Hp} {σ σ' : L2.St} {ρ ρ' : List Sl} {fu fu' : Fu}
/-- the same from here on -/
theorem St0.here (s : St0 K y0 H0 y H σ ρ fu) : St0 K y H0 y H σ ρ fu := ⟨s.ok, ⟨Gx.refl y, s.nx.frm, s.nx.here, fun _ _ h => h, fun _ h => .inl h⟩, s.ow⟩
theorem nx_back (n : Nx y0 H0 y H) (n' : Nx y H0 y' H') : Nx y0 H0 y' H' := by
  refine ⟨n.x.trans n'.x, n'.frm, n'.here, fun a h k => n'.out a h (n.out a h k), fun p h => ?_⟩
  rcases n'.new p h with q | q
  · exact n.new p q
  · exact .inr q
theorem St0.back (n : Nx y0 H0 y H) (s : St0 K y H0 y' H' σ' ρ' fu') : St0 K y0 H0 y' H' σ' ρ' fu' := ⟨s.ok, nx_back n s.nx, s.ow⟩
/-- .. for a part of a body, where what it grows is wanted -/
theorem Sim.here {B : DEnds} {E : Ends} (n : Nx y0 H0 y H) (m : Sim K y0 H0 B E) : Sim K y H0 B E :=
  ⟨fun σ ρ fu H y h s => m.nx σ ρ fu H y h (s.back n), fun d fu v H y h g k r => m.rt d fu v H y h g (nx_back n k) r, fun σ ρ fu H y h s => m.bk σ ρ fu H y h (s.back n), fun σ ρ fu H y h s => m.ct σ ρ fu H y h (s.back n)⟩
end
section
variable {X : Cx} {pos : Pos}
def zLoop (g : WG) (w : WS) (B : DEnds) : List D → List Sl → Fu → Prop
  | [], ρ, fu => B.nx ρ fu
  | d :: ds, ρ, fu => g d ρ fun ρ' => w { nx := zLoop g w B ds, rt := B.rt, bk := B.nx, ct := zLoop g w B ds } ρ' fu
def zFor (wi : WA) (g : WG) (w : WS) : WS := fun B ρ fu => wi ρ fu fun ds fu' => zLoop g w B ds ρ fu'
theorem zt_for {tg iter : Expr} {body : List Stmt} {sl : List Nat} {wi : WA} {g : WG} {w : WS} (hp : PassesOwn (model X.prog X.w) X.A X.env X.xe) (hc : X.calm = true) (hi : WI (U1 X) X.K tg iter wi) (hg : WGt (U1 X) X.K tg sl g) (hb : WSs X body w)
    (hs : ∀ x, foldedSetIterable iter X.env x = pure x := by intro _; rfl) : WSt X (.For tg iter body [] pos) (zFor wi g w) := by
  obtain ⟨ti, pi, ri⟩ := hi.ex
  obtain ⟨tg', pg, rg⟩ := hg.ex
  obtain ⟨tb, pb, rb⟩ := hb.ex
  refine ⟨_, ps_for hp hc (pi ()) (pg ()) pb hs, fun y0 H0 σ H y ρ fu B E s hw m => ?_⟩
  refine ri σ H y ρ fu _ _ s.ok hw fun ds fu1 J H1 y1 h1 g1 n1 pr => ?_
  refine ⟨fun i n σ H => ∃ y ρ fu, St0 X.K y0 H0 y H σ ρ fu ∧ Gx y1 y ∧ i ≤ ds.length ∧ n = ds.length - i ∧ zLoop g w B (ds.drop i) ρ fu, ⟨ds.length, y1, ρ, fu1, s.next n1 g1, Gx.refl _, Nat.zero_le _, rfl, h1⟩, ?_⟩
  rintro i n σ2 H2 ⟨y2, ρ2, fu2, s2, x2, hi2, rfl, hz⟩
  obtain ⟨pst, pgo⟩ := pr i H2 y2 fu2 x2 s2.ok.g
  by_cases hlt : i < ds.length
  · rw [List.drop_eq_getElem_cons hlt] at hz
    obtain ⟨go, hy⟩ := pgo ds[i] (List.getElem?_eq_getElem hlt)
    refine .inr ⟨go, fun σ' H' => ∃ y' ρ' fu', St0 X.K y0 H0 y' H' σ' ρ' fu' ∧ Gx y1 y' ∧ zLoop g w B (ds.drop (i + 1)) ρ' fu', ?_, fun x H3 yl => ?_⟩
    · rintro σ' H' ⟨y', ρ', fu', s', x', hz'⟩
      exact ⟨ds.length - (i + 1), by omega, y', ρ', fu', s', x', hlt, rfl, hz'⟩
    · obtain ⟨y3, g3, n3, r3⟩ := hy x H3 yl
      refine rg y0 H0 x _ σ2 H3 y3 ρ2 fu2 _ _ (s2.next n3 g3) r3 hz fun σ4 ρ4 h4 s4 _ => ?_
      refine rb y3 H0 σ4 H3 y3 ρ4 fu2 _ _ s4.here h4 ⟨fun σ5 ρ5 fu5 H5 y5 h5 s5 => ?_, fun d fu v H y h g k r => ?_, fun σ5 ρ5 fu5 H5 y5 h5 s5 => ?_, fun σ5 ρ5 fu5 H5 y5 h5 s5 => ?_⟩
      · exact ⟨y5, ρ5, fu5, s5.back s4.nx, (x2.trans n3.x).trans s5.nx.x, h5⟩
      · exact m.rt d fu v H y h g (nx_back s4.nx k) r
      · exact m.nx σ5 ρ5 fu5 H5 y5 h5 (s5.back s4.nx)
      · exact ⟨y5, ρ5, fu5, s5.back s4.nx, (x2.trans n3.x).trans s5.nx.x, h5⟩
  · have e : i = ds.length := by omega
    subst e
    rw [List.drop_length] at hz
    exact .inl ⟨pst (Nat.le_refl _), m.nx σ2 ρ2 fu2 H2 y2 hz s2⟩
end
end Z
namespace Z
open PySem PySem.Spec L2

/-! ## comprehensions -/
def wipeD (ρ : List Sl) : List Nat → List Sl
  | [] => ρ
  | v :: vs => (wipeD ρ vs).set v .un
section
variable {K : PySem.W.Frag} {y y0 y' : Gh} {H H0 H' : Hp} {σ σ' : L2.St} {ρ ρ' : List Sl} {fu fu' : Fu}
theorem Ok.unset (o : Ok K y H σ ρ fu) (i : Nat) : Ok K y H (σ.set i none) (ρ.set i .un) fu := by
  refine ⟨o.g, by simpa using o.len, fun j d h => ?_, fun j ds h => ?_, fun j k ds es a h1 h2 h3 h4 => ?_⟩
  · rcases get_set_un h with ⟨_, e⟩ | ⟨ne, h⟩
    · cases e
    · obtain ⟨v, q1, q2⟩ := o.va j d h
      exact ⟨v, by rw [List.getElem?_set_ne ne]; exact q1, q2⟩
  · rcases get_set_un h with ⟨_, e⟩ | ⟨ne, h⟩
    · cases e
    · obtain ⟨a, vs, q1, q2⟩ := o.ow j ds h
      exact ⟨a, vs, by rw [List.getElem?_set_ne ne]; exact q1, q2⟩
  · rcases get_set_un h1 with ⟨_, e⟩ | ⟨n1, h1⟩
    · cases e
    · rcases get_set_un h2 with ⟨_, e⟩ | ⟨n2, h2⟩
      · cases e
      · rw [List.getElem?_set_ne n1] at h3
        rw [List.getElem?_set_ne n2] at h4
        exact o.sep j k ds es a h1 h2 h3 h4
theorem Ok.wipe (o : Ok K y H σ ρ fu) : ∀ vs : List Nat, Ok K y H (L2.wipe σ vs) (wipeD ρ vs) fu
  | [] => o
  | v :: vs => (o.wipe vs).unset v
/-- a state, seen from nowhere -/
def y00 : Gh := ⟨fun _ => none, none⟩
def H00 : Hp := fun _ => none
theorem Ok.st (o : Ok K y H σ ρ fu) : St0 K y00 H00 y H σ ρ fu := by
  refine ⟨o, ⟨⟨fun a u h => ?_, fun p h => ?_⟩, fun a u h _ => ?_, fun a h => absurd rfl h, fun a h => absurd rfl h, fun _ _ => .inr ⟨rfl, rfl⟩⟩, fun _ _ _ _ _ => rfl⟩
  · have h' : (none : Option HO) = some u := h
    cases h'
  · have h' : (none : Option (Addr × Addr)) = some p := h
    cases h'
  · have h' : (none : Option HO) = some u := h
    cases h'
theorem wipe_get {vs : List Nat} : ∀ {i : Nat}, i ∉ vs → (L2.wipe σ vs)[i]? = σ[i]? := by
  induction vs with
  | nil => intro i _; rfl
  | cons v vs ih =>
    intro i h
    show ((L2.wipe σ vs).set v none)[i]? = _
    rw [List.getElem?_set_ne (fun e => h (by simp [e]))]
    exact ih fun k => h (List.mem_cons_of_mem _ k)
theorem wipe_in {vs : List Nat} : ∀ {i : Nat}, i ∈ vs → (L2.wipe σ vs)[i]? = if i < σ.length then some none else none := by
  induction vs with
  | nil => intro i h; simp at h
  | cons v vs ih =>
    intro i h
    show ((L2.wipe σ vs).set v none)[i]? = _
    by_cases e : v = i
    · subst e
      by_cases hl : v < σ.length
      · rw [List.getElem?_set_self (by rw [wipe_length]; exact hl), if_pos hl]
      · rw [if_neg hl, List.getElem?_eq_none_iff]
        rw [List.length_set, wipe_length]
        omega
    · rw [List.getElem?_set_ne e]
      refine ih ?_
      rcases List.mem_cons.mp h with h | h
      · exact absurd h.symm e
      · exact h
theorem wipe_tch {sl vs : List Nat} (t : Tch sl (L2.wipe σ vs) σ') (h : ∀ i ∈ sl, i ∈ vs) : L2.wipe σ' vs = L2.wipe σ vs := by
  have hl : σ'.length = σ.length := t.1.trans (wipe_length _ _)
  refine List.ext_getElem? fun i => ?_
  by_cases hi : i ∈ vs
  · rw [wipe_in hi, wipe_in hi, hl]
  · rw [wipe_get hi, t.2 i fun k => hi (h i k)]
theorem GOk.put {p : Addr} {o : HO} (g : GOk y H fu) (z1 : y.g p = none) (z2 : Nsr y p) : GOk y (upd H p o) fu := by
  refine ⟨fun b u e => ?_, ?_⟩
  · rw [upd_ne (ne_of_none e z1)]
    exact g.sub b u e
  · have gs := g.src
    cases fu with
    | none => exact gs
    | some n =>
      obtain ⟨a, c, e1, e2, e3, e0, ns, t, m, k1, k2, k3⟩ := gs
      obtain ⟨n1, n2⟩ := z2 _ e1
      exact ⟨a, c, e1, e2, e3, e0, ns, t, m, by rw [upd_ne (Ne.symm n1)]; exact k1, by rw [upd_ne (Ne.symm n2)]; exact k2, k3⟩
theorem Nx.put {p : Addr} {o : HO} (n : Nx y H y' H') (h : H p = none) : Nx y H y' (upd H' p o) := by
  refine ⟨n.x, fun a u e k => ?_, fun a e => ?_, n.out, n.new⟩
  · rw [upd_ne (ne_of_none e h)]
    exact n.frm a u e k
  · by_cases na : a = p
    · rw [na, upd_same]; simp
    · rw [upd_ne na]; exact n.here a e
theorem Nx.was {p : Addr} (n : Nx y H y' H') (h : H' p = none) : H p = none := by
  cases e : H p with
  | none => rfl
  | some u => exact absurd h (n.here p (by rw [e]; simp))
end

def lcLoop (g : WG) (u : WT) (we : WE) (ρ : List Sl) (P : List D → Fu → Prop) : List D → List D → Fu → Prop
  | [], acc, fu => P acc fu
  | d :: ds, acc, fu => g d ρ fun ρ' => u ρ' fu fun k fu1 => if k = true then we ρ' fu1 fun d' fu2 => acc.length < sizeLine ∧ lcLoop g u we ρ P ds (acc ++ [d']) fu2 else lcLoop g u we ρ P ds acc fu1
def wLc (wi : WA) (g : WG) (u : WT) (we : WE) (vs : List Nat) : WA := fun ρ fu P => wi ρ fu fun ds fu1 => lcLoop g u we (wipeD ρ vs) P ds [] fu1
theorem rd_lc {K : PySem.W.Frag} {wi : WA} {g : WG} {u : WT} {we : WE} {vs sl : List Nat} {ti : TI} {tg : TG} {tt : TT} {te : TE} (ri : RdI K ti wi) (rg : RdG K tg sl g) (rt : RdT K tt u) (re : RdE K te we) (hv : ∀ i ∈ sl, i ∈ vs) :
    RdL K (tLc ti tg tt te vs) (wLc wi g u we vs) := fun σ H y ρ fu P Q o hw k => by
  refine ri σ H y ρ fu _ _ o hw fun ds fu1 J H1 y1 h1 g1 n1 pr D nD => ?_
  have hD : H D = none := n1.was nD
  refine ⟨fun i n Hh => ∃ y2 fu2 av ad, GOk y2 Hh fu2 ∧ Nx y H y2 Hh ∧ Gx y1 y2 ∧ y2.g D = none ∧ Hh D = some (.lst av) ∧ Nsr y2 D ∧ RpL K y2 av ad ∧ i ≤ ds.length ∧ n = ds.length - i ∧ lcLoop g u we (wipeD ρ vs) P (ds.drop i) ad fu2, ?_, ?_⟩
  · obtain ⟨g2, n2, z1, z2⟩ := alone (o := .lst []) g1 nD
    exact ⟨ds.length, y1, fu1, [], [], g2, n1.trans n2, Gx.refl _, z1, upd_same, z2, .nil, Nat.zero_le _, rfl, h1⟩
  rintro i n Hh ⟨y2, fu2, av, ad, g2, n2, x2, z1, hl, z2, ra, hi, rfl, hz⟩
  obtain ⟨pst, pgo⟩ := pr i Hh y2 fu2 x2 g2
  by_cases hlt : i < ds.length
  · rw [List.drop_eq_getElem_cons hlt] at hz
    obtain ⟨go, hy⟩ := pgo ds[i] (List.getElem?_eq_getElem hlt)
    refine .inr ⟨go, fun H' => ∃ y2 fu2 av ad, GOk y2 H' fu2 ∧ Nx y H y2 H' ∧ Gx y1 y2 ∧ y2.g D = none ∧ H' D = some (.lst av) ∧ Nsr y2 D ∧ RpL K y2 av ad ∧ lcLoop g u we (wipeD ρ vs) P (ds.drop (i + 1)) ad fu2, ?_, fun x H3 yl => ?_⟩
    · rintro H' ⟨y', fu', av', ad', q1, q2, q3, q4, q5, q6, q7, q8⟩
      exact ⟨ds.length - (i + 1), by omega, y', fu', av', ad', q1, q2, q3, q4, q5, q6, q7, hlt, rfl, q8⟩
    · obtain ⟨y3, g3, n3, r3⟩ := hy x H3 yl
      have hh : Hh D ≠ none := by rw [hl]; simp
      have o3 : Ok K y3 H3 (L2.wipe σ vs) (wipeD ρ vs) fu2 := (o.wipe vs).next (n2.trans n3) g3
      refine rg y00 H00 x _ _ H3 y3 _ fu2 _ _ o3.st r3 hz fun σ4 ρ4 h4 s4 t4 => ⟨wipe_tch t4 hv, ?_⟩
      refine rt σ4 H3 y3 ρ4 fu2 _ _ s4.ok h4 fun b fu5 H5 y5 h5 g5 n5 => ?_
      have z5 : y5.g D = none := n5.out D (n3.here D hh) (n3.out D hh z1)
      have w3 : Nsr y3 D := z2.next n3 hh
      have w5 : Nsr y5 D := w3.next n5 (n3.here D hh)
      have l5 : H5 D = some (.lst av) := n5.frm D _ (n3.frm D _ hl w3) w5
      cases b with
      | false =>
        rw [if_neg Bool.false_ne_true] at h5 ⊢
        exact ⟨y5, fu5, av, ad, g5, (n2.trans n3).trans n5, (x2.trans n3.x).trans n5.x, z5, l5, w5, (ra.mono n3.x).mono n5.x, h5⟩
      | true =>
        rw [if_pos rfl] at h5 ⊢
        refine re σ4 H5 y5 ρ4 fu5 _ _ (s4.ok.next n5 g5) h5 fun d6 fu6 v6 H6 y6 h6 g6 n6 r6 => ?_
        have hh5 : H5 D ≠ none := by rw [l5]; simp
        have w6 : Nsr y6 D := w5.next n6 hh5
        have z6 := n6.out D hh5 z5
        have ra6 : RpL K y6 av ad := ((ra.mono n3.x).mono n5.x).mono n6.x
        refine ⟨av, n6.frm D _ l5 w6, by rw [ra6.length]; exact h6.1, y6, fu6, av ++ [v6], ad ++ [d6], g6.put z6 w6, (((n2.trans n3).trans n5).trans n6).put hD, ((x2.trans n3.x).trans n5.x).trans n6.x, z6, upd_same, w6, ra6.append (.cons r6 .nil), h6.2⟩
  · have e : i = ds.length := by omega
    subst e
    rw [List.drop_length] at hz
    exact .inl ⟨pst (Nat.le_refl _), k ad fu2 D av Hh y2 hz g2 n2 z1 hD hl z2 ra⟩

/-- the contexts of a comprehension's block -/
abbrev FB {ι : Type} (F : ι → Cx) (sc : Scope) : ι × Shared × Hp × Addr × List (Str × Addr) × List Addr → Cx := fun p => (F p.1).blk p.2.1 p.2.2.1 sc (compEnvC sc p.2.2.2.2.1 p.2.2.2.1 (F p.1).env) p.2.2.2.2.2
structure WIf {ι : Type} (F : ι → Cx) (K : PySem.W.Frag) (ifs : List Expr) (w : WT) : Prop where
  ex : ∃ t, (∀ i, PTs (F i) ifs t) ∧ RdT K t w
section
variable {ι : Type} {F : ι → Cx} {K : PySem.W.Frag} {c : Expr} {u : WT} {pos : Pos}
def wYes : WT := fun _ fu P => P true fu
theorem wf_nil : WIf F K [] wYes := ⟨_, fun _ => pts_nil, fun σ H y ρ fu P Q o hw k => k true fu H y hw o.g (Nx.refl y H)⟩
theorem wf_one (h : WTs F K c u) : WIf F K [c] u := let ⟨_, p, r⟩ := h.ex; ⟨_, fun k => pts_one (p k), r⟩
variable {elt tg iter : Expr} {ifs : List Expr} {scope : Scope} {own : List (Str × Nat)} {wi : WA} {g : WG} {we : WE} {sl : List Nat}
theorem wl_lc (hc : ∀ k, (F k).calm = true) (hN : ∀ k, (F k).N.Nodup) (hi : WI F K tg iter wi) (ok : ∀ k, BlkOk (F k).N (F k).env.scope scope own) (hg : WGt (FB F scope) K tg sl g) (ht : WIf (FB F scope) K ifs u) (he : WX (FB F scope) K elt we)
    (hv : ∀ i ∈ sl, i ∈ own.map (·.2) := by decide) (hs : ∀ k x, foldedSetIterable iter (F k).env x = pure x := by intro _ _; rfl) :
    WLs F K (.ListComp elt [⟨tg, iter, ifs, 0⟩] scope pos) (wLc wi g u we (own.map (·.2))) := by
  obtain ⟨ti, pi, ri⟩ := hi.ex
  obtain ⟨g', pg, rg⟩ := hg.ex
  obtain ⟨tt, pt, rt⟩ := ht.ex
  obtain ⟨te, pe, re⟩ := he.ex
  exact ⟨_, fun k => pe_lc (hc k) (hN k) (pi k) (ok k) (fun s H C cl fp => pg (k, s, H, C, cl, fp)) (fun s H C cl fp => pt (k, s, H, C, cl, fp)) (fun s H C cl fp => pe (k, s, H, C, cl, fp)) (hs k), rd_lc ri rg rt re hv⟩
end
section
variable {X : Cx} {elt tg iter : Expr} {ifs : List Expr} {scope : Scope} {own : List (Str × Nat)} {wi : WA} {g : WG} {we : WE} {sl : List Nat} {u : WT} {pos py spos : Pos} {x : Str} {i : Nat}
/-- x = [..], x a local: as a new list -/
theorem zt_setLcL (hc : X.calm = true) (hN : X.N.Nodup) (hy : X.N[i]? = some x) (hyl : X.env.scope.names.lookup x = some .local)
    (hsw : swapsWith (.ListComp elt [⟨tg, iter, ifs, 0⟩] scope pos) (some (.Name x py)) spos.line X.env = pure true) (hi : WI (U1 X) X.K tg iter wi) (ok : BlkOk X.N X.env.scope scope own) (hg : WGt (FB (U1 X) scope) X.K tg sl g) (ht : WIf (FB (U1 X) scope) X.K ifs u)
    (he : WX (FB (U1 X) scope) X.K elt we) (hv : ∀ i ∈ sl, i ∈ own.map (·.2) := by decide) (hs : ∀ x, foldedSetIterable iter X.env x = pure x := by intro _; rfl) :
    WSt X (.Assign [.Name x py] (.ListComp elt [⟨tg, iter, ifs, 0⟩] scope pos) spos) (zSetL i (wLc wi g u we (own.map (·.2)))) := by
  obtain ⟨ti, pi, ri⟩ := hi.ex
  obtain ⟨g', pg, rg⟩ := hg.ex
  obtain ⟨tt, pt, rt⟩ := ht.ex
  obtain ⟨te, pe, re⟩ := he.ex
  exact ⟨_, ps_setLc hc hN hy hyl hsw (pi ()) ok (fun s H C cl fp => pg ((), s, H, C, cl, fp)) (fun s H C cl fp => pt ((), s, H, C, cl, fp)) (fun s H C cl fp => pe ((), s, H, C, cl, fp)) hs, rd_setL i (rd_lc ri rg rt re hv)⟩
/-- .. as a value that stays -/
theorem zt_setLc (hc : X.calm = true) (hN : X.N.Nodup) (hy : X.N[i]? = some x) (hyl : X.env.scope.names.lookup x = some .local)
    (hsw : swapsWith (.ListComp elt [⟨tg, iter, ifs, 0⟩] scope pos) (some (.Name x py)) spos.line X.env = pure true) (hi : WI (U1 X) X.K tg iter wi) (ok : BlkOk X.N X.env.scope scope own) (hg : WGt (FB (U1 X) scope) X.K tg sl g) (ht : WIf (FB (U1 X) scope) X.K ifs u)
    (he : WX (FB (U1 X) scope) X.K elt we) (hv : ∀ i ∈ sl, i ∈ own.map (·.2) := by decide) (hs : ∀ x, foldedSetIterable iter X.env x = pure x := by intro _; rfl) :
    WSt X (.Assign [.Name x py] (.ListComp elt [⟨tg, iter, ifs, 0⟩] scope pos) spos) (zSet i (wFz (wLc wi g u we (own.map (·.2))))) := by
  obtain ⟨ti, pi, ri⟩ := hi.ex
  obtain ⟨g', pg, rg⟩ := hg.ex
  obtain ⟨tt, pt, rt⟩ := ht.ex
  obtain ⟨te, pe, re⟩ := he.ex
  exact ⟨_, ps_setLc hc hN hy hyl hsw (pi ()) ok (fun s H C cl fp => pg ((), s, H, C, cl, fp)) (fun s H C cl fp => pt ((), s, H, C, cl, fp)) (fun s H C cl fp => pe ((), s, H, C, cl, fp)) hs, rd_set i (rd_fz (rd_lc ri rg rt re hv))⟩
end
end Z
namespace Z
open PySem PySem.Spec L2
open PyProof.Rows (envOfC)

/-! ## defs -/
abbrev WF := List D → Fu → KD → Prop
/-- the def at f does what wf says, where nothing is being shown around it -/
structure FnG (P : Program) (w : World) (K : PySem.W.Frag) (mg : Str → Option Value) (base : Heap) (k : Nat) (f : Addr) (fd : FuncData) (ps : List Str) (wf : WF) : Prop where
  run : ∀ (A : Around) (outer : List Env) (s : Shared) (H : Hp) (args : Args) (us : List Value) (vs : List V) (ds : List D) (y : Gh) (fu : Fu) (Pd : KD) (Q : VK),
    Room k A → A.guards = some [] → Env0 P w K mg base A outer s H → BindsTo s fd args (ps.zip us) → Vals vs us → vs.length = ps.length → GOk y H fu → RpL K y vs ds → wf ds fu Pd →
    (∀ d fu' v H' y', Pd d fu' → GOk y' H' fu' → Nx y H y' H' → Rp K y' v d → Q v H') →
    codeAny (model P w) A (.call (.ref f) args) (CR CX0 outer P w H s Q E0) s
theorem FnG.up {P : Program} {w : World} {K : PySem.W.Frag} {mg : Str → Option Value} {base : Heap} {j k : Nat} {f : Addr} {fd : FuncData} {ps : List Str} {wf : WF} (F : FnG P w K mg base j f fd ps wf) (h : j ≤ k) : FnG P w K mg base k f fd ps wf :=
  ⟨fun A o s H args us vs ds y fu Pd Q r g e b v l go rp hw q => F.run A o s H args us vs ds y fu Pd Q (r.mono h) g e b v l go rp hw q⟩
/-- a promise that is easier to use -/
theorem FnG.as {P : Program} {w : World} {K : PySem.W.Frag} {mg : Str → Option Value} {base : Heap} {k : Nat} {f : Addr} {fd : FuncData} {ps : List Str} {wf wf' : WF} (F : FnG P w K mg base k f fd ps wf) (h : ∀ ds fu Q, wf' ds fu Q → wf ds fu Q) : FnG P w K mg base k f fd ps wf' :=
  ⟨fun A o s H args us vs ds y fu Pd Q r g e b v l go rp hw q => F.run A o s H args us vs ds y fu Pd Q r g e b v l go rp (h _ _ _ hw) q⟩

/-- the slots at a def's entry -/
def startD (N : List Str) (ds : List D) : List Sl := ds.map .va ++ List.replicate (N.length - ds.length) .un
def wFn (N : List Str) (wb : WS) : WF := fun ds fu P => wb { nx := fun _ fu' => P .non fu', rt := P, bk := fun _ _ => False, ct := fun _ _ => False } (startD N ds) fu

theorem ok_start {K : PySem.W.Frag} {y : Gh} {H : Hp} {fu : Fu} {N : List Str} {vs : List V} {ds : List D} (g : GOk y H fu) (r : RpL K y vs ds) : Ok K y H (L2.start N vs) (startD N ds) fu := by
  have hl := r.length
  have hva : ∀ (i : Nat) (z : Sl), (startD N ds)[i]? = some z → z = .un ∨ ∃ d, ds[i]? = some d ∧ z = .va d := fun i z h => by
    unfold startD at h
    by_cases hi : i < ds.length
    · rw [List.getElem?_append_left (by simpa using hi), List.getElem?_map] at h
      obtain ⟨d, hd, rfl⟩ := Option.map_eq_some_iff.mp h
      exact .inr ⟨d, hd, rfl⟩
    · rw [List.getElem?_append_right (by simp; omega), List.getElem?_replicate] at h
      split at h
      · cases h; exact .inl rfl
      · cases h
  refine ⟨g, by simp [L2.start, startD, hl], fun i d h => ?_, fun i es h => ?_, fun i j es fs a h1 h2 h3 h4 => ?_⟩
  · rcases hva i _ h with e | ⟨d', hd, e⟩
    · cases e
    · cases e
      obtain ⟨v, hv, rv⟩ := r.get hd
      refine ⟨v, ?_, rv⟩
      have hi := (List.getElem?_eq_some_iff.mp hv).1
      unfold L2.start
      rw [List.getElem?_append_left (by simpa using hi), List.getElem?_map, hv]
      rfl
  · rcases hva i _ h with e | ⟨d', hd, e⟩ <;> cases e
  · rcases hva i _ h1 with e | ⟨d', hd, e⟩ <;> cases e

section
variable {P : Program} {w : World} {K : PySem.W.Frag} {mg : Str → Option Value} {base : Heap}
/-- the context in which a def's body runs -/
abbrev cxB (P : Program) (w : World) (K : PySem.W.Frag) (mg : Str → Option Value) (base : Heap) (N : List Str) (qual : Str) (sc : Scope) (f : Addr) (cdv : Value) (A : Around) (outer : List Env) (s : Shared) (H : Hp) : Cx :=
  (cxOf CX0 P w K mg base N qual sc f cdv A outer s H E0).nox
/-- THE RULE for a def, by any reading of its body -/
theorem FnG.ofH {x qual : Str} {st : Stmt} {f : Addr} {fd : FuncData} {N ps : List Str} {k : Nat} (F : Fun K x qual st f fd) (S : FnScope N ps (defScope st)) {wf : WF}
    (hbody : ∀ (cdv : Value) (A : Around) (outer : List Env) (s : Shared) (H : Hp) (vs : List V) (ds : List D) (y : Gh) (fu : Fu) (Pd : KD) (Q : VK), Room k (A.deeper (envOfC qual (defScope st) s.heap.objs.size f cdv)) →
      (A.deeper (envOfC qual (defScope st) s.heap.objs.size f cdv)).guards = some [] → vs.length = ps.length → GOk y H fu → RpL K y vs ds → wf ds fu Pd → (∀ d fu' v H' y', Pd d fu' → GOk y' H' fu' → Nx y H y' H' → Rp K y' v d → Q v H') →
      ∃ t, PSs (cxB P w K mg base N qual (defScope st) f cdv A outer s H) (defBody st) t ∧ t { nx := fun _ H' => Q .non H', rt := Q } (L2.start N vs) H) :
    FnG P w K mg base (k + 1) f fd ps wf := by
  obtain ⟨oc, od, kV, doc, pm, an, cdv, ct, osl, rfl, lk, hcd⟩ := F.ex
  refine ⟨fun A outer s H args us vs ds y fu Pd Q hr hg e0 hb rv hl go rp hw q => ?_⟩
  have KX : K.In s.heap := e0.mod.kin.keeps fun b o e => (e0.bs b o e).1
  have lim : s.heap.NoLimit := e0.mod.nolimit.keeps fun b o e => (e0.bs b o e).1
  have kinds : ∀ z ∈ ps.zip us, (defScope st).names.lookup z.1 = some .local ∨ ((defScope st).names.lookup z.1 = some .cell ∧ ((cellsFrom (s.heap.objs.size + 1) (defScope st).names []).lookup z.1).isSome = true) := by
    rintro ⟨n, v⟩ hz
    rcases S.par n (List.of_mem_zip hz).1 with h | h
    · exact .inl h
    · exact .inr ⟨h, PySem.W.cellsFrom_some _ _ _ (.inl h)⟩
  refine codeAny_call_function hr.depth (KX _ _ lk) rfl S.co S.gen rfl (PySem.W.codeRec_of KX hcd) (hb _ _ _ _ ?_)
  refine wpAny_newFunctionEnv_cells S.kind kinds fun env he s1 x => ?_
  subst he
  refine ⟨lim.keeps x.toInCall.keep, codeAny_func ?_⟩
  have hgd : (A.deeper (envOfC qual (defScope st) s.heap.objs.size f cdv)).guards = some [] := by
    first
      | exact hg
      | (simp only [Around.deeper]; exact hg)
      | (simp [Around.deeper, hg])
  obtain ⟨t, ht, hq⟩ := hbody cdv A outer s H vs ds y fu Pd Q (hr.deeper _) hgd hl go rp hw q
  have I := inv_start (CX := CX0) (E := E0) (cd := cdv) (qual := qual) (f := f) S hr.hd e0 hl rv x
  refine wpAny_mono (ht.nox.run [] s1 (L2.start N vs) H _ I hq) (fun fl s' hs => ?_) fun e s' hs => hs
  have fin : ∀ {σ' : L2.St} {H' : Hp} {v : V} {u : Value}, Inv (cxOf CX0 P w K mg base N qual (defScope st) f cdv A outer s H E0) [] σ' H' s' → RelV v u → Q v H' → CE outer P w H s Q u s' :=
    fun J r1 r2 => ⟨_, _, J.os, J.bare, J.base, J.hok, r1, r2⟩
  cases fl with
  | ret u =>
    obtain ⟨v, σ', H', J, r1, r2⟩ := hs
    exact fin J r1 r2
  | next =>
    obtain ⟨σ', H', J, r2⟩ := hs
    exact fin (v := V.non) (u := Value.none) J rfl r2
  | brk =>
    obtain ⟨_, _, _, z⟩ := hs
    exact z.elim
  | cont =>
    obtain ⟨_, _, _, z⟩ := hs
    exact z.elim
/-- THE RULE for a def -/
theorem FnG.of {x qual : Str} {st : Stmt} {f : Addr} {fd : FuncData} {N ps : List Str} {k : Nat} (F : Fun K x qual st f fd) (S : FnScope N ps (defScope st)) {wb : WS}
    (hbody : ∀ (cdv : Value) (A : Around) (outer : List Env) (s : Shared) (H : Hp), Room k (A.deeper (envOfC qual (defScope st) s.heap.objs.size f cdv)) → (A.deeper (envOfC qual (defScope st) s.heap.objs.size f cdv)).guards = some [] →
      WSs (cxB P w K mg base N qual (defScope st) f cdv A outer s H) (defBody st) wb) :
    FnG P w K mg base (k + 1) f fd ps (wFn N wb) := by
  refine FnG.ofH F S fun cdv A outer s H vs ds y fu Pd Q hr hgd hl go rp hw q => ?_
  obtain ⟨t, ht, rd⟩ := (hbody cdv A outer s H hr hgd).ex
  refine ⟨t, ht, rd y H (L2.start N vs) H y (startD N ds) fu _ _ ⟨ok_start go rp, Nx.refl y H, fun i es a h1 _ => by
      unfold startD at h1
      by_cases hi : i < ds.length
      · rw [List.getElem?_append_left (by simpa using hi), List.getElem?_map] at h1
        obtain ⟨d, _, e⟩ := Option.map_eq_some_iff.mp h1
        cases e
      · rw [List.getElem?_append_right (by simp; omega), List.getElem?_replicate] at h1
        split at h1 <;> cases h1⟩ hw
    ⟨fun σ' ρ' fu' H' y' h s' => q .non fu' .non H' y' h s'.ok.g s'.nx .non, fun d fu' v H' y' h g' n' r' => q d fu' v H' y' h g' n' r', fun _ _ _ _ _ h _ => h.elim, fun _ _ _ _ _ h _ => h.elim⟩⟩
end

/-! ## calls of defs -/
section
variable {ι : Type} {F : ι → Cx} {K : PySem.W.Frag} {k : Nat} {f : Addr} {fd : FuncData} {ps ks : List Str} {wf : WF} {x : Str} {p pos : Pos} {e : Expr} {es : List Expr} {kws : List Keyword} {v vk : WA}
theorem run_g {X : Cx} {pins : List (Addr × Obj)} {σ : L2.St} {H : Hp} {s : Shared} {Q : VK} {args : Args} {us : List Value} {vs : List V} {ds : List D} {y : Gh} {fu : Fu} {Pd : KD}
    (G : FnG X.prog X.w X.K X.mg X.base k f fd ps wf) (hr : Room k X.A) (hgd : X.A.guards = some []) (I : Inv X pins σ H s) (hb : BindsTo s fd args (ps.zip us)) (r : Vals vs us) (hl : vs.length = ps.length) (go : GOk y H fu) (rp : RpL X.K y vs ds) (hw : wf ds fu Pd)
    (q : ∀ d fu' v H' y', Pd d fu' → GOk y' H' fu' → Nx y H y' H' → Rp X.K y' v d → Q v H') : wpAny (model X.prog X.w) X.A (call (.ref f) args.pos args.kw) (EP X pins σ Q) X.xe s := by
  refine wpAny_call (codeAny_mono (G.run X.A X.stack s H args us vs ds y fu Pd Q hr hgd I.env0 hb r hl go rp hw q) fun res s' hq => ?_)
  cases res with
  | error e => exact False.elim hq
  | ok fl =>
    cases fl with
    | ret u => exact I.after hq
    | next => exact False.elim hq
    | brk => exact False.elim hq
    | cont => exact False.elim hq
end

/-- what all contexts of a family share -/
structure Cxs {ι : Type} (F : ι → Cx) (P : Program) (w : World) (K : PySem.W.Frag) (mg : Str → Option Value) (base : Heap) (k : Nat) : Prop where
  prog : ∀ i, (F i).prog = P
  w : ∀ i, (F i).w = w
  K : ∀ i, (F i).K = K
  mg : ∀ i, (F i).mg = mg
  base : ∀ i, (F i).base = base
  calm : ∀ i, (F i).calm = true
  room : ∀ i, Room k (F i).A
  grd : ∀ i, (F i).A.guards = some []
theorem Cxs.blk {ι : Type} {F : ι → Cx} {P : Program} {w : World} {K : PySem.W.Frag} {mg : Str → Option Value} {base : Heap} {k : Nat} (C : Cxs F P w K mg base k) (sc : Scope) : Cxs (FB F sc) P w K mg base k :=
  ⟨fun i => C.prog i.1, fun i => C.w i.1, fun i => C.K i.1, fun i => C.mg i.1, fun i => C.base i.1, fun i => C.calm i.1, fun i => C.room i.1, fun i => C.grd i.1⟩

def wCall (n : Nat) (wf : WF) (v : WA) : WE := fun ρ fu P => v ρ fu fun ds fu' => ds.length = n ∧ wf ds fu' P
def tG (K : PySem.W.Frag) (n : Nat) (wf : WF) (t : TA) : TE := fun σ H Q => t σ H fun vs H1 => ∃ y ds fu Pd, vs.length = n ∧ GOk y H1 fu ∧ RpL K y vs ds ∧ wf ds fu Pd ∧ ∀ d fu' v H' y', Pd d fu' → GOk y' H' fu' → Nx y H1 y' H' → Rp K y' v d → Q v H'
theorem rd_call {K : PySem.W.Frag} {n : Nat} {wf : WF} {t : TA} {v : WA} (r : RdA K t v) : RdE K (tG K n wf t) (wCall n wf v) := fun σ H y ρ fu P Q o hw q => by
  refine r σ H y ρ fu _ _ o hw fun ds fu' vs H' y' h' g' n' r' => ?_
  exact ⟨y', ds, fu', P, r'.length.trans h'.1, g', r', h'.2, fun d fu2 v2 H2 y2 h2 g2 n2 r2 => q d fu2 v2 H2 y2 h2 g2 (n'.trans n2) r2⟩
theorem pe_g {X : Cx} {P : Program} {w : World} {K : PySem.W.Frag} {mg : Str → Option Value} {base : Heap} {k j : Nat} {f : Addr} {fd : FuncData} {ps : List Str} {wf : WF} {x : Str} {p pos : Pos} {e : Expr} {es : List Expr} {t : TA}
    (h1 : X.prog = P) (h2 : X.w = w) (h3 : X.K = K) (h4 : X.mg = mg) (h5 : X.base = base) (hr : Room k X.A) (hgd : X.A.guards = some [])
    (G : FnG P w K mg base j f fd ps wf) (hj : j ≤ k) (hg : Gl X x) (hm : mg x = some (.ref f)) (hk : PySem.W.keepIn K (.ref f) = true) (hb : Binds K fd ps []) (ha : PA X (e :: es) t) (hdb : (x == ("__debug__" : Str)) = false)
    (he : starEach (e :: es) X.env = (false, eval e X.env) :: starEach es X.env) (hpl : (backTo pos (starEach es X.env)).any (·.1) = false) : PE X (.Call (.Name x p) (e :: es) [] pos) (tG K ps.length wf t) := by
  subst h1 h2 h3 h4 h5
  refine ⟨fun pins s σ H Q I h => ?_⟩
  refine wpAny_Call_Name_kw (ld_glob I hg hm ?_ hdb)
  refine PySem.W.callWith_K (h₀ := X.base) I.ok.mod.kin hk (thn (ha.run pos pins s σ H _ I h) fun us s1 hh => ?_) he hpl
  obtain ⟨vs, H1, I1, r, y, ds, fu, Pd, hl, go, rp, hw, q⟩ := hh
  refine ⟨I1.kIn, ?_⟩
  have hb' := hb s1 us I1.kIn (by rw [List.append_nil, ← r.length]; exact hl)
  rw [List.append_nil] at hb'
  exact run_g (args := ⟨us, []⟩) G (hr.mono hj) hgd I1 hb' r hl go rp hw q
theorem pe_g0 {X : Cx} {P : Program} {w : World} {K : PySem.W.Frag} {mg : Str → Option Value} {base : Heap} {k j : Nat} {f : Addr} {fd : FuncData} {wf : WF} {x : Str} {p pos : Pos}
    (h1 : X.prog = P) (h2 : X.w = w) (h3 : X.K = K) (h4 : X.mg = mg) (h5 : X.base = base) (hr : Room k X.A) (hgd : X.A.guards = some [])
    (G : FnG P w K mg base j f fd [] wf) (hj : j ≤ k) (hg : Gl X x) (hm : mg x = some (.ref f)) (hk : PySem.W.keepIn K (.ref f) = true) (hb : Binds K fd [] []) (hdb : (x == ("__debug__" : Str)) = false) : PE X (.Call (.Name x p) [] [] pos) (tG K 0 wf tNil) := by
  subst h1 h2 h3 h4 h5
  refine ⟨fun pins s σ H Q I h => ?_⟩
  refine wpAny_Call_Name_kw (ld_glob I hg hm ?_ hdb)
  obtain ⟨y, ds, fu, Pd, hl, go, rp, hw, q⟩ := h
  have hb' := hb s [] I.kIn rfl
  exact PySem.W.callWith_K0 I.kIn hk (run_g (args := ⟨[], []⟩) G (hr.mono hj) hgd I hb' .nil rfl go rp hw q)

/-! ### with keywords -/
def pick {α : Type} (perm : List Nat) (l : List α) : List α := perm.filterMap fun i => l[i]?
theorem Vals.pick {vs : List V} {us : List Value} (r : Vals vs us) : ∀ perm : List Nat, Vals (pick perm vs) (pick perm us)
  | [] => .nil
  | i :: perm => by
    have ih := Vals.pick r perm
    unfold Z.pick at ih ⊢
    rw [List.filterMap_cons, List.filterMap_cons]
    cases e : vs[i]? with
    | none => rw [L2.Vals.none_of r e]; exact ih
    | some v =>
      obtain ⟨u, hu, ru⟩ := L2.Vals.get r e
      rw [hu]
      exact .cons ru ih
theorem RpL.none_of {K : PySem.W.Frag} {y : Gh} {vs : List V} {ds : List D} {i : Nat} (r : RpL K y vs ds) (h : vs[i]? = none) : ds[i]? = none := by
  rw [List.getElem?_eq_none_iff] at h ⊢
  rw [← r.length]; exact h
theorem RpL.pick {K : PySem.W.Frag} {y : Gh} {vs : List V} {ds : List D} (r : RpL K y vs ds) : ∀ perm : List Nat, RpL K y (pick perm vs) (pick perm ds)
  | [] => .nil
  | i :: perm => by
    have ih := RpL.pick r perm
    unfold Z.pick at ih ⊢
    rw [List.filterMap_cons, List.filterMap_cons]
    cases e : vs[i]? with
    | none => rw [r.none_of e]; exact ih
    | some v =>
      obtain ⟨d, hd, rd⟩ := r.getV e
      rw [hd]
      exact .cons rd ih
structure WKs {ι : Type} (F : ι → Cx) (K : PySem.W.Frag) (kws : List Keyword) (w : WA) : Prop where
  ex : ∃ t, (∀ i, PK (F i) kws t) ∧ RdA K t w
theorem wk_nil {ι : Type} {F : ι → Cx} {K : PySem.W.Frag} : WKs F K [] wNil := ⟨_, fun _ => pk_nil, fun σ H y ρ fu P Q o hw k => k [] fu [] H y hw o.g (Nx.refl y H) .nil⟩
theorem wk_cons {ι : Type} {F : ι → Cx} {K : PySem.W.Frag} {e : Expr} {kws : List Keyword} {wa : WE} {v : WA} {nm : Option Str} {kpos : Pos} (ha : WX F K e wa) (hr : WKs F K kws v) : WKs F K (⟨nm, e, kpos⟩ :: kws) (wCons wa v) := by
  obtain ⟨ta, pa, ra⟩ := ha.ex
  obtain ⟨tr, pr, rr⟩ := hr.ex
  exact ⟨_, fun k => pk_cons (pa k) (pr k), rd_cons ra rr⟩
def wCallK (n m l : Nat) (perm : List Nat) (wf : WF) (v vk : WA) : WE := fun ρ fu P => v ρ fu fun ds fu' => vk ρ fu' fun es fu'' => ds.length = m ∧ es.length = l ∧ (pick perm (ds ++ es)).length = n ∧ wf (pick perm (ds ++ es)) fu'' P
def tGK (K : PySem.W.Frag) (n m l : Nat) (perm : List Nat) (wf : WF) (t tk : TA) : TE := fun σ H Q => t σ H fun vs H1 => tk σ H1 fun zs H2 => ∃ y ds fu Pd, vs.length = m ∧ zs.length = l ∧ (pick perm (vs ++ zs)).length = n ∧ GOk y H2 fu ∧ RpL K y (pick perm (vs ++ zs)) ds ∧ wf ds fu Pd ∧
  ∀ d fu' v H' y', Pd d fu' → GOk y' H' fu' → Nx y H2 y' H' → Rp K y' v d → Q v H'
/-- how f(.., k = ..) binds: perm, the places among the positional and then the keywords' values -/
def KPerm (K : PySem.W.Frag) (fd : FuncData) (ps ks : List Str) (m : Nat) (perm : List Nat) : Prop := ∀ (s : Shared) (us ws : List Value), K.In s.heap → us.length = m → ws.length = ks.length → BindsTo s fd ⟨us, ks.zip ws⟩ (ps.zip (pick perm (us ++ ws)))
section
variable {P : Program} {w : World} {K : PySem.W.Frag} {mg : Str → Option Value} {base : Heap} {k j m : Nat} {f : Addr} {fd : FuncData} {ps ks : List Str} {wf : WF} {x : Str} {p pos : Pos} {e : Expr} {es : List Expr} {kws : List Keyword} {perm : List Nat}
theorem pe_gK {X : Cx} {t tk : TA} (h1 : X.prog = P) (h2 : X.w = w) (h3 : X.K = K) (h4 : X.mg = mg) (h5 : X.base = base) (hr : Room k X.A) (hgd : X.A.guards = some [])
    (G : FnG P w K mg base j f fd ps wf) (hj : j ≤ k) (hg : Gl X x) (hm : mg x = some (.ref f)) (hk : PySem.W.keepIn K (.ref f) = true) (hb : KPerm K fd ps ks m perm) (ha : PA X (e :: es) t) (hkw : PK X kws tk) (hdb : (x == ("__debug__" : Str)) = false)
    (hall : (backToKw pos (keywordEach kws X.env)).all (·.1.isSome) = true) (hks : (backToKw pos (keywordEach kws X.env)).filterMap (·.1) = ks)
    (he : starEach (e :: es) X.env = (false, eval e X.env) :: starEach es X.env) (hpl : ((backTo pos (starEach (e :: es) X.env)).any (·.1) || (backToKw pos (keywordEach kws X.env)).any (·.1.isNone)) = false) :
    PE X (.Call (.Name x p) (e :: es) kws pos) (tGK K ps.length m ks.length perm wf t tk) := by
  subst h1 h2 h3 h4 h5
  refine ⟨fun pins s σ H Q I h => ?_⟩
  refine wpAny_Call_Name_kw (ld_glob I hg hm ?_ hdb)
  refine PySem.W.callWith_KW (h₀ := X.base) I.ok.mod.kin hk hall (thn (ha.run pos pins s σ H _ I h) fun us s1 hh => ?_) hpl he
  obtain ⟨vs, H1, I1, r, q1⟩ := hh
  refine thn (hkw.run pos pins s1 σ H1 _ I1 q1) fun ws s2 hh => ?_
  obtain ⟨zs, H2, I2, rz, y, ds, fu, Pd, lm, lz, hl, go, rp, hw, q⟩ := hh
  refine ⟨I2.kIn, ?_⟩
  rw [hks]
  have hb' := hb s2 us ws I2.kIn (by rw [← r.length]; exact lm) (by rw [← rz.length]; exact lz)
  exact run_g (args := ⟨us, ks.zip ws⟩) G (hr.mono hj) hgd I2 hb' (Vals.pick (r.append rz) perm) hl go rp hw q
theorem pe_gK0 {X : Cx} {tk : TA} (h1 : X.prog = P) (h2 : X.w = w) (h3 : X.K = K) (h4 : X.mg = mg) (h5 : X.base = base) (hr : Room k X.A) (hgd : X.A.guards = some [])
    (G : FnG P w K mg base j f fd ps wf) (hj : j ≤ k) (hg : Gl X x) (hm : mg x = some (.ref f)) (hk : PySem.W.keepIn K (.ref f) = true) (hb : KPerm K fd ps ks 0 perm) (hkw : PK X kws tk) (hdb : (x == ("__debug__" : Str)) = false)
    (hall : (backToKw pos (keywordEach kws X.env)).all (·.1.isSome) = true) (hks : (backToKw pos (keywordEach kws X.env)).filterMap (·.1) = ks)
    (hpl : ((backTo pos (starEach [] X.env)).any (·.1) || (backToKw pos (keywordEach kws X.env)).any (·.1.isNone)) = false) :
    PE X (.Call (.Name x p) [] kws pos) (tGK K ps.length 0 ks.length perm wf tNil tk) := by
  subst h1 h2 h3 h4 h5
  refine ⟨fun pins s σ H Q I h => ?_⟩
  refine wpAny_Call_Name_kw (ld_glob I hg hm ?_ hdb)
  refine PySem.W.callWith_KW0 (h₀ := X.base) I.ok.mod.kin hk hall (thn (hkw.run pos pins s σ H _ I h) fun ws s2 hh => ?_) hpl
  obtain ⟨zs, H2, I2, rz, y, ds, fu, Pd, lm, lz, hl, go, rp, hw, q⟩ := hh
  refine ⟨I2.kIn, ?_⟩
  rw [hks]
  have hb' := hb s2 [] ws I2.kIn rfl (by rw [← rz.length]; exact lz)
  exact run_g (args := ⟨[], ks.zip ws⟩) G (hr.mono hj) hgd I2 hb' (Vals.pick rz perm) hl go rp hw q
end
/-! ## the calls, for families -/
section
variable {ι : Type} {F : ι → Cx} {P : Program} {w : World} {K : PySem.W.Frag} {mg : Str → Option Value} {base : Heap} {k j m : Nat} {f : Addr} {fd : FuncData} {ps ks : List Str} {wf : WF} {x : Str} {p pos : Pos} {e : Expr} {es : List Expr} {kws : List Keyword} {perm : List Nat} {v vk : WA} {wa : WE}
/-- what is known of a def that is called -/
structure Dn (P : Program) (w : World) (K : PySem.W.Frag) (mg : Str → Option Value) (base : Heap) (j : Nat) (x : Str) (f : Addr) (fd : FuncData) (ps : List Str) (wf : WF) : Prop where
  ok : FnG P w K mg base j f fd ps wf
  mg : mg x = some (.ref f)
  kp : PySem.W.keepIn K (.ref f) = true
  bd : Binds K fd ps []
theorem wx_call (C : Cxs F P w K mg base k) (G : Dn P w K mg base j x f fd ps wf) (ha : WX F K e wa) (hr : WAs F K es v) (hj : j ≤ k := by decide) (hg : ∀ i, Gl (F i) x := by intro _; rfl) (hdb : (x == ("__debug__" : Str)) = false := by decide)
    (hs : ∀ i, starEach (e :: es) (F i).env = (false, eval e (F i).env) :: starEach es (F i).env := by intro _; rfl) (hpl : ∀ i, (backTo pos (starEach es (F i).env)).any (·.1) = false := by intro _; rfl) :
    WX F K (.Call (.Name x p) (e :: es) [] pos) (wCall ps.length wf (wCons wa v)) := by
  obtain ⟨t, q, r⟩ := (wa_cons ha hr hs).ex
  exact ⟨_, fun i => pe_g (C.prog i) (C.w i) (C.K i) (C.mg i) (C.base i) (C.room i) (C.grd i) G.ok hj (hg i) G.mg G.kp G.bd (q i) hdb (hs i) (hpl i), rd_call r⟩
theorem wx_call0 (C : Cxs F P w K mg base k) (G : Dn P w K mg base j x f fd [] wf) (hj : j ≤ k := by decide) (hg : ∀ i, Gl (F i) x := by intro _; rfl) (hdb : (x == ("__debug__" : Str)) = false := by decide) : WX F K (.Call (.Name x p) [] [] pos) (wCall 0 wf wNil) := by
  obtain ⟨t, q, r⟩ := (wa_nil (F := F) (K := K)).ex
  exact ⟨_, fun i => pe_g0 (C.prog i) (C.w i) (C.K i) (C.mg i) (C.base i) (C.room i) (C.grd i) G.ok hj (hg i) G.mg G.kp G.bd hdb, rd_call (fun σ H y ρ fu P Q o hw k => k [] fu [] H y hw o.g (Nx.refl y H) .nil)⟩
theorem rd_callK {n l : Nat} {t tk : TA} (r : RdA K t v) (rk : RdA K tk vk) : RdE K (tGK K n m l perm wf t tk) (wCallK n m l perm wf v vk) := fun σ H y ρ fu P Q o hw q => by
  refine r σ H y ρ fu _ _ o hw fun ds fu1 vs H1 y1 h1 g1 n1 r1 => ?_
  refine rk σ H1 y1 ρ fu1 _ _ (o.next n1 g1) h1 fun es fu2 zs H2 y2 h2 g2 n2 r2 => ?_
  obtain ⟨l1, l2, l3, hw⟩ := h2
  have rr := RpL.pick ((r1.mono n2.x).append r2) perm
  exact ⟨y2, _, fu2, P, r1.length.trans l1, r2.length.trans l2, rr.length.trans l3, g2, rr, hw, fun d fu3 v3 H3 y3 h3 g3 n3 r3 => q d fu3 v3 H3 y3 h3 g3 ((n1.trans n2).trans n3) r3⟩
theorem wx_callK (C : Cxs F P w K mg base k) (G : Dn P w K mg base j x f fd ps wf) (ha : WX F K e wa) (hr : WAs F K es v) (hkw : WKs F K kws vk) (hb : KPerm K fd ps ks m perm) (hj : j ≤ k := by decide) (hg : ∀ i, Gl (F i) x := by intro _; rfl)
    (hdb : (x == ("__debug__" : Str)) = false := by decide) (hs : ∀ i, starEach (e :: es) (F i).env = (false, eval e (F i).env) :: starEach es (F i).env := by intro _; rfl)
    (hall : ∀ i, (backToKw pos (keywordEach kws (F i).env)).all (·.1.isSome) = true := by intro _; rfl) (hks : ∀ i, (backToKw pos (keywordEach kws (F i).env)).filterMap (·.1) = ks := by intro _; rfl)
    (hpl : ∀ i, ((backTo pos (starEach (e :: es) (F i).env)).any (·.1) || (backToKw pos (keywordEach kws (F i).env)).any (·.1.isNone)) = false := by intro _; rfl) :
    WX F K (.Call (.Name x p) (e :: es) kws pos) (wCallK ps.length m ks.length perm wf (wCons wa v) vk) := by
  obtain ⟨t, q, r⟩ := (wa_cons ha hr hs).ex
  obtain ⟨tk, qk, rk⟩ := hkw.ex
  exact ⟨_, fun i => pe_gK (C.prog i) (C.w i) (C.K i) (C.mg i) (C.base i) (C.room i) (C.grd i) G.ok hj (hg i) G.mg G.kp hb (q i) (qk i) hdb (hall i) (hks i) (hs i) (hpl i), rd_callK r rk⟩
theorem wx_callK0 (C : Cxs F P w K mg base k) (G : Dn P w K mg base j x f fd ps wf) (hkw : WKs F K kws vk) (hb : KPerm K fd ps ks 0 perm) (hj : j ≤ k := by decide) (hg : ∀ i, Gl (F i) x := by intro _; rfl)
    (hdb : (x == ("__debug__" : Str)) = false := by decide) (hall : ∀ i, (backToKw pos (keywordEach kws (F i).env)).all (·.1.isSome) = true := by intro _; rfl) (hks : ∀ i, (backToKw pos (keywordEach kws (F i).env)).filterMap (·.1) = ks := by intro _; rfl)
    (hpl : ∀ i, ((backTo pos (starEach [] (F i).env)).any (·.1) || (backToKw pos (keywordEach kws (F i).env)).any (·.1.isNone)) = false := by intro _; rfl) :
    WX F K (.Call (.Name x p) [] kws pos) (wCallK ps.length 0 ks.length perm wf wNil vk) := by
  obtain ⟨tk, qk, rk⟩ := hkw.ex
  exact ⟨_, fun i => pe_gK0 (C.prog i) (C.w i) (C.K i) (C.mg i) (C.base i) (C.room i) (C.grd i) G.ok hj (hg i) G.mg G.kp hb (qk i) hdb (hall i) (hks i) (hpl i), rd_callK (fun σ H y ρ fu P Q o hw k => k [] fu [] H y hw o.g (Nx.refl y H) .nil) rk⟩
end
end Z
namespace Z
open PySem PySem.Spec L2

/-! ## data as the model's data -/
mutual
def py : D → PyData
  | .non => .none
  | .bl b => .bool b
  | .int i => .int i
  | .str s => .str s
  | .tup l => .tuple (pyL l)
  | .lst l => .list (pyL l)
  | .dic l => .dict (pyK l)
  | .src => .none
  | .scr => .none
def pyL : List D → List PyData
  | [] => []
  | d :: l => py d :: pyL l
def pyK : List (Str × D) → List (PyData × PyData)
  | [] => []
  | (k, d) :: l => (.str k, py d) :: pyK l
end
mutual
/-- no dict, no source within -/
def plain : D → Bool
  | .non => true
  | .bl _ => true
  | .int _ => true
  | .str _ => true
  | .tup l => plainL l
  | .lst l => plainL l
  | .dic _ => false
  | .src => false
  | .scr => false
def plainL : List D → Bool
  | [] => true
  | d :: l => plain d && plainL l
end
section
variable {K : PySem.W.Frag} {y : Gh} {H : Hp}
mutual
theorem Rp.dp (hs : Sub y.g H) : ∀ {v : V} {d : D}, Rp K y v d → plain d = true → Dp K H v (py d)
  | _, _, .non, _ => by unfold py; exact .non
  | _, _, .bl b, _ => by unfold py; exact .bl b
  | _, _, .int b, _ => by unfold py; exact .int b
  | _, _, .str b, _ => by unfold py; exact .str b
  | _, _, .tup h k, p => by
    unfold py
    unfold plain at p
    exact .tup (sqT_same hs h) (RpL.dp hs k p)
  | _, _, .lst h k, p => by
    unfold py
    unfold plain at p
    exact .lst (.inl (.inl (hs _ _ h))) (RpL.dp hs k p)
  | _, _, .dic h k, p => by unfold plain at p; cases p
  | _, _, .src h, p => by unfold plain at p; cases p
  | _, _, .scr h k, p => by unfold plain at p; cases p
theorem RpL.dp (hs : Sub y.g H) : ∀ {vs : List V} {ds : List D}, RpL K y vs ds → plainL ds = true → DpAll K H vs (pyL ds)
  | _, _, .nil, _ => by unfold pyL; exact .nil
  | _, _, .cons h k, p => by
    unfold pyL
    unfold plainL at p
    rw [Bool.and_eq_true] at p
    exact .cons (Rp.dp hs h p.1) (RpL.dp hs k p.2)
end
end

/-! ## == -/
/-- scalars that == compares as data -/
def scalD : D → D → Bool
  | .non, .non => true | .non, .int _ => true | .int _, .non => true | .non, .bl _ => true | .bl _, .non => true | .non, .str _ => true | .str _, .non => true
  | .int _, .int _ => true | .bl _, .bl _ => true | .str _, .str _ => true | .int _, .str _ => true | .str _, .int _ => true | .bl _, .str _ => true | .str _, .bl _ => true
  | _, _ => false
def deq (a b : D) : Bool := PyData.eqv (py a) (py b)
def eqOk (a b : D) : Bool := scalD a b || (plain a && plain b && SeqAt.shaped (py a) && SeqAt.shaped (py b))
def dEq (a b : D) : Option D := if eqOk a b = true then some (.bl (deq a b)) else none
def dNe (a b : D) : Option D := if eqOk a b = true then some (.bl (!deq a b)) else none
theorem scal_deq {K : PySem.W.Frag} {y : Gh} {v u : V} {a b : D} (r : Rp K y v a) (q : Rp K y u b) (h : scalD a b = true) : scal v u = true ∧ decide (v = u) = deq a b := by
  cases a <;> cases b <;> first
    | (cases (show false = true from h); done)
    | (cases r; cases q; exact ⟨rfl, dec_int⟩)
    | (cases r; cases q; exact ⟨rfl, dec_bl⟩)
    | (cases r; cases q; exact ⟨rfl, dec_str⟩)
    | (cases r; cases q; exact ⟨rfl, by simp [deq, py, PyData.eqv]⟩)
abbrev rEqA (K : PySem.W.Frag) : R2 := fun x y H Q => rEq x y H Q ∨ rEqD K x y H Q
abbrev rNeA (K : PySem.W.Frag) : R2 := fun x y H Q => rNe x y H Q ∨ rNeD K x y H Q
theorem opd_eq {K : PySem.W.Frag} : OpD K (rEqA K) dEq := fun H y fu x z p q d Q g rx rz hf k => by
  unfold dEq at hf
  split at hf
  · rename_i ho
    cases hf
    unfold eqOk at ho
    rw [Bool.or_eq_true] at ho
    rcases ho with ho | ho
    · obtain ⟨h1, h2⟩ := scal_deq rx rz ho
      exact .inl ⟨h1, by rw [h2]; exact k _ H y g (Nx.refl y H) (.bl _)⟩
    · simp only [Bool.and_eq_true] at ho
      obtain ⟨⟨⟨h1, h2⟩, h3⟩, h4⟩ := ho
      exact .inr ⟨_, _, rx.dp g.sub h1, rz.dp g.sub h2, h3, h4, k _ H y g (Nx.refl y H) (.bl _)⟩
  · cases hf
theorem opd_ne {K : PySem.W.Frag} : OpD K (rNeA K) dNe := fun H y fu x z p q d Q g rx rz hf k => by
  unfold dNe at hf
  split at hf
  · rename_i ho
    cases hf
    unfold eqOk at ho
    rw [Bool.or_eq_true] at ho
    rcases ho with ho | ho
    · obtain ⟨h1, h2⟩ := scal_deq rx rz ho
      exact .inl ⟨h1, by rw [h2]; exact k _ H y g (Nx.refl y H) (.bl _)⟩
    · simp only [Bool.and_eq_true] at ho
      obtain ⟨⟨⟨h1, h2⟩, h3⟩, h4⟩ := ho
      exact .inr ⟨_, _, rx.dp g.sub h1, rz.dp g.sub h2, h3, h4, k _ H y g (Nx.refl y H) (.bl _)⟩
  · cases hf

/-! ## is None, order -/
def dIsN : D → D → Option D
  | .non, .non => some (.bl true)
  | _, .non => some (.bl false)
  | _, _ => none
def dNotN : D → D → Option D
  | .non, .non => some (.bl false)
  | _, .non => some (.bl true)
  | _, _ => none
theorem opd_isN {K : PySem.W.Frag} : OpD K (fun x y H Q => y = .non ∧ Q (.bl (decide (x = .non))) H) dIsN := fun H y fu x z p q d Q g rx rz hf k => by
  cases q <;> first
    | (cases p <;> first | (cases hf; done) | (cases hf; cases rz; cases rx; exact ⟨rfl, k _ H y g (Nx.refl y H) (.bl _)⟩))
    | (cases p <;> cases hf)
theorem opd_notN {K : PySem.W.Frag} : OpD K (fun x y H Q => y = .non ∧ Q (.bl (!decide (x = .non))) H) dNotN := fun H y fu x z p q d Q g rx rz hf k => by
  cases q <;> first
    | (cases p <;> first | (cases hf; done) | (cases hf; cases rz; cases rx; exact ⟨rfl, k _ H y g (Nx.refl y H) (.bl _)⟩))
    | (cases p <;> cases hf)
/-- texts by code points -/
def sLt (a b : Str) : Bool := decide (a.cps.toList < b.cps.toList)
def dLt : D → D → Option D
  | .int i, .int j => some (.bl (decide (i < j)))
  | .str a, .str b => some (.bl (sLt a b))
  | _, _ => none
def dLe : D → D → Option D
  | .int i, .int j => some (.bl (decide (i ≤ j)))
  | .str a, .str b => some (.bl (!sLt b a))
  | _, _ => none
def dGt : D → D → Option D
  | .int i, .int j => some (.bl (decide (j < i)))
  | .str a, .str b => some (.bl (sLt b a))
  | _, _ => none
def dGe : D → D → Option D
  | .int i, .int j => some (.bl (decide (j ≤ i)))
  | .str a, .str b => some (.bl (!sLt a b))
  | _, _ => none
abbrev rOrd (f : Int → Int → Bool) (g : Str → Str → Bool) : R2 := fun x y H Q => rI0 (fun i j => .bl (f i j)) x y H Q ∨ ∃ i j, x = .str i ∧ y = .str j ∧ Q (.bl (g i j)) H
theorem opd_ord {K : PySem.W.Frag} {f : Int → Int → Bool} {g : Str → Str → Bool} {F : D → D → Option D} (hi : ∀ i j, F (.int i) (.int j) = some (.bl (f i j))) (hs : ∀ i j, F (.str i) (.str j) = some (.bl (g i j)))
    (hn : ∀ a b, (∃ d, F a b = some d) → (∃ i j, a = .int i ∧ b = .int j) ∨ ∃ i j, a = .str i ∧ b = .str j) : OpD K (rOrd f g) F := fun H y fu x z p q d Q gk rx rz hf k => by
  rcases hn p q ⟨d, hf⟩ with ⟨i, j, rfl, rfl⟩ | ⟨i, j, rfl, rfl⟩
  · rw [hi] at hf
    cases hf; cases rx; cases rz
    exact .inl ⟨i, j, rfl, rfl, k _ H y gk (Nx.refl y H) (.bl _)⟩
  · rw [hs] at hf
    cases hf; cases rx; cases rz
    exact .inr ⟨i, j, rfl, rfl, k _ H y gk (Nx.refl y H) (.bl _)⟩
theorem ord_cases {F : D → D → Option D} (h : ∀ a b d, F a b = some d → (∃ i j, a = .int i ∧ b = .int j) ∨ ∃ i j, a = .str i ∧ b = .str j) : ∀ a b, (∃ d, F a b = some d) → (∃ i j, a = .int i ∧ b = .int j) ∨ ∃ i j, a = .str i ∧ b = .str j :=
  fun a b ⟨d, e⟩ => h a b d e
theorem opd_lt {K : PySem.W.Frag} : OpD K (rOrd (fun i j => decide (i < j)) sLt) dLt := opd_ord (fun _ _ => rfl) (fun _ _ => rfl) (ord_cases fun a b d h => by
  cases a <;> cases b <;> first | (cases h; done) | exact .inl ⟨_, _, rfl, rfl⟩ | exact .inr ⟨_, _, rfl, rfl⟩)
theorem opd_le {K : PySem.W.Frag} : OpD K (rOrd (fun i j => decide (i ≤ j)) fun a b => !sLt b a) dLe := opd_ord (fun _ _ => rfl) (fun _ _ => rfl) (ord_cases fun a b d h => by
  cases a <;> cases b <;> first | (cases h; done) | exact .inl ⟨_, _, rfl, rfl⟩ | exact .inr ⟨_, _, rfl, rfl⟩)
theorem opd_gt {K : PySem.W.Frag} : OpD K (rOrd (fun i j => decide (j < i)) fun a b => sLt b a) dGt := opd_ord (fun _ _ => rfl) (fun _ _ => rfl) (ord_cases fun a b d h => by
  cases a <;> cases b <;> first | (cases h; done) | exact .inl ⟨_, _, rfl, rfl⟩ | exact .inr ⟨_, _, rfl, rfl⟩)
theorem opd_ge {K : PySem.W.Frag} : OpD K (rOrd (fun i j => decide (j ≤ i)) fun a b => !sLt a b) dGe := opd_ord (fun _ _ => rfl) (fun _ _ => rfl) (ord_cases fun a b d h => by
  cases a <;> cases b <;> first | (cases h; done) | exact .inl ⟨_, _, rfl, rfl⟩ | exact .inr ⟨_, _, rfl, rfl⟩)
theorem opr_lt {X : Cx} : OpR X (compareOp .Lt) (rOrd (fun i j => decide (i < j)) sLt) := op_lt.or op_lt_str
theorem opr_le {X : Cx} : OpR X (compareOp .LtE) (rOrd (fun i j => decide (i ≤ j)) fun a b => !sLt b a) := op_le.or op_le_str
theorem opr_gt {X : Cx} : OpR X (compareOp .Gt) (rOrd (fun i j => decide (j < i)) fun a b => sLt b a) := op_gt.or op_gt_str
theorem opr_ge {X : Cx} : OpR X (compareOp .GtE) (rOrd (fun i j => decide (j ≤ i)) fun a b => !sLt a b) := op_ge.or op_ge_str

/-! ## + - * // % -/
def dAdd : D → D → Option D
  | .int i, .int j => some (.int (i + j))
  | .str a, .str b => if a.length + b.length ≤ sizeLine then some (.str (a ++ b)) else none
  | .tup a, .tup b => if a.length + b.length ≤ sizeLine then some (.tup (a ++ b)) else none
  | .lst a, .lst b => if a.length + b.length ≤ sizeLine then some (.lst (a ++ b)) else none
  | _, _ => none
abbrev rAdd (K : PySem.W.Frag) : R2 := fun x y H Q => rI0 (fun i j => .int (i + j)) x y H Q ∨ (∃ i j, x = .str i ∧ y = .str j ∧ i.length + j.length ≤ sizeLine ∧ Q (.str (i ++ j)) H) ∨ rCatA K x y H Q ∨ rCat x y H Q
theorem opr_add {X : Cx} : OpR X (binaryOp .Add) (rAdd X.K) := op_add.or (op_add_str.or (op_catA.or op_cat))
theorem ite_some {c : Prop} [Decidable c] {a b : D} (h : (if c then some a else none) = some b) : c ∧ a = b := by
  by_cases hc : c
  · rw [if_pos hc] at h
    exact ⟨hc, Option.some.inj h⟩
  · rw [if_neg hc] at h
    cases h
theorem opd_add {K : PySem.W.Frag} : OpD K (rAdd K) dAdd := fun H y fu x z p q d Q g rx rz hf k => by
  cases p <;> cases q
  all_goals try (cases hf; done)
  · cases hf; cases rx; cases rz
    exact .inl ⟨_, _, rfl, rfl, k _ H y g (Nx.refl y H) (.int _)⟩
  · obtain ⟨hl, rfl⟩ := ite_some hf
    cases rx; cases rz
    exact .inr (.inl ⟨_, _, rfl, rfl, hl, k _ H y g (Nx.refl y H) (.str _)⟩)
  · obtain ⟨hl, rfl⟩ := ite_some hf
    cases rx with
    | tup h1 r1 =>
      cases rz with
      | tup h2 r2 =>
        refine .inr (.inr (.inl ⟨_, _, _, _, rfl, rfl, sqT_same g.sub h1, sqT_same g.sub h2, by rw [r1.length, r2.length]; exact hl, fun e => ?_, fun _ e => ?_, fun _ _ pp np => ?_⟩))
        · subst e
          cases r1
          exact k _ H y g (Nx.refl y H) (.tup h2 r2)
        · subst e
          cases r2
          rw [List.append_nil] at k
          exact k _ H y g (Nx.refl y H) (.tup h1 r1)
        · obtain ⟨g2, n2⟩ := grow (o := .tup _) g np
          exact k _ _ _ g2 n2 (.tup (.inl (.inl upd_same)) ((r1.append r2).mono n2.x))
  · obtain ⟨hl, rfl⟩ := ite_some hf
    cases rx with
    | lst h1 r1 =>
      cases rz with
      | lst h2 r2 =>
        refine .inr (.inr (.inr ⟨_, _, _, _, rfl, rfl, g.sub _ _ h1, g.sub _ _ h2, by rw [r1.length, r2.length]; exact hl, fun pp np => ?_⟩))
        obtain ⟨g2, n2⟩ := grow (o := .lst _) g np
        exact k _ _ _ g2 n2 (.lst upd_same ((r1.append r2).mono n2.x))
def dI2 (C : Int → Int → Bool) (f : Int → Int → Int) : D → D → Option D
  | .int i, .int j => if C i j = true then some (.int (f i j)) else none
  | _, _ => none
theorem opd_I2 {K : PySem.W.Frag} {C : Int → Int → Prop} {Cb : Int → Int → Bool} {f : Int → Int → Int} (h : ∀ i j, Cb i j = true → C i j) : OpD K (rI C fun i j => .int (f i j)) (dI2 Cb f) := fun H y fu x z p q d Q g rx rz hf k => by
  cases p <;> cases q
  all_goals try (cases hf; done)
  obtain ⟨hc, rfl⟩ := ite_some hf
  cases rx; cases rz
  exact ⟨_, _, rfl, rfl, h _ _ hc, k _ H y g (Nx.refl y H) (.int _)⟩
def dSub : D → D → Option D := dI2 (fun _ _ => true) fun i j => i - j
theorem opr_sub {X : Cx} : OpR X (binaryOp .Sub) (rI (fun _ _ => True) fun i j => .int (i - j)) := fun pins s σ H x y v u Q I rx ry ⟨i, j, h1, h2, _, q⟩ => op_sub pins s σ H x y v u Q I rx ry ⟨i, j, h1, h2, q⟩
theorem opd_sub {K : PySem.W.Frag} : OpD K (rI (fun _ _ => True) fun i j => .int (i - j)) dSub := opd_I2 fun _ _ _ => trivial
/-- products that the model reckons: one side within 2 ^ 64 -/
def mulOk (i j : Int) : Bool := (decide (-(2 ^ 64) < i) && decide (i < 2 ^ 64)) || (decide (-(2 ^ 64) < j) && decide (j < 2 ^ 64))
def dMul : D → D → Option D := dI2 mulOk fun i j => i * j
theorem opd_mul {K : PySem.W.Frag} : OpD K (rI CMul fun i j => .int (i * j)) dMul := opd_I2 fun i j h => by
  unfold mulOk at h
  simp only [Bool.or_eq_true, Bool.and_eq_true, decide_eq_true_eq] at h
  exact h
def dMod : D → D → Option D := dI2 (fun _ j => decide (0 < j)) fun i j => i % j
theorem opd_mod {K : PySem.W.Frag} : OpD K (rI (fun _ j => 0 < j) fun i j => .int (i % j)) dMod := opd_I2 fun i j h => of_decide_eq_true h
def dFdiv : D → D → Option D := dI2 (fun _ j => decide (0 < j) && decide (j < 1073741824)) fun i j => i / j
theorem opd_fdiv {K : PySem.W.Frag} : OpD K (rI CDiv fun i j => .int (i / j)) dFdiv := opd_I2 fun i j h => by
  simp only [Bool.and_eq_true, decide_eq_true_eq] at h
  exact h
end Z
namespace Z
open PySem PySem.Spec L2

section
variable {ι : Type} {F : ι → Cx} {P : Program} {w : World} {K : PySem.W.Frag} {mg : Str → Option Value} {base : Heap} {k : Nat} {a b e : Expr} {es : List Expr} {wa wb : WE} {v : WA} {pos : Pos}

/-! ## subscripts -/
def dIx : D → D → Option D
  | .lst l, .int i => atI l i
  | .tup l, .int i => atI l i
  | .str z, .int i => if z.length ≤ sizeLine then (atI z.cps.toList i).map fun c => .str ⟨#[c]⟩ else none
  | _, _ => none
theorem atI_rel {y : Gh} {vs : List V} {ds : List D} {i : Int} {d : D} (r : RpL K y vs ds) (h : atI ds i = some d) : ∃ v, atI vs i = some v ∧ Rp K y v d := by
  unfold atI at h ⊢
  rw [r.length]
  cases e : ixN ds.length i with
  | none => rw [e] at h; cases h
  | some j =>
    rw [e] at h
    exact r.get h
theorem opd_ix : OpD K (rIx K) dIx := fun H y fu x z p q d Q g rx rz hf k => by
  cases p <;> cases q
  all_goals try (cases hf; done)
  · rename_i z0 i0
    have hf' : (if z0.length ≤ sizeLine then (atI z0.cps.toList i0).map (fun c => D.str ⟨#[c]⟩) else none) = some d := hf
    by_cases hl : z0.length ≤ sizeLine
    · rw [if_pos hl] at hf'
      obtain ⟨c, hc, rfl⟩ := Option.map_eq_some_iff.mp hf'
      cases rx; cases rz
      exact .inr (.inr ⟨_, _, c, rfl, rfl, hl, hc, k _ H y g (Nx.refl y H) (.str _)⟩)
    · rw [if_neg hl] at hf'
      cases hf'
  · cases rx with
    | tup h1 r1 =>
      cases rz
      obtain ⟨v, hv, rv⟩ := atI_rel r1 hf
      exact .inr (.inl ⟨_, _, _, v, rfl, rfl, sqT_same g.sub h1, hv, k _ H y g (Nx.refl y H) rv⟩)
  · cases rx with
    | lst h1 r1 =>
      cases rz
      obtain ⟨v, hv, rv⟩ := atI_rel r1 hf
      exact .inl ⟨_, _, _, v, rfl, rfl, .inl (.inl (g.sub _ _ h1)), hv, k _ H y g (Nx.refl y H) rv⟩
theorem wx_ix (C : Cxs F P w K mg base k) (ha : WX F K a wa) (hb : WX F K b wb) (hs : PlainIx b := by intro _ _; rfl) : WX F K (.Subscript a b pos) (wOp dIx wa wb) := by
  obtain ⟨ta, pa, ra⟩ := ha.ex
  obtain ⟨tb, pb, rb⟩ := hb.ex
  refine ⟨tOp (rIx K) ta tb, fun i => ?_, rd_op opd_ix ra rb⟩
  have := pe_ix (X := F i) (pos := pos) ix_seq (pa i) (pb i) hs
  rw [C.K i] at this
  exact this

/-! ## slices -/
abbrev WO := List Sl → Fu → (Option Int → Fu → Prop) → Prop
def RdO (K : PySem.W.Frag) (t : TO) (w : WO) : Prop := ∀ (σ : L2.St) (H : Hp) (y : Gh) (ρ : List Sl) (fu : Fu) (P : Option Int → Fu → Prop) (Q : Option Int → Hp → Prop), Ok K y H σ ρ fu → w ρ fu P →
  (∀ o fu' H' y', P o fu' → GOk y' H' fu' → Nx y H y' H' → Q o H') → t σ H Q
structure WOs {ι : Type} (F : ι → Cx) (K : PySem.W.Frag) (e : Option Expr) (w : WO) : Prop where
  ex : ∃ t, (∀ i, PO (F i) e t) ∧ RdO K t w
def oNone : WO := fun _ fu P => P none fu
def oSome (wa : WE) : WO := fun ρ fu P => wa ρ fu fun d fu' => ∃ i, d = .int i ∧ P (some i) fu'
theorem wo_none : WOs F K none oNone := ⟨_, fun _ => po_none, fun σ H y ρ fu P Q o hw k => k none fu H y hw o.g (Nx.refl y H)⟩
theorem wo_some (h : WX F K e wa) : WOs F K (some e) (oSome wa) := by
  obtain ⟨t, p, r⟩ := h.ex
  refine ⟨_, fun i => po_some (p i), fun σ H y ρ fu P Q o hw k => ?_⟩
  refine r σ H y ρ fu _ _ o hw fun d fu' v H' y' h' g' n' r' => ?_
  obtain ⟨i, rfl, h'⟩ := h'
  cases r'
  exact ⟨i, rfl, k _ fu' H' y' h' g' n'⟩
/-- the items of a slice -/
def cutG {α : Type} (xs : List α) (lo hi : Option Int) : List α := (xs.drop (HT.sIx xs.length 0 lo)).take (HT.sIx xs.length xs.length hi - HT.sIx xs.length 0 lo)
theorem RpL.cut {y : Gh} {vs : List V} {ds : List D} (r : RpL K y vs ds) (lo hi : Option Int) : RpL K y (cutV vs lo hi) (cutG ds lo hi) := by
  unfold cutV cutG
  rw [r.length]
  exact (r.drop _).take _
def dSl : D → Option Int → Option Int → Option D
  | .lst l, lo, hi => some (.lst (cutG l lo hi))
  | .tup l, lo, hi => some (.tup (cutG l lo hi))
  | .str z, lo, hi => if z.length ≤ sizeLine then some (.str (cutS z lo hi)) else none
  | _, _, _ => none
abbrev rSlD (K : PySem.W.Frag) : V → Option Int → Option Int → Hp → VK → Prop := fun x lo hi H Q => rSlL K x lo hi H Q ∨ rSlA K x lo hi H Q ∨ rSlS x lo hi H Q
theorem sl_data {X : Cx} : SlR X (rSlD X.K) := SlR.or sl_list (SlR.or sl_tupA sl_str)
theorem cut_all {α : Type} {xs : List α} {lo hi : Option Int} (h : HT.sIx xs.length 0 lo = 0 ∧ HT.sIx xs.length xs.length hi = xs.length) : cutG xs lo hi = xs := by
  unfold cutG
  rw [h.1, h.2]
  simp
theorem sld_ok {H : Hp} {y : Gh} {fu : Fu} {x : V} {p d : D} {lo hi : Option Int} {Q : VK} (g : GOk y H fu) (rx : Rp K y x p) (hf : dSl p lo hi = some d) (k : ∀ v H' y', GOk y' H' fu → Nx y H y' H' → Rp K y' v d → Q v H') : rSlD K x lo hi H Q := by
  cases p
  all_goals try (cases hf; done)
  · obtain ⟨hl, rfl⟩ := ite_some hf
    cases rx
    exact .inr (.inr ⟨_, rfl, hl, k _ H y g (Nx.refl y H) (.str _)⟩)
  · cases hf
    cases rx with
    | tup h1 r1 =>
      refine .inr (.inl ⟨_, _, rfl, sqT_same g.sub h1, fun hw => ?_, fun _ pp np => ?_⟩)
      · rw [r1.length] at hw
        rw [cut_all hw] at k
        exact k _ H y g (Nx.refl y H) (.tup h1 r1)
      · obtain ⟨g2, n2⟩ := grow (o := .tup _) g np
        exact k _ _ _ g2 n2 (.tup (.inl (.inl upd_same)) ((r1.cut lo hi).mono n2.x))
  · cases hf
    cases rx with
    | lst h1 r1 =>
      refine .inl ⟨_, _, rfl, .inl (.inl (g.sub _ _ h1)), fun pp np => ?_⟩
      obtain ⟨g2, n2⟩ := grow (o := .lst _) g np
      exact k _ _ _ g2 n2 (.lst upd_same ((r1.cut lo hi).mono n2.x))
def wSl (wa : WE) (wl wh : WO) : WE := fun ρ fu P => wa ρ fu fun p fu1 => wl ρ fu1 fun lo fu2 => wh ρ fu2 fun hi fu3 => ∃ d, dSl p lo hi = some d ∧ P d fu3
theorem wx_slice {lo hi : Option Expr} {wl wh : WO} {p2 : Pos} (C : Cxs F P w K mg base k) (ha : WX F K a wa) (hl : WOs F K lo wl) (hh : WOs F K hi wh) : WX F K (.Subscript a (.Slice lo hi none p2) pos) (wSl wa wl wh) := by
  obtain ⟨ta, pa, ra⟩ := ha.ex
  obtain ⟨tl, pl, rl⟩ := hl.ex
  obtain ⟨th, ph, rh⟩ := hh.ex
  refine ⟨tSl (rSlD K) ta tl th, fun i => ?_, fun σ H y ρ fu P Q o hw q => ?_⟩
  · have := pe_slice (X := F i) (pos := pos) (p2 := p2) sl_data (pa i) (pl i) (ph i)
    rw [C.K i] at this
    exact this
  · refine ra σ H y ρ fu _ _ o hw fun d fu1 v1 H1 y1 h1 g1 n1 r1 => ?_
    refine rl σ H1 y1 ρ fu1 _ _ (o.next n1 g1) h1 fun l fu2 H2 y2 h2 g2 n2 => ?_
    refine rh σ H2 y2 ρ fu2 _ _ (o.next (n1.trans n2) g2) h2 fun h fu3 H3 y3 h3 g3 n3 => ?_
    obtain ⟨d', e, h3⟩ := h3
    exact sld_ok g3 ((r1.mono n2.x).mono n3.x) e fun v H' y' g' n' r' => q _ _ _ _ _ h3 g' (((n1.trans n2).trans n3).trans n') r'
/-- xs[::-1] of a list -/
def dRev : D → Option D
  | .lst l => some (.lst l.reverse)
  | _ => none
def wUn (f : D → Option D) (wa : WE) : WE := fun ρ fu P => wa ρ fu fun p fu1 => ∃ d, f p = some d ∧ P d fu1
theorem wx_rev {j : Nat} {p1 p2 p3 : Pos} (C : Cxs F P w K mg base k) (ha : WX F K a wa) : WX F K (.Subscript a (.Slice none none (some (.UnaryOp .USub (.Constant (.int 1) j p1) p2)) p3) pos) (wUn dRev wa) := by
  obtain ⟨ta, pa, ra⟩ := ha.ex
  refine ⟨tRevL K ta, fun i => ?_, fun σ H y ρ fu P Q o hw q => ?_⟩
  · have := pe_revL (X := F i) (k := j) (p1 := p1) (p2 := p2) (p3 := p3) (pos := pos) (pa i)
    rw [C.K i] at this
    exact this
  · refine ra σ H y ρ fu _ _ o hw fun d fu1 v1 H1 y1 h1 g1 n1 r1 => ?_
    obtain ⟨d', e, h1⟩ := h1
    cases d
    all_goals try (cases e; done)
    cases e
    cases r1 with
    | lst z1 z2 =>
      refine ⟨_, _, rfl, .inl (.inl (g1.sub _ _ z1)), fun pp np => ?_⟩
      obtain ⟨g2, n2⟩ := grow (o := .lst _) g1 np
      exact q _ _ _ _ _ h1 g2 (n1.trans n2) (.lst upd_same (z2.reverse.mono n2.x))
theorem wx_neg (ha : WX F K a wa) : WX F K (.UnaryOp .USub a pos) (wUn (fun d => match d with | .int i => some (.int (-i)) | _ => none) wa) := by
  obtain ⟨ta, pa, ra⟩ := ha.ex
  refine ⟨_, fun i => pe_un un_neg (pa i), fun σ H y ρ fu P Q o hw q => ?_⟩
  refine ra σ H y ρ fu _ _ o hw fun d fu1 v1 H1 y1 h1 g1 n1 r1 => ?_
  obtain ⟨d', e, h1⟩ := h1
  cases d
  all_goals try (cases e; done)
  cases e
  cases r1
  exact ⟨_, rfl, q _ _ _ _ _ h1 g1 n1 (.int _)⟩

/-! ## built-ins -/
/-- a built-in's call on data -/
def ClD (K : PySem.W.Frag) (r : List V → Hp → VK → Prop) (f : List D → Option D) : Prop := ∀ (H : Hp) (y : Gh) (fu : Fu) (vs : List V) (ds : List D) (d : D) (Q : VK), GOk y H fu → RpL K y vs ds → f ds = some d →
  (∀ v H' y', GOk y' H' fu → Nx y H y' H' → Rp K y' v d → Q v H') → r vs H Q
def wCl (f : List D → Option D) (v : WA) : WE := fun ρ fu P => v ρ fu fun ds fu1 => ∃ d, f ds = some d ∧ P d fu1
theorem rd_cl {r : List V → Hp → VK → Prop} {f : List D → Option D} {t : TA} (h : ClD K r f) (ra : RdA K t v) : RdE K (tCB r t) (wCl f v) := fun σ H y ρ fu P Q o hw q => by
  refine ra σ H y ρ fu _ _ o hw fun ds fu1 vs H1 y1 h1 g1 n1 r1 => ?_
  obtain ⟨d, e, h1⟩ := h1
  exact h H1 y1 fu1 vs ds d Q g1 r1 e fun v' H' y' g' n' r' => q _ _ _ _ _ h1 g' (n1.trans n') r'
variable {id T : String} {x : Str} {p : Pos} {r : List V → Hp → VK → Prop} {f : List D → Option D}
theorem wx_bi (C : Cxs F P w K mg base k) (hc : ∀ i, CallR (F i) (.builtin id) r) (hr : ClD K r f) (hm : mg x = none) (hv : bootBuiltins x = some (.builtin id)) (ha : WX F K e wa) (hes : WAs F K es v) (hg : ∀ i, Gl (F i) x := by intro _; rfl) (hn : x ≠ "__name__" := by decide)
    (hdb : (x == ("__debug__" : Str)) = false := by decide) (hs : ∀ i, starEach (e :: es) (F i).env = (false, eval e (F i).env) :: starEach es (F i).env := by intro _; rfl) (hpl : ∀ i, (backTo pos (starEach es (F i).env)).any (·.1) = false := by intro _; rfl) :
    WX F K (.Call (.Name x p) (e :: es) [] pos) (wCl f (wCons wa v)) := by
  obtain ⟨t, q, rr⟩ := (wa_cons ha hes hs).ex
  exact ⟨_, fun i => pe_callB (hc i) (hg i) (by rw [C.mg i]; exact hm) hv (q i) hn hdb (hs i) (hpl i), rd_cl hr rr⟩
theorem wx_ty (C : Cxs F P w K mg base k) (hc : ∀ i, CallR (F i) (.type T) r) (hr : ClD K r f) (hm : mg x = none) (hv : bootBuiltins x = some (.type T)) (ha : WX F K e wa) (hes : WAs F K es v) (hg : ∀ i, Gl (F i) x := by intro _; rfl) (hn : x ≠ "__name__" := by decide)
    (hdb : (x == ("__debug__" : Str)) = false := by decide) (hs : ∀ i, starEach (e :: es) (F i).env = (false, eval e (F i).env) :: starEach es (F i).env := by intro _; rfl) (hpl : ∀ i, (backTo pos (starEach es (F i).env)).any (·.1) = false := by intro _; rfl) :
    WX F K (.Call (.Name x p) (e :: es) [] pos) (wCl f (wCons wa v)) := by
  obtain ⟨t, q, rr⟩ := (wa_cons ha hes hs).ex
  exact ⟨_, fun i => pe_callTy (hc i) (hg i) (by rw [C.mg i]; exact hm) hv (q i) hn hdb (hs i) (hpl i), rd_cl hr rr⟩
/-- len -/
def dLen : List D → Option D
  | [.lst l] => some (.int l.length)
  | [.tup l] => some (.int l.length)
  | [.str z] => if z.length ≤ sizeLine then some (.int z.length) else none
  | _ => none
abbrev rLen (K : PySem.W.Frag) : List V → Hp → VK → Prop := fun xs H Q => ∃ x n, xs = [x] ∧ LenV K x H n ∧ Q (.int n) H
theorem cld_len : ClD K (rLen K) dLen := fun H y fu vs ds d Q g r hf q => by
  cases r with
  | nil => cases hf
  | cons r1 r2 =>
    cases r2 with
    | cons _ _ => cases r1 <;> cases hf
    | nil =>
      cases r1 with
      | tup h1 z1 => cases hf; exact ⟨_, _, rfl, .inr ⟨_, sqT_same g.sub h1, z1.length.symm⟩, q _ H y g (Nx.refl y H) (.int _)⟩
      | lst h1 z1 => cases hf; exact ⟨_, _, rfl, .inl ⟨_, .inl (.inl (g.sub _ _ h1)), z1.length.symm⟩, q _ H y g (Nx.refl y H) (.int _)⟩
      | str z =>
        obtain ⟨hl, rfl⟩ := ite_some hf
        exact ⟨_, _, rfl, ⟨hl, rfl⟩, q _ H y g (Nx.refl y H) (.int _)⟩
      | _ => cases hf
theorem clr_len {X : Cx} : CallR X (.builtin "len") (rLen X.K) := call_len
theorem wx_len (C : Cxs F P w K mg base k) (hm : mg "len" = none) (ha : WX F K e wa) (hg : ∀ i, Gl (F i) "len" := by intro _; rfl)
    (hs : ∀ i, starEach [e] (F i).env = (false, eval e (F i).env) :: starEach [] (F i).env := by intro _; rfl) : WX F K (.Call (.Name "len" p) [e] [] pos) (wCl dLen (wCons wa wNil)) :=
  wx_bi C (fun i => by rw [← C.K i]; exact clr_len) cld_len hm PySem.boot_len ha wa_nil hg (by decide) (by decide) hs (fun _ => rfl)
/-- tuple(..) of a list or a tuple; list(..) -/
def dTuple : List D → Option D
  | [.lst l] => some (.tup l)
  | [.tup l] => some (.tup l)
  | _ => none
abbrev rTuple (K : PySem.W.Frag) : List V → Hp → VK → Prop := fun xs H Q => ∃ p ys, xs = [.ref p] ∧ ((SqL K H p ys ∧ ∀ l, H l = none → Q (.ref l) (upd H l (.tup ys))) ∨ (SqT K H p ys ∧ Q (.ref p) H))
theorem cld_tuple : ClD K (rTuple K) dTuple := fun H y fu vs ds d Q g r hf q => by
  cases r with
  | nil => cases hf
  | cons r1 r2 =>
    cases r2 with
    | cons _ _ => cases r1 <;> cases hf
    | nil =>
      cases r1 with
      | tup h1 z1 => cases hf; exact ⟨_, _, rfl, .inr ⟨sqT_same g.sub h1, q _ H y g (Nx.refl y H) (.tup h1 z1)⟩⟩
      | lst h1 z1 =>
        cases hf
        refine ⟨_, _, rfl, .inl ⟨.inl (.inl (g.sub _ _ h1)), fun pp np => ?_⟩⟩
        obtain ⟨g2, n2⟩ := grow (o := .tup _) g np
        exact q _ _ _ g2 n2 (.tup (.inl (.inl upd_same)) (z1.mono n2.x))
      | _ => cases hf
theorem clr_tuple {X : Cx} : CallR X (.type "tuple") (rTuple X.K) := call_tuple_of
theorem wx_tuple (C : Cxs F P w K mg base k) (hm : mg "tuple" = none) (ha : WX F K e wa) (hg : ∀ i, Gl (F i) "tuple" := by intro _; rfl)
    (hs : ∀ i, starEach [e] (F i).env = (false, eval e (F i).env) :: starEach [] (F i).env := by intro _; rfl) : WX F K (.Call (.Name "tuple" p) [e] [] pos) (wCl dTuple (wCons wa wNil)) :=
  wx_ty C (fun i => by rw [← C.K i]; exact clr_tuple) cld_tuple hm (by decide +kernel) ha wa_nil hg (by decide) (by decide) hs (fun _ => rfl)
def dList : List D → Option D
  | [.lst l] => some (.lst l)
  | [.tup l] => some (.lst l)
  | _ => none
abbrev rList (K : PySem.W.Frag) : List V → Hp → VK → Prop := fun xs H Q => ∃ p ys, xs = [.ref p] ∧ (SqL K H p ys ∨ SqT K H p ys) ∧ ∀ l, H l = none → Q (.ref l) (upd H l (.lst ys))
theorem cld_list : ClD K (rList K) dList := fun H y fu vs ds d Q g r hf q => by
  cases r with
  | nil => cases hf
  | cons r1 r2 =>
    cases r2 with
    | cons _ _ => cases r1 <;> cases hf
    | nil =>
      cases r1 with
      | tup h1 z1 =>
        cases hf
        refine ⟨_, _, rfl, .inr (sqT_same g.sub h1), fun pp np => ?_⟩
        obtain ⟨g2, n2⟩ := grow (o := .lst _) g np
        exact q _ _ _ g2 n2 (.lst upd_same (z1.mono n2.x))
      | lst h1 z1 =>
        cases hf
        refine ⟨_, _, rfl, .inl (.inl (.inl (g.sub _ _ h1))), fun pp np => ?_⟩
        obtain ⟨g2, n2⟩ := grow (o := .lst _) g np
        exact q _ _ _ g2 n2 (.lst upd_same (z1.mono n2.x))
      | _ => cases hf
theorem clr_list {X : Cx} : CallR X (.type "list") (rList X.K) := call_list_of
theorem wx_list (C : Cxs F P w K mg base k) (hm : mg "list" = none) (ha : WX F K e wa) (hg : ∀ i, Gl (F i) "list" := by intro _; rfl)
    (hs : ∀ i, starEach [e] (F i).env = (false, eval e (F i).env) :: starEach [] (F i).env := by intro _; rfl) : WX F K (.Call (.Name "list" p) [e] [] pos) (wCl dList (wCons wa wNil)) :=
  wx_ty C (fun i => by rw [← C.K i]; exact clr_list) cld_list hm (by decide +kernel) ha wa_nil hg (by decide) (by decide) hs (fun _ => rfl)

/-! ## repr -/
def reprOk (d : D) : Bool := plain d && PyData.showable (py d) && decide (PyData.depth (py d) ≤ 64) && decide ((PyData.shown (py d)).length ≤ sizeLine)
def dRepr : List D → Option D
  | [d] => if reprOk d = true then some (.str (PyData.shown (py d))) else none
  | _ => none
mutual
theorem plain_nodict : ∀ d : D, plain d = true → PyData.hasDict (py d) = false
  | .non, _ => by unfold py PyData.hasDict; rfl
  | .bl _, _ => by unfold py PyData.hasDict; rfl
  | .int _, _ => by unfold py PyData.hasDict; rfl
  | .str _, _ => by unfold py PyData.hasDict; rfl
  | .tup l, h => by
    unfold plain at h
    unfold py PyData.hasDict
    exact plainL_nodict l h
  | .lst l, h => by
    unfold plain at h
    unfold py PyData.hasDict
    exact plainL_nodict l h
  | .dic _, h => by unfold plain at h; cases h
  | .src, h => by unfold plain at h; cases h
  | .scr, h => by unfold plain at h; cases h
theorem plainL_nodict : ∀ l : List D, plainL l = true → PyData.hasDictAll (pyL l) = false
  | [], _ => by unfold pyL PyData.hasDictAll; rfl
  | d :: l, h => by
    unfold plainL at h
    rw [Bool.and_eq_true] at h
    unfold pyL PyData.hasDictAll
    rw [plain_nodict d h.1, plainL_nodict l h.2]
    rfl
end
abbrev rRepr (K : PySem.W.Frag) : List V → Hp → VK → Prop := fun xs H Q => ∃ x d, xs = [x] ∧ Dp K H x d ∧ PyData.hasDict d = false ∧ PyData.showable d = true ∧ PyData.depth d ≤ 64 ∧ (PyData.shown d).length ≤ sizeLine ∧ Q (.str (PyData.shown d)) H
theorem clr_repr {X : Cx} (hg : X.A.guards = some []) (hu : X.A.units + 66 < cLine) : CallR X (.builtin "repr") (rRepr X.K) := by
  intro pins s σ H xs us Q I r h
  obtain ⟨x, d, rfl, hd, hn, hsh, hdp, hz, q⟩ := h
  obtain ⟨u, rfl, rx⟩ := vals1 r
  cases hd with
  | non =>
    cases rx
    refine PySem.P.repr_of_none ⟨.str _, H, I.tok _, ⟨_, rfl⟩, ?_⟩
    unfold PyData.shown at q
    exact q
  | bl b =>
    cases rx
    refine PySem.P.repr_of_bool ⟨.str _, H, I.tok _, ⟨_, rfl⟩, ?_⟩
    unfold PyData.shown at q
    exact q
  | int i =>
    obtain ⟨t, rfl⟩ := rx
    unfold PyData.showable at hsh
    refine PySem.P.repr_of_int (of_decide_eq_true hsh) ⟨.str _, H, I.tok _, ⟨_, rfl⟩, ?_⟩
    unfold PyData.shown at q
    exact q
  | str z =>
    obtain ⟨t, rfl⟩ := rx
    unfold PyData.shown at q hz
    exact PySem.P.repr_of_str ⟨.str _, H, I.tok _, ⟨_, rfl⟩, q⟩ hz
  | lst h1 h2 =>
    obtain ⟨as, rd⟩ := Dp.reads I _ _ _ (Dp.lst h1 h2) rx
    cases rx
    exact PySem.repr_of_reads' rd hsh (PyData.noDict_hsm hn) hg (by omega) (fun _ _ e => e) (fun h' u' tk hk => ⟨.str _, H, I.kept hk, ⟨_, rfl⟩, q⟩) hz
  | tup h1 h2 =>
    obtain ⟨as, rd⟩ := Dp.reads I _ _ _ (Dp.tup h1 h2) rx
    cases rx
    exact PySem.repr_of_reads' rd hsh (PyData.noDict_hsm hn) hg (by omega) (fun _ _ e => e) (fun h' u' tk hk => ⟨.str _, H, I.kept hk, ⟨_, rfl⟩, q⟩) hz
theorem cld_repr : ClD K (rRepr K) dRepr := fun H y fu vs ds d Q g r hf q => by
  cases r with
  | nil => cases hf
  | cons r1 r2 =>
    cases r2 with
    | cons _ _ => cases hf
    | nil =>
      obtain ⟨ho, rfl⟩ := ite_some hf
      unfold reprOk at ho
      simp only [Bool.and_eq_true, decide_eq_true_eq] at ho
      obtain ⟨⟨⟨h1, h2⟩, h3⟩, h4⟩ := ho
      exact ⟨_, _, rfl, r1.dp g.sub h1, plain_nodict _ h1, h2, h3, h4, q _ H y g (Nx.refl y H) (.str _)⟩
theorem wx_repr (C : Cxs F P w K mg base k) (hm : mg "repr" = none) (ha : WX F K e wa) (hg : ∀ i, Gl (F i) "repr" := by intro _; rfl)
    (hs : ∀ i, starEach [e] (F i).env = (false, eval e (F i).env) :: starEach [] (F i).env := by intro _; rfl) : WX F K (.Call (.Name "repr" p) [e] [] pos) (wCl dRepr (wCons wa wNil)) :=
  wx_bi C (fun i => by rw [← C.K i]; exact clr_repr (C.grd i) (by have := (C.room i).un; omega)) cld_repr hm (by decide +kernel) ha wa_nil hg (by decide) (by decide) hs (fun _ => rfl)

/-! ## sep.join(texts) -/
def strsOf : List D → Option (List Str)
  | [] => some []
  | .str s :: l => (strsOf l).map (s :: ·)
  | _ :: _ => none
theorem strsOf_rel {y : Gh} : ∀ {vs : List V} {ds : List D} {ss : List Str}, RpL K y vs ds → strsOf ds = some ss → vs = ss.map V.str
  | _, _, _, .nil, h => by cases h; rfl
  | _, _, ss, .cons r1 r2, h => by
    cases r1 with
    | str s =>
      unfold strsOf at h
      obtain ⟨tl, h1, rfl⟩ := Option.map_eq_some_iff.mp h
      rw [strsOf_rel r2 h1]
      rfl
    | _ => cases h
def dJoin : D → D → Option D
  | .str a, .lst l => (strsOf l).bind fun ss => if (ss.map (·.length)).sum + ss.length * a.length ≤ 16777216 then some (.str (Txt.join a ss)) else none
  | .str a, .tup l => (strsOf l).bind fun ss => if (ss.map (·.length)).sum + ss.length * a.length ≤ 16777216 then some (.str (Txt.join a ss)) else none
  | _, _ => none
def wM1 (f : D → D → Option D) (wa wb : WE) : WE := fun ρ fu P => wa ρ fu fun p fu1 => (∃ s, p = .str s) ∧ wb ρ fu1 fun q fu2 => ∃ d, f p q = some d ∧ P d fu2
def wM0 (f : D → Option D) (wa : WE) : WE := fun ρ fu P => wa ρ fu fun p fu1 => (∃ s, p = .str s) ∧ ∃ d, f p = some d ∧ P d fu1
/-- a method of a text -/
theorem wx_m1 {name : Str} {apos : Pos} {rm : V → List V → Hp → VK → Prop} {g : D → D → Option D} (slot : Slot "str" name id) (ty : typeOf (.builtin id) = pure (.type "method_descriptor")) (rule : ∀ i, MtR (F i) id rm) (hr : OpD K (fun x z H Q => rm x [z] H Q) g)
    (ha : WX F K a wa) (he : WX F K e wb) (hs : ∀ i, starEach [e] (F i).env = [(false, eval e (F i).env)] := by intro _; rfl)
    (hbase : ∀ i, attributeBase a name (F i).env (eval a (F i).env) = eval a (F i).env := by intro _; rfl) (hline : (apos.endLine == pos.line) = true := by rfl) :
    WX F K (.Call (.Attribute a name apos) [e] [] pos) (wM1 g wa wb) := by
  obtain ⟨ta, pa, ra⟩ := ha.ex
  obtain ⟨te, pe, re⟩ := he.ex
  refine ⟨_, fun i => pe_m1 slot ty (rule i) (pa i) (pe i) (hs i) (hbase i) hline, fun σ H y ρ fu P Q o hw q => ?_⟩
  refine ra σ H y ρ fu _ _ o hw fun d fu1 v1 H1 y1 h1 g1 n1 r1 => ?_
  obtain ⟨⟨z, rfl⟩, h1⟩ := h1
  refine ⟨by cases r1; exact ⟨_, rfl⟩, ?_⟩
  refine re σ H1 y1 ρ fu1 _ _ (o.next n1 g1) h1 fun d2 fu2 v2 H2 y2 h2 g2 n2 r2 => ?_
  obtain ⟨d3, e3, h2⟩ := h2
  exact hr H2 y2 fu2 v1 v2 _ d2 d3 Q g2 (r1.mono n2.x) r2 e3 fun v' H' y' g' n' r' => q _ _ _ _ _ h2 g' ((n1.trans n2).trans n') r'
theorem wx_m0 {name : Str} {apos : Pos} {rm : V → List V → Hp → VK → Prop} {g : D → Option D} (slot : Slot "str" name id) (ty : typeOf (.builtin id) = pure (.type "method_descriptor")) (rule : ∀ i, MtR (F i) id rm)
    (hr : ∀ (H : Hp) (y : Gh) (fu : Fu) (x : V) (p d : D) (Q : VK), GOk y H fu → Rp K y x p → g p = some d → (∀ v H' y', GOk y' H' fu → Nx y H y' H' → Rp K y' v d → Q v H') → rm x [] H Q)
    (ha : WX F K a wa) (hbase : ∀ i, attributeBase a name (F i).env (eval a (F i).env) = eval a (F i).env := by intro _; rfl) (hline : (apos.endLine == pos.line) = true := by rfl) :
    WX F K (.Call (.Attribute a name apos) [] [] pos) (wM0 g wa) := by
  obtain ⟨ta, pa, ra⟩ := ha.ex
  refine ⟨_, fun i => pe_m0 slot ty (rule i) (pa i) (hbase i) hline, fun σ H y ρ fu P Q o hw q => ?_⟩
  refine ra σ H y ρ fu _ _ o hw fun d fu1 v1 H1 y1 h1 g1 n1 r1 => ?_
  obtain ⟨⟨z, rfl⟩, d3, e3, h1⟩ := h1
  refine ⟨by cases r1; exact ⟨_, rfl⟩, ?_⟩
  exact hr H1 y1 fu1 v1 _ d3 Q g1 r1 e3 fun v' H' y' g' n' r' => q _ _ _ _ _ h1 g' (n1.trans n') r'
abbrev rJoin (K : PySem.W.Frag) : V → List V → Hp → VK → Prop := fun x xs H Q => ∃ a p, ∃ ys : List Str, x = .str a ∧ xs = [.ref p] ∧ (SqL K H p (ys.map V.str) ∨ SqT K H p (ys.map V.str)) ∧ (ys.map (·.length)).sum + ys.length * a.length ≤ 16777216 ∧ Q (.str (Txt.join a ys)) H
theorem opd_join : OpD K (fun x z H Q => rJoin K x [z] H Q) dJoin := fun H y fu x z p q d Q g rx rz hf k => by
  cases p <;> cases q
  all_goals try (cases hf; done)
  · obtain ⟨ss, h1, h2⟩ := Option.bind_eq_some_iff.mp hf
    obtain ⟨hl, rfl⟩ := ite_some h2
    cases rx
    cases rz with
    | tup z1 z2 =>
      rw [strsOf_rel z2 h1] at z1
      exact ⟨_, _, ss, rfl, rfl, .inr (sqT_same g.sub z1), hl, k _ H y g (Nx.refl y H) (.str _)⟩
  · obtain ⟨ss, h1, h2⟩ := Option.bind_eq_some_iff.mp hf
    obtain ⟨hl, rfl⟩ := ite_some h2
    cases rx
    cases rz with
    | lst z1 z2 =>
      rw [strsOf_rel z2 h1] at z1
      exact ⟨_, _, ss, rfl, rfl, .inl (.inl (.inl (g.sub _ _ z1))), hl, k _ H y g (Nx.refl y H) (.str _)⟩
theorem wx_join {apos : Pos} (C : Cxs F P w K mg base k) (ha : WX F K a wa) (he : WX F K e wb) (hs : ∀ i, starEach [e] (F i).env = [(false, eval e (F i).env)] := by intro _; rfl)
    (hbase : ∀ i, attributeBase a "join" (F i).env (eval a (F i).env) = eval a (F i).env := by intro _; rfl) (hline : (apos.endLine == pos.line) = true := by rfl) :
    WX F K (.Call (.Attribute a "join" apos) [e] [] pos) (wM1 dJoin wa wb) :=
  wx_m1 PySem.F.slot_str_join PySem.F.type_str_join (fun i => by rw [← C.K i]; exact mt_join) opd_join ha he hs hbase hline
end
end Z
namespace Z
open PySem PySem.Spec L2

/-! ## what goes into a slot: a value, or a new list -/
def Res (K : PySem.W.Frag) (y : Gh) (H : Hp) (v : V) : Sl → Prop
  | .va d => Rp K y v d
  | .ow ds => ∃ p vs, v = .ref p ∧ y.g p = none ∧ H p = some (.lst vs) ∧ Nsr y p ∧ RpL K y vs ds
  | .un => False
/-- a list is new -/
def Frs (H : Hp) (v : V) (s : Sl) : Prop := ∀ ds p, s = .ow ds → v = .ref p → H p = none
abbrev WR := List Sl → Fu → (Sl → Fu → Prop) → Prop
def RdR (K : PySem.W.Frag) (t : TE) (w : WR) : Prop := ∀ (σ : L2.St) (H : Hp) (y : Gh) (ρ : List Sl) (fu : Fu) (P : Sl → Fu → Prop) (Q : VK), Ok K y H σ ρ fu → w ρ fu P →
  (∀ s fu' v H' y', P s fu' → GOk y' H' fu' → Nx y H y' H' → Res K y' H' v s → Frs H v s → Q v H') → t σ H Q
structure WRs {ι : Type} (F : ι → Cx) (K : PySem.W.Frag) (e : Expr) (w : WR) : Prop where
  ex : ∃ t, (∀ i, PE (F i) e t) ∧ RdR K t w
section
variable {K : PySem.W.Frag} {y y0 y' : Gh} {H H0 H' : Hp} {σ : L2.St} {ρ : List Sl} {fu fu' : Fu}
theorem Res.next {v : V} {s : Sl} (r : Res K y H v s) (n : Nx y H y' H') : Res K y' H' v s := by
  cases s with
  | va d => exact Rp.mono n.x r
  | un => exact r
  | ow ds =>
    obtain ⟨p, vs, h1, h2, h3, h4, h5⟩ := r
    have hh : H p ≠ none := by rw [h3]; simp
    exact ⟨p, vs, h1, n.out p hh h2, n.frm p _ h3 (h4.next n hh), h4.next n hh, h5.mono n.x⟩
theorem St0.setR (s : St0 K y0 H0 y H σ ρ fu) (i : Nat) {v : V} {z : Sl} (r : Res K y H v z) (h0 : Frs H0 v z) (h1 : ∀ p, v = .ref p → (∃ ds, z = .ow ds) → ∀ (j : Nat) (es : List D), ρ[j]? = some (.ow es) → σ[j]? ≠ some (some (.ref p))) :
    St0 K y0 H0 y H (σ.set i (some v)) (ρ.set i z) fu := by
  cases z with
  | va d => exact s.set i r
  | un => exact r.elim
  | ow ds =>
    obtain ⟨p, vs, rfl, q2, q3, q4, q5⟩ := r
    exact s.setL i q2 q3 q4 q5 (h0 ds p rfl rfl) (h1 p rfl ⟨ds, rfl⟩)
theorem Frs.of {v : V} {z : Sl} (n : Nx y0 H0 y H) (h : Frs H v z) : Frs H0 v z := fun ds p e1 e2 => n.was (h ds p e1 e2)
theorem Frs.slots {v : V} {z : Sl} (o : Ok K y H σ ρ fu) (h : Frs H v z) : ∀ p, v = .ref p → (∃ ds, z = .ow ds) → ∀ (j : Nat) (es : List D), ρ[j]? = some (.ow es) → σ[j]? ≠ some (some (.ref p)) := by
  rintro p e1 ⟨ds, e2⟩ j es h1 h2
  obtain ⟨a, vs, q1, _, q3, _⟩ := o.ow j es h1
  rw [h2] at q1
  cases q1
  rw [h ds p e2 e1] at q3
  cases q3
end
section
variable {ι : Type} {F : ι → Cx} {K : PySem.W.Frag} {e : Expr} {we : WE} {v : WA}
def wV (w : WE) : WR := fun ρ fu P => w ρ fu fun d fu' => P (.va d) fu'
def wO (v : WA) : WR := fun ρ fu P => v ρ fu fun ds fu' => P (.ow ds) fu'
theorem WX.r (h : WX F K e we) : WRs F K e (wV we) := by
  obtain ⟨t, p, r⟩ := h.ex
  exact ⟨t, p, fun σ H y ρ fu P Q o hw q => r σ H y ρ fu _ _ o hw fun d fu' x H' y' h' g' n' r' => q _ fu' x H' y' h' g' n' r' fun _ _ e1 _ => by cases e1⟩
theorem WLs.r (h : WLs F K e v) : WRs F K e (wO v) := by
  obtain ⟨t, p, r⟩ := h.ex
  exact ⟨t, p, fun σ H y ρ fu P Q o hw q => r σ H y ρ fu _ _ o hw fun ds fu' x vs H' y' h' g' n' z1 z0 z2 z3 r' => q _ fu' _ H' y' h' g' n' ⟨x, vs, rfl, z1, z2, z3, r'⟩ fun _ x' _ e2 => by cases e2; exact z0⟩
end
section
variable {X : Cx} {x y z : Str} {a b c : Expr} {w1 w2 w3 : WR} {i j l : Nat} {px py pz pt pos : Pos} {kt k2 : Nat} {pt2 : Pos}
def zPar (i j : Nat) (w1 w2 : WR) : WS := fun B ρ fu => w1 ρ fu fun s1 fu1 => w2 ρ fu1 fun s2 fu2 => B.nx ((ρ.set i s1).set j s2) fu2
theorem set_ow {ρ : List Sl} {σ : L2.St} {i j : Nat} {s1 : Sl} {v1 : V} {es : List D} {p : Addr} (hl : σ.length = ρ.length) (h : (ρ.set i s1)[j]? = some (.ow es)) (h2 : (σ.set i (some v1))[j]? = some (some (.ref p))) :
    (∃ ds, s1 = .ow ds ∧ v1 = .ref p) ∨ (ρ[j]? = some (.ow es) ∧ σ[j]? = some (some (.ref p))) := by
  have hj := (List.getElem?_eq_some_iff.mp h).1
  rcases get_set_un h with ⟨e0, e⟩ | ⟨ne, h⟩
  · subst e0
    rw [List.getElem?_set_self (by rw [hl]; simpa using hj)] at h2
    exact .inl ⟨es, e, by cases h2; rfl⟩
  · rw [List.getElem?_set_ne ne] at h2
    exact .inr ⟨h, h2⟩
/-- a, b = .., .. of plain local names -/
theorem zt_par (hc : X.calm = true) (hN : X.N.Nodup) (hi : X.N[i]? = some x) (hj : X.N[j]? = some y) (hij : i ≠ j) (hx : X.env.scope.names.lookup x = some .local) (hy : X.env.scope.names.lookup y = some .local)
    (ha : WRs (U1 X) X.K a w1) (hb : WRs (U1 X) X.K b w2) (hw : swappedStores [.Tuple [.Name x px, .Name y py] kt pt] (.Tuple [a, b] k2 pt2) X.env = pure (some [x, y]))
    (hs : swapsWithSole [.Tuple [.Name x px, .Name y py] kt pt] (.Tuple [a, b] k2 pt2) pos.line X.env = pure false := by rfl)
    (hs1 : starEach [a, b] X.env = (false, eval a X.env) :: starEach [b] X.env := by rfl) (hs2 : starEach [b] X.env = (false, eval b X.env) :: starEach [] X.env := by rfl) :
    WSt X (.Assign [.Tuple [.Name x px, .Name y py] kt pt] (.Tuple [a, b] k2 pt2) pos) (zPar i j w1 w2) := by
  obtain ⟨ta, pa, ra⟩ := ha.ex
  obtain ⟨tb, pb, rb⟩ := hb.ex
  refine ⟨_, ps_par hc hN hi hj hij hx hy (pa_cons (pa ()) (pa_cons (pb ()) pa_nil hs2) hs1) hw hs, fun y0 H0 σ H y ρ fu B E s hw m => ?_⟩
  refine ra σ H y ρ fu _ _ s.ok hw fun s1 fu1 v1 H1 y1 h1 g1 n1 r1 f1 => ?_
  refine rb σ H1 y1 ρ fu1 _ _ (s.ok.next n1 g1) h1 fun s2 fu2 v2 H2 y2 h2 g2 n2 r2 f2 => ?_
  refine ⟨v1, v2, rfl, m.nx _ _ fu2 H2 y2 h2 ?_⟩
  have st := s.next (n1.trans n2) g2
  have q1 := st.setR i (r1.next n2) (Frs.of s.nx f1) (Frs.slots s.ok f1)
  refine q1.setR j r2 (Frs.of (s.nx.trans n1) f2) fun p e1 e2 k es h3 h4 => ?_
  rcases set_ow s.ok.len h3 h4 with ⟨ds, e3, e4⟩ | ⟨h5, h6⟩
  · subst e3
    obtain ⟨p', vs, e5, _, e6, _⟩ := r1
    rw [e4] at e5
    cases e5
    obtain ⟨ds2, e2⟩ := e2
    rw [f2 ds2 p e2 e1] at e6
    cases e6
  · exact Frs.slots (s.ok.next n1 g1) f2 p e1 e2 k es h5 h6
def zPar3 (i j l : Nat) (w1 w2 w3 : WR) : WS := fun B ρ fu => w1 ρ fu fun s1 fu1 => w2 ρ fu1 fun s2 fu2 => w3 ρ fu2 fun s3 fu3 => B.nx (((ρ.set i s1).set j s2).set l s3) fu3
theorem zt_par3 (hc : X.calm = true) (hN : X.N.Nodup) (hi : X.N[i]? = some x) (hj : X.N[j]? = some y) (hl : X.N[l]? = some z) (hij : i ≠ j) (hil : i ≠ l) (hjl : j ≠ l)
    (hx : X.env.scope.names.lookup x = some .local) (hy : X.env.scope.names.lookup y = some .local) (hz : X.env.scope.names.lookup z = some .local)
    (ha : WRs (U1 X) X.K a w1) (hb : WRs (U1 X) X.K b w2) (hcc : WRs (U1 X) X.K c w3)
    (hw : swappedStores [.Tuple [.Name x px, .Name y py, .Name z pz] kt pt] (.Tuple [a, b, c] k2 pt2) X.env = pure (some [x, y, z]))
    (hs : swapsWithSole [.Tuple [.Name x px, .Name y py, .Name z pz] kt pt] (.Tuple [a, b, c] k2 pt2) pos.line X.env = pure false := by rfl)
    (hs1 : starEach [a, b, c] X.env = (false, eval a X.env) :: starEach [b, c] X.env := by rfl) (hs2 : starEach [b, c] X.env = (false, eval b X.env) :: starEach [c] X.env := by rfl)
    (hs3 : starEach [c] X.env = (false, eval c X.env) :: starEach [] X.env := by rfl) :
    WSt X (.Assign [.Tuple [.Name x px, .Name y py, .Name z pz] kt pt] (.Tuple [a, b, c] k2 pt2) pos) (zPar3 i j l w1 w2 w3) := by
  obtain ⟨ta, pa, ra⟩ := ha.ex
  obtain ⟨tb, pb, rb⟩ := hb.ex
  obtain ⟨tc, pc, rc⟩ := hcc.ex
  refine ⟨_, ps_par3 hc hN hi hj hl hij hil hjl hx hy hz (pa_cons (pa ()) (pa_cons (pb ()) (pa_cons (pc ()) pa_nil hs3) hs2) hs1) hw hs, fun y0 H0 σ H y ρ fu B E s hw m => ?_⟩
  refine ra σ H y ρ fu _ _ s.ok hw fun s1 fu1 v1 H1 y1 h1 g1 n1 r1 f1 => ?_
  refine rb σ H1 y1 ρ fu1 _ _ (s.ok.next n1 g1) h1 fun s2 fu2 v2 H2 y2 h2 g2 n2 r2 f2 => ?_
  refine rc σ H2 y2 ρ fu2 _ _ (s.ok.next (n1.trans n2) g2) h2 fun s3 fu3 v3 H3 y3 h3 g3 n3 r3 f3 => ?_
  refine ⟨v1, v2, v3, rfl, m.nx _ _ fu3 H3 y3 h3 ?_⟩
  have st := s.next ((n1.trans n2).trans n3) g3
  have q1 := st.setR i ((r1.next n2).next n3) (Frs.of s.nx f1) (Frs.slots s.ok f1)
  have q2 := q1.setR j (r2.next n3) (Frs.of (s.nx.trans n1) f2) fun p e1 e2 k es h3 h4 => by
    rcases set_ow s.ok.len h3 h4 with ⟨ds, e3, e4⟩ | ⟨h5, h6⟩
    · subst e3
      obtain ⟨p', vs, e5, _, e6, _⟩ := r1
      rw [e4] at e5
      cases e5
      obtain ⟨ds2, e2⟩ := e2
      rw [f2 ds2 p e2 e1] at e6
      cases e6
    · exact Frs.slots (s.ok.next n1 g1) f2 p e1 e2 k es h5 h6
  refine q2.setR l r3 (Frs.of ((s.nx.trans n1).trans n2) f3) fun p e1 e2 k es h3 h4 => ?_
  obtain ⟨ds3, e2'⟩ := id e2
  rcases set_ow (by simpa using s.ok.len) h3 h4 with ⟨ds, e3, e4⟩ | ⟨h5, h6⟩
  · subst e3
    obtain ⟨p', vs, e5, _, e6, _⟩ := r2
    rw [e4] at e5
    cases e5
    rw [f3 ds3 p e2' e1] at e6
    cases e6
  · rcases set_ow s.ok.len h5 h6 with ⟨ds, e3, e4⟩ | ⟨h5, h6⟩
    · subst e3
      obtain ⟨p', vs, e5, _, e6, _⟩ := r1.next n2
      rw [e4] at e5
      cases e5
      rw [f3 ds3 p e2' e1] at e6
      cases e6
    · exact Frs.slots (s.ok.next (n1.trans n2) g2) f3 p e1 e2 k es h5 h6

/-! ## a tuple taken apart -/
def zAsg (we : WE) (g : WG) : WS := fun B ρ fu => we ρ fu fun d fu' => g d ρ fun ρ' => B.nx ρ' fu'
theorem zt_asg {tg e : Expr} {we : WE} {g : WG} {sl : List Nat} (h : WX (U1 X) X.K e we) (hg : WGt (U1 X) X.K tg sl g) (hs : swapsWithSole [tg] e pos.line X.env = pure false := by rfl) (hw : swappedStores [tg] e X.env = pure none := by rfl)
    (h1 : (assignEach [tg] X.env).map (·.2) = [assign tg X.env] := by rfl) : WSt X (.Assign [tg] e pos) (zAsg we g) := by
  obtain ⟨t, p, r⟩ := h.ex
  obtain ⟨g', pg, rg⟩ := hg.ex
  refine ⟨_, ps_asg (p ()) (pg ()) hs hw h1, fun y0 H0 σ H y ρ fu B E s hw m => ?_⟩
  refine r σ H y ρ fu _ _ s.ok hw fun d fu' v H' y' h' g2 n' r' => ?_
  exact rg y0 H0 v d σ H' y' ρ fu' _ _ (s.next n' g2) r' h' fun σ' ρ' h2 s2 _ => m.nx _ _ fu' H' y' h2 s2

/-! ## lists that grow -/
variable {e : Expr} {we : WE}
def zApp (i : Nat) (we : WE) : WS := fun B ρ fu => ∃ ds0, ρ[i]? = some (.ow ds0) ∧ we ρ fu fun d fu' => ds0.length < sizeLine ∧ B.nx (ρ.set i (.ow (ds0 ++ [d]))) fu'
theorem zt_append {nx : Str} {p1 p2 cpos : Pos} (hv : PE X (.Name nx p1) (tVar i)) (h : WX (U1 X) X.K e we) (hbase : attributeBase (.Name nx p1) "append" X.env (eval (.Name nx p1) X.env) = eval (.Name nx p1) X.env := by rfl)
    (hfew : ((backTo cpos (starEach [e] X.env)).all (fun x => !x.1) && (backToKw cpos (keywordEach [] X.env)).all (fun x => x.1.isSome) && decide ([e].length + ([] : List Keyword).length + (if ([] : List Keyword).isEmpty then 0 else 1) < 30)) = true := by rfl)
    (hline : (p2.endLine == cpos.line) = true := by rfl) (hs : starEach [e] X.env = (false, eval e X.env) :: starEach [] X.env := by rfl) (hpl : (backTo cpos (starEach [] X.env)).any (·.1) = false := by rfl)
    (hsw : swapsWith (.Call (.Attribute (.Name nx p1) "append" p2) [e] [] cpos) none pos.line X.env = pure false := by rfl) :
    WSt X (.Expr (.Call (.Attribute (.Name nx p1) "append" p2) [e] [] cpos) pos) (zApp i we) := by
  obtain ⟨t, p, r⟩ := h.ex
  refine ⟨_, ps_expr (pe_bm PySem.F.plainAttrs_list PySem.F.slot_list_append PySem.F.type_list_append mt_append hv (pa_cons (p ()) pa_nil hs) hbase hfew hline hs hpl) hsw, fun y0 H0 σ H y ρ fu B E s hw m => ?_⟩
  obtain ⟨ds0, h0, hw⟩ := hw
  obtain ⟨a, vs, q1, q2, q3, q4, q5⟩ := s.ok.ow i ds0 h0
  refine ⟨.ref a, q1, .inl ⟨rfl, _, .inl (.inl q3)⟩, ?_⟩
  refine r σ H y ρ fu _ _ s.ok hw fun d fu' v H' y' h' g' n' r' => ?_
  have hh : H a ≠ none := by rw [q3]; simp
  refine ⟨a, vs, v, rfl, rfl, n'.frm a _ q3 (q5.next n' hh), by rw [q4.length]; exact h'.1, ?_⟩
  exact m.nx _ _ fu' _ y' h'.2 ((s.next n' g').write h0 q1 ((q4.mono n'.x).append (.cons r' .nil)))
def zExt (i : Nat) (we : WE) : WS := fun B ρ fu => ∃ ds0, ρ[i]? = some (.ow ds0) ∧ we ρ fu fun d fu' => ∃ es, d = .lst es ∧ ds0.length + es.length ≤ sizeLine ∧ B.nx (ρ.set i (.ow (ds0 ++ es))) fu'
theorem zt_extend {nx : Str} {p1 p2 cpos : Pos} (hv : PE X (.Name nx p1) (tVar i)) (h : WX (U1 X) X.K e we) (hbase : attributeBase (.Name nx p1) "extend" X.env (eval (.Name nx p1) X.env) = eval (.Name nx p1) X.env := by rfl)
    (hfew : ((backTo cpos (starEach [e] X.env)).all (fun x => !x.1) && (backToKw cpos (keywordEach [] X.env)).all (fun x => x.1.isSome) && decide ([e].length + ([] : List Keyword).length + (if ([] : List Keyword).isEmpty then 0 else 1) < 30)) = true := by rfl)
    (hline : (p2.endLine == cpos.line) = true := by rfl) (hs : starEach [e] X.env = (false, eval e X.env) :: starEach [] X.env := by rfl) (hpl : (backTo cpos (starEach [] X.env)).any (·.1) = false := by rfl)
    (hsw : swapsWith (.Call (.Attribute (.Name nx p1) "extend" p2) [e] [] cpos) none pos.line X.env = pure false := by rfl) :
    WSt X (.Expr (.Call (.Attribute (.Name nx p1) "extend" p2) [e] [] cpos) pos) (zExt i we) := by
  obtain ⟨t, p, r⟩ := h.ex
  refine ⟨_, ps_expr (pe_bm PySem.F.plainAttrs_list PySem.F.slot_list_extend PySem.F.type_list_extend mt_extend hv (pa_cons (p ()) pa_nil hs) hbase hfew hline hs hpl) hsw, fun y0 H0 σ H y ρ fu B E s hw m => ?_⟩
  obtain ⟨ds0, h0, hw⟩ := hw
  obtain ⟨a, vs, q1, q2, q3, q4, q5⟩ := s.ok.ow i ds0 h0
  refine ⟨.ref a, q1, .inl ⟨rfl, _, .inl (.inl q3)⟩, ?_⟩
  refine r σ H y ρ fu _ _ s.ok hw fun d fu' v H' y' h' g' n' r' => ?_
  obtain ⟨es, rfl, hl, h'⟩ := h'
  have hh : H a ≠ none := by rw [q3]; simp
  cases r' with
  | lst z1 z2 =>
    refine ⟨a, _, vs, _, rfl, rfl, n'.frm a _ q3 (q5.next n' hh), g'.sub _ _ z1, by rw [q4.length, z2.length]; exact hl, ?_⟩
    exact m.nx _ _ fu' _ y' h' ((s.next n' g').write h0 q1 ((q4.mono n'.x).append z2))

/-! ## while, op= -/
def whN (u : WT) (w : WS) (B : DEnds) : Nat → List Sl → Fu → Prop
  | 0, _, _ => False
  | n + 1, ρ, fu => u ρ fu fun k fu' => if k = true then w { nx := whN u w B n, rt := B.rt, bk := B.nx, ct := whN u w B n } ρ fu' else B.nx ρ fu'
def zWhile (u : WT) (w : WS) : WS := fun B ρ fu => ∃ n, whN u w B n ρ fu
theorem zt_while {body : List Stmt} {u : WT} {w : WS} (hp : PassesOwn (model X.prog X.w) X.A X.env X.xe) (hc : WTs (U1 X) X.K c u) (hb : WSs X body w) : WSt X (.While c body [] pos) (zWhile u w) := by
  obtain ⟨tc, pc, rc⟩ := hc.ex
  obtain ⟨tb, pb, rb⟩ := hb.ex
  refine ⟨_, ps_while hp (pc ()) pb, fun y0 H0 σ H y ρ fu B E s hw m => ?_⟩
  obtain ⟨n, hw⟩ := hw
  refine ⟨fun m σ H => ∃ y ρ fu, St0 X.K y0 H0 y H σ ρ fu ∧ whN u w B m ρ fu, ⟨n, y, ρ, fu, s, hw⟩, ?_⟩
  rintro k σ2 H2 ⟨y2, ρ2, fu2, s2, h2⟩
  cases k with
  | zero => exact False.elim h2
  | succ k =>
    refine rc σ2 H2 y2 ρ2 fu2 _ _ s2.ok h2 fun j fu3 H3 y3 h3 g3 n3 => ?_
    cases j with
    | false =>
      rw [if_neg Bool.false_ne_true] at h3 ⊢
      exact m.nx _ _ _ _ _ h3 (s2.next n3 g3)
    | true =>
      rw [if_pos rfl] at h3 ⊢
      refine ⟨fun σ' H' => ∃ y ρ fu, St0 X.K y0 H0 y H' σ' ρ fu ∧ whN u w B k ρ fu, fun σ' H' h => ⟨k, Nat.lt_succ_self _, h⟩, ?_⟩
      exact rb y0 H0 σ2 H3 y3 ρ2 fu3 _ _ (s2.next n3 g3) h3 ⟨fun σ ρ fu H y h s => ⟨y, ρ, fu, s, h⟩, m.rt, m.nx, fun σ ρ fu H y h s => ⟨y, ρ, fu, s, h⟩⟩
def zAug (i : Nat) (f : D → D → Option D) (we : WE) : WS := fun B ρ fu => ∃ d0, ρ[i]? = some (.va d0) ∧ we ρ fu fun d fu' => ∃ d2, f d0 d = some d2 ∧ B.nx (ρ.set i (.va d2)) fu'
theorem zt_aug {x : Str} {op : Operator} {pos' : Pos} {r : R2} {f : D → D → Option D} (hN : X.N.Nodup) (hi : X.N[i]? = some x) (hx : Loc X.env.scope x) (ho : OpR X (inplaceOp op) r) (hr : OpD X.K r f) (h : WX (U1 X) X.K e we)
    (hf : X.fn x = true ∨ X.env.scope.names.lookup x = some .local := by first | exact .inl rfl | exact .inr rfl | assumption) : WSt X (.AugAssign (.Name x pos') op e pos) (zAug i f we) := by
  obtain ⟨t, p, rr⟩ := h.ex
  refine ⟨_, ps_aug hN hi hx (p ()) ho hf, fun y0 H0 σ H y ρ fu B E s hw m => ?_⟩
  obtain ⟨d0, h0, hw⟩ := hw
  obtain ⟨v0, q1, q2⟩ := s.ok.va i d0 h0
  refine ⟨v0, q1, ?_⟩
  refine rr σ H y ρ fu _ _ s.ok hw fun d fu' v H' y' h' g' n' r' => ?_
  obtain ⟨d2, e2, h'⟩ := h'
  refine hr H' y' fu' v0 v d0 d d2 _ g' (q2.mono n'.x) r' e2 fun v2 H2 y2 g2 n2 r2 => ?_
  exact m.nx _ _ fu' H2 y2 h' ((s.next (n'.trans n2) g2).set i r2)
end
end Z
namespace Z
open PySem PySem.Spec L2

/-! ## lists that still grow, read where nothing of them stays -/
def thaw : Sl → Sl
  | .ow ds => .va (.lst ds)
  | s => s
section
variable {K : PySem.W.Frag} {y y' : Gh} {H H' : Hp} {σ : L2.St} {ρ : List Sl} {fu fu' : Fu}
def Own (σ : L2.St) (ρ : List Sl) (a : Addr) : Prop := ∃ (i : Nat) (ds : List D), ρ[i]? = some (.ow ds) ∧ σ[i]? = some (some (.ref a))
open Classical in
theorem Ok.thaw (o : Ok K y H σ ρ fu) : ∃ y', Ok K y' H σ (ρ.map thaw) fu ∧ Gx y y' ∧ y'.s = y.s := by
  have own : ∀ {a}, Own σ ρ a → y.g a = none ∧ Nsr y a := fun {a} h => by
    obtain ⟨i, ds, h1, h2⟩ := h
    obtain ⟨b, vs, q1, q2, q3, q4, q5⟩ := o.ow i ds h1
    rw [h2] at q1
    cases q1
    exact ⟨q2, q5⟩
  let y2 : Gh := ⟨fun a => if Own σ ρ a then H a else y.g a, y.s⟩
  have hx : Gx y y2 := ⟨fun a u e => by
    show (if Own σ ρ a then H a else y.g a) = some u
    by_cases ho : Own σ ρ a
    · rw [(own ho).1] at e; cases e
    · rw [if_neg ho]; exact e, fun _ h => h⟩
  refine ⟨y2, ⟨⟨fun a u e => ?_, ?_⟩, by simpa using o.len, fun i d e => ?_, fun i ds e => ?_, fun i j ds es a e1 e2 e3 e4 => ?_⟩, hx, rfl⟩
  · have e' : (if Own σ ρ a then H a else y.g a) = some u := e
    by_cases ho : Own σ ρ a
    · rw [if_pos ho] at e'; exact e'
    · rw [if_neg ho] at e'; exact o.g.sub a u e'
  · have gs := o.g.src
    cases fu with
    | none => exact gs
    | some n =>
      obtain ⟨a, c, e1, e2, e3, r⟩ := gs
      have no : ∀ b, (b = a ∨ b = c) → ¬ Own σ ρ b := fun b hb ho => by
        obtain ⟨n1, n2⟩ := (own ho).2 _ e1
        rcases hb with rfl | rfl
        · exact n1 rfl
        · exact n2 rfl
      refine ⟨a, c, e1, ?_, ?_, r⟩
      · show (if Own σ ρ a then H a else y.g a) = none
        rw [if_neg (no a (.inl rfl))]; exact e2
      · show (if Own σ ρ c then H c else y.g c) = none
        rw [if_neg (no c (.inr rfl))]; exact e3
  · rw [List.getElem?_map] at e
    obtain ⟨z, hz, e⟩ := Option.map_eq_some_iff.mp e
    cases z with
    | un => cases e
    | va d0 =>
      cases e
      obtain ⟨v, q1, q2⟩ := o.va i d hz
      exact ⟨v, q1, q2.mono hx⟩
    | ow ds =>
      cases e
      obtain ⟨a, vs, q1, q2, q3, q4, q5⟩ := o.ow i ds hz
      refine ⟨.ref a, q1, .lst ?_ (q4.mono hx)⟩
      show (if Own σ ρ a then H a else y.g a) = some (.lst vs)
      rw [if_pos ⟨i, ds, hz, q1⟩]
      exact q3
  · rw [List.getElem?_map] at e
    obtain ⟨z, hz, e⟩ := Option.map_eq_some_iff.mp e
    cases z <;> cases e
  · rw [List.getElem?_map] at e1
    obtain ⟨z, hz, e⟩ := Option.map_eq_some_iff.mp e1
    cases z <;> cases e
theorem thaw_back {y2 : Gh} (g : GOk y H fu) (x : Gx y y') (hs : y'.s = y.s) (g2 : GOk y2 H' fu') (n : Nx y' H y2 H') : GOk ⟨y.g, y2.s⟩ H' fu' ∧ Nx y H ⟨y.g, y2.s⟩ H' := by
  have hsub : Sub y.g y2.g := x.g.trans n.x.g
  refine ⟨⟨hsub.trans g2.sub, ?_⟩, ⟨⟨Sub.refl _, fun p h => n.x.s p (by rw [hs]; exact h)⟩, n.frm, n.here, fun _ _ h => h, fun p h => ?_⟩⟩
  · have gs := g2.src
    cases fu' with
    | none => exact gs
    | some k =>
      obtain ⟨a, c, e1, e2, e3, r⟩ := gs
      have out : ∀ b, y2.g b = none → y.g b = none := fun b hb => by
        cases q : y.g b with
        | none => rfl
        | some u => rw [hsub b u q] at hb; cases hb
      exact ⟨a, c, e1, out a e2, out c e3, r⟩
  · rcases n.new p h with q | q
    · exact .inl (by rw [← hs]; exact q)
    · exact .inr q
end
section
variable {ι : Type} {F : ι → Cx} {K : PySem.W.Frag} {e : Expr} {we : WE} {u : WT}
def wBorT (u : WT) : WT := fun ρ fu P => u (ρ.map thaw) fu P
theorem WTs.bor (h : WTs F K e u) : WTs F K e (wBorT u) := by
  obtain ⟨t, p, r⟩ := h.ex
  refine ⟨t, p, fun σ H y ρ fu P Q o hw k => ?_⟩
  obtain ⟨y', o', x', s'⟩ := o.thaw
  refine r σ H y' _ fu P Q o' hw fun b fu' H' y2 h' g' n' => ?_
  obtain ⟨g3, n3⟩ := thaw_back o.g x' s' g' n'
  exact k b fu' H' _ h' g3 n3
/-- what is no object -/
def flat : D → Bool
  | .non => true
  | .bl _ => true
  | .int _ => true
  | .str _ => true
  | _ => false
def wBor (we : WE) : WE := fun ρ fu P => we (ρ.map thaw) fu fun d fu' => flat d = true ∧ P d fu'
theorem WX.bor (h : WX F K e we) : WX F K e (wBor we) := by
  obtain ⟨t, p, r⟩ := h.ex
  refine ⟨t, p, fun σ H y ρ fu P Q o hw k => ?_⟩
  obtain ⟨y', o', x', s'⟩ := o.thaw
  refine r σ H y' _ fu _ Q o' hw fun d fu' v H' y2 h' g' n' r' => ?_
  obtain ⟨g3, n3⟩ := thaw_back o.g x' s' g' n'
  refine k d fu' v H' _ h'.2 g3 n3 ?_
  cases r' with
  | non => exact .non
  | bl b => exact .bl b
  | int b => exact .int b
  | str b => exact .str b
  | _ => cases h'.1
end

/-! ## the end -/
section
open PyProof.Rows (IntsAre AllBare)
theorem guards_caller : callerA.guards = some [] := rfl
/-- a heap in which the script alone may be tracked -/
structure Alone (K : PySem.W.Frag) (H : Hp) (a : Addr) (xs : List V) : Prop where
  only : ∀ b u, H b = some u → b = a ∧ ∃ o, u = .frz o (.lst xs)
  seq : SqL K H a xs
  notK : H a ≠ none → K.lookup a = none
/-- the law's call, from its promise -/
theorem law_end {P : Program} {w : World} {K : PySem.W.Frag} {mg mb : Str → Option Value} {k : Nat} {fa a : Addr} {fd : FuncData} {x : Str} {wf : WF} {s1 : Shared} {vs : List Value} {ns : List Int}
    (KX : K.In s1.heap) (hns : s1.heap.Ns mainGlobals mg) (hb : s1.heap.Ns builtinsNs mb) (hbb : ∀ x : Str, x ≠ "__name__" → mb x = bootBuiltins x) (hlim : s1.heap.NoLimit) (hg : s1.gens = #[])
    (ha : s1.heap.get? a = some { cls := .type "list", data := .seq vs.toArray }) (hi : IntsAre vs ns) (hl : ns.length ≤ 63) (hr : Room k callerA)
    (F : ∀ base : Heap, K.In base → base.Ns mainGlobals mg → FnG P w K mg base k fa fd [x] wf) (hbind : ∀ (s : Shared) (u : Value), BindsTo s fd ⟨[u], []⟩ [(x, u)])
    (hw : wf [.scr] none fun d _ => d = .bl true) :
    codeAny (model P w) callerA (.call (.ref fa) ⟨[.ref a], []⟩) (fun r s' => r = .ok (.ret (.bool true)) ∧ OldK s1.heap s'.heap ∧ s'.os = s1.os ∧ AllBare s'.gens) s1 := by
  have hl2 : ns.length ≤ sizeLine := Nat.le_trans hl (by decide)
  have rv := L2.vals_ints hi
  have main : ∀ H : Hp, Alone K H a (ns.map V.int) → HOk P w H s1.heap → codeAny (model P w) callerA (.call (.ref fa) ⟨[.ref a], []⟩) (fun r s' => r = .ok (.ret (.bool true)) ∧ OldK s1.heap s'.heap ∧ s'.os = s1.os ∧ AllBare s'.gens) s1 := by
    intro H al hok
    have dicts : ∀ {b : Addr} {o : Obj} {es : Array DictEntry} {ep : Nat}, s1.heap.get? b = some o → o.data = .dict es ep → H b = none := by
      intro b o es ep e d
      cases q : H b with
      | none => rfl
      | some u =>
        obtain ⟨rfl, _⟩ := al.only b u q
        rw [ha] at e
        cases e
        have d' : Data.seq vs.toArray _ = Data.dict es ep := d
        cases d'
    have nsOf : ∀ {b : Addr} {m : Str → Option Value}, s1.heap.Ns b m → (hidT s1.heap H).Ns b m := by
      rintro b m ⟨o, es, ep, e, d, r⟩
      exact ⟨o, es, ep, hidT_get e (dicts e d), d, r⟩
    have kin : K.In (hidT s1.heap H) := by
      intro b o e
      refine hidT_get (KX b o e) ?_
      cases q : H b with
      | none => rfl
      | some u =>
        obtain ⟨rfl, _⟩ := al.only b u q
        rw [al.notK (by rw [q]; simp)] at e
        cases e
    have md : Mod K mg (hidT s1.heap H) := ⟨kin, nsOf hns, ⟨mb, nsOf hb, hbb⟩, by obtain ⟨mc, h1, h2⟩ := hlim; exact ⟨mc, nsOf h1, h2⟩⟩
    have e0 : Env0 P w K mg (hidT s1.heap H) callerA [] s1 H := ⟨rfl, md, fun b o e => of_hidT e, Nat.le_of_eq (hidT_size _ _), trivial, by intro b hb; exact absurd (show b ∈ ([] : List Addr) from hb) (by simp), hok, .of_eq hg⟩
    have go : GOk ⟨H, none⟩ H none := ⟨Sub.refl H, rfl⟩
    refine codeAny_mono ((F _ kin (nsOf hns)).run callerA [] s1 H ⟨[.ref a], []⟩ [.ref a] [.ref a] [.scr] ⟨H, none⟩ none _ (fun v _ => v = .bl true) hr guards_caller e0 (hbind s1 (.ref a)) (.cons rfl .nil) rfl go (.cons (.scr al.seq hl) .nil) hw ?_) ?_
    · intro d fu' v H' y' hd _ _ r
      subst hd
      cases r
      rfl
    · intro r s' h
      cases r with
      | error e => exact False.elim h
      | ok fl =>
        cases fl with
        | next => exact False.elim h
        | brk => exact False.elim h
        | cont => exact False.elim h
        | ret u =>
          obtain ⟨v, H', os, bare, un, hok', r', q⟩ := h
          have q' : v = .bl true := q
          subst q'
          obtain rfl : u = Value.bool true := r'
          refine ⟨rfl, OldK.of_keep fun b o e => ?_, os, bare⟩
          cases q : H b with
          | none => exact un.keep b o e q (by intro z; exact absurd (show b ∈ ([] : List Addr) from z) (by simp)) (by simp)
          | some u =>
            obtain ⟨_, ob, rfl⟩ := al.only b u q
            obtain ⟨e1, _⟩ := hok b _ q
            obtain ⟨e2, _⟩ := hok' b _ (un.frzs b ob _ q)
            rw [e] at e1
            cases e1
            exact e2
  cases hk : K.lookup a with
  | some o =>
    have e := KX a o hk
    rw [ha] at e
    cases e
    refine main (fun _ => none) ⟨fun b u z => (by have z' : (none : Option HO) = some u := z; cases z'), ?_, fun z => absurd rfl z⟩ fun b u z => (by have z' : (none : Option HO) = some u := z; cases z')
    refine .inr ⟨_, vs.toArray, _, hk, rfl, rfl, rfl, ?_, by simpa using rv⟩
    have := hi.length
    simp only [List.size_toArray]
    omega
  | none =>
    let Hs : Hp := fun b => if b = a then some (.frz { cls := .type "list", data := .seq vs.toArray } (.lst (ns.map V.int))) else none
    have at_a : Hs a = some (.frz { cls := .type "list", data := .seq vs.toArray } (.lst (ns.map V.int))) := if_pos rfl
    have at_b : ∀ b u, Hs b = some u → b = a := fun b u z => by
      by_cases hb : b = a
      · exact hb
      · have z' := (if_neg hb).symm.trans z
        cases z'
    refine main Hs ⟨fun b u z => ?_, .inl (.inr ⟨_, at_a⟩), fun _ => hk⟩ fun b u z => ?_
    · have hb := at_b b u z
      subst hb
      rw [at_a] at z
      cases z
      exact ⟨rfl, _, rfl⟩
    · have hb := at_b b u z
      subst hb
      rw [at_a] at z
      cases z
      exact ⟨ha, by rw [List.length_map]; exact hl2, vs, _, rv, ha⟩
/-- the goal that k_head leaves -/
theorem walk_g {l : PySem.W.OpenLaw} {k : Nat} {q : Program} {loose : List Str} {XP : (Str → Option Value) → Heap → Prop} {YP : World → Heap → Prop} {d : DefRec} {K : Params → PySem.W.Frag} {x : Str} {wf : WF}
    (hn : l.most = some 63) (hdf : d.params.defaults = []) (hr : Room k callerA) (hY : ∀ (w : World) (h : Heap), YP w h → (K w.params).In h)
    (F : ∀ (w : World) (mg : Str → Option Value) (fa : Addr) (h : Heap), (K w.params).In h → h.Ns mainGlobals mg → mg d.name = some (.ref fa) →
      ∃ fd : FuncData, (∀ (s : Shared) (u : Value), BindsTo s fd ⟨[u], []⟩ [(x, u)]) ∧ ∀ base : Heap, (K w.params).In base → base.Ns mainGlobals mg → FnG l.prog w (K w.params) mg base k fa fd [x] wf)
    (hw : wf [.scr] none fun d _ => d = .bl true) : PySem.W.WalkO q loose XP YP l.row.toRowW d [] (fun f vs => PySem.call f vs) := by
  refine Att.attach_call hn hdf fun w s0 s1 mg mb fa o pm cd doc a vs ns G Y ho hd hcd hmg hobj hints hlen hg => ?_
  have KX := hY w _ Y
  obtain ⟨fd, hb, hF⟩ := F w mg fa _ KX G.T.g hmg
  exact law_end KX G.T.g G.T.b G.T.builtins G.T.nolimit hg hobj hints hlen hr hF hb hw
end
end Z
namespace Z
open PySem PySem.Spec L2

/-! ## short rules -/
section
variable {ι : Type} {F : ι → Cx} {P : Program} {w : World} {K : PySem.W.Frag} {mg : Str → Option Value} {base : Heap} {k : Nat} {a b : Expr} {wa wb : WE} {pos : Pos}
theorem wx_add (C : Cxs F P w K mg base k) (ha : WX F K a wa) (hb : WX F K b wb) : WX F K (.BinOp a .Add b pos) (wOp dAdd wa wb) := wx_op (fun i => by rw [← C.K i]; exact opr_add) opd_add ha hb
theorem wx_sub (C : Cxs F P w K mg base k) (ha : WX F K a wa) (hb : WX F K b wb) : WX F K (.BinOp a .Sub b pos) (wOp dSub wa wb) := wx_op (fun i => opr_sub) opd_sub ha hb
theorem wx_mul (C : Cxs F P w K mg base k) (ha : WX F K a wa) (hb : WX F K b wb) : WX F K (.BinOp a .Mult b pos) (wOp dMul wa wb) := wx_op (fun i => op_mul) opd_mul ha hb
theorem wx_mod (C : Cxs F P w K mg base k) (ha : WX F K a wa) (hb : WX F K b wb) : WX F K (.BinOp a .Mod b pos) (wOp dMod wa wb) := wx_op (fun i => op_mod) opd_mod ha hb
theorem wx_fdiv (C : Cxs F P w K mg base k) (ha : WX F K a wa) (hb : WX F K b wb) : WX F K (.BinOp a .FloorDiv b pos) (wOp dFdiv wa wb) := wx_op (fun i => op_fdiv) opd_fdiv ha hb
theorem opr_eq {X : Cx} (hu : X.A.units + 64 < cLine) : OpR X (compareOp .Eq) (rEqA X.K) := op_eq.or (op_eqD hu)
theorem opr_ne {X : Cx} (hu : X.A.units + 64 < cLine) : OpR X (compareOp .NotEq) (rNeA X.K) := op_ne.or (op_neD hu)
theorem wx_eq (C : Cxs F P w K mg base k) (ha : WX F K a wa) (hb : WX F K b wb) : WX F K (.Compare a [.Eq] [b] pos) (wOp dEq wa wb) := wx_cmp (fun i => by rw [← C.K i]; exact opr_eq (C.room i).units) opd_eq ha hb (nomark _)
theorem wx_ne (C : Cxs F P w K mg base k) (ha : WX F K a wa) (hb : WX F K b wb) : WX F K (.Compare a [.NotEq] [b] pos) (wOp dNe wa wb) := wx_cmp (fun i => by rw [← C.K i]; exact opr_ne (C.room i).units) opd_ne ha hb (nomark _)
theorem wx_lt (C : Cxs F P w K mg base k) (ha : WX F K a wa) (hb : WX F K b wb) : WX F K (.Compare a [.Lt] [b] pos) (wOp dLt wa wb) := wx_cmp (fun i => opr_lt) opd_lt ha hb (nomark _)
theorem wx_le (C : Cxs F P w K mg base k) (ha : WX F K a wa) (hb : WX F K b wb) : WX F K (.Compare a [.LtE] [b] pos) (wOp dLe wa wb) := wx_cmp (fun i => opr_le) opd_le ha hb (nomark _)
theorem wx_gt (C : Cxs F P w K mg base k) (ha : WX F K a wa) (hb : WX F K b wb) : WX F K (.Compare a [.Gt] [b] pos) (wOp dGt wa wb) := wx_cmp (fun i => opr_gt) opd_gt ha hb (nomark _)
theorem wx_ge (C : Cxs F P w K mg base k) (ha : WX F K a wa) (hb : WX F K b wb) : WX F K (.Compare a [.GtE] [b] pos) (wOp dGe wa wb) := wx_cmp (fun i => opr_ge) opd_ge ha hb (nomark _)
theorem wx_isN {j : Nat} {p : Pos} (C : Cxs F P w K mg base k) (ha : WX F K a wa) : WX F K (.Compare a [.Is] [.Constant .none j p] pos) (wOp dIsN wa (wC .non)) := wx_cmp (fun i => op_isN) opd_isN ha wx_non (nomark _)
theorem wx_notN {j : Nat} {p : Pos} (C : Cxs F P w K mg base k) (ha : WX F K a wa) : WX F K (.Compare a [.IsNot] [.Constant .none j p] pos) (wOp dNotN wa (wC .non)) := wx_cmp (fun i => op_notN) opd_notN ha wx_non (nomark _)
theorem wt_eq (C : Cxs F P w K mg base k) (ha : WX F K a wa) (hb : WX F K b wb) : WTs F K (.Compare a [.Eq] [b] pos) (wB (wOp dEq wa wb)) := wt_cmp (fun i => by rw [← C.K i]; exact opr_eq (C.room i).units) opd_eq ha hb (nomark _)
theorem wt_ne (C : Cxs F P w K mg base k) (ha : WX F K a wa) (hb : WX F K b wb) : WTs F K (.Compare a [.NotEq] [b] pos) (wB (wOp dNe wa wb)) := wt_cmp (fun i => by rw [← C.K i]; exact opr_ne (C.room i).units) opd_ne ha hb (nomark _)
theorem wt_lt (C : Cxs F P w K mg base k) (ha : WX F K a wa) (hb : WX F K b wb) : WTs F K (.Compare a [.Lt] [b] pos) (wB (wOp dLt wa wb)) := wt_cmp (fun i => opr_lt) opd_lt ha hb (nomark _)
theorem wt_le (C : Cxs F P w K mg base k) (ha : WX F K a wa) (hb : WX F K b wb) : WTs F K (.Compare a [.LtE] [b] pos) (wB (wOp dLe wa wb)) := wt_cmp (fun i => opr_le) opd_le ha hb (nomark _)
theorem wt_gt (C : Cxs F P w K mg base k) (ha : WX F K a wa) (hb : WX F K b wb) : WTs F K (.Compare a [.Gt] [b] pos) (wB (wOp dGt wa wb)) := wt_cmp (fun i => opr_gt) opd_gt ha hb (nomark _)
theorem wt_ge (C : Cxs F P w K mg base k) (ha : WX F K a wa) (hb : WX F K b wb) : WTs F K (.Compare a [.GtE] [b] pos) (wB (wOp dGe wa wb)) := wt_cmp (fun i => opr_ge) opd_ge ha hb (nomark _)
theorem wt_isN {j : Nat} {p : Pos} (C : Cxs F P w K mg base k) (ha : WX F K a wa) : WTs F K (.Compare a [.Is] [.Constant .none j p] pos) (wB (wOp dIsN wa (wC .non))) := wt_cmp (fun i => op_isN) opd_isN ha wx_non (nomark _)
theorem wt_notN {j : Nat} {p : Pos} (C : Cxs F P w K mg base k) (ha : WX F K a wa) : WTs F K (.Compare a [.IsNot] [.Constant .none j p] pos) (wB (wOp dNotN wa (wC .non))) := wt_cmp (fun i => op_notN) opd_notN ha wx_non (nomark _)
/-- a name of a slot -/
theorem wvar (i : Nat) {x : Str} (h : ∀ k, PE (F k) (.Name x pos) (tVar i) := by intro _; exact pv _) : WX F K (.Name x pos) (wVar i) := wx_var i h
theorem gvar (i : Nat) {x : Str} (h : ∀ k, PG (F k) (.Name x pos) (gName i)) : WGt F K (.Name x pos) [i] (gN i) := wg_name h
/-- a global that holds a text -/
theorem wgs {x s : Str} {t : Tok} (C : Cxs F P w K mg base k) (hm : mg x = some (.str s t)) (hg : ∀ i, Gl (F i) x := by intro _; rfl) (hd : (x == ("__debug__" : Str)) = false := by decide) : WX F K (.Name x pos) (wC (.str s)) :=
  wx_glob (fun i => pe_glob (v := .str s) (hg i) (by rw [C.mg i]; exact hm) ⟨t, rfl⟩ hd) fun _ => .str s
/-- a global that holds an int -/
theorem wgi {x : Str} {n : Int} {t : Tok} (C : Cxs F P w K mg base k) (hm : mg x = some (.int n t)) (hg : ∀ i, Gl (F i) x := by intro _; rfl) (hd : (x == ("__debug__" : Str)) = false := by decide) : WX F K (.Name x pos) (wC (.int n)) :=
  wx_glob (fun i => pe_glob (v := .int n) (hg i) (by rw [C.mg i]; exact hm) ⟨t, rfl⟩ hd) fun _ => .int n
/-- ranges -/
theorem wr1 {tg e : Expr} {p : Pos} {we : WE} (C : Cxs F P w K mg base k) (hm : mg "range" = none) (h : WX F K e we) (hg : ∀ k, Gl (F k) "range" := by intro _; rfl) (hs : ∀ k, starEach [e] (F k).env = [(false, eval e (F k).env)] := by intro _; rfl)
    (hs' : ∀ k, starEach [e] (F k).env = (false, eval e (F k).env) :: starEach [] (F k).env := by intro _; rfl) : WI F K tg (.Call (.Name "range" p) [e] [] pos) (iR1 we) := wi_range1 hg (fun i => (C.mg i).symm ▸ hm) h hs hs'
theorem wr2 {tg e e2 : Expr} {p : Pos} {we w2 : WE} (C : Cxs F P w K mg base k) (hm : mg "range" = none) (h : WX F K e we) (h2 : WX F K e2 w2) (hg : ∀ k, Gl (F k) "range" := by intro _; rfl)
    (hs : ∀ k, starEach [e, e2] (F k).env = [(false, eval e (F k).env), (false, eval e2 (F k).env)] := by intro _; rfl) (hs2 : ∀ k, starEach [e2] (F k).env = [(false, eval e2 (F k).env)] := by intro _; rfl)
    (hs3 : ∀ k, starEach [e, e2] (F k).env = (false, eval e (F k).env) :: starEach [e2] (F k).env := by intro _; rfl) (hs4 : ∀ k, starEach [e2] (F k).env = (false, eval e2 (F k).env) :: starEach [] (F k).env := by intro _; rfl) :
    WI F K tg (.Call (.Name "range" p) [e, e2] [] pos) (iR2 we w2) := wi_range2 hg (fun i => (C.mg i).symm ▸ hm) h h2 hs hs2 hs3 hs4
end
end Z
namespace Z
open PySem PySem.Spec L2

/-! ## plain facts for proofs about data -/
theorem shaped_py {d : D} (h : plain d = true) (h1 : PyData.canLay0 (py d) = true) (h2 : PyData.depth (py d) ≤ 64) : SeqAt.shaped (py d) = true := by
  unfold SeqAt.shaped
  rw [h1, decide_eq_true h2]
  rfl
/-- a list of texts -/
def sL (l : List Str) : D := .lst (l.map .str)
theorem pyL_strs : ∀ l : List Str, pyL (l.map .str) = l.map .str
  | [] => by simp [pyL]
  | s :: l => by rw [List.map_cons, pyL, pyL_strs l]; simp [py]
theorem plainL_strs : ∀ l : List Str, plainL (l.map .str) = true
  | [] => by simp [plainL]
  | s :: l => by rw [List.map_cons, plainL, plainL_strs l]; simp [plain]
theorem lay_strs : ∀ l : List Str, (∀ s ∈ l, PyData.strOk s = true) → PyData.canLayAll0 (l.map .str) = true
  | [], _ => by simp [PyData.canLayAll0]
  | s :: l, h => by
    rw [List.map_cons, PyData.canLayAll0, lay_strs l fun x hx => h x (List.mem_cons_of_mem _ hx)]
    simp [PyData.canLay0, h s List.mem_cons_self]
theorem depth_strs : ∀ l : List Str, PyData.depthAll (l.map .str) = 0
  | [] => by simp [PyData.depthAll]
  | s :: l => by rw [List.map_cons, PyData.depthAll, depth_strs l]; simp [PyData.depth]
/-- strs == [] -/
theorem eq_strs_nil (l : List Str) (h : ∀ s ∈ l, PyData.strOk s = true) : dEq (sL l) (.lst []) = some (.bl l.isEmpty) := by
  have hs : SeqAt.shaped (py (sL l)) = true := by
    unfold sL py SeqAt.shaped PyData.canLay0 PyData.depth
    rw [pyL_strs, lay_strs l h, depth_strs]
    rfl
  have hp : plain (sL l) = true := by unfold sL plain; exact plainL_strs l
  have h0 : SeqAt.shaped (py (.lst [])) = true := by decide
  unfold dEq eqOk
  rw [hp, hs, h0]
  have : deq (sL l) (.lst []) = l.isEmpty := by
    unfold deq sL py
    rw [pyL_strs]
    cases l <;> simp [pyL, PyData.eqv, PyData.eqvAll]
  simp [plain, plainL, scalD, sL, this]
  exact this
end Z
namespace Z
open PySem PySem.Spec L2

/-! ## reading the readings -/
theorem ite_and' {a b x y : Prop} [Decidable a] [Decidable b] : (if a ∧ b then x else y) = (if a then if b then x else y else y) := by
  by_cases ha : a <;> by_cases hb : b <;> simp [ha, hb]
/-- it is a bool, and .. -/
def IsB (d : D) (R : Bool → Prop) : Prop := ∃ k, d = .bl k ∧ R k
@[simp] theorem isB {b : Bool} {R : Bool → Prop} : IsB (.bl b) R = R b := propext ⟨fun ⟨_, e, h⟩ => by cases e; exact h, fun h => ⟨b, rfl, h⟩⟩
/-- there is one, and .. -/
def IsS {α : Type} (o : Option α) (R : α → Prop) : Prop := ∃ d, o = some d ∧ R d
@[simp] theorem isS {α : Type} {d : α} {R : α → Prop} : IsS (some d) R = R d := propext ⟨fun ⟨_, e, h⟩ => by cases e; exact h, fun h => ⟨d, rfl, h⟩⟩
@[simp] theorem isS0 {α : Type} {R : α → Prop} : IsS none R = False := propext ⟨fun ⟨_, e, _⟩ => (by cases e), False.elim⟩
theorem isS_of {α : Type} {o : Option α} {d : α} {R : α → Prop} (h : o = some d) (r : R d) : IsS o R := ⟨d, h, r⟩
section
variable {ρ : List Sl} {fu : Fu} {i j l : Nat} {d : D} {P : KD} {R : Bool → Fu → Prop} {T : List D → Fu → Prop} {B : DEnds} {wa wb we : WE} {u u' : WT} {v vk : WA} {w w' : WS} {f : D → D → Option D} {f1 : D → Option D} {fl : List D → Option D} {g : WG} {gl : WGl} {wf : WF} {n m : Nat}
@[simp] theorem e_var : wVar i ρ fu P = ∃ d, ρ[i]? = some (.va d) ∧ P d fu := rfl
@[simp] theorem e_c : wC d ρ fu P = P d fu := rfl
@[simp] theorem e_op : wOp f wa wb ρ fu P = wa ρ fu fun p fu1 => wb ρ fu1 fun q fu2 => IsS (f p q) fun d => P d fu2 := rfl
@[simp] theorem e_b : wB wa ρ fu R = wa ρ fu fun d fu' => IsB d fun k => R k fu' := rfl
@[simp] theorem e_and : wAnd u u' ρ fu R = u ρ fu fun k fu1 => if k = true then u' ρ fu1 R else R false fu1 := rfl
@[simp] theorem e_or : wOr u u' ρ fu R = u ρ fu fun k fu1 => if k = true then R true fu1 else u' ρ fu1 R := rfl
@[simp] theorem e_not : wNot u ρ fu R = u ρ fu fun k fu1 => R (!k) fu1 := rfl
@[simp] theorem e_andv : wAndV wa wb ρ fu P = wa ρ fu fun d fu1 => IsB d fun k => if k = true then wb ρ fu1 P else P (.bl false) fu1 := rfl
@[simp] theorem e_orv : wOrV wa wb ρ fu P = wa ρ fu fun d fu1 => IsB d fun k => if k = true then P (.bl true) fu1 else wb ρ fu1 P := rfl
@[simp] theorem e_notv : wNotV wa ρ fu P = wa ρ fu fun d fu1 => IsB d fun k => P (.bl (!k)) fu1 := rfl
@[simp] theorem e_if : wIf u wa wb ρ fu P = u ρ fu fun k fu1 => if k = true then wa ρ fu1 P else wb ρ fu1 P := rfl
@[simp] theorem e_anil : wNil ρ fu T = T [] fu := rfl
@[simp] theorem e_acons : wCons wa v ρ fu T = wa ρ fu fun d fu1 => v ρ fu1 fun ds fu2 => T (d :: ds) fu2 := rfl
@[simp] theorem e_tup : wTup v ρ fu P = v ρ fu fun ds fu1 => ds.length ≤ sizeLine ∧ P (.tup ds) fu1 := rfl
@[simp] theorem e_lst : wLst v ρ fu T = v ρ fu fun ds fu1 => ds.length ≤ sizeLine ∧ T ds fu1 := rfl
@[simp] theorem e_fz : wFz v ρ fu P = v ρ fu fun ds fu1 => P (.lst ds) fu1 := rfl
@[simp] theorem e_yes : wYes ρ fu R = R true fu := rfl
@[simp] theorem e_cl : wCl fl v ρ fu P = v ρ fu fun ds fu1 => IsS (fl ds) fun d => P d fu1 := rfl
@[simp] theorem e_un : wUn f1 wa ρ fu P = wa ρ fu fun p fu1 => IsS (f1 p) fun d => P d fu1 := rfl
@[simp] theorem e_m1 : wM1 f wa wb ρ fu P = wa ρ fu fun p fu1 => (∃ s, p = .str s) ∧ wb ρ fu1 fun q fu2 => IsS (f p q) fun d => P d fu2 := rfl
@[simp] theorem e_m0 : wM0 f1 wa ρ fu P = wa ρ fu fun p fu1 => (∃ s, p = .str s) ∧ IsS (f1 p) fun d => P d fu1 := rfl
@[simp] theorem e_call : wCall n wf v ρ fu P = v ρ fu fun ds fu' => ds.length = n ∧ wf ds fu' P := rfl
@[simp] theorem e_callk {perm : List Nat} : wCallK n m l perm wf v vk ρ fu P = v ρ fu fun ds fu' => vk ρ fu' fun es fu'' => ds.length = m ∧ es.length = l ∧ (pick perm (ds ++ es)).length = n ∧ wf (pick perm (ds ++ es)) fu'' P := rfl
@[simp] theorem e_bort : wBorT u ρ fu R = u (ρ.map thaw) fu R := rfl
@[simp] theorem e_bor : wBor we ρ fu P = we (ρ.map thaw) fu fun d fu' => flat d = true ∧ P d fu' := rfl
@[simp] theorem e_gn {Q : List Sl → Prop} : gN i d ρ Q = Q (ρ.set i (.va d)) := rfl
@[simp] theorem e_glnil {Q : List Sl → Prop} : glNil [] ρ Q = Q ρ := by simp [glNil]
@[simp] theorem e_glcons {ds : List D} {Q : List Sl → Prop} : glCons g gl (d :: ds) ρ Q = g d ρ fun ρ' => gl ds ρ' Q := propext ⟨fun ⟨_, _, e, h⟩ => by cases e; exact h, fun h => ⟨_, _, rfl, h⟩⟩
@[simp] theorem e_gt {ds : List D} {Q : List Sl → Prop} : gT n gl (.tup ds) ρ Q = (ds.length = n ∧ gl ds ρ Q) := propext ⟨fun ⟨_, e, h⟩ => by cases e; exact h, fun h => ⟨_, rfl, h⟩⟩
@[simp] theorem sz0 : 0 ≤ sizeLine := Nat.zero_le _
@[simp] theorem sz1 : 1 ≤ sizeLine := by decide
@[simp] theorem sz2 : 2 ≤ sizeLine := by decide
@[simp] theorem sz3 : 3 ≤ sizeLine := by decide
@[simp] theorem sz4 : 4 ≤ sizeLine := by decide
@[simp] theorem sz5 : 5 ≤ sizeLine := by decide
@[simp] theorem sz6 : 6 ≤ sizeLine := by decide
@[simp] theorem sz7 : 7 ≤ sizeLine := by decide
@[simp] theorem sz8 : 8 ≤ sizeLine := by decide
@[simp] theorem sz9 : 9 ≤ sizeLine := by decide
@[simp] theorem sz10 : 10 ≤ sizeLine := by decide
@[simp] theorem sz11 : 11 ≤ sizeLine := by decide
@[simp] theorem sz12 : 12 ≤ sizeLine := by decide
@[simp] theorem sz13 : 13 ≤ sizeLine := by decide
@[simp] theorem sz14 : 14 ≤ sizeLine := by decide
@[simp] theorem sz15 : 15 ≤ sizeLine := by decide
@[simp] theorem sz16 : 16 ≤ sizeLine := by decide
@[simp] theorem sz17 : 17 ≤ sizeLine := by decide
@[simp] theorem sz18 : 18 ≤ sizeLine := by decide
@[simp] theorem sz19 : 19 ≤ sizeLine := by decide
@[simp] theorem sz20 : 20 ≤ sizeLine := by decide
@[simp] theorem sz21 : 21 ≤ sizeLine := by decide
@[simp] theorem sz22 : 22 ≤ sizeLine := by decide
@[simp] theorem sz23 : 23 ≤ sizeLine := by decide
@[simp] theorem sz24 : 24 ≤ sizeLine := by decide
@[simp] theorem sz25 : 25 ≤ sizeLine := by decide
@[simp] theorem sz26 : 26 ≤ sizeLine := by decide
@[simp] theorem sz27 : 27 ≤ sizeLine := by decide
@[simp] theorem sz28 : 28 ≤ sizeLine := by decide
@[simp] theorem sz29 : 29 ≤ sizeLine := by decide
@[simp] theorem sz30 : 30 ≤ sizeLine := by decide
@[simp] theorem sz31 : 31 ≤ sizeLine := by decide
@[simp] theorem sz32 : 32 ≤ sizeLine := by decide
@[simp] theorem sz33 : 33 ≤ sizeLine := by decide
@[simp] theorem sz34 : 34 ≤ sizeLine := by decide
@[simp] theorem sz35 : 35 ≤ sizeLine := by decide
@[simp] theorem sz36 : 36 ≤ sizeLine := by decide
@[simp] theorem sz37 : 37 ≤ sizeLine := by decide
@[simp] theorem sz38 : 38 ≤ sizeLine := by decide
@[simp] theorem sz39 : 39 ≤ sizeLine := by decide
@[simp] theorem sz40 : 40 ≤ sizeLine := by decide
@[simp] theorem e_il : iL wa ρ fu T = wa ρ fu fun d fu' => ∃ ds, d = .lst ds ∧ T ds fu' := rfl
@[simp] theorem e_it : iT wa ρ fu T = wa ρ fu fun d fu' => ∃ ds, d = .tup ds ∧ T ds fu' := rfl
@[simp] theorem e_is : iS wa ρ fu T = wa ρ fu fun d fu' => ∃ x, d = .str x ∧ T (signs x) fu' := rfl
@[simp] theorem e_ir1 : iR1 wa ρ fu T = wa ρ fu fun d fu' => ∃ n : Int, d = .int n ∧ (-(2 ^ 62) ≤ n ∧ n < 2 ^ 62) ∧ T (rng 0 n) fu' := rfl
@[simp] theorem e_ir2 : iR2 wa wb ρ fu T = wa ρ fu fun d fu' => wb ρ fu' fun d' fu'' => ∃ m n : Int, d = .int m ∧ d' = .int n ∧ (-(2 ^ 62) ≤ m ∧ m < 2 ^ 62 ∧ -(2 ^ 62) ≤ n ∧ n < 2 ^ 62) ∧ T (rng m n) fu'' := rfl
@[simp] theorem e_onone {U : Option Int → Fu → Prop} : oNone ρ fu U = U none fu := rfl
@[simp] theorem e_osome {U : Option Int → Fu → Prop} : oSome wa ρ fu U = wa ρ fu fun d fu' => ∃ i, d = .int i ∧ U (some i) fu' := rfl
@[simp] theorem e_sl {wl wh : WO} : wSl wa wl wh ρ fu P = wa ρ fu fun p fu1 => wl ρ fu1 fun lo fu2 => wh ρ fu2 fun hi fu3 => IsS (dSl p lo hi) fun d => P d fu3 := rfl
-- statements
@[simp] theorem z_next : zNext B ρ fu = B.nx ρ fu := rfl
@[simp] theorem z_pass : zPass B ρ fu = B.nx ρ fu := rfl
@[simp] theorem z_break : zBreak B ρ fu = B.bk ρ fu := rfl
@[simp] theorem z_cont : zCont B ρ fu = B.ct ρ fu := rfl
@[simp] theorem z_expr : zExpr we B ρ fu = we ρ fu fun _ fu' => B.nx ρ fu' := rfl
@[simp] theorem z_ret : zRet we B ρ fu = we ρ fu B.rt := rfl
@[simp] theorem z_retn : zRetN B ρ fu = B.rt .non fu := rfl
@[simp] theorem z_if : zIf u w w' B ρ fu = u ρ fu fun k fu' => if k = true then w B ρ fu' else w' B ρ fu' := rfl
@[simp] theorem z_set : zSet i we B ρ fu = we ρ fu fun d fu' => B.nx (ρ.set i (.va d)) fu' := rfl
@[simp] theorem z_setl : zSetL i v B ρ fu = v ρ fu fun ds fu' => B.nx (ρ.set i (.ow ds)) fu' := rfl
@[simp] theorem z_asg : zAsg we g B ρ fu = we ρ fu fun d fu' => g d ρ fun ρ' => B.nx ρ' fu' := rfl
@[simp] theorem z_app : zApp i we B ρ fu = ∃ ds0, ρ[i]? = some (.ow ds0) ∧ we ρ fu fun d fu' => ds0.length < sizeLine ∧ B.nx (ρ.set i (.ow (ds0 ++ [d]))) fu' := rfl
@[simp] theorem z_ext : zExt i we B ρ fu = ∃ ds0, ρ[i]? = some (.ow ds0) ∧ we ρ fu fun d fu' => ∃ es, d = .lst es ∧ ds0.length + es.length ≤ sizeLine ∧ B.nx (ρ.set i (.ow (ds0 ++ es))) fu' := rfl
@[simp] theorem z_aug : zAug i f we B ρ fu = ∃ d0, ρ[i]? = some (.va d0) ∧ we ρ fu fun d fu' => IsS (f d0 d) fun d2 => B.nx (ρ.set i (.va d2)) fu' := rfl
@[simp] theorem z_for {wi : WA} : zFor wi g w B ρ fu = wi ρ fu fun ds fu' => zLoop g w B ds ρ fu' := rfl
@[simp] theorem z_seq : zSeq w w' B ρ fu = w { B with nx := w' B } ρ fu := rfl
@[simp] theorem e_wv {U : Sl → Fu → Prop} : wV we ρ fu U = we ρ fu fun d fu' => U (.va d) fu' := rfl
@[simp] theorem e_wo {U : Sl → Fu → Prop} : wO v ρ fu U = v ρ fu fun ds fu' => U (.ow ds) fu' := rfl
@[simp] theorem z_par {w1 w2 : WR} : zPar i j w1 w2 B ρ fu = w1 ρ fu fun s1 fu1 => w2 ρ fu1 fun s2 fu2 => B.nx ((ρ.set i s1).set j s2) fu2 := rfl
@[simp] theorem z_par3 {w1 w2 w3 : WR} : zPar3 i j l w1 w2 w3 B ρ fu = w1 ρ fu fun s1 fu1 => w2 ρ fu1 fun s2 fu2 => w3 ρ fu2 fun s3 fu3 => B.nx (((ρ.set i s1).set j s2).set l s3) fu3 := rfl
@[simp] theorem z_fz {ds : List D} (h : ρ[i]? = some (.ow ds)) : zFz i w B ρ fu = w B (ρ.set i (.va (.lst ds))) fu := by
  unfold zFz
  rw [h]
theorem z_fn {N : List Str} {ds : List D} (h : ∀ B : DEnds, B.nx = (fun _ fu' => P .non fu') → B.rt = P → w B (startD N ds) fu) : wFn N w ds fu P := h _ rfl rfl
/-- one statement at a time -/
theorem zq (h : ∀ k : List Sl → Fu → Prop, k = w' B → w { B with nx := k } ρ fu) : zSeq w w' B ρ fu := h _ rfl
@[simp] theorem z_whl : zWhile u w B ρ fu = ∃ n, whN u w B n ρ fu := rfl
/-! ## loops -/
theorem loop_nil : zLoop g w B [] ρ fu = B.nx ρ fu := rfl
theorem loop_cons {ds : List D} : zLoop g w B (d :: ds) ρ fu = g d ρ fun ρ' => w { nx := zLoop g w B ds, rt := B.rt, bk := B.nx, ct := zLoop g w B ds } ρ' fu := rfl
/-- a loop by an invariant: I i ρ fu before the item i -/
theorem loop_inv {ds : List D} (I : Nat → List Sl → Fu → Prop) (h0 : I 0 ρ fu)
    (hs : ∀ (i : Nat) (d : D) (ρ : List Sl) (fu : Fu) (k : List Sl → Fu → Prop), ds[i]? = some d → I i ρ fu → (∀ ρ' fu', I (i + 1) ρ' fu' → k ρ' fu') → g d ρ fun ρ' => w { nx := k, rt := B.rt, bk := B.nx, ct := k } ρ' fu)
    (hn : ∀ ρ fu, I ds.length ρ fu → B.nx ρ fu) : zLoop g w B ds ρ fu := by
  have key : ∀ (es : List D) (i : Nat) (ρ : List Sl) (fu : Fu), ds.drop i = es → i + es.length = ds.length → I i ρ fu → zLoop g w B es ρ fu := by
    intro es
    induction es with
    | nil =>
      intro i ρ fu _ hl hI
      simp at hl
      subst hl
      exact hn _ _ hI
    | cons e es ih =>
      intro i ρ fu hd hl hI
      have hi : ds[i]? = some e := by
        have := congrArg (·[0]?) hd
        simpa using this
      refine hs i e ρ fu _ hi hI fun ρ' fu' hI' => ih (i + 1) ρ' fu' ?_ (by simp at hl ⊢; omega) hI'
      have := congrArg List.tail hd
      simpa using this
  exact key ds 0 ρ fu rfl (by simp) h0
/-- a comprehension that reads each item by a plain function -/
theorem lc_plain {ds acc : List D} (p : D → Bool) (h : D → D) (hs : ∀ d ∈ ds, ∀ (k1 : D → Fu → Prop) (k0 : Fu → Prop), (if p d = true then k1 (h d) fu else k0 fu) → g d ρ fun ρ' => u ρ' fu fun k fu1 => if k = true then we ρ' fu1 k1 else k0 fu1)
    (hl : acc.length + ds.length ≤ sizeLine) (hn : T (acc ++ (ds.filter p).map h) fu) : lcLoop g u we ρ T ds acc fu := by
  induction ds generalizing acc with
  | nil => simpa [lcLoop] using hn
  | cons d ds ih =>
    refine hs d List.mem_cons_self _ _ ?_
    by_cases hp : p d = true
    · rw [if_pos hp]
      simp at hl
      refine ⟨by omega, ih (fun e he => hs e (List.mem_cons_of_mem _ he)) (by simp; omega) ?_⟩
      simpa [List.filter_cons, hp] using hn
    · rw [if_neg hp]
      refine ih (fun e he => hs e (List.mem_cons_of_mem _ he)) (by simp at hl; omega) ?_
      simpa [List.filter_cons, hp] using hn
/-- a comprehension by an invariant over the items got so far -/
theorem lc_inv {ds : List D} (I : Nat → List D → Fu → Prop) (h0 : I 0 [] fu)
    (hs : ∀ (i : Nat) (d : D) (acc : List D) (fu : Fu) (k1 : D → Fu → Prop) (k0 : Fu → Prop), ds[i]? = some d → I i acc fu → (∀ e fu', I (i + 1) (acc ++ [e]) fu' → k1 e fu') → (∀ fu', I (i + 1) acc fu' → k0 fu') → g d ρ fun ρ' => u ρ' fu fun k fu1 => if k = true then we ρ' fu1 k1 else k0 fu1)
    (hl : ds.length ≤ sizeLine) (hn : ∀ acc fu, I ds.length acc fu → T acc fu) : lcLoop g u we ρ T ds [] fu := by
  have key : ∀ (es : List D) (i : Nat) (acc : List D) (fu : Fu), ds.drop i = es → i + es.length = ds.length → acc.length ≤ i → I i acc fu → lcLoop g u we ρ T es acc fu := by
    intro es
    induction es with
    | nil =>
      intro i acc fu _ hl _ hI
      simp at hl
      subst hl
      exact hn _ _ hI
    | cons e es ih =>
      intro i acc fu hd hl2 ha hI
      have hi : ds[i]? = some e := by
        have := congrArg (·[0]?) hd
        simpa using this
      have hd2 : ds.drop (i + 1) = es := by
        have := congrArg List.tail hd
        simpa using this
      simp at hl2
      refine hs i e acc fu _ _ hi hI (fun e' fu' hI' => ⟨by omega, ih (i + 1) _ fu' hd2 (by omega) (by simp; omega) hI'⟩) fun fu' hI' => ih (i + 1) _ fu' hd2 (by omega) (by omega) hI'
  exact key ds 0 [] fu rfl (by simp) (by simp) h0
@[simp] theorem e_lc {wi : WA} {vs : List Nat} : wLc wi g u we vs ρ fu T = wi ρ fu fun ds fu1 => lcLoop g u we (wipeD ρ vs) T ds [] fu1 := rfl
end
@[simp] theorem wipe_nil {ρ : List Sl} : wipeD ρ [] = ρ := rfl
@[simp] theorem wipe_cons {ρ : List Sl} {v : Nat} {vs : List Nat} : wipeD ρ (v :: vs) = (wipeD ρ vs).set v .un := rfl
theorem rng_get {lo hi : Int} {i : Nat} {d : D} (h : (rng lo hi)[i]? = some d) : d = .int (lo + i) ∧ lo + i < hi := by
  unfold rng at h
  rw [List.getElem?_map] at h
  obtain ⟨c, hc, rfl⟩ := Option.map_eq_some_iff.mp h
  obtain ⟨hlt, hc⟩ := List.getElem?_eq_some_iff.mp hc
  have hlt' : i < (hi - lo).toNat := by simpa using hlt
  have hc' : c = i := by simpa using hc.symm
  subst hc'
  exact ⟨rfl, by omega⟩
@[simp] theorem rng_len {lo hi : Int} : (rng lo hi).length = (hi - lo).toNat := by simp [rng]
theorem size_pos {n : Nat} (h : n ≤ 10000000) : n ≤ sizeLine := Nat.le_trans h (by decide)
end Z
namespace Z
open PySem PySem.Spec L2

/-! ## texts by their signs -/
abbrev S (l : List Nat) : Str := ⟨l.toArray⟩
theorem S_app (a b : List Nat) : S a ++ S b = S (a ++ b) := by
  show Str.append _ _ = _
  unfold Str.append S
  simp
theorem S_len (a : List Nat) : (S a).length = a.length := by unfold Str.length S; simp
theorem S_inj {a b : List Nat} : S a = S b ↔ a = b := by
  constructor
  · intro h
    have := congrArg (fun s : Str => s.cps.toList) h
    simpa using this
  · rintro rfl; rfl
theorem S_lt (a b : List Nat) : sLt (S a) (S b) = decide (a < b) := by unfold sLt; simp
theorem S_of (s : Str) : ∃ l, s = S l := ⟨s.cps.toList, by cases s; simp [S]⟩
theorem S_eta (s : Str) : S s.cps.toList = s := by cases s; simp [S]
theorem deq_str (a b : Str) : deq (.str a) (.str b) = decide (a = b) := by
  simp [deq, py, PyData.eqv]
  by_cases h : a = b
  · subst h; simp
  · simp [h]
theorem deq_int (a b : Int) : deq (.int a) (.int b) = decide (a = b) := by
  simp [deq, py, PyData.eqv]
  by_cases h : a = b
  · subst h; simp
  · simp [h]
theorem deq_bl (a b : Bool) : deq (.bl a) (.bl b) = (a == b) := by simp [deq, py, PyData.eqv]
theorem dEq_str (a b : Str) : dEq (.str a) (.str b) = some (.bl (decide (a = b))) := by unfold dEq; rw [if_pos (by rfl : eqOk _ _ = true), deq_str]
theorem dNe_str (a b : Str) : dNe (.str a) (.str b) = some (.bl (!decide (a = b))) := by unfold dNe; rw [if_pos (by rfl : eqOk _ _ = true), deq_str]
theorem dEq_int (a b : Int) : dEq (.int a) (.int b) = some (.bl (decide (a = b))) := by unfold dEq; rw [if_pos (by rfl : eqOk _ _ = true), deq_int]
theorem dNe_int (a b : Int) : dNe (.int a) (.int b) = some (.bl (!decide (a = b))) := by unfold dNe; rw [if_pos (by rfl : eqOk _ _ = true), deq_int]
theorem dAdd_S {a b : List Nat} (h : a.length + b.length ≤ sizeLine) : dAdd (.str (S a)) (.str (S b)) = some (.str (S (a ++ b))) := by
  unfold dAdd
  simp only []
  rw [S_len, S_len, if_pos h, S_app]
theorem ite_some' {α : Type} {c : Prop} [Decidable c] {a b : α} (h : (if c then some a else none) = some b) : c ∧ a = b := by
  by_cases hc : c
  · rw [if_pos hc] at h
    exact ⟨hc, Option.some.inj h⟩
  · rw [if_neg hc] at h
    cases h
/-- joined texts -/
def jn (sep : List Nat) : List (List Nat) → List Nat
  | [] => []
  | [x] => x
  | x :: y :: r => x ++ sep ++ jn sep (y :: r)
theorem join_S (sep : List Nat) : ∀ ls : List (List Nat), Txt.join (S sep) (ls.map S) = S (jn sep ls) := by
  intro ls
  show Builtin.Str.glued _ _ = _
  rw [StrLaws.glued_eq_join]
  induction ls with
  | nil => rfl
  | cons x ls ih =>
    cases ls with
    | nil => rfl
    | cons y r =>
      show S x ++ S sep ++ Str.join (S sep) ((y :: r).map S) = _
      rw [ih, S_app, S_app]
      rfl
theorem jn_nil : ∀ ls : List (List Nat), jn [] ls = ls.flatten
  | [] => rfl
  | [x] => by simp [jn]
  | x :: y :: r => by
    unfold jn
    rw [jn_nil (y :: r)]
    simp
theorem strsOf_map : ∀ l : List Str, strsOf (l.map .str) = some l
  | [] => rfl
  | s :: l => by
    rw [List.map_cons]
    unfold strsOf
    rw [strsOf_map l]
    rfl
theorem dJoin_S (sep : List Nat) (ls : List (List Nat)) (h : (ls.map (·.length)).sum + ls.length * sep.length ≤ 16777216) : dJoin (.str (S sep)) (.lst (ls.map fun x => .str (S x))) = some (.str (S (jn sep ls))) := by
  unfold dJoin
  simp only []
  have e : (ls.map fun x => D.str (S x)) = (ls.map S).map .str := by rw [List.map_map]; rfl
  rw [e, strsOf_map]
  have e2 : ((ls.map S).map (·.length)).sum + (ls.map S).length * (S sep).length ≤ 16777216 := by
    rw [List.map_map, List.length_map, S_len]
    have : ((fun x : Str => x.length) ∘ S) = fun x : List Nat => x.length := funext fun x => S_len x
    rw [this]
    exact h
  simp only [Option.bind]
  rw [if_pos e2, join_S]
theorem sum_ones {α : Type} (l : List α) : (l.map fun _ => 1).sum = l.length := by
  induction l with
  | nil => rfl
  | cons a l ih => simp [ih]; omega
theorem dRepr_ok {d : D} (h : reprOk d = true) : dRepr [d] = some (.str (PyData.shown (py d))) := if_pos h
/-- some of many: one item of a list, a tuple, a text, by a draw -/
def items : D → Option (List D)
  | .lst l => some l
  | .tup l => some l
  | .str s => if s.length ≤ sizeLine then some (signs s) else none
  | _ => none
theorem items_len {d : D} {l : List D} (h : items d = some l) : dLen [d] = some (.int l.length) := by
  cases d
  all_goals try (cases h; done)
  · unfold items at h
    simp only [] at h
    obtain ⟨hl, rfl⟩ := ite_some' h
    unfold dLen
    simp only []
    rw [if_pos hl]
    simp [signs, Str.length]
  · cases h; rfl
  · cases h; rfl
theorem atI_nat {α : Type} {l : List α} {k : Nat} (h : k < l.length) : atI l (k : Int) = some l[k] := by
  unfold atI ixN
  simp [h]
theorem atI_int {α : Type} {l : List α} {i : Int} (h0 : 0 ≤ i) (h : i < l.length) : ∃ a, a ∈ l ∧ l[i.toNat]? = some a ∧ atI l i = some a := by
  have h' : i.toNat < l.length := by omega
  refine ⟨l[i.toNat], List.getElem_mem _, List.getElem?_eq_getElem _, ?_⟩
  have e : (i.toNat : Int) = i := by omega
  have := atI_nat h'
  rw [e] at this
  exact this
theorem items_ix {d : D} {l : List D} {i : Int} (h : items d = some l) (h0 : 0 ≤ i) (h1 : i < l.length) : ∃ a, a ∈ l ∧ l[i.toNat]? = some a ∧ dIx d (.int i) = some a := by
  cases d
  all_goals try (cases h; done)
  · unfold items at h
    simp only [] at h
    obtain ⟨hl, rfl⟩ := ite_some' h
    rename_i s
    obtain ⟨c, hc1, hc2, hc3⟩ := atI_int (l := s.cps.toList) h0 (by simpa [signs] using h1)
    refine ⟨.str ⟨#[c]⟩, ?_, ?_, ?_⟩
    · unfold signs
      exact List.mem_map.mpr ⟨c, hc1, rfl⟩
    · unfold signs
      rw [List.getElem?_map, hc2]
      rfl
    · unfold dIx
      simp only []
      rw [if_pos hl, hc3]
      rfl
  · cases h; exact atI_int h0 h1
  · cases h; exact atI_int h0 h1
def wPick : WF := fun ds fu Q => ∃ (x : D) (l : List D) (n : Nat), ds = [.src, x] ∧ items x = some l ∧ l ≠ [] ∧ l.length < 1073741824 ∧ fu = some (n + 1) ∧ ∀ d ∈ l, Q d (some n)
end Z
namespace W
open PySem PySem.Spec L2 Z
open PyProof.Rows (envOfC)
def topS (i : Nat) : Stmt := PySem.Challenge.pw_sureslips_k27_bands_without_names.main.body.getD i (.Pass ⟨0, 0, 0, 0⟩)
section
variable {P : Program} {w : World} {K : PySem.W.Frag} {mg : Str → Option Value} {base : Heap}
/-! ### the source -/
theorem src_made {y : Gh} {H H2 : Hp} {Pd : KD} {Q : VK} {c r : Addr} {ms : List Int} {t : Int} (q : ∀ d fu' v H' y', Pd d fu' → GOk y' H' fu' → Nx y H y' H' → Rp K y' v d → Q v H') (go : GOk y H none) (s2 : Sub H H2)
    (nc : H2 c = none) (nr : (upd H2 c (.lst ((ms.map V.int).reverse))) r = none) (hP : Pd D.src (some (2 ^ 60))) (hlen : ms.length ≤ 63) (h1 : 0 ≤ t) (h2 : t < 2 ^ 40) :
    Q (.ref r) (upd (upd H2 c (.lst ((ms.map V.int).reverse))) r (.lst [.ref c, .int t, .int 0])) := by
  have ne : c ≠ r := fun e => by rw [← e, upd_same] at nr; cases nr
  have hc0 : H c = none := by
    cases e : H c with
    | none => rfl
    | some u => rw [s2 c u e] at nc; cases nc
  have nr2 : H2 r = none := by rw [upd_ne ne.symm] at nr; exact nr
  have hr0 : H r = none := by
    cases e : H r with
    | none => rfl
    | some u => rw [s2 r u e] at nr2; cases nr2
  have hs : Sub H (upd (upd H2 c (.lst ((ms.map V.int).reverse))) r (.lst [.ref c, .int t, .int 0])) := s2.trans fun b u e => by
    rw [upd_ne (ne_of_none e nr2), upd_ne (ne_of_none e nc)]
    exact e
  have gn : ∀ b, H b = none → y.g b = none := fun b hb => by
    cases e : y.g b with
    | none => rfl
    | some u => rw [go.sub b u e] at hb; cases hb
  have ys : y.s = none := go.src
  refine q .src (some (2 ^ 60)) _ _ ⟨y.g, some (r, c)⟩ hP ⟨go.sub.trans hs, ?_⟩ ⟨⟨Sub.refl _, fun p hp => ?_⟩, fun b u e _ => hs b u e, fun b hb => ?_, fun _ _ h => h, fun p hp => ?_⟩ (.src rfl)
  · refine ⟨r, c, rfl, gn r hr0, gn c hc0, ne.symm, ms.reverse, t, 0, upd_same, ?_, by rw [List.length_reverse]; exact hlen, h1, h2, Int.le_refl 0, by simp⟩
    rw [upd_ne ne, upd_same, List.map_reverse]
  · rw [ys] at hp; cases hp
  · cases e : H b with
    | none => exact absurd e hb
    | some u => rw [hs b u e]; simp
  · cases hp
    exact .inr ⟨hr0, hc0⟩
theorem sc6 : FnScope ["_law_script", "_law_cells", "_law_total", "_law_cell"] ["_law_script"] (defScope (topS 6)) := ⟨rfl, rfl, rfl, by decide +kernel, rfl, by decide +kernel, by decide +kernel⟩
def wSource : WF := fun ds fu Q => ds = [.scr] ∧ fu = none ∧ Q .src (some (2 ^ 60))
theorem ok6 {f : Addr} {fd : FuncData} (Fn : Fun K "_law_deck" "_law_deck" (topS 6) f fd) (ml : mg "list" = none) : FnG P w K mg base 1 f fd ["_law_script"] wSource := by
  refine FnG.ofH Fn sc6 fun cdv A outer s H vs ds y fu Pd Q hr hgd hl go rp hw q => ?_
  obtain ⟨rfl, rfl, hP⟩ := hw
  cases rp with
  | cons r1 r2 =>
  cases r2
  cases r1 with
  | scr hS hn =>
  rename_i a ns
  have hS' : SqL K H a (ns.map V.int) := sqL_same go.sub hS
  refine ⟨_, pss_cons (ps_par (i := 1) (j := 2) rfl sc6.nd rfl rfl (by decide) rfl rfl (pa_cons (pe_callTy call_list_of (by rfl) ml (by decide +kernel) (pa_cons (pe_slice sl_list (pv 0) po_none (po_some pe_int)) pa_nil)) (pa_cons pe_int pa_nil)) (by rfl))
    (pss_cons (ps_for PassesOwn.never rfl (pi_list (pv 1)) (pg_name (i := 3) sc6.nd rfl (.inl rfl)) (pss_one (ps_set (i := 2) sc6.nd rfl (.inl rfl) (pe_op op_mod (pe_op op_add (pe_op op_add (pe_op op_mul (pv 2) pe_int) (pe_op op_mod (pv 3) pe_int)) pe_int) pe_int))))
    (pss_one (ps_ret (pe_lst (pa_cons (pe_revL (pv 1)) (pa_cons (pv 2) (pa_cons pe_int pa_nil))))))), ?_⟩
  refine ⟨.ref a, rfl, 63, rfl, a, _, rfl, hS', fun p np => ⟨p, _, rfl, .inl (.inl (.inl upd_same)), fun l nl => ⟨_, _, rfl, ?_⟩⟩⟩
  obtain ⟨ms, hms, hlen⟩ : ∃ ms : List Int, cutV (ns.map V.int) none (some 63) = ms.map V.int ∧ ms.length ≤ 63 := by
    refine ⟨(ns.drop (HT.sIx ns.length 0 none)).take (HT.sIx ns.length ns.length (some 63) - HT.sIx ns.length 0 none), ?_, ?_⟩
    · unfold cutV
      rw [List.length_map, List.map_take, List.map_drop]
    · rw [List.length_take, List.length_drop]
      omega
  rw [hms] at nl ⊢
  have s1 : Sub H (upd H p (.lst (ms.map V.int))) := fun b u e => by rw [upd_ne (ne_of_none e np)]; exact e
  have s2 : Sub H (upd (upd H p (.lst (ms.map V.int))) l (.lst (ms.map V.int))) := s1.trans fun b u e => by rw [upd_ne (ne_of_none e nl)]; exact e
  generalize hH2 : upd (upd H p (.lst (ms.map V.int))) l (.lst (ms.map V.int)) = H2 at s2 ⊢
  have hl2 : H2 l = some (.lst (ms.map V.int)) := by rw [← hH2]; exact upd_same
  refine ⟨.ref l, rfl, l, rfl, ⟨_, .inl (.inl hl2)⟩, for_list (xs := ms.map V.int) (fun i σ H' => H' = H2 ∧ ∃ (t : Int) (z : Option V), σ = [some (.ref a), some (.ref l), some (.int t), z] ∧ 0 ≤ t ∧ t < 2 ^ 40) ⟨rfl, 68027, none, rfl, by decide, by decide⟩
    (fun i σ H' _ h => by obtain ⟨rfl, _⟩ := h; exact .inl (.inl hl2)) (fun i x σ H' hx h => ?_) (fun σ H' h => ?_)⟩
  · obtain ⟨rfl, t, z, rfl, h1, h2⟩ := h
    rw [List.getElem?_map] at hx
    obtain ⟨n, _, rfl⟩ := Option.map_eq_some_iff.mp hx
    refine ⟨.int t, rfl, t, 48271, rfl, rfl, .inl ⟨by omega, by omega⟩, .int n, rfl, n, 2147483629, rfl, rfl, (show (0 : Int) < 2147483629 by decide), _, _, rfl, rfl, _, _, rfl, rfl, _, _, rfl, rfl, (show (0 : Int) < 2147483587 by decide), rfl, _, _, rfl, ?_, ?_⟩
    · exact Int.emod_nonneg _ (by decide)
    · exact Int.lt_trans (Int.emod_lt_of_pos _ (by decide)) (by decide)
  · obtain ⟨rfl, t, z, rfl, h1, h2⟩ := h
    refine ⟨.ref l, rfl, l, _, rfl, .inl (.inl hl2), fun c nc => ⟨.int t, rfl, (show 3 ≤ sizeLine by decide), fun r nr => ?_⟩⟩
    exact src_made q go s2 nc nr hP hlen h1 h2
end
end W
namespace W
open PySem PySem.Spec L2 Z
open PyProof.Rows (envOfC)
def wDraw : WF := fun ds fu Q => ∃ (m : Int) (n : Nat), ds = [.src, .int m] ∧ 0 < m ∧ m < 1073741824 ∧ fu = some (n + 1) ∧ ∀ k : Int, 0 ≤ k → k < m → Q (.int k) (some n)
theorem draw_done {K : PySem.W.Frag} {y : Gh} {H H' : Hp} {Pd : KD} {Q : VK} {a c : Addr} {n : Nat} {k m : Int} (q : ∀ d fu' v H' y', Pd d fu' → GOk y' H' fu' → Nx y H y' H' → Rp K y' v d → Q v H') (go : GOk y H (some (n + 1)))
    (hs : y.s = some (a, c)) (hP : ∀ k : Int, 0 ≤ k → k < m → Pd (.int k) (some n)) (h1 : 0 ≤ k) (h2 : k < m) (hk : ∀ b u, H b = some u → b ≠ a → b ≠ c → H' b = some u) (hi : SrcIn a c H' n) : Q (.int k) H' := by
  obtain ⟨a', c', e1, e2, e3, e4⟩ := go.src
  rw [hs] at e1
  cases e1
  refine q (.int k) (some n) _ H' y (hP k h1 h2) ⟨fun b u e => ?_, ⟨a, c, hs, e2, e3, hi⟩⟩ ⟨Gx.refl y, fun b u e nb => ?_, fun b hb => ?_, fun _ _ h => h, fun _ h => .inl h⟩ (.int k)
  · refine hk b u (go.sub b u e) ?_ ?_
    · intro z; rw [z, e2] at e; cases e
    · intro z; rw [z, e3] at e; cases e
  · obtain ⟨n1, n2⟩ := nb _ hs
    exact hk b u e n1 n2
  · obtain ⟨_, ns, t, z, i1, i2, _⟩ := hi
    by_cases ba : b = a
    · rw [ba, i1]; simp
    · by_cases bc : b = c
      · rw [bc, i2]; simp
      · cases e : H b with
        | none => exact absurd e hb
        | some u => rw [hk b u e ba bc]; simp
theorem ints_shaped (ns : List Int) : SeqAt.shaped (.list (ns.map PyData.int)) = true := by
  have h1 : PyData.canLayAll0 (ns.map PyData.int) = true := by
    induction ns with
    | nil => rfl
    | cons n ns ih => rw [List.map_cons]; unfold PyData.canLayAll0 PyData.canLay0; exact ih
  have h2 : PyData.depthAll (ns.map PyData.int) = 0 := by
    induction ns with
    | nil => rfl
    | cons n ns ih =>
      rw [List.map_cons]
      unfold PyData.depthAll
      have : PyData.canLayAll0 (ns.map PyData.int) = true := by
        rw [List.map_cons] at h1
        unfold PyData.canLayAll0 PyData.canLay0 at h1
        exact h1
      rw [ih this]
      rfl
  unfold SeqAt.shaped PyData.canLay0 PyData.depth
  rw [h1, h2]
  rfl
theorem ints_dp {K : PySem.W.Frag} {H : Hp} : ∀ ns : List Int, DpAll K H (ns.map V.int) (ns.map PyData.int)
  | [] => .nil
  | n :: ns => .cons (.int n) (ints_dp ns)
theorem ints_nil (ns : List Int) : PyData.eqv (.list (ns.map PyData.int)) (.list []) = ns.isEmpty := by
  cases ns <;> simp [PyData.eqv, PyData.eqvAll]
theorem at2 {x y z : V} : atI [x, y, z] 2 = some z := rfl
theorem at1 {x y z : V} : atI [x, y, z] 1 = some y := rfl
theorem at0 {x y z : V} : atI [x, y, z] 0 = some x := rfl
section
variable {P : Program} {w : World} {K : PySem.W.Frag} {mg : Str → Option Value} {base : Heap}
theorem sc7 : FnScope ["_law_deck_here", "_law_many", "_law_cell", "_law_number"] ["_law_deck_here", "_law_many"] (defScope (topS 7)) := ⟨rfl, rfl, rfl, by decide +kernel, rfl, by decide +kernel, by decide +kernel⟩
theorem ok7 {f : Addr} {fd : FuncData} (Fn : Fun K "_law_draw" "_law_draw" (topS 7) f fd) : FnG P w K mg base 1 f fd ["_law_deck_here", "_law_many"] wDraw := by
  refine FnG.ofH Fn sc7 fun cdv A outer s H vs ds y fu Pd Q hr hgd hl go rp hw q => ?_
  obtain ⟨m, n, rfl, m0, m1, rfl, hP⟩ := hw
  cases rp with
  | cons r1 r2 =>
  cases r2 with
  | cons r2 r3 =>
  cases r3
  cases r2
  cases r1 with
  | src hs =>
  rename_i a c
  obtain ⟨a', c', e1, e2, e3, hne, ns, t, z, ha, hc, hns, t0, t1, z0, z1⟩ := go.src
  rw [hs] at e1
  cases e1
  refine ⟨_, pss_cons (ps_asg (pe_op op_add (pe_ix ix_list (pv 0) pe_int (fun _ _ => rfl)) pe_int) (pg_sub (pv 0) pe_int set_list))
    (pss_cons (ps_set (i := 2) sc7.nd rfl (.inl rfl) (pe_ix ix_list (pv 0) pe_int (fun _ _ => rfl)))
    (pss_cons (ps_if (pt_cmpR (op_neD hr.units) (pe_ix ix_list (pv 0) pe_int (fun _ _ => rfl)) (pe_lst pa_nil) (nomark _))
      (pss_cons (ps_set (i := 2) sc7.nd rfl (.inl rfl) (pe_bm0 PySem.F.plainAttrs_list PySem.F.slot_list_pop PySem.F.type_list_pop mt_pop (pe_ix ix_list (pv 0) pe_int (fun _ _ => rfl))))
      (pss_cons (ps_if (pt_cmpR op_ge (pv 2) (pe_op op_pow pe_int pe_int) (nomark _))
        (pss_cons (ps_expr (pe_bm PySem.F.plainAttrs_list PySem.F.slot_list_append PySem.F.type_list_append mt_append (pe_ix ix_list (pv 0) pe_int (fun _ _ => rfl)) (pa_cons (pe_op op_fdiv (pv 2) (pv 1)) pa_nil)))
        (pss_one (ps_ret (pe_op op_mod (pv 2) (pv 1))))) pss_nil)
      (pss_one (ps_set (i := 2) sc7.nd rfl (.inl rfl) (pe_op op_add (pv 2) (pe_ix ix_list (pv 0) pe_int (fun _ _ => rfl))))))) pss_nil)
    (pss_cons (ps_set (i := 3) sc7.nd rfl (.inl rfl) (pe_op op_mod (pe_op op_mul (pe_op op_add (pe_op op_add (pe_op op_mod (pv 2) pe_int) (pe_op op_mul (pe_op op_mul pe_int (pe_ix ix_list (pv 0) pe_int (fun _ _ => rfl))) (pe_ix ix_list (pv 0) pe_int (fun _ _ => rfl)))) pe_int) pe_int) pe_int))
    (pss_cons (ps_set (i := 3) sc7.nd rfl (.inl rfl) (pe_op op_mod (pe_op op_add (pe_op op_add (pe_op op_mul (pv 3) (pv 3)) (pe_op op_mul pe_int (pe_ix ix_list (pv 0) pe_int (fun _ _ => rfl)))) pe_int) pe_int))
    (pss_one (ps_ret (pe_op op_mod (pe_op op_fdiv (pe_op op_mod (pe_op op_mul (pv 3) pe_int) pe_int) pe_int) (pv 1)))))))), ?_⟩
  -- the count
  have at2' : ∀ {x y z : V}, ixN [x, y, z].length 2 = some 2 := rfl
  refine ⟨.ref a, rfl, a, _, 2, _, rfl, rfl, .inl (.inl ha), at2, z, 1, rfl, rfl, .ref a, rfl, a, _, 2, 2, rfl, rfl, ha, at2', ?_⟩
  have ha1 : (upd H a (.lst [.ref c, .int t, .int (z + 1)])) a = some (.lst [.ref c, .int t, .int (z + 1)]) := upd_same
  have hc1 : (upd H a (.lst [.ref c, .int t, .int (z + 1)])) c = some (.lst (ns.map V.int)) := by rw [upd_ne hne.symm]; exact hc
  have hk1 : ∀ b u, H b = some u → b ≠ a → b ≠ c → (upd H a (.lst [.ref c, .int t, .int (z + 1)])) b = some u := fun b u e n1 _ => by rw [upd_ne n1]; exact e
  show tSeq _ _ _ _ (upd H a (.lst [.ref c, .int t, .int (z + 1)]))
  generalize upd H a (.lst [.ref c, .int t, .int (z + 1)]) = H1 at ha1 hc1 hk1 ⊢
  have ix0 : SqL K H1 a [.ref c, .int t, .int (z + 1)] := .inl (.inl ha1)
  refine ⟨.ref a, rfl, a, _, 1, _, rfl, rfl, ix0, at1, ?_⟩
  refine ⟨.ref a, rfl, a, _, 0, _, rfl, rfl, ix0, at0, Nat.zero_le _, fun p np => ?_⟩
  have npa : a ≠ p := ne_of_none ha1 np
  have npc : c ≠ p := ne_of_none hc1 np
  have ha2 : (upd H1 p (.lst [])) a = some (.lst [.ref c, .int t, .int (z + 1)]) := by rw [upd_ne npa]; exact ha1
  have hc2 : (upd H1 p (.lst [])) c = some (.lst (ns.map V.int)) := by rw [upd_ne npc]; exact hc1
  have hp2 : (upd H1 p (.lst [])) p = some (.lst []) := upd_same
  have hk2 : ∀ b u, H b = some u → b ≠ a → b ≠ c → (upd H1 p (.lst [])) b = some u := fun b u e n1 n2 => by
    have e1 := hk1 b u e n1 n2
    rw [upd_ne (ne_of_none e1 np)]
    exact e1
  generalize upd H1 p (.lst []) = H2 at ha2 hc2 hp2 hk2 ⊢
  have ix2 : SqL K H2 a [.ref c, .int t, .int (z + 1)] := .inl (.inl ha2)
  -- the mixing, from any cell
  have mix : ∀ (cell : Int) (σ3 : Option V) (Hx : Hp), Hx a = some (.lst [.ref c, .int t, .int (z + 1)]) → (∃ ms : List Int, Hx c = some (.lst (ms.map V.int)) ∧ ms.length ≤ 63) → (∀ b u, H b = some u → b ≠ a → b ≠ c → Hx b = some u) →
      tSeq (tAsg (tOp (rI (fun _ j => 0 < j) fun i j => .int (i % j)) (tOp (rI CMul fun i j => .int (i * j)) (tOp (rI0 fun i j => .int (i + j)) (tOp (rI0 fun i j => .int (i + j)) (tOp (rI (fun _ j => 0 < j) fun i j => .int (i % j)) (tVar 2) (tC (.int 2147483629)))
        (tOp (rI CMul fun i j => .int (i * j)) (tOp (rI CMul fun i j => .int (i * j)) (tC (.int 65539)) (tOp (rIxL K) (tVar 0) (tC (.int 2)))) (tOp (rIxL K) (tVar 0) (tC (.int 2))))) (tC (.int 37))) (tC (.int 40692))) (tC (.int 2147483647))) (gName 3))
      (tSeq (tAsg (tOp (rI (fun _ j => 0 < j) fun i j => .int (i % j)) (tOp (rI0 fun i j => .int (i + j)) (tOp (rI0 fun i j => .int (i + j)) (tOp (rI CMul fun i j => .int (i * j)) (tVar 3) (tVar 3)) (tOp (rI CMul fun i j => .int (i * j)) (tC (.int 69621)) (tOp (rIxL K) (tVar 0) (tC (.int 2))))) (tC (.int 13))) (tC (.int 2147483587))) (gName 3))
      (tRet (tOp (rI (fun _ j => 0 < j) fun i j => .int (i % j)) (tOp (rI CDiv fun i j => .int (i / j)) (tOp (rI (fun _ j => 0 < j) fun i j => .int (i % j)) (tOp (rI CMul fun i j => .int (i * j)) (tVar 3) (tC (.int 39373))) (tC (.int 2147483563))) (tC (.int 64))) (tVar 1))))
      { nx := fun _ H' => Q .non H', rt := Q } [some (.ref a), some (.int m), some (.int cell), σ3] Hx := by
    intro cell σ3 Hx xa ⟨ms, xc, xl⟩ xk
    have ixx : SqL K Hx a [.ref c, .int t, .int (z + 1)] := .inl (.inl xa)
    have zb : z + 1 ≤ 2 ^ 60 := by omega
    have fin : ∀ n2 : Int, 0 ≤ n2 → n2 < 2147483587 → (tRet (tOp (rI (fun _ j => 0 < j) fun i j => .int (i % j)) (tOp (rI CDiv fun i j => .int (i / j)) (tOp (rI (fun _ j => 0 < j) fun i j => .int (i % j)) (tOp (rI CMul fun i j => .int (i * j)) (tVar 3) (tC (.int 39373))) (tC (.int 2147483563))) (tC (.int 64))) (tVar 1))) { nx := fun _ H' => Q .non H', rt := Q } [some (.ref a), some (.int m), some (.int cell), some (.int n2)] Hx := fun n2 b1 b2 => by
      refine ⟨.int n2, rfl, n2, 39373, rfl, rfl, .inl ⟨by omega, by omega⟩, _, 2147483563, rfl, rfl, (show (0 : Int) < 2147483563 by decide), _, 64, rfl, rfl, ⟨by decide, by decide⟩, .int m, rfl, _, m, rfl, rfl, m0, ?_⟩
      exact draw_done q go hs hP (Int.emod_nonneg _ (by omega)) (Int.emod_lt_of_pos _ m0) xk ⟨hne, ms, t, z + 1, xa, xc, xl, t0, t1, by omega, by omega⟩
    have mid : ∀ n1 : Int, 0 ≤ n1 → n1 < 2147483647 → (tSeq (tAsg (tOp (rI (fun _ j => 0 < j) fun i j => .int (i % j)) (tOp (rI0 fun i j => .int (i + j)) (tOp (rI0 fun i j => .int (i + j)) (tOp (rI CMul fun i j => .int (i * j)) (tVar 3) (tVar 3)) (tOp (rI CMul fun i j => .int (i * j)) (tC (.int 69621)) (tOp (rIxL K) (tVar 0) (tC (.int 2))))) (tC (.int 13))) (tC (.int 2147483587))) (gName 3)) (tRet (tOp (rI (fun _ j => 0 < j) fun i j => .int (i % j)) (tOp (rI CDiv fun i j => .int (i / j)) (tOp (rI (fun _ j => 0 < j) fun i j => .int (i % j)) (tOp (rI CMul fun i j => .int (i * j)) (tVar 3) (tC (.int 39373))) (tC (.int 2147483563))) (tC (.int 64))) (tVar 1)))) { nx := fun _ H' => Q .non H', rt := Q } [some (.ref a), some (.int m), some (.int cell), some (.int n1)] Hx := fun n1 b1 b2 =>
      ⟨.int n1, rfl, .int n1, rfl, n1, n1, rfl, rfl, .inl ⟨by omega, by omega⟩, .ref a, rfl, a, _, 2, _, rfl, rfl, ixx, at2, 69621, z + 1, rfl, rfl, .inl (by decide), _, _, rfl, rfl, _, 13, rfl, rfl, _, 2147483587, rfl, rfl, (show (0 : Int) < 2147483587 by decide),
        fin _ (Int.emod_nonneg _ (by decide)) (Int.emod_lt_of_pos _ (by decide))⟩
    exact ⟨.int cell, rfl, cell, 2147483629, rfl, rfl, (show (0 : Int) < 2147483629 by decide), .ref a, rfl, a, _, 2, _, rfl, rfl, ixx, at2, 65539, _, rfl, rfl, .inl (by decide), .ref a, rfl, a, _, 2, _, rfl, rfl, ixx, at2, _, z + 1, rfl, rfl, .inr ⟨by omega, by omega⟩,
      _, _, rfl, rfl, _, _, rfl, rfl, _, 40692, rfl, rfl, .inr (by decide), _, 2147483647, rfl, rfl, (show (0 : Int) < 2147483647 by decide), mid _ (Int.emod_nonneg _ (by decide)) (Int.emod_lt_of_pos _ (by decide))⟩
  refine ⟨.list (ns.map .int), .list [], .lst (.inl (.inl hc2)) (ints_dp ns), .lst (.inl (.inl hp2)) .nil, ints_shaped ns, rfl, ⟨_, rfl, ?_⟩⟩
  rw [ints_nil]
  cases ns with
  | nil => exact iteF (mix t none H2 ha2 ⟨[], hc2, Nat.zero_le _⟩ hk2)
  | cons n0 ns =>
    refine iteT ?_
    -- the cell at the end
    obtain ⟨ms, cl, hcat, hml⟩ : ∃ (ms : List Int) (cl : Int), n0 :: ns = ms ++ [cl] ∧ ms.length ≤ 62 := by
      refine ⟨(n0 :: ns).dropLast, (n0 :: ns).getLast (by simp), (List.dropLast_concat_getLast _).symm, ?_⟩
      rw [List.length_dropLast]
      simp only [List.length_cons] at hns ⊢
      omega
    rw [hcat, List.map_append] at hc2
    refine ⟨.ref a, rfl, a, _, 0, _, rfl, rfl, ix2, at0, .inl ⟨rfl, _, .inl (.inl hc2)⟩, c, _, .int cl, rfl, rfl, hc2, by simp, ?_⟩
    have hdl : (ms.map V.int ++ [cl].map V.int).dropLast = ms.map V.int := by
      show (ms.map V.int ++ [V.int cl]).dropLast = _
      rw [List.dropLast_concat]
    rw [hdl]
    have ha3 : (upd H2 c (.lst (ms.map V.int))) a = some (.lst [.ref c, .int t, .int (z + 1)]) := by rw [upd_ne hne]; exact ha2
    have hc3 : (upd H2 c (.lst (ms.map V.int))) c = some (.lst (ms.map V.int)) := upd_same
    have hk3 : ∀ b u, H b = some u → b ≠ a → b ≠ c → (upd H2 c (.lst (ms.map V.int))) b = some u := fun b u e n1 n2 => by rw [upd_ne n2]; exact hk2 b u e n1 n2
    generalize upd H2 c (.lst (ms.map V.int)) = H3 at ha3 hc3 hk3 ⊢
    have ix3 : SqL K H3 a [.ref c, .int t, .int (z + 1)] := .inl (.inl ha3)
    refine ⟨.int cl, rfl, 10, 18, rfl, rfl, ⟨by decide, by decide, by decide⟩, cl, _, rfl, rfl, _, rfl, ite2 (fun _ => ?_) (fun _ => ?_)⟩
    · refine ⟨.ref a, rfl, a, _, 0, _, rfl, rfl, ix3, at0, .inl ⟨rfl, _, .inl (.inl hc3)⟩, .int cl, rfl, .int m, rfl, cl, m, rfl, rfl, ⟨m0, m1⟩, c, _, _, rfl, rfl, hc3, ?_, ?_⟩
      · rw [List.length_map]
        exact Nat.lt_of_le_of_lt hml (by decide)
      · refine ⟨.int cl, rfl, .int m, rfl, cl, m, rfl, rfl, m0, ?_⟩
        refine draw_done q go hs hP (Int.emod_nonneg _ (by omega)) (Int.emod_lt_of_pos _ m0) (fun b u e n1 n2 => by rw [upd_ne n2]; exact hk3 b u e n1 n2) ⟨hne, ms ++ [cl / m], t, z + 1, by rw [upd_ne hne]; exact ha3, by rw [upd_same, List.map_append]; rfl, by rw [List.length_append]; simp; omega, t0, t1, by omega, by omega⟩
    · refine ⟨.int cl, rfl, .ref a, rfl, a, _, 1, _, rfl, rfl, ix3, at1, cl, t, rfl, rfl, ?_⟩
      exact mix (cl + t) none H3 ha3 ⟨ms, hc3, by omega⟩ hk3
end
end W
namespace W
open PySem PySem.Spec L2 Z
open PyProof.Rows (envOfC)
/-- the label that comes next -/
def nx : Option (List Nat) → List Nat
  | none => [42]
  | some l => if l = [42] then [97] else l ++ [97]
def oS : Option (List Nat) → D
  | none => .non
  | some l => .str (S l)
def few (o : Option (List Nat)) (n : Nat) : Prop := ∀ l, o = some l → l.length ≤ n
/-- is the band empty? -/
def emp (lo hi : Option (List Nat)) : Bool := match hi with
  | none => false
  | some h => !decide (nx lo < h)
/-- the words of n letters -/
def wds : Nat → List (List Nat)
  | 0 => [[]]
  | n + 1 => (wds n).flatMap fun w => [w ++ [97], w ++ [98], w ++ [121], w ++ [122]]
def labs : List (List Nat) := [42] :: (wds 1 ++ wds 2 ++ wds 3 ++ wds 4)
/-- what a bound can be -/
def Bd (o : Option (List Nat)) (n : Nat) : Prop := ∀ l, o = some l → l = [42] ∨ (l ≠ [] ∧ l.length ≤ n ∧ ∀ c ∈ l, c = 97 ∨ c = 98 ∨ c = 121 ∨ c = 122)
def spec_next_label : WF := fun ds fu Q => ∃ o, ds = [oS o] ∧ few o 100 ∧ Q (.str (S (nx o))) fu
def spec_is_empty_band : WF := fun ds fu Q => ∃ e lo hi, ds = [e, oS lo, oS hi] ∧ few lo 100 ∧ Q (.bl (emp lo hi)) fu
def spec__law_deck : WF := wSource
def spec__law_draw : WF := wDraw
def spec__law_pick : WF := wPick
def spec__law_labels : WF := fun ds fu Q => ds = [] ∧ Q (.lst (labs.map fun l => .str (S l))) fu
def spec__law_bound : WF := fun ds fu Q => ∃ (o : Option (List Nat)) (n : Nat), ds = [.src, oS o] ∧ Bd o 3 ∧ fu = some n ∧ 5 ≤ n ∧ ∀ r n', n ≤ n' + 5 → Bd r (if o = none then 3 else 4) → Q (oS r) (some n')
def spec_law : WF := fun ds fu Q => ds = [.scr] ∧ fu = none ∧ ∀ fu', Q (.bl true) fu'
theorem star_S : ("*" : Str) = S [42] := by decide
theorem emp_S : ("" : Str) = S [] := by decide
def sD (l : List (List Nat)) : List D := l.map fun x => .str (S x)
def fnd : Nat → List (List Nat)
  | 0 => [[42]]
  | n + 1 => fnd n ++ wds (n + 1)
def xt (w : List Nat) : List (List Nat) := [w ++ [97], w ++ [98], w ++ [121], w ++ [122]]
theorem wds_len : ∀ n, (wds n).length = 4 ^ n
  | 0 => rfl
  | n + 1 => by
    have : ∀ l : List (List Nat), (l.flatMap fun w => [w ++ [97], w ++ [98], w ++ [121], w ++ [122]]).length = l.length * 4 := by
      intro l
      induction l with
      | nil => rfl
      | cons a l ih => rw [List.flatMap_cons, List.length_append, ih]; simp; omega
    unfold wds
    rw [this, wds_len n, Nat.pow_succ]
theorem wds_size : ∀ n, ∀ l ∈ wds n, l.length = n
  | 0, l, h => by simp [wds] at h; subst h; rfl
  | n + 1, l, h => by
    unfold wds at h
    obtain ⟨a, ha, h⟩ := List.mem_flatMap.mp h
    have := wds_size n a ha
    simp at h
    rcases h with rfl | rfl | rfl | rfl <;> simp [this]
theorem fnd_len : ∀ n, n ≤ 4 → (fnd n).length ≤ 1000 := by decide
theorem sD_app (a b : List (List Nat)) : sD (a ++ b) = sD a ++ sD b := by simp [sD]
theorem sD_len (a : List (List Nat)) : (sD a).length = a.length := by simp [sD]
theorem a_S : ("a" : Str) = S [97] := by decide
theorem good_wds : ∀ n, ∀ l ∈ wds n, ∀ c ∈ l, c = 97 ∨ c = 98 ∨ c = 121 ∨ c = 122
  | 0, l, h => by simp [wds] at h; subst h; simp
  | n + 1, l, h => by
    unfold wds at h
    obtain ⟨a, ha, h⟩ := List.mem_flatMap.mp h
    have := good_wds n a ha
    simp at h
    intro c hc
    rcases h with rfl | rfl | rfl | rfl <;> (rcases List.mem_append.mp hc with h | h; exact this c h; simp at h; simp [h])
theorem mem_wds : ∀ (n : Nat) (l : List Nat), l.length = n → (∀ c ∈ l, c = 97 ∨ c = 98 ∨ c = 121 ∨ c = 122) → l ∈ wds n
  | 0, l, h, _ => by simp at h; subst h; simp [wds]
  | n + 1, l, h, hc => by
    have hne : l ≠ [] := by intro e; subst e; simp at h
    have e := (List.dropLast_concat_getLast hne).symm
    have h1 : l.dropLast ∈ wds n := mem_wds n _ (by simp [h]) fun c hcc => hc c (List.dropLast_subset _ hcc)
    have h2 := hc _ (List.getLast_mem hne)
    unfold wds
    refine List.mem_flatMap.mpr ⟨_, h1, ?_⟩
    rcases h2 with h2 | h2 | h2 | h2 <;> (rw [h2] at e; rw [← e]; simp)
theorem mem_labs (l : List Nat) (h : l = [42] ∨ (l ≠ [] ∧ l.length ≤ 4 ∧ ∀ c ∈ l, c = 97 ∨ c = 98 ∨ c = 121 ∨ c = 122)) : l ∈ labs := by
  rcases h with rfl | ⟨h1, h2, h3⟩
  · simp [labs]
  · have := mem_wds l.length l rfl h3
    have h0 : 0 < l.length := List.length_pos_iff.mpr h1
    have h4 : l.length = 1 ∨ l.length = 2 ∨ l.length = 3 ∨ l.length = 4 := by omega
    unfold labs
    rcases h4 with e | e | e | e <;> (rw [e] at this; simp [this])
theorem labs_mem (l : List Nat) (h : l ∈ labs) : l = [42] ∨ (l ≠ [] ∧ l.length ≤ 4 ∧ ∀ c ∈ l, 97 ≤ c ∧ c ≤ 122) := by
  unfold labs at h
  have go : ∀ n, 0 < n → n ≤ 4 → l ∈ wds n → l ≠ [] ∧ l.length ≤ 4 ∧ ∀ c ∈ l, 97 ≤ c ∧ c ≤ 122 := fun n h0 h4 hl => by
    have e := wds_size n l hl
    refine ⟨fun z => by subst z; simp at e; omega, by omega, fun c hc => ?_⟩
    have := good_wds n l hl c hc
    omega
  simp only [List.mem_cons, List.mem_append] at h
  rcases h with h | ((h | h) | h) | h
  · exact .inl h
  · exact .inr (go 1 (by decide) (by decide) h)
  · exact .inr (go 2 (by decide) (by decide) h)
  · exact .inr (go 3 (by decide) (by decide) h)
  · exact .inr (go 4 (by decide) (by decide) h)
theorem lt_app (u : List Nat) (c : Nat) : u < u ++ [c] := by
  induction u with
  | nil => simp
  | cons a u ih => simpa [List.cons_lt_cons_iff] using ih
theorem above : ∀ (w l : List Nat), (∀ c ∈ l, 97 ≤ c) → w < l → ¬ l < w ++ [97]
  | [], [], _, h => by simp at h
  | [], c :: t, hc, _ => by
    have := hc c List.mem_cons_self
    simp [List.cons_lt_cons_iff]
    omega
  | a :: w, [], _, h => by simp at h
  | a :: w, c :: t, hc, h => by
    rw [List.cons_lt_cons_iff] at h
    rw [List.cons_append, List.cons_lt_cons_iff]
    rcases h with h | ⟨rfl, h⟩
    · omega
    · have := above w t (fun x hx => hc x (List.mem_cons_of_mem _ hx)) h
      intro k
      rcases k with k | ⟨_, k⟩
      · omega
      · exact this k
def inB (lo hi : Option (List Nat)) (l : List Nat) : Bool := (match lo with | none => true | some u => decide (u < l)) && (match hi with | none => true | some h => decide (l < h))
def inD (p : List Nat → Bool) : D → Bool
  | .str s => p s.cps.toList
  | _ => false
theorem nx_mem (lo : Option (List Nat)) (h : Bd lo 3) : nx lo ∈ labs := by
  cases lo with
  | none => exact mem_labs _ (.inl rfl)
  | some u =>
    unfold nx
    simp only []
    rcases h u rfl with rfl | ⟨h1, h2, h3⟩
    · exact mem_labs _ (.inr ⟨by decide, by decide, by simp⟩)
    · split
      · exact mem_labs _ (.inr ⟨by decide, by simp, by simp⟩)
      · refine mem_labs _ (.inr ⟨by simp, by simp; omega, fun c hc => ?_⟩)
        rcases List.mem_append.mp hc with h | h
        · exact h3 c h
        · simp at h; simp [h]
theorem nx_least (lo : Option (List Nat)) (h : Bd lo 3) (l : List Nat) (hl : l ∈ labs) (hlt : ∀ u, lo = some u → u < l) : ¬ l < nx lo := by
  have hm := labs_mem l hl
  cases lo with
  | none =>
    unfold nx
    rcases hm with rfl | ⟨h1, h2, h3⟩
    · decide
    · cases l with
      | nil => exact absurd rfl h1
      | cons c t =>
        have := h3 c List.mem_cons_self
        simp [List.cons_lt_cons_iff]
        omega
  | some u =>
    have hu := hlt u rfl
    unfold nx
    simp only []
    rcases h u rfl with rfl | ⟨h1, h2, h3⟩
    · rw [if_pos rfl]
      rcases hm with rfl | ⟨g1, g2, g3⟩
      · exact absurd hu (by decide)
      · exact above [] l (fun c hc => (g3 c hc).1) (by cases l with | nil => exact absurd rfl g1 | cons c t => simp)
    · have hne : u ≠ [42] := fun e => by subst e; have := h3 42 (by simp); omega
      rw [if_neg hne]
      rcases hm with rfl | ⟨g1, g2, g3⟩
      · cases u with
        | nil => exact absurd rfl h1
        | cons c t =>
          have := h3 c List.mem_cons_self
          simp [List.cons_lt_cons_iff] at hu
          omega
      · exact above u l (fun c hc => (g3 c hc).1) hu
theorem band (lo hi : Option (List Nat)) (h : Bd lo 3) : (labs.filter (inB lo hi)).isEmpty = emp lo hi := by
  have hn : ∀ u, lo = some u → u < nx lo := fun u e => by
    subst e
    unfold nx
    simp only []
    rcases h u rfl with rfl | _
    · decide
    · split
      · rename_i e; subst e; decide
      · exact lt_app u 97
  have h1 : ∀ l, inB lo hi l = true ↔ (∀ u, lo = some u → u < l) ∧ (∀ v, hi = some v → l < v) := fun l => by
    unfold inB
    cases lo <;> cases hi <;> simp
  have h2 : (labs.filter (inB lo hi)).isEmpty = true ↔ ∀ l ∈ labs, ¬ inB lo hi l = true := by
    rw [List.isEmpty_iff, List.filter_eq_nil_iff]
  cases hi with
  | none =>
    have : ¬ (labs.filter (inB lo none)).isEmpty = true := fun e => h2.mp e (nx lo) (nx_mem lo h) ((h1 _).mpr ⟨hn, by simp⟩)
    unfold emp
    simpa using this
  | some v =>
    unfold emp
    simp only []
    by_cases hv : nx lo < v
    · have : ¬ (labs.filter (inB lo (some v))).isEmpty = true := fun e => h2.mp e (nx lo) (nx_mem lo h) ((h1 _).mpr ⟨hn, fun z e => by cases e; exact hv⟩)
      simp [hv]
      simpa using this
    · have : (labs.filter (inB lo (some v))).isEmpty = true := h2.mpr fun l hl k => by
        obtain ⟨k1, k2⟩ := (h1 l).mp k
        have k3 := nx_least lo h l hl k1
        have k4 := k2 v rfl
        exact hv (List.lt_of_le_of_lt (List.not_lt.mp k3) k4)
      rw [this]
      simp [hv]
theorem labs_ok (l : List Nat) (h : l ∈ labs) : PyData.strOk (S l) = true := by
  have := labs_mem l h
  unfold PyData.strOk
  rw [← Array.all_toList]
  simp
  intro c hc
  rcases this with rfl | ⟨_, _, h3⟩
  · simp at hc; omega
  · have := h3 c hc; omega
theorem repr2 (a b : Bool) : ∃ s, dRepr [.lst [.bl a, .bl b]] = some (.str s) := by
  cases a <;> cases b <;> exact ⟨_, dRepr_ok (by decide +kernel)⟩
section
variable {P : Program} {w : World} {K : PySem.W.Frag} {mg : Str → Option Value} {base : Heap}
theorem sc3 : FnScope ["label"] ["label"] (defScope (topS 3)) := ⟨rfl, rfl, rfl, by decide +kernel, rfl, by decide +kernel, by decide +kernel⟩
theorem ok3 {f : Addr} {fd : FuncData} (Fn : Fun K "next_label" "next_label" (topS 3) f fd)
    {t_STAR : Tok} (g_STAR : mg "STAR" = some (.str "*" t_STAR))
    {t_FIRST_LETTER : Tok} (g_FIRST_LETTER : mg "FIRST_LETTER" = some (.str "a" t_FIRST_LETTER)) : FnG P w K mg base 1 f fd ["label"] spec_next_label := by
  have G := FnG.of (P := P) (w := w) (K := K) (mg := mg) (base := base) (k := 0) Fn sc3 fun cdv A outer s H hr hgd =>
    have C : Cxs (U1 (cxB P w K mg base ["label"] "next_label" (defScope (topS 3)) f cdv A outer s H)) P w K mg base 0 := ⟨fun _ => rfl, fun _ => rfl, fun _ => rfl, fun _ => rfl, fun _ => rfl, fun _ => rfl, fun _ => hr, fun _ => hgd⟩
    (zs_cons (zt_if (wt_isN C (wvar 0))
       (zs_one (zt_ret (wgs C g_STAR)))
       zs_nil)
       (zs_one (zt_ret (wx_if (wt_eq C (wvar 0) (wgs C g_STAR)) (wgs C g_FIRST_LETTER) (wx_add C (wvar 0) (wgs C g_FIRST_LETTER))))))
  refine G.as ?_
  clear G
  rintro ds fu Q ⟨o, rfl, hl, hQ⟩
  refine z_fn fun B hn hr => ?_
  cases o with
  | none =>
    refine zq fun k hk => ?_
    simp [startD, oS, dIsN, nx] at hQ ⊢
    rw [hr, star_S]
    exact hQ
  | some l =>
    have h1 := hl l rfl
    refine zq fun k hk => ?_
    simp [startD, oS, dIsN]
    subst hk
    simp [star_S, a_S, dEq_str, S_inj]
    by_cases e : l = [42]
    · subst e
      simpa [nx, hr] using hQ
    · have : l.length + [97].length ≤ sizeLine := size_pos (by simp; omega)
      simpa [nx, hr, e, dAdd_S this] using hQ
theorem sc4 : FnScope ["e", "low", "high"] ["e", "low", "high"] (defScope (topS 4)) := ⟨rfl, rfl, rfl, by decide +kernel, rfl, by decide +kernel, by decide +kernel⟩
theorem ok4 {f : Addr} {fd : FuncData} (Fn : Fun K "is_empty_band" "is_empty_band" (topS 4) f fd)
    {f_next_label : Addr} {d_next_label : FuncData} (D_next_label : Dn P w K mg base 1 "next_label" f_next_label d_next_label ["label"] spec_next_label) : FnG P w K mg base 2 f fd ["e", "low", "high"] spec_is_empty_band := by
  have G := FnG.of (P := P) (w := w) (K := K) (mg := mg) (base := base) (k := 1) Fn sc4 fun cdv A outer s H hr hgd =>
    have C : Cxs (U1 (cxB P w K mg base ["e", "low", "high"] "is_empty_band" (defScope (topS 4)) f cdv A outer s H)) P w K mg base 1 := ⟨fun _ => rfl, fun _ => rfl, fun _ => rfl, fun _ => rfl, fun _ => rfl, fun _ => rfl, fun _ => hr, fun _ => hgd⟩
    (zs_one (zt_ret (wx_and (wx_notN C (wvar 2)) (wx_one (wx_le C (wvar 2) (wx_call C D_next_label (wvar 1) wa_nil))))))
  refine G.as ?_
  clear G
  rintro ds fu Q ⟨e, lo, hi, rfl, hl, hQ⟩
  refine z_fn fun B hn hr => ?_
  rw [← hr] at hQ
  cases hi with
  | none => simpa [startD, oS, dNotN, emp] using hQ
  | some h =>
    simp [startD, oS, dNotN]
    refine ⟨lo, rfl, hl, ?_⟩
    simpa [dLe, S_lt, emp] using hQ
theorem sc8 : FnScope ["_law_deck_here", "_law_some"] ["_law_deck_here", "_law_some"] (defScope (topS 8)) := ⟨rfl, rfl, rfl, by decide +kernel, rfl, by decide +kernel, by decide +kernel⟩
theorem ok8 {f : Addr} {fd : FuncData} (Fn : Fun K "_law_pick" "_law_pick" (topS 8) f fd)
    {f__law_draw : Addr} {d__law_draw : FuncData} (D__law_draw : Dn P w K mg base 1 "_law_draw" f__law_draw d__law_draw ["_law_deck_here", "_law_many"] spec__law_draw)
    (b_len : mg "len" = none) : FnG P w K mg base 2 f fd ["_law_deck_here", "_law_some"] spec__law_pick := by
  have G := FnG.of (P := P) (w := w) (K := K) (mg := mg) (base := base) (k := 1) Fn sc8 fun cdv A outer s H hr hgd =>
    have C : Cxs (U1 (cxB P w K mg base ["_law_deck_here", "_law_some"] "_law_pick" (defScope (topS 8)) f cdv A outer s H)) P w K mg base 1 := ⟨fun _ => rfl, fun _ => rfl, fun _ => rfl, fun _ => rfl, fun _ => rfl, fun _ => rfl, fun _ => hr, fun _ => hgd⟩
    (zs_one (zt_ret (wx_ix C (wvar 1) (wx_call C D__law_draw (wvar 0) (wa_cons (wx_len C b_len (wvar 1)) wa_nil)))))
  refine G.as ?_
  clear G
  rintro ds fu Q ⟨x, l, n, rfl, hi, h0, h1, rfl, hQ⟩
  refine z_fn fun B hn hr => ?_
  rw [← hr] at hQ
  have hl : 0 < l.length := List.length_pos_iff.mpr h0
  simp [startD, items_len hi]
  refine ⟨l.length, n, rfl, by omega, by omega, rfl, fun k k0 k1 => ?_⟩
  obtain ⟨a, ha, _, e⟩ := items_ix hi k0 k1
  exact isS_of e (hQ a ha)
theorem sc9 : FnScope ["_law_found", "_law_words", "_law_size", "_law_longer", "_law_word", "_law_letter"] [] (defScope (topS 9)) := ⟨rfl, rfl, rfl, by decide +kernel, rfl, by decide +kernel, by decide +kernel⟩
theorem ok9 {f : Addr} {fd : FuncData} (Fn : Fun K "_law_labels" "_law_labels" (topS 9) f fd)
    (b_range : mg "range" = none) : FnG P w K mg base 1 f fd [] spec__law_labels := by
  have G := FnG.of (P := P) (w := w) (K := K) (mg := mg) (base := base) (k := 0) Fn sc9 fun cdv A outer s H hr hgd =>
    have C : Cxs (U1 (cxB P w K mg base ["_law_found", "_law_words", "_law_size", "_law_longer", "_law_word", "_law_letter"] "_law_labels" (defScope (topS 9)) f cdv A outer s H)) P w K mg base 0 := ⟨fun _ => rfl, fun _ => rfl, fun _ => rfl, fun _ => rfl, fun _ => rfl, fun _ => rfl, fun _ => hr, fun _ => hgd⟩
    (zs_cons (zt_par (i := 0) (j := 1) rfl sc9.nd rfl rfl (by decide) rfl rfl (WLs.r (wl_lst (wa_cons wx_str wa_nil))) (WX.r (WLs.x (wl_lst (wa_cons wx_str wa_nil)))) (by rfl))
       (zs_cons (zt_for PassesOwn.never rfl (wr1 C b_range wx_int) (gvar 2 (fun _ => pg_name (i := 2) sc9.nd rfl (.inl rfl)))
       (zs_cons (zt_setL (i := 3) sc9.nd rfl (.inl rfl) (wl_lst wa_nil))
       (zs_cons (zt_for PassesOwn.never rfl (wi_list C.K (wvar 1)) (gvar 4 (fun _ => pg_name (i := 4) sc9.nd rfl (.inr rfl)))
       (zs_one (zt_extend (i := 3) (pv 3) (WLs.x (wl_lc (fun _ => rfl) (fun _ => sc9.nd) (wi_str wx_str) (fun _ => (blkOk_by (N := ["_law_found", "_law_words", "_law_size", "_law_longer", "_law_word", "_law_letter"]) (sc := defScope (topS 9)) (own := [("_law_letter", 5)]) (by first | decide +kernel | (with_unfolding_all rfl)))) (gvar 5 (fun _ => pg_name (i := 5) sc9.nd rfl (.inl rfl))) wf_nil (wx_add (C.blk _) (wvar 4) (wvar 5)))))))
       (zs_cons (zt_freeze 3 (zt_set (i := 1) sc9.nd rfl (.inl rfl) (wvar 3)))
       (zs_one (zt_extend (i := 0) (pv 0) (wvar 1)))))))
       (zs_one (zt_freeze 0 (zt_ret (wvar 0))))))
  refine G.as ?_
  clear G
  rintro ds fu Q ⟨rfl, hQ⟩
  refine z_fn fun B hn hr => ?_
  refine zq fun k hk => ?_
  simp [startD, star_S, emp_S]
  subst hk
  refine zq fun k hk => ?_
  simp
  refine loop_inv (fun i ρ fu' => fu' = fu ∧ ∃ a b c d, ρ = [.ow (sD (fnd i)), .va (.lst (sD (wds i))), a, b, c, d]) ⟨rfl, _, _, _, _, rfl⟩ ?_ ?_
  · rintro i d ρ fu' k2 hi ⟨rfl, a, b, c, e, rfl⟩ hk2
    obtain ⟨rfl, hi4⟩ := rng_get hi
    have hi5 : i < 4 := by omega
    simp
    have hlen := wds_len i
    have hpow : 4 ^ i ≤ 64 := Nat.pow_le_pow_right (n := 4) (j := 3) (by decide) (by omega)
    refine loop_inv (fun j ρ fu2 => fu2 = fu' ∧ ∃ c d, ρ = [.ow (sD (fnd i)), .va (.lst (sD (wds i))), .va (.int i), .ow (sD (((wds i).take j).flatMap xt)), c, d]) ⟨rfl, c, e, by simp [sD]⟩ ?_ ?_
    · rintro j d ρ fu2 k3 hj ⟨rfl, c, e, rfl⟩ hk3
      have hj' : ((wds i).map fun x => D.str (S x))[j]? = some d := hj
      rw [List.getElem?_map] at hj'
      obtain ⟨x, hx, rfl⟩ := Option.map_eq_some_iff.mp hj'
      have hjl := (List.getElem?_eq_some_iff.mp hx).1
      have hxl := wds_size i x (List.mem_of_getElem? hx)
      have hfl : ((((wds i).take j).flatMap xt)).length ≤ 1000 := by
        have : ∀ l : List (List Nat), (l.flatMap xt).length = l.length * 4 := by
          intro l
          induction l with
          | nil => rfl
          | cons a l ih => rw [List.flatMap_cons, List.length_append, ih]; simp [xt]; omega
        rw [this, List.length_take]
        omega
      simp
      have sg : signs ("abyz" : Str) = [.str (S [97]), .str (S [98]), .str (S [121]), .str (S [122])] := by rfl
      rw [sg]
      have ad : ∀ y : Nat, dAdd (.str (S x)) (.str (S [y])) = some (.str (S (x ++ [y]))) := fun y => dAdd_S (size_pos (by simp; omega))
      refine lc_plain (fun _ => true) (fun z => match z with | .str s => .str (S (x ++ s.cps.toList)) | _ => .non) ?_ (size_pos (by decide)) ?_
      · intro d hd k1 k0 hk
        simp at hd
        rcases hd with rfl | rfl | rfl | rfl <;> simpa [ad] using hk
      · simp
        refine ⟨by rw [sD_len]; exact size_pos (by omega), hk3 _ _ ⟨rfl, .va (.str (S x)), e, ?_⟩⟩
        have : (wds i).take (j + 1) = (wds i).take j ++ [x] := by
          rw [List.take_succ, hx]; rfl
        rw [this, List.flatMap_append, sD_app]
        simp [sD, xt]
    · rintro ρ fu2 ⟨rfl, c, e, rfl⟩
      rw [sD_len, List.take_length]
      refine zq fun k hk => ?_
      simp
      subst hk
      have h1 : (fnd i).length ≤ 1000 := fnd_len i (by omega)
      have h2 : (wds i).flatMap xt = wds (i + 1) := rfl
      rw [h2]
      simp [sD_len]
      refine ⟨size_pos (by rw [wds_len, Nat.pow_succ]; omega), ?_⟩
      have e4 : sD (fnd i) ++ sD (wds (i + 1)) = sD (fnd (i + 1)) := (sD_app _ _).symm
      rw [e4]
      exact hk2 _ _ ⟨rfl, _, _, _, _, rfl⟩
  · rintro ρ fu' ⟨rfl, a, b, c, e, rfl⟩
    subst hk
    simp
    rw [hr]
    exact hQ
theorem sc10 : FnScope ["_law_deck_here", "_law_other", "_law_way", "_law_k"] ["_law_deck_here", "_law_other"] (defScope (topS 10)) := ⟨rfl, rfl, rfl, by decide +kernel, rfl, by decide +kernel, by decide +kernel⟩
theorem ok10 {f : Addr} {fd : FuncData} (Fn : Fun K "_law_bound" "_law_bound" (topS 10) f fd)
    {f__law_draw : Addr} {d__law_draw : FuncData} (D__law_draw : Dn P w K mg base 1 "_law_draw" f__law_draw d__law_draw ["_law_deck_here", "_law_many"] spec__law_draw)
    {f__law_pick : Addr} {d__law_pick : FuncData} (D__law_pick : Dn P w K mg base 2 "_law_pick" f__law_pick d__law_pick ["_law_deck_here", "_law_some"] spec__law_pick)
    (b_range : mg "range" = none) : FnG P w K mg base 3 f fd ["_law_deck_here", "_law_other"] spec__law_bound := by
  have G := FnG.of (P := P) (w := w) (K := K) (mg := mg) (base := base) (k := 2) Fn sc10 fun cdv A outer s H hr hgd =>
    have C : Cxs (U1 (cxB P w K mg base ["_law_deck_here", "_law_other", "_law_way", "_law_k"] "_law_bound" (defScope (topS 10)) f cdv A outer s H)) P w K mg base 2 := ⟨fun _ => rfl, fun _ => rfl, fun _ => rfl, fun _ => rfl, fun _ => rfl, fun _ => rfl, fun _ => hr, fun _ => hgd⟩
    (zs_cons (zt_set (i := 2) sc10.nd rfl (.inl rfl) (wx_call C D__law_draw (wvar 0) (wa_cons wx_int wa_nil)))
       (zs_cons (zt_if (wt_lt C (wvar 2) wx_int)
       (zs_one (zt_ret (wx_ix C (WLs.x (wl_lst (wa_cons wx_non (wa_cons wx_str wa_nil)))) (wvar 2))))
       zs_nil)
       (zs_cons (zt_if (WWs.t (ww_and (wt_eq C (wvar 2) wx_int) (ww_and1 (wt_notN C (wvar 1)))))
       (zs_one (zt_ret (wx_if (wt_eq C (wvar 1) wx_str) wx_str (wx_add C (wvar 1) wx_str))))
       zs_nil)
       (zs_cons (zt_if (wt_eq C (wvar 2) wx_int)
       (zs_one (zt_ret (wvar 1)))
       zs_nil)
       (zs_one (zt_ret (wx_join C wx_str (WLs.x (wl_lc (fun _ => rfl) (fun _ => sc10.nd) (wr1 C b_range (wx_add C wx_int (wx_call C D__law_draw (wvar 0) (wa_cons wx_int wa_nil)))) (fun _ => (blkOk_by (N := ["_law_deck_here", "_law_other", "_law_way", "_law_k"]) (sc := defScope (topS 10)) (own := [("_law_k", 3)]) (by first | decide +kernel | (with_unfolding_all rfl)))) (gvar 3 (fun _ => pg_name (i := 3) sc10.nd rfl (.inl rfl))) wf_nil (wx_call (C.blk _) D__law_pick (wvar 0) (wa_cons wx_str wa_nil)))))))))))
  refine G.as ?_
  clear G
  rintro ds fu Q ⟨o, n, rfl, hB, rfl, hn5, hQ⟩
  refine z_fn fun B hn hr => ?_
  rw [← hr] at hQ
  refine zq fun k hk => ?_
  simp [startD]
  obtain ⟨m, rfl⟩ : ∃ m, n = m + 1 := ⟨n - 1, by omega⟩
  refine ⟨7, m, rfl, by decide, by decide, rfl, fun way w0 w1 => ?_⟩
  subst hk
  refine zq fun k hk => ?_
  simp [dLt]
  split
  · rename_i hw
    have : way = 0 ∨ way = 1 := by omega
    rcases this with rfl | rfl
    · exact isS_of (d := .non) rfl (hQ none m (by omega) (fun l h => by cases h))
    · refine isS_of (d := .str (S [42])) (by rw [star_S]; rfl) (hQ (some [42]) m (by omega) fun l h => ?_)
      cases h; exact .inl rfl
  rename_i hw
  subst hk
  refine zq fun k hk => ?_
  have hlast : ∀ o' : Option (List Nat), Bd o' (if o = none then 3 else 4) → B.rt (oS o') (some m) := fun o' h => hQ o' m (by omega) h
  have hrest : k [Sl.va .src, .va (oS o), .va (.int way), .un] (some m) := by
    subst hk
    refine zq fun k hk => ?_
    simp [dEq_int]
    split
    · refine hlast o fun l h => ?_
      rcases hB l h with h1 | ⟨h1, h2, h3⟩
      · exact .inl h1
      · exact .inr ⟨h1, by split <;> omega, h3⟩
    · subst hk
      simp
      obtain ⟨m', rfl⟩ : ∃ m', m = m' + 1 := ⟨m - 1, by omega⟩
      refine ⟨3, m', rfl, by decide, by decide, rfl, fun sz z0 z1 => ?_⟩
      simp [dAdd]
      refine ⟨⟨by omega, by omega⟩, ?_⟩
      refine lc_inv (fun i acc fu' => ∃ (q : List Nat) (n' : Nat), acc = q.map (fun c => .str (S [c])) ∧ q.length = i ∧ (∀ c ∈ q, c = 97 ∨ c = 98 ∨ c = 121 ∨ c = 122) ∧ fu' = some n' ∧ m' ≤ n' + i) ⟨[], m', rfl, rfl, by simp, rfl, by omega⟩ ?_ (size_pos (by simp; omega)) ?_
      · rintro i d acc fu' k1 k0 hi ⟨q, n', rfl, hq, hc, rfl, hn'⟩ hk1 hk0
        have hi3 := (rng_get hi).2
        have sg : items (.str ("abyz" : Str)) = some [.str (S [97]), .str (S [98]), .str (S [121]), .str (S [122])] := by rfl
        obtain ⟨n2, rfl⟩ : ∃ n2, n' = n2 + 1 := ⟨n' - 1, by omega⟩
        simp
        refine ⟨_, _, n2, rfl, sg, by simp, by simp, rfl, fun d hd => ?_⟩
        simp at hd
        rcases hd with rfl | rfl | rfl | rfl
        all_goals
          refine hk1 _ _ ⟨q ++ [_], n2, by rw [List.map_append]; rfl, by simp [hq], ?_, rfl, by omega⟩
          intro c hcc
          rcases List.mem_append.mp hcc with h | h
          · exact hc c h
          · simp at h; simp [h]
      · rintro acc fu' ⟨q, n', rfl, hq, hc, rfl, hn'⟩
        rw [rng_len] at hq hn'
        refine isS_of (d := .str (S q)) ?_ ?_
        · have e1 : (q.map fun c => D.str (S [c])) = (q.map fun c => [c]).map fun x => D.str (S x) := by simp
          rw [e1, emp_S, dJoin_S, jn_nil]
          · simp [List.flatten_eq_flatMap, List.flatMap_map]
          · simp [Function.comp_def]; rw [sum_ones]; omega
        · refine hQ (some q) n' (by omega) fun l h => ?_
          cases h
          refine .inr ⟨?_, ?_, hc⟩
          · intro e; subst e; simp at hq; omega
          · split <;> omega
  simp [dEq_int]
  split
  · cases o with
    | none => simpa [oS, dNotN] using hrest
    | some l =>
      simp [oS, dNotN, star_S, a_S, dEq_str, S_inj]
      have hl := hB l rfl
      split
      · refine hlast (some [97]) fun l h => ?_
        cases h
        exact .inr ⟨by decide, by simp, by simp⟩
      · rename_i h42
        rcases hl with rfl | ⟨e1, e2, e3⟩
        · exact absurd rfl h42
        · refine isS_of (dAdd_S (size_pos (by simp; omega))) (hlast (some (l ++ [97])) fun l' h => ?_)
          cases h
          refine .inr ⟨by simp, by simp; omega, fun c hc => ?_⟩
          rcases List.mem_append.mp hc with h | h
          · exact e3 c h
          · simp at h; simp [h]
  · simpa using hrest
theorem sc11 : FnScope ["_law_script", "_law_deck_here", "_law_labels_here", "_law_turn", "_law_whose", "_law_under", "_law_over", "_law_some", "_law_told", "_law_label"] ["_law_script"] (defScope (topS 11)) := ⟨rfl, rfl, rfl, by decide +kernel, rfl, by decide +kernel, by decide +kernel⟩
theorem ok11 {f : Addr} {fd : FuncData} (Fn : Fun K "law" "law" (topS 11) f fd)
    {f__law_deck : Addr} {d__law_deck : FuncData} (D__law_deck : Dn P w K mg base 1 "_law_deck" f__law_deck d__law_deck ["_law_script"] spec__law_deck)
    {f__law_labels : Addr} {d__law_labels : FuncData} (D__law_labels : Dn P w K mg base 1 "_law_labels" f__law_labels d__law_labels [] spec__law_labels)
    {f__law_bound : Addr} {d__law_bound : FuncData} (D__law_bound : Dn P w K mg base 3 "_law_bound" f__law_bound d__law_bound ["_law_deck_here", "_law_other"] spec__law_bound)
    {f__law_pick : Addr} {d__law_pick : FuncData} (D__law_pick : Dn P w K mg base 2 "_law_pick" f__law_pick d__law_pick ["_law_deck_here", "_law_some"] spec__law_pick)
    {f_is_empty_band : Addr} {d_is_empty_band : FuncData} (D_is_empty_band : Dn P w K mg base 2 "is_empty_band" f_is_empty_band d_is_empty_band ["e", "low", "high"] spec_is_empty_band)
    (k_is_empty_band_0_high_low_e : KPerm K d_is_empty_band ["e", "low", "high"] ["high", "low", "e"] 0 [2, 1, 0])
    (b_range : mg "range" = none)
    (b_repr : mg "repr" = none) : FnG P w K mg base 4 f fd ["_law_script"] spec_law := by
  have G := FnG.of (P := P) (w := w) (K := K) (mg := mg) (base := base) (k := 3) Fn sc11 fun cdv A outer s H hr hgd =>
    have C : Cxs (U1 (cxB P w K mg base ["_law_script", "_law_deck_here", "_law_labels_here", "_law_turn", "_law_whose", "_law_under", "_law_over", "_law_some", "_law_told", "_law_label"] "law" (defScope (topS 11)) f cdv A outer s H)) P w K mg base 3 := ⟨fun _ => rfl, fun _ => rfl, fun _ => rfl, fun _ => rfl, fun _ => rfl, fun _ => rfl, fun _ => hr, fun _ => hgd⟩
    (zs_cons (zt_par (i := 1) (j := 2) rfl sc11.nd rfl rfl (by decide) rfl rfl (WX.r (wx_call C D__law_deck (wvar 0) wa_nil)) (WX.r (wx_call0 C D__law_labels)) (by rfl))
       (zs_cons (zt_for PassesOwn.never rfl (wr1 C b_range wx_int) (gvar 3 (fun _ => pg_name (i := 3) sc11.nd rfl (.inl rfl)))
       (zs_cons (zt_asg (wx_tup (wa_cons (wx_call C D__law_pick (wvar 1) (wa_cons (WLs.x (wl_lst (wa_cons (wx_tup wa_nil) (wa_cons (wx_tup (wa_cons wx_str wa_nil)) (wa_cons (wx_tup (wa_cons wx_str (wa_cons wx_str wa_nil))) wa_nil))))) wa_nil)) (wa_cons (wx_call C D__law_bound (wvar 1) (wa_cons wx_non wa_nil)) wa_nil))) (wg_tup (n := 2) C.K C.calm (wgs_cons (gvar 4 (fun _ => pg_name (i := 4) sc11.nd rfl (.inl rfl))) (wgs_cons (gvar 5 (fun _ => pg_name (i := 5) sc11.nd rfl (.inr rfl))) wgs_nil))))
       (zs_cons (zt_set (i := 6) sc11.nd rfl (.inr rfl) (wx_call C D__law_bound (wvar 1) (wa_cons (wvar 5) wa_nil)))
       (zs_cons (zt_setLc (i := 7) rfl sc11.nd rfl rfl (sw_true rfl rfl rfl (by decide +kernel)) (wi_list C.K (wvar 2)) (blkOk_by (N := ["_law_script", "_law_deck_here", "_law_labels_here", "_law_turn", "_law_whose", "_law_under", "_law_over", "_law_some", "_law_told", "_law_label"]) (sc := defScope (topS 11)) (own := [("_law_label", 9)]) (by first | decide +kernel | (with_unfolding_all rfl))) (gvar 9 (fun _ => pg_name (i := 9) sc11.nd rfl (.inl rfl))) (wf_one (WWs.t (ww_and (WWs.t (ww_or (wt_isN (C.blk _) (wvar 5)) (ww_or1 (wt_lt (C.blk _) (wvar 5) (wvar 9))))) (ww_and1 (WWs.t (ww_or (wt_isN (C.blk _) (wvar 6)) (ww_or1 (wt_lt (C.blk _) (wvar 9) (wvar 6))))))))) (wvar 9))
       (zs_cons (zt_set (i := 8) sc11.nd rfl (.inl rfl) (WLs.x (wl_lst (wa_cons (wx_call C D_is_empty_band (wvar 4) (wa_cons (wvar 5) (wa_cons (wvar 6) wa_nil))) (wa_cons (wx_callK0 C D_is_empty_band (wk_cons (wvar 6) (wk_cons (wvar 5) (wk_cons (wvar 4) wk_nil))) k_is_empty_band_0_high_low_e) wa_nil)))))
       (zs_one (zt_if (wt_ne C (wx_repr C b_repr (wvar 8)) (wx_repr C b_repr (WLs.x (wl_lst (wa_cons (wx_eq C (wvar 7) (WLs.x (wl_lst wa_nil))) (wa_cons (wx_eq C (wvar 7) (WLs.x (wl_lst wa_nil))) wa_nil))))))
       (zs_one (zt_ret wx_bl))
       zs_nil)))))))
       (zs_cons (zt_set (i := 8) sc11.nd rfl (.inl rfl) (WLs.x (wl_lst (wa_cons (wx_call C D_is_empty_band (wx_tup wa_nil) (wa_cons wx_str (wa_cons wx_str wa_nil))) (wa_cons (wx_call C D_is_empty_band (wx_tup wa_nil) (wa_cons wx_str (wa_cons wx_str wa_nil))) wa_nil)))))
       (zs_cons (zt_set (i := 8) sc11.nd rfl (.inl rfl) (wx_add C (wvar 8) (WLs.x (wl_lst (wa_cons (wx_call C D_is_empty_band (wx_tup wa_nil) (wa_cons wx_str (wa_cons wx_non wa_nil))) (wa_cons (wx_call C D_is_empty_band (wx_tup wa_nil) (wa_cons wx_str (wa_cons wx_str wa_nil))) wa_nil))))))
       (zs_one (zt_ret (wx_eq C (wx_repr C b_repr (wvar 8)) (wx_repr C b_repr (WLs.x (wl_lst (wa_cons wx_bl (wa_cons wx_bl (wa_cons wx_bl (wa_cons wx_bl wa_nil))))))))))))))
  refine G.as ?_
  clear G
  rintro ds fu Q ⟨rfl, rfl, hQ⟩
  refine z_fn fun B hn hr => ?_
  rw [← hr] at hQ
  refine zq fun k hk => ?_
  simp [startD]
  refine ⟨rfl, rfl, rfl, ?_⟩
  simp
  subst hk
  refine zq fun k hk => ?_
  simp
  refine loop_inv (fun i ρ fu' => ∃ (n : Nat) (a b c d e f g : Sl), 2 ^ 60 ≤ n + 11 * i ∧ fu' = some n ∧ ρ = [.va .scr, .va .src, .va (.lst (sD labs)), a, b, c, d, e, f, g]) ⟨2 ^ 60, .un, .un, .un, .un, .un, .un, .un, Nat.le_refl _, rfl, rfl⟩ ?_ ?_
  · rintro i d ρ fu' k2 hi ⟨n, a, b, c, e, f, g, h, hn2, rfl, rfl⟩ hk2
    obtain ⟨rfl, hi4⟩ := rng_get hi
    simp
    obtain ⟨n0, rfl⟩ : ∃ n0, n = n0 + 1 := ⟨n - 1, by omega⟩
    refine ⟨_, _, n0, rfl, rfl, by simp, by simp, rfl, fun e1 he1 => ?_⟩
    refine ⟨none, n0, rfl, fun l h => (by cases h), rfl, by omega, fun under n1 hn1 hun => ?_⟩
    simp
    refine ⟨under, n1, rfl, hun, rfl, by omega, fun over n3 hn3 hov => ?_⟩
    refine lc_plain (inD (inB under over)) (fun d => d) ?_ (by simp [sD]; exact size_pos (by decide)) ?_
    · intro d hd k1 k0 hk
      obtain ⟨l, hl, rfl⟩ := List.mem_map.mp hd
      simp [inD] at hk ⊢
      cases under <;> cases over <;> simp [oS, dIsN, dLt, S_lt, inB] at hk ⊢ <;> simpa [ite_and'] using hk
    · rw [List.nil_append]
      have hfew : few under 100 := fun l h => by
        rcases hun l h with rfl | ⟨_, h2, _⟩
        · decide
        · simp at h2; omega
      refine ⟨e1, under, over, rfl, hfew, ?_⟩
      refine ⟨rfl, e1, under, over, rfl, hfew, ?_⟩
      have hflt : (List.filter (inD (inB under over)) (sD labs)).map (fun d => d) = ((labs.filter (inB under over)).map S).map .str := by
        have : ∀ l : List (List Nat), (List.filter (inD (inB under over)) (sD l)).map (fun d => d) = ((l.filter (inB under over)).map S).map .str := by
          intro l
          induction l with
          | nil => rfl
          | cons x l ih =>
            have e : inD (inB under over) (.str (S x)) = inB under over x := by simp [inD]
            have e2 : sD (x :: l) = .str (S x) :: sD l := rfl
            rw [e2, List.filter_cons, List.filter_cons, e]
            split
            · rw [List.map_cons, ih]; rfl
            · exact ih
        exact this labs
      have hok : ∀ s ∈ (labs.filter (inB under over)).map S, PyData.strOk s = true := fun s hs => by
        obtain ⟨l, hl, rfl⟩ := List.mem_map.mp hs
        exact labs_ok l (List.mem_filter.mp hl).1
      have heq := eq_strs_nil _ hok
      unfold sL at heq
      rw [hflt, heq]
      have hb := band under over hun
      rw [List.isEmpty_map, hb]
      obtain ⟨s, hs⟩ := repr2 (emp under over) (emp under over)
      simp [hs, dNe_str]
      refine hk2 _ _ ⟨n3, _, _, _, _, _, _, _, by omega, rfl, rfl⟩
  · rintro ρ fu' ⟨n, a, b, c, e, f, g, h, hn2, rfl, rfl⟩
    subst hk
    dsimp only
    refine zq fun k hk => ?_
    simp
    have w1 : ("abcdefgh" : Str) = S [97, 98, 99, 100, 101, 102, 103, 104] := by decide
    have w2 : ("abcdefgi" : Str) = S [97, 98, 99, 100, 101, 102, 103, 105] := by decide
    have w3 : ("abcdefg" : Str) = S [97, 98, 99, 100, 101, 102, 103] := by decide
    have w4 : ("abcdefga" : Str) = S [97, 98, 99, 100, 101, 102, 103, 97] := by decide
    have w5 : ("zzzzzzzz" : Str) = S [122, 122, 122, 122, 122, 122, 122, 122] := by decide
    have w6 : ("abcdefgb" : Str) = S [97, 98, 99, 100, 101, 102, 103, 98] := by decide
    have few8 : ∀ l : List Nat, l.length ≤ 8 → few (some l) 100 := fun l h m e => by cases e; omega
    refine ⟨_, some _, some _, by rw [w1, w2]; rfl, few8 _ (by decide), ?_⟩
    refine ⟨_, some _, some _, by rw [w3, w4]; rfl, few8 _ (by decide), ?_⟩
    subst hk
    refine zq fun k hk => ?_
    simp
    refine ⟨_, some _, none, by rw [w5]; rfl, few8 _ (by decide), ?_⟩
    refine ⟨_, some _, some _, by rw [w3, w6]; rfl, few8 _ (by decide), ?_⟩
    subst hk
    have q1 : emp (some [97, 98, 99, 100, 101, 102, 103, 104]) (some [97, 98, 99, 100, 101, 102, 103, 105]) = false := by decide
    have q2 : emp (some [97, 98, 99, 100, 101, 102, 103]) (some [97, 98, 99, 100, 101, 102, 103, 97]) = true := by decide
    have q3 : emp (some [122, 122, 122, 122, 122, 122, 122, 122]) none = false := by decide
    have q4 : emp (some [97, 98, 99, 100, 101, 102, 103]) (some [97, 98, 99, 100, 101, 102, 103, 98]) = false := by decide
    rw [q1, q2, q3, q4]
    have q5 : dRepr [.lst [.bl false, .bl true, .bl false, .bl false]] = some (.str _) := dRepr_ok (by decide +kernel)
    simp [dAdd, q5, dEq_str]
    exact hQ _
end
end W
namespace W
open PySem PySem.Spec L2 Z
open PyProof.Rows (envOfC)
theorem all_mk {l : PySem.W.OpenLaw} {w : World} {K : PySem.W.Frag} {h : Heap} {mg : Str → Option Value} {fa : Addr} (X : K.In h) (G : h.Ns mainGlobals mg) (hfa : mg "law" = some (.ref fa))
    {f_next_label : Addr} {od3 an3 : Option Addr} {sl3 : Array (Option Value)} {oc3 kV3 dc3 pm3 cd3 ct3 : Value}
    {f_is_empty_band : Addr} {od4 an4 : Option Addr} {sl4 : Array (Option Value)} {oc4 kV4 dc4 pm4 cd4 ct4 : Value}
    {f__law_deck : Addr} {od6 an6 : Option Addr} {sl6 : Array (Option Value)} {oc6 kV6 dc6 pm6 cd6 ct6 : Value}
    {f__law_draw : Addr} {od7 an7 : Option Addr} {sl7 : Array (Option Value)} {oc7 kV7 dc7 pm7 cd7 ct7 : Value}
    {f__law_pick : Addr} {od8 an8 : Option Addr} {sl8 : Array (Option Value)} {oc8 kV8 dc8 pm8 cd8 ct8 : Value}
    {f__law_labels : Addr} {od9 an9 : Option Addr} {sl9 : Array (Option Value)} {oc9 kV9 dc9 pm9 cd9 ct9 : Value}
    {f__law_bound : Addr} {od10 an10 : Option Addr} {sl10 : Array (Option Value)} {oc10 kV10 dc10 pm10 cd10 ct10 : Value}
    {f_law : Addr} {od11 an11 : Option Addr} {sl11 : Array (Option Value)} {oc11 kV11 dc11 pm11 cd11 ct11 : Value}
    {t_STAR : Tok}
    {t_FIRST_LETTER : Tok}
    (a3 : PySem.W.nsIn K mainGlobals "next_label" = some (some (.ref f_next_label)))
    (l3 : K.lookup f_next_label = some ⟨oc3, od3, .func (PySem.W.fnOf "next_label" "next_label" (defArgs (topS 3)) (defBody (topS 3)) (defScope (topS 3)) .none kV3 dc3 pm3 an3 cd3 ct3), sl3⟩)
    (c3 : PySem.W.codeIn K cd3 "next_label" = true)
    (k3 : PySem.W.keepIn K (.ref f_next_label) = true)
    (a4 : PySem.W.nsIn K mainGlobals "is_empty_band" = some (some (.ref f_is_empty_band)))
    (l4 : K.lookup f_is_empty_band = some ⟨oc4, od4, .func (PySem.W.fnOf "is_empty_band" "is_empty_band" (defArgs (topS 4)) (defBody (topS 4)) (defScope (topS 4)) .none kV4 dc4 pm4 an4 cd4 ct4), sl4⟩)
    (c4 : PySem.W.codeIn K cd4 "is_empty_band" = true)
    (k4 : PySem.W.keepIn K (.ref f_is_empty_band) = true)
    (a6 : PySem.W.nsIn K mainGlobals "_law_deck" = some (some (.ref f__law_deck)))
    (l6 : K.lookup f__law_deck = some ⟨oc6, od6, .func (PySem.W.fnOf "_law_deck" "_law_deck" (defArgs (topS 6)) (defBody (topS 6)) (defScope (topS 6)) .none kV6 dc6 pm6 an6 cd6 ct6), sl6⟩)
    (c6 : PySem.W.codeIn K cd6 "_law_deck" = true)
    (k6 : PySem.W.keepIn K (.ref f__law_deck) = true)
    (a7 : PySem.W.nsIn K mainGlobals "_law_draw" = some (some (.ref f__law_draw)))
    (l7 : K.lookup f__law_draw = some ⟨oc7, od7, .func (PySem.W.fnOf "_law_draw" "_law_draw" (defArgs (topS 7)) (defBody (topS 7)) (defScope (topS 7)) .none kV7 dc7 pm7 an7 cd7 ct7), sl7⟩)
    (c7 : PySem.W.codeIn K cd7 "_law_draw" = true)
    (k7 : PySem.W.keepIn K (.ref f__law_draw) = true)
    (a8 : PySem.W.nsIn K mainGlobals "_law_pick" = some (some (.ref f__law_pick)))
    (l8 : K.lookup f__law_pick = some ⟨oc8, od8, .func (PySem.W.fnOf "_law_pick" "_law_pick" (defArgs (topS 8)) (defBody (topS 8)) (defScope (topS 8)) .none kV8 dc8 pm8 an8 cd8 ct8), sl8⟩)
    (c8 : PySem.W.codeIn K cd8 "_law_pick" = true)
    (k8 : PySem.W.keepIn K (.ref f__law_pick) = true)
    (a9 : PySem.W.nsIn K mainGlobals "_law_labels" = some (some (.ref f__law_labels)))
    (l9 : K.lookup f__law_labels = some ⟨oc9, od9, .func (PySem.W.fnOf "_law_labels" "_law_labels" (defArgs (topS 9)) (defBody (topS 9)) (defScope (topS 9)) .none kV9 dc9 pm9 an9 cd9 ct9), sl9⟩)
    (c9 : PySem.W.codeIn K cd9 "_law_labels" = true)
    (k9 : PySem.W.keepIn K (.ref f__law_labels) = true)
    (a10 : PySem.W.nsIn K mainGlobals "_law_bound" = some (some (.ref f__law_bound)))
    (l10 : K.lookup f__law_bound = some ⟨oc10, od10, .func (PySem.W.fnOf "_law_bound" "_law_bound" (defArgs (topS 10)) (defBody (topS 10)) (defScope (topS 10)) .none kV10 dc10 pm10 an10 cd10 ct10), sl10⟩)
    (c10 : PySem.W.codeIn K cd10 "_law_bound" = true)
    (k10 : PySem.W.keepIn K (.ref f__law_bound) = true)
    (a11 : PySem.W.nsIn K mainGlobals "law" = some (some (.ref f_law)))
    (l11 : K.lookup f_law = some ⟨oc11, od11, .func (PySem.W.fnOf "law" "law" (defArgs (topS 11)) (defBody (topS 11)) (defScope (topS 11)) .none kV11 dc11 pm11 an11 cd11 ct11), sl11⟩)
    (c11 : PySem.W.codeIn K cd11 "law" = true)
    (k11 : PySem.W.keepIn K (.ref f_law) = true)
    (z_list : PySem.W.nsIn K mainGlobals "list" = some none)
    (z_len : PySem.W.nsIn K mainGlobals "len" = some none)
    (z_range : PySem.W.nsIn K mainGlobals "range" = some none)
    (z_repr : PySem.W.nsIn K mainGlobals "repr" = some none)
    (y_STAR : PySem.W.nsIn K mainGlobals "STAR" = some (some (.str "*" t_STAR)))
    (y_FIRST_LETTER : PySem.W.nsIn K mainGlobals "FIRST_LETTER" = some (some (.str "a" t_FIRST_LETTER))) :
    ∃ fd : FuncData, (∀ (s : Shared) (u : Value), BindsTo s fd ⟨[u], []⟩ [("_law_script", u)]) ∧ ∀ base : Heap, K.In base → base.Ns mainGlobals mg → FnG l.prog w K mg base 4 fa fd ["_law_script"] spec_law := by
  have e := hfa.symm.trans (PySem.W.mg_of X G a11)
  cases e
  refine ⟨(PySem.W.fnOf "law" "law" (defArgs (topS 11)) (defBody (topS 11)) (defScope (topS 11)) .none kV11 dc11 pm11 an11 cd11 ct11), fun s u => .of_eq rfl, fun base _ _ => ?_⟩
  have F3 := fun_mk (st := topS 3) l3 c3 k3
  have D_next_label : Dn l.prog w K mg base 1 "next_label" f_next_label _ ["label"] spec_next_label := ⟨(ok3 (P := l.prog) (w := w) (base := base) F3 (PySem.W.mg_of X G y_STAR) (PySem.W.mg_of X G y_FIRST_LETTER)), PySem.W.mg_of X G a3, k3, F3.binds (ps := ["label"]) fun _ _ _ _ _ _ us hl => match us, hl with | [_], _ => rfl⟩
  have F6 := fun_mk (st := topS 6) l6 c6 k6
  have D__law_deck : Dn l.prog w K mg base 1 "_law_deck" f__law_deck _ ["_law_script"] spec__law_deck := ⟨(ok6 (P := l.prog) (w := w) (base := base) F6 (PySem.W.mg_none_of X G z_list)), PySem.W.mg_of X G a6, k6, F6.binds (ps := ["_law_script"]) fun _ _ _ _ _ _ us hl => match us, hl with | [_], _ => rfl⟩
  have F7 := fun_mk (st := topS 7) l7 c7 k7
  have D__law_draw : Dn l.prog w K mg base 1 "_law_draw" f__law_draw _ ["_law_deck_here", "_law_many"] spec__law_draw := ⟨(ok7 (P := l.prog) (w := w) (base := base) F7 ), PySem.W.mg_of X G a7, k7, F7.binds (ps := ["_law_deck_here", "_law_many"]) fun _ _ _ _ _ _ us hl => match us, hl with | [_, _], _ => rfl⟩
  have F9 := fun_mk (st := topS 9) l9 c9 k9
  have D__law_labels : Dn l.prog w K mg base 1 "_law_labels" f__law_labels _ [] spec__law_labels := ⟨(ok9 (P := l.prog) (w := w) (base := base) F9 (PySem.W.mg_none_of X G z_range)), PySem.W.mg_of X G a9, k9, F9.binds (ps := []) fun _ _ _ _ _ _ us hl => match us, hl with | [], _ => rfl⟩
  have F4 := fun_mk (st := topS 4) l4 c4 k4
  have D_is_empty_band : Dn l.prog w K mg base 2 "is_empty_band" f_is_empty_band _ ["e", "low", "high"] spec_is_empty_band := ⟨(ok4 (P := l.prog) (w := w) (base := base) F4 D_next_label), PySem.W.mg_of X G a4, k4, F4.binds (ps := ["e", "low", "high"]) fun _ _ _ _ _ _ us hl => match us, hl with | [_, _, _], _ => rfl⟩
  have F8 := fun_mk (st := topS 8) l8 c8 k8
  have D__law_pick : Dn l.prog w K mg base 2 "_law_pick" f__law_pick _ ["_law_deck_here", "_law_some"] spec__law_pick := ⟨(ok8 (P := l.prog) (w := w) (base := base) F8 D__law_draw (PySem.W.mg_none_of X G z_len)), PySem.W.mg_of X G a8, k8, F8.binds (ps := ["_law_deck_here", "_law_some"]) fun _ _ _ _ _ _ us hl => match us, hl with | [_, _], _ => rfl⟩
  have F10 := fun_mk (st := topS 10) l10 c10 k10
  have D__law_bound : Dn l.prog w K mg base 3 "_law_bound" f__law_bound _ ["_law_deck_here", "_law_other"] spec__law_bound := ⟨(ok10 (P := l.prog) (w := w) (base := base) F10 D__law_draw D__law_pick (PySem.W.mg_none_of X G z_range)), PySem.W.mg_of X G a10, k10, F10.binds (ps := ["_law_deck_here", "_law_other"]) fun _ _ _ _ _ _ us hl => match us, hl with | [_, _], _ => rfl⟩
  have F11 := fun_mk (st := topS 11) l11 c11 k11
  have k_is_empty_band_0_high_low_e : KPerm K (PySem.W.fnOf "is_empty_band" "is_empty_band" (defArgs (topS 4)) (defBody (topS 4)) (defScope (topS 4)) .none kV4 dc4 pm4 an4 cd4 ct4) ["e", "low", "high"] ["high", "low", "e"] 0 [2, 1, 0] := fun s us ws _ hu hw => match us, hu, ws, hw with | [], _, [_, _, _], _ => .of_eq rfl
  exact (ok11 (P := l.prog) (w := w) (base := base) F11 D__law_deck D__law_labels D__law_bound D__law_pick D_is_empty_band k_is_empty_band_0_high_low_e (PySem.W.mg_none_of X G z_range) (PySem.W.mg_none_of X G z_repr))
end W
open PySem PySem.W PyProof.Rows in
set_option maxHeartbeats 0 in
theorem PySem.Challenge.cw_sureslips_k27_bands_without_names_holds : PySem.Challenge.rw_sureslips_k27_bands_without_names.Holds := by
  w_on; o_law; k_head; (case hw => w_witness2)
  k_fill
  refine Z.walk_g (l := PySem.Challenge.rw_sureslips_k27_bands_without_names) (k := 4) (x := "_law_script") (wf := W.spec_law) rfl rfl ⟨rfl, by decide, by decide⟩ (fun w h Y => PySem.W.kIn_of Y) ?F ⟨rfl, rfl, fun _ => rfl⟩
  case F =>
    intro w mg fa h KX G hmg
    refine' W.all_mk KX G hmg ?a3 ?l3 ?c3 ?k3 ?a4 ?l4 ?c4 ?k4 ?a6 ?l6 ?c6 ?k6 ?a7 ?l7 ?c7 ?k7 ?a8 ?l8 ?c8 ?k8 ?a9 ?l9 ?c9 ?k9 ?a10 ?l10 ?c10 ?k10 ?a11 ?l11 ?c11 ?k11 ?z_list ?z_len ?z_range ?z_repr ?y_STAR ?y_FIRST_LETTER
    (case a3 => k_is); (case l3 => k_is); (case c3 => k_is); (case k3 => k_is); (case a4 => k_is); (case l4 => k_is); (case c4 => k_is); (case k4 => k_is); (case a6 => k_is); (case l6 => k_is); (case c6 => k_is); (case k6 => k_is); (case a7 => k_is); (case l7 => k_is); (case c7 => k_is); (case k7 => k_is); (case a8 => k_is); (case l8 => k_is); (case c8 => k_is); (case k8 => k_is); (case a9 => k_is); (case l9 => k_is); (case c9 => k_is); (case k9 => k_is); (case a10 => k_is); (case l10 => k_is); (case c10 => k_is); (case k10 => k_is); (case a11 => k_is); (case l11 => k_is); (case c11 => k_is); (case k11 => k_is); (case z_list => k_is); (case z_len => k_is); (case z_range => k_is); (case z_repr => k_is); (case y_STAR => k_is); (case y_FIRST_LETTER => k_is)
