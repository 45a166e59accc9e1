import PyProof.Rows.All
import Wide.All
import OpenK.AllK
import Wide.FinOn
import PyProof.EqAt
import PyProof.EqKinds
import PyProof.TupleCall
import HandS.Base
import HandS.Call
import HandS.List
import HandS.Comp
import HandS.Iter
import HandS.Text
import HandS.Dict
import HandS.Words
import HandS.Ends
import HandS.ForMost
import HandS.TupAny
import HandS.TupMul
import HandS.Style
import PyProof.ReprRoads
import PyProof.ReprReads
import HandS.IsInst
import PyProof.NeKinds
import PyProof.StrOps2
import PyProof.FactsAll.dict
import KE.GoesMore
import PyProof.EnumMake
import HandS.Zip
import PyProof.ReprLen
import KE.KStrOpen
import PySem.Challenge.RW_sureslips_k01_names_kinds_values
set_option Elab.async false
set_option linter.all false
set_option maxRecDepth 100000
set_option autoImplicit false
namespace Z
open PySem PySem.Spec L2

/-! ## data -/
inductive D where
  | non
  | bl (b : Bool)
  | int (i : Int)
  | str (s : Str)
  | tup (l : List D)
  | lst (l : List D)
  | dic (l : List (Str × D))
  | src
  | scr

/-- the ghost heap: what stands for good; where the law's source stands -/
structure Gh where
  g : Hp
  s : Option (Addr × Addr)

mutual
inductive Rp (K : PySem.W.Frag) (y : Gh) : V → D → Prop
  | non : Rp K y .non .non
  | bl (b : Bool) : Rp K y (.bl b) (.bl b)
  | int (i : Int) : Rp K y (.int i) (.int i)
  | str (x : Str) : Rp K y (.str x) (.str x)
  | tup {a : Addr} {xs : List V} {ds : List D} : SqT K y.g a xs → RpL K y xs ds → Rp K y (.ref a) (.tup ds)
  | lst {a : Addr} {xs : List V} {ds : List D} : y.g a = some (.lst xs) → RpL K y xs ds → Rp K y (.ref a) (.lst ds)
  | dic {a : Addr} {kvs : List (Key × V)} {ds : List (Str × D)} : y.g a = some (.dK kvs) → RpK K y kvs ds → Rp K y (.ref a) (.dic ds)
  | src {a c : Addr} : y.s = some (a, c) → Rp K y (.ref a) .src
  | scr {a : Addr} {ns : List Int} : SqL K y.g a (ns.map V.int) → ns.length ≤ 63 → Rp K y (.ref a) .scr
inductive RpL (K : PySem.W.Frag) (y : Gh) : List V → List D → Prop
  | nil : RpL K y [] []
  | cons {v : V} {vs : List V} {d : D} {ds : List D} : Rp K y v d → RpL K y vs ds → RpL K y (v :: vs) (d :: ds)
inductive RpK (K : PySem.W.Frag) (y : Gh) : List (Key × V) → List (Str × D) → Prop
  | nil : RpK K y [] []
  | cons {x : Str} {v : V} {vs : List (Key × V)} {d : D} {ds : List (Str × D)} : Rp K y v d → RpK K y vs ds → RpK K y ((.inr x, v) :: vs) ((x, d) :: ds)
end

/-- the one heap within the other -/
def Sub (H H' : Hp) : Prop := ∀ b o, H b = some o → H' b = some o
theorem Sub.refl (H : Hp) : Sub H H := fun _ _ h => h
theorem Sub.trans {A B C : Hp} (h : Sub A B) (k : Sub B C) : Sub A C := fun b o e => k b o (h b o e)
/-- the ghost grows -/
structure Gx (y y' : Gh) : Prop where
  g : Sub y.g y'.g
  s : ∀ p, y.s = some p → y'.s = some p
theorem Gx.refl (y : Gh) : Gx y y := ⟨Sub.refl _, fun _ h => h⟩
theorem Gx.trans {a b c : Gh} (h : Gx a b) (k : Gx b c) : Gx a c := ⟨h.g.trans k.g, fun p q => k.s p (h.s p q)⟩

theorem rd_same {G G' : Hp} {a : Addr} {u : HO} (h : Sub G G') (r : Rd G a u) : Rd G' a u := by
  rcases r with r | ⟨o, r⟩
  · exact .inl (h _ _ r)
  · exact .inr ⟨o, h _ _ r⟩
theorem sqT_same {K : PySem.W.Frag} {G G' : Hp} {a : Addr} {xs : List V} (h : Sub G G') (r : SqT K G a xs) : SqT K G' a xs := by
  rcases r with r | r
  · exact .inl (rd_same h r)
  · exact .inr r
theorem sqL_same {K : PySem.W.Frag} {G G' : Hp} {a : Addr} {xs : List V} (h : Sub G G') (r : SqL K G a xs) : SqL K G' a xs := by
  rcases r with r | r
  · exact .inl (rd_same h r)
  · exact .inr r

section
variable {K : PySem.W.Frag} {y y' : Gh}
mutual
theorem Rp.mono (x : Gx y y') : ∀ {v : V} {d : D}, Rp K y v d → Rp K y' v d
  | _, _, .non => .non
  | _, _, .bl b => .bl b
  | _, _, .int b => .int b
  | _, _, .str b => .str b
  | _, _, .tup h k => .tup (sqT_same x.g h) (RpL.mono x k)
  | _, _, .lst h k => .lst (x.g _ _ h) (RpL.mono x k)
  | _, _, .dic h k => .dic (x.g _ _ h) (RpK.mono x k)
  | _, _, .src h => .src (x.s _ h)
  | _, _, .scr h k => .scr (sqL_same x.g h) k
theorem RpL.mono (x : Gx y y') : ∀ {vs : List V} {ds : List D}, RpL K y vs ds → RpL K y' vs ds
  | _, _, .nil => .nil
  | _, _, .cons h k => .cons (Rp.mono x h) (RpL.mono x k)
theorem RpK.mono (x : Gx y y') : ∀ {vs : List (Key × V)} {ds : List (Str × D)}, RpK K y vs ds → RpK K y' vs ds
  | _, _, .nil => .nil
  | _, _, .cons h k => .cons (Rp.mono x h) (RpK.mono x k)
end
theorem RpL.length : ∀ {vs : List V} {ds : List D}, RpL K y vs ds → vs.length = ds.length
  | _, _, .nil => rfl
  | _, _, .cons _ k => congrArg (· + 1) (RpL.length k)
theorem RpL.get : ∀ {vs : List V} {ds : List D} {i : Nat} {d : D}, RpL K y vs ds → ds[i]? = some d → ∃ v, vs[i]? = some v ∧ Rp K y v d
  | _, _, _, _, .nil, e => by simp at e
  | _, _, 0, _, .cons r _, e => by simp at e; subst e; exact ⟨_, rfl, r⟩
  | _, _, i + 1, d, .cons _ t, e => by
    obtain ⟨v, h1, h2⟩ := RpL.get (i := i) (d := d) t (by simpa using e)
    exact ⟨v, by simpa using h1, h2⟩
theorem RpL.getV : ∀ {vs : List V} {ds : List D} {i : Nat} {v : V}, RpL K y vs ds → vs[i]? = some v → ∃ d, ds[i]? = some d ∧ Rp K y v d
  | _, _, _, _, .nil, e => by simp at e
  | _, _, 0, _, .cons r _, e => by simp at e; subst e; exact ⟨_, rfl, r⟩
  | _, _, i + 1, v, .cons _ t, e => by
    obtain ⟨d, h1, h2⟩ := RpL.getV (i := i) (v := v) t (by simpa using e)
    exact ⟨d, by simpa using h1, h2⟩
theorem RpL.append : ∀ {vs ws : List V} {ds es : List D}, RpL K y vs ds → RpL K y ws es → RpL K y (vs ++ ws) (ds ++ es)
  | _, _, _, _, .nil, s => s
  | _, _, _, _, .cons r t, s => .cons r (RpL.append t s)
theorem RpL.take : ∀ {vs : List V} {ds : List D} (n : Nat), RpL K y vs ds → RpL K y (vs.take n) (ds.take n)
  | _, _, 0, _ => .nil
  | _, _, _ + 1, .nil => .nil
  | _, _, n + 1, .cons r t => .cons r (RpL.take n t)
theorem RpL.drop : ∀ {vs : List V} {ds : List D} (n : Nat), RpL K y vs ds → RpL K y (vs.drop n) (ds.drop n)
  | _, _, 0, r => r
  | _, _, _ + 1, .nil => .nil
  | _, _, n + 1, .cons _ t => RpL.drop n t
theorem RpL.reverse : ∀ {vs : List V} {ds : List D}, RpL K y vs ds → RpL K y vs.reverse ds.reverse
  | _, _, .nil => .nil
  | _, _, .cons r t => by
    rw [List.reverse_cons, List.reverse_cons]
    exact (RpL.reverse t).append (.cons r .nil)
end

/-! ## states -/
inductive Sl where
  | un
  | va (d : D)
  | ow (ds : List D)

/-- the source of draws, with room for fu draws more -/
def SrcIn (a c : Addr) (H : Hp) (fu : Nat) : Prop :=
  a ≠ c ∧ ∃ (ns : List Int) (s n : Int), H a = some (.lst [.ref c, .int s, .int n]) ∧ H c = some (.lst (ns.map V.int)) ∧ ns.length ≤ 63 ∧ 0 ≤ s ∧ s < 2 ^ 40 ∧ 0 ≤ n ∧ n + fu ≤ 2 ^ 60

structure GOk (y : Gh) (H : Hp) (fu : Option Nat) : Prop where
  sub : Sub y.g H
  src : match fu with
    | none => y.s = none
    | some n => ∃ a c, y.s = some (a, c) ∧ y.g a = none ∧ y.g c = none ∧ SrcIn a c H n

/-- from one state to a later one: what is not the source's stays -/
structure Nx (y : Gh) (H : Hp) (y' : Gh) (H' : Hp) : Prop where
  x : Gx y y'
  frm : ∀ a o, H a = some o → (∀ p, y'.s = some p → a ≠ p.1 ∧ a ≠ p.2) → H' a = some o
  here : ∀ a, H a ≠ none → H' a ≠ none
  out : ∀ a, H a ≠ none → y.g a = none → y'.g a = none
  new : ∀ p, y'.s = some p → y.s = some p ∨ (H p.1 = none ∧ H p.2 = none)
theorem Nx.refl (y : Gh) (H : Hp) : Nx y H y H := ⟨Gx.refl y, fun _ _ h _ => h, fun _ h => h, fun _ _ h => h, fun _ h => .inl h⟩
theorem Nx.trans {y y' y'' : Gh} {H H' H'' : Hp} (a : Nx y H y' H') (b : Nx y' H' y'' H'') : Nx y H y'' H'' := by
  refine ⟨a.x.trans b.x, fun c o h k => ?_, fun c h => b.here c (a.here c h), fun c h k => b.out c (a.here c h) (a.out c h k), fun p h => ?_⟩
  · exact b.frm c o (a.frm c o h fun p e => k p (b.x.s p e)) k
  · rcases b.new p h with e | ⟨e1, e2⟩
    · exact a.new p e
    · refine .inr ⟨?_, ?_⟩
      · cases q : H p.1 with
        | none => rfl
        | some o => exact absurd e1 (a.here p.1 (by rw [q]; simp))
      · cases q : H p.2 with
        | none => rfl
        | some o => exact absurd e2 (a.here p.2 (by rw [q]; simp))

/-- not the source's -/
def Nsr (y : Gh) (a : Addr) : Prop := ∀ p, y.s = some p → a ≠ p.1 ∧ a ≠ p.2
theorem Nsr.next {y y' : Gh} {H H' : Hp} {a : Addr} (n : Nx y H y' H') (h : Nsr y a) (hh : H a ≠ none) : Nsr y' a := fun p e => by
  rcases n.new p e with k | ⟨k1, k2⟩
  · exact h p k
  · exact ⟨fun z => hh (z ▸ k1), fun z => hh (z ▸ k2)⟩

structure Ok (K : PySem.W.Frag) (y : Gh) (H : Hp) (σ : St) (ρ : List Sl) (fu : Option Nat) : Prop where
  g : GOk y H fu
  len : σ.length = ρ.length
  va : ∀ (i : Nat) (d : D), ρ[i]? = some (.va d) → ∃ v, σ[i]? = some (some v) ∧ Rp K y v d
  ow : ∀ (i : Nat) (ds : List D), ρ[i]? = some (.ow ds) → ∃ a vs, σ[i]? = some (some (.ref a)) ∧ y.g a = none ∧ H a = some (.lst vs) ∧ RpL K y vs ds ∧ Nsr y a
  sep : ∀ (i j : Nat) (ds es : List D) (a : Addr), ρ[i]? = some (.ow ds) → ρ[j]? = some (.ow es) → σ[i]? = some (some (.ref a)) → σ[j]? = some (some (.ref a)) → i = j

section
variable {K : PySem.W.Frag} {y y' : Gh} {H H' : Hp} {σ σ' : St} {ρ ρ' : List Sl} {fu fu' : Option Nat}
theorem Ok.next (o : Ok K y H σ ρ fu) (n : Nx y H y' H') (g : GOk y' H' fu') : Ok K y' H' σ ρ fu' := by
  refine ⟨g, o.len, fun i d e => ?_, fun i ds e => ?_, o.sep⟩
  · obtain ⟨v, h1, h2⟩ := o.va i d e
    exact ⟨v, h1, h2.mono n.x⟩
  · obtain ⟨a, vs, h1, h2, h3, h4, h5⟩ := o.ow i ds e
    have hh : H a ≠ none := by rw [h3]; simp
    have h5' := h5.next n hh
    exact ⟨a, vs, h1, n.out a hh h2, n.frm a _ h3 h5', h4.mono n.x, h5'⟩
/-- a slot is stored -/
theorem Ok.set (o : Ok K y H σ ρ fu) (i : Nat) {v : V} {d : D} (r : Rp K y v d) : Ok K y H (σ.set i (some v)) (ρ.set i (.va d)) fu := by
  refine ⟨o.g, by simpa using o.len, fun j e h => ?_, fun j ds h => ?_, fun j k ds es a h1 h2 h3 h4 => ?_⟩
  · by_cases hj : i = j
    · subst hj
      have hl : i < ρ.length := by
        have := (List.getElem?_eq_some_iff.mp h).1
        simpa using this
      rw [List.getElem?_set_self hl] at h
      cases h
      exact ⟨v, by rw [List.getElem?_set_self (by rw [o.len]; exact hl)], r⟩
    · rw [List.getElem?_set_ne hj] at h
      obtain ⟨w, h1, h2⟩ := o.va j e h
      exact ⟨w, by rw [List.getElem?_set_ne hj]; exact h1, h2⟩
  · by_cases hj : i = j
    · subst hj
      have hl : i < ρ.length := by
        have := (List.getElem?_eq_some_iff.mp h).1
        simpa using this
      rw [List.getElem?_set_self hl] at h
      cases h
    · rw [List.getElem?_set_ne hj] at h
      obtain ⟨a, vs, h1, h2⟩ := o.ow j ds h
      exact ⟨a, vs, by rw [List.getElem?_set_ne hj]; exact h1, h2⟩
  · have ne : ∀ {j : Nat} {ds : List D}, (ρ.set i (.va d))[j]? = some (.ow ds) → i ≠ j := fun {j ds} h q => by
      subst q
      have hl : i < ρ.length := by
        have := (List.getElem?_eq_some_iff.mp h).1
        simpa using this
      rw [List.getElem?_set_self hl] at h
      cases h
    have n1 := ne h1
    have n2 := ne h2
    rw [List.getElem?_set_ne n1] at h1 h3
    rw [List.getElem?_set_ne n2] at h2 h4
    exact o.sep j k ds es a h1 h2 h3 h4
end
end Z
namespace Z
open PySem PySem.Spec L2

/-! ## readings of data -/
abbrev Fu := Option Nat
abbrev KD := D → Fu → Prop
abbrev WE := List Sl → Fu → KD → Prop
abbrev WT := List Sl → Fu → (Bool → Fu → Prop) → Prop
abbrev WA := List Sl → Fu → (List D → Fu → Prop) → Prop

def RdE (K : PySem.W.Frag) (t : TE) (w : WE) : Prop := ∀ (σ : L2.St) (H : Hp) (y : Gh) (ρ : List Sl) (fu : Fu) (P : KD) (Q : VK), Ok K y H σ ρ fu → w ρ fu P →
  (∀ d fu' v H' y', P d fu' → GOk y' H' fu' → Nx y H y' H' → Rp K y' v d → Q v H') → t σ H Q
def RdT (K : PySem.W.Frag) (t : TT) (w : WT) : Prop := ∀ (σ : L2.St) (H : Hp) (y : Gh) (ρ : List Sl) (fu : Fu) (P : Bool → Fu → Prop) (Q : Bool → Hp → Prop), Ok K y H σ ρ fu → w ρ fu P →
  (∀ b fu' H' y', P b fu' → GOk y' H' fu' → Nx y H y' H' → Q b H') → t σ H Q
def RdA (K : PySem.W.Frag) (t : TA) (w : WA) : Prop := ∀ (σ : L2.St) (H : Hp) (y : Gh) (ρ : List Sl) (fu : Fu) (P : List D → Fu → Prop) (Q : List V → Hp → Prop), Ok K y H σ ρ fu → w ρ fu P →
  (∀ ds fu' vs H' y', P ds fu' → GOk y' H' fu' → Nx y H y' H' → RpL K y' vs ds → Q vs H') → t σ H Q
/-- a new list comes out -/
def RdL (K : PySem.W.Frag) (t : TE) (w : WA) : Prop := ∀ (σ : L2.St) (H : Hp) (y : Gh) (ρ : List Sl) (fu : Fu) (P : List D → Fu → Prop) (Q : VK), Ok K y H σ ρ fu → w ρ fu P →
  (∀ ds fu' p vs H' y', P ds fu' → GOk y' H' fu' → Nx y H y' H' → y'.g p = none → H p = none → H' p = some (.lst vs) → Nsr y' p → RpL K y' vs ds → Q (.ref p) H') → t σ H Q

/-- for a family of contexts (of a comprehension's block: one for each start) -/
structure WX {ι : Type} (F : ι → Cx) (K : PySem.W.Frag) (e : Expr) (w : WE) : Prop where
  ex : ∃ t, (∀ i, PE (F i) e t) ∧ RdE K t w
structure WTs {ι : Type} (F : ι → Cx) (K : PySem.W.Frag) (e : Expr) (w : WT) : Prop where
  ex : ∃ t, (∀ i, PT (F i) e t) ∧ RdT K t w
structure WWs {ι : Type} (F : ι → Cx) (K : PySem.W.Frag) (e : Expr) (w : WT) : Prop where
  ex : ∃ t, (∀ i, PW (F i) e t) ∧ RdT K t w
structure WAs {ι : Type} (F : ι → Cx) (K : PySem.W.Frag) (es : List Expr) (w : WA) : Prop where
  ex : ∃ t, (∀ i, PA (F i) es t) ∧ RdA K t w
structure WLs {ι : Type} (F : ι → Cx) (K : PySem.W.Frag) (e : Expr) (w : WA) : Prop where
  ex : ∃ t, (∀ i, PE (F i) e t) ∧ RdL K t w

section
variable {K : PySem.W.Frag} {y y' : Gh} {H H' : Hp} {fu : Fu}
/-- an object that is new comes to stay -/
theorem grow {p : Addr} {o : HO} (g : GOk y H fu) (np : H p = none) : GOk ⟨upd y.g p o, y.s⟩ (upd H p o) fu ∧ Nx y H ⟨upd y.g p o, y.s⟩ (upd H p o) := by
  have gp : y.g p = none := by
    cases q : y.g p with
    | none => rfl
    | some u => rw [g.sub p u q] at np; cases np
  have hsub : Sub y.g (upd y.g p o) := fun b u e => by
    rw [upd_ne (ne_of_none e gp)]
    exact e
  refine ⟨⟨fun b u e => ?_, ?_⟩, ⟨⟨hsub, fun _ h => h⟩, fun a u h _ => ?_, fun a h => ?_, fun a h k => ?_, fun _ h => .inl h⟩⟩
  · by_cases hb : b = p
    · subst hb
      have e' : upd y.g b o b = some u := e
      rw [upd_same] at e'
      rw [upd_same]
      exact e'
    · have e' : upd y.g p o b = some u := e
      rw [upd_ne hb] at e'
      rw [upd_ne hb]
      exact g.sub b u e'
  · have gs := g.src
    cases fu with
    | none => exact gs
    | some n =>
      obtain ⟨a, c, e1, e2, e3, e0, ns, s, m, h1, h2, h3⟩ := gs
      have na : a ≠ p := ne_of_none h1 np
      have nc : c ≠ p := ne_of_none h2 np
      refine ⟨a, c, e1, ?_, ?_, e0, ns, s, m, ?_, ?_, h3⟩
      · show upd y.g p o a = none
        rw [upd_ne na]; exact e2
      · show upd y.g p o c = none
        rw [upd_ne nc]; exact e3
      · rw [upd_ne na]; exact h1
      · rw [upd_ne nc]; exact h2
  · rw [upd_ne (ne_of_none h np)]
    exact h
  · by_cases ha : a = p
    · subst ha
      rw [upd_same]; simp
    · rw [upd_ne ha]; exact h
  · have na : a ≠ p := fun e => h (e ▸ np)
    show upd y.g p o a = none
    rw [upd_ne na]; exact k
/-- an object that is new, and nobody's yet -/
theorem alone {p : Addr} {o : HO} (g : GOk y H fu) (np : H p = none) : GOk y (upd H p o) fu ∧ Nx y H y (upd H p o) ∧ y.g p = none ∧ Nsr y p := by
  have gp : y.g p = none := by
    cases q : y.g p with
    | none => rfl
    | some u => rw [g.sub p u q] at np; cases np
  have hs : Sub H (upd H p o) := fun b u e => by
    rw [upd_ne (ne_of_none e np)]
    exact e
  refine ⟨⟨g.sub.trans hs, ?_⟩, ⟨Gx.refl y, fun a u h _ => hs a u h, fun a h => ?_, fun _ _ h => h, fun _ h => .inl h⟩, gp, fun q e => ?_⟩
  · have gs := g.src
    cases fu with
    | none => exact gs
    | some n =>
      obtain ⟨a, c, e1, e2, e3, e0, ns, s, m, h1, h2, h3⟩ := gs
      exact ⟨a, c, e1, e2, e3, e0, ns, s, m, hs _ _ h1, hs _ _ h2, h3⟩
  · cases q : H a with
    | none => exact absurd q h
    | some u => rw [hs a u q]; simp
  · have gs := g.src
    cases fu with
    | none =>
      have gs' : y.s = none := gs
      rw [gs'] at e; cases e
    | some n =>
      obtain ⟨a, c, e1, e2, e3, e0, ns, s, m, h1, h2, h3⟩ := gs
      rw [e1] at e
      cases e
      exact ⟨ne_of_none h1 np |>.symm, ne_of_none h2 np |>.symm⟩
/-- what is nobody's comes to stay -/
theorem settle {p : Addr} {o : HO} (g : GOk y H fu) (gp : y.g p = none) (hp : H p = some o) (ns : Nsr y p) : GOk ⟨upd y.g p o, y.s⟩ H fu ∧ Gx y ⟨upd y.g p o, y.s⟩ := by
  have hsub : Sub y.g (upd y.g p o) := fun b u e => by
    rw [upd_ne (ne_of_none e gp)]
    exact e
  refine ⟨⟨fun b u e => ?_, ?_⟩, ⟨hsub, fun _ h => h⟩⟩
  · have e' : upd y.g p o b = some u := e
    by_cases hb : b = p
    · subst hb
      rw [upd_same] at e'
      rw [hp]; exact e'
    · rw [upd_ne hb] at e'
      exact g.sub b u e'
  · have gs := g.src
    cases fu with
    | none => exact gs
    | some n =>
      obtain ⟨a, c, e1, e2, e3, r⟩ := gs
      obtain ⟨n1, n2⟩ := ns _ e1
      refine ⟨a, c, e1, ?_, ?_, r⟩
      · show upd y.g p o a = none
        rw [upd_ne (Ne.symm n1)]; exact e2
      · show upd y.g p o c = none
        rw [upd_ne (Ne.symm n2)]; exact e3
end

section
variable {ι : Type} {F : ι → Cx} {K : PySem.W.Frag} {a b c e : Expr} {es : List Expr} {wa wb wc : WE} {pos : Pos}

/-! ## names, constants -/
def wVar (i : Nat) : WE := fun ρ fu P => ∃ d, ρ[i]? = some (.va d) ∧ P d fu
def wC (d : D) : WE := fun _ fu P => P d fu
theorem rd_c {v : V} {d : D} (h : ∀ y, Rp K y v d) : RdE K (tC v) (wC d) := fun σ H y ρ fu P Q o hw k => k d fu v H y hw o.g (Nx.refl y H) (h y)
theorem wx_var (i : Nat) {x : Str} (h : ∀ k, PE (F k) (.Name x pos) (tVar i)) : WX F K (.Name x pos) (wVar i) :=
  ⟨_, h, fun σ H y ρ fu P Q o hw k => by
    obtain ⟨d, h1, h2⟩ := hw
    obtain ⟨v, h3, h4⟩ := o.va i d h1
    exact ⟨v, h3, k d fu v H y h2 o.g (Nx.refl y H) h4⟩⟩
theorem wx_int {i : Int} {j} : WX F K (.Constant (.int i) j pos) (wC (.int i)) := ⟨_, fun _ => pe_int, rd_c fun _ => .int i⟩
theorem wx_bl {i : Bool} {j} : WX F K (.Constant (.bool i) j pos) (wC (.bl i)) := ⟨_, fun _ => pe_bl, rd_c fun _ => .bl i⟩
theorem wx_non {j} : WX F K (.Constant .none j pos) (wC .non) := ⟨_, fun _ => pe_non, rd_c fun _ => .non⟩
theorem wx_str {x : Str} {j} : WX F K (.Constant (.str x) j pos) (wC (.str x)) := ⟨_, fun _ => pe_str, rd_c fun _ => .str x⟩
/-- a global that holds a constant -/
theorem wx_glob {x : Str} {v : V} {d : D} (h : ∀ k, PE (F k) (.Name x pos) (tC v)) (r : ∀ y, Rp K y v d) : WX F K (.Name x pos) (wC d) := ⟨_, h, rd_c r⟩

/-! ## operators -/
/-- an operation on data -/
def OpD (K : PySem.W.Frag) (r : R2) (f : D → D → Option D) : Prop := ∀ (H : Hp) (y : Gh) (fu : Fu) (x z : V) (p q d : D) (Q : VK), GOk y H fu → Rp K y x p → Rp K y z q → f p q = some d →
  (∀ v H' y', GOk y' H' fu → Nx y H y' H' → Rp K y' v d → Q v H') → r x z H Q
def wOp (f : D → D → Option D) (wa wb : WE) : WE := fun ρ fu P => wa ρ fu fun p fu1 => wb ρ fu1 fun q fu2 => ∃ d, f p q = some d ∧ P d fu2
theorem rd_op {r : R2} {f : D → D → Option D} {ta tb : TE} (hr : OpD K r f) (ha : RdE K ta wa) (hb : RdE K tb wb) : RdE K (tOp r ta tb) (wOp f wa wb) := fun σ H y ρ fu P Q o hw k => by
  refine ha σ H y ρ fu _ _ o hw fun p fu1 x H1 y1 h1 g1 n1 r1 => ?_
  refine hb σ H1 y1 ρ fu1 _ _ (o.next n1 g1) h1 fun q fu2 z H2 y2 h2 g2 n2 r2 => ?_
  obtain ⟨d, e, h2⟩ := h2
  exact hr H2 y2 fu2 x z p q d Q g2 (r1.mono n2.x) r2 e fun v H' y' g' n' r' => k d fu2 v H' y' h2 g' ((n1.trans n2).trans n') r'
theorem wx_op {op : Operator} {r : R2} {f : D → D → Option D} (ho : ∀ k, OpR (F k) (binaryOp op) r) (hr : OpD K r f) (ha : WX F K a wa) (hb : WX F K b wb) : WX F K (.BinOp a op b pos) (wOp f wa wb) := by
  obtain ⟨ta, pa, ra⟩ := ha.ex
  obtain ⟨tb, pb, rb⟩ := hb.ex
  exact ⟨_, fun k => pe_op (ho k) (pa k) (pb k), rd_op hr ra rb⟩
theorem wx_cmp {op : CmpOp} {r : R2} {f : D → D → Option D} (ho : ∀ k, OpR (F k) (compareOp op) r) (hr : OpD K r f) (ha : WX F K a wa) (hb : WX F K b wb) (hm : behindInMarks op b = false) : WX F K (.Compare a [op] [b] pos) (wOp f wa wb) := by
  obtain ⟨ta, pa, ra⟩ := ha.ex
  obtain ⟨tb, pb, rb⟩ := hb.ex
  exact ⟨_, fun k => pe_cmpR (ho k) (pa k) (pb k) hm, rd_op hr ra rb⟩
/-- a value that is a bool as a test -/
def wB (w : WE) : WT := fun ρ fu P => w ρ fu fun d fu' => ∃ k, d = .bl k ∧ P k fu'
theorem rd_b {t : TE} (h : RdE K t wa) : RdT K (tB t) (wB wa) := fun σ H y ρ fu P Q o hw k => by
  refine h σ H y ρ fu _ _ o hw fun d fu' v H' y' h' g' n' r' => ?_
  obtain ⟨j, rfl, h'⟩ := h'
  cases r'
  exact ⟨j, rfl, k j fu' H' y' h' g' n'⟩
theorem wt_cmp {op : CmpOp} {r : R2} {f : D → D → Option D} (ho : ∀ k, OpR (F k) (compareOp op) r) (hr : OpD K r f) (ha : WX F K a wa) (hb : WX F K b wb) (hm : behindInMarks op b = false) : WTs F K (.Compare a [op] [b] pos) (wB (wOp f wa wb)) := by
  obtain ⟨ta, pa, ra⟩ := ha.ex
  obtain ⟨tb, pb, rb⟩ := hb.ex
  exact ⟨_, fun k => pt_cmpR (ho k) (pa k) (pb k) hm, rd_b (rd_op hr ra rb)⟩
theorem wt_val (h : WX F K e wa) (he : ∀ k whole, isTrue e (F k).env whole = (do let v ← whole; standAt e.pos; holding [v] (truthy v)) := by intro _ _; rfl) : WTs F K e (wB wa) := by
  obtain ⟨t, p, r⟩ := h.ex
  exact ⟨_, fun k => pt_val (p k) (he k), rd_b r⟩

/-! ## and, or, not -/
variable {u u' : WT} {rest : List Expr}
def wAnd (u u' : WT) : WT := fun ρ fu P => u ρ fu fun k fu1 => if k = true then u' ρ fu1 P else P false fu1
def wOr (u u' : WT) : WT := fun ρ fu P => u ρ fu fun k fu1 => if k = true then P true fu1 else u' ρ fu1 P
def wNot (u : WT) : WT := fun ρ fu P => u ρ fu fun k fu1 => P (!k) fu1
theorem ww_and1 (ha : WTs F K a u) : WWs F K (.BoolOp .And [a] pos) u := let ⟨_, p, r⟩ := ha.ex; ⟨_, fun k => pw_and1 (p k), r⟩
theorem ww_or1 (ha : WTs F K a u) : WWs F K (.BoolOp .Or [a] pos) u := let ⟨_, p, r⟩ := ha.ex; ⟨_, fun k => pw_or1 (p k), r⟩
theorem ww_and (ha : WTs F K a u) (hb : WWs F K (.BoolOp .And (b :: rest) pos) u') : WWs F K (.BoolOp .And (a :: b :: rest) pos) (wAnd u u') := by
  obtain ⟨ta, pa, ra⟩ := ha.ex
  obtain ⟨tb, pb, rb⟩ := hb.ex
  refine ⟨_, fun k => pw_and (pa k) (pb k), fun σ H y ρ fu P Q o hw k => ?_⟩
  refine ra σ H y ρ fu _ _ o hw fun j fu1 H1 y1 h1 g1 n1 => ?_
  cases j with
  | false =>
    rw [if_neg Bool.false_ne_true] at h1 ⊢
    exact k _ _ _ _ h1 g1 n1
  | true =>
    rw [if_pos rfl] at h1 ⊢
    exact rb σ H1 y1 ρ fu1 _ _ (o.next n1 g1) h1 fun j2 fu2 H2 y2 h2 g2 n2 => k _ _ _ _ h2 g2 (n1.trans n2)
theorem ww_or (ha : WTs F K a u) (hb : WWs F K (.BoolOp .Or (b :: rest) pos) u') : WWs F K (.BoolOp .Or (a :: b :: rest) pos) (wOr u u') := by
  obtain ⟨ta, pa, ra⟩ := ha.ex
  obtain ⟨tb, pb, rb⟩ := hb.ex
  refine ⟨_, fun k => pw_or (pa k) (pb k), fun σ H y ρ fu P Q o hw k => ?_⟩
  refine ra σ H y ρ fu _ _ o hw fun j fu1 H1 y1 h1 g1 n1 => ?_
  cases j with
  | true =>
    rw [if_pos rfl] at h1 ⊢
    exact k _ _ _ _ h1 g1 n1
  | false =>
    rw [if_neg Bool.false_ne_true] at h1 ⊢
    exact rb σ H1 y1 ρ fu1 _ _ (o.next n1 g1) h1 fun j2 fu2 H2 y2 h2 g2 n2 => k _ _ _ _ h2 g2 (n1.trans n2)
theorem WWs.t (h : WWs F K e u) : WTs F K e u := let ⟨_, p, r⟩ := h.ex; ⟨_, fun k => (p k).pt, r⟩
theorem wt_not (ha : WTs F K a u) : WTs F K (.UnaryOp .Not a pos) (wNot u) := by
  obtain ⟨ta, pa, ra⟩ := ha.ex
  exact ⟨_, fun k => pt_not (pa k), fun σ H y ρ fu P Q o hw k => ra σ H y ρ fu _ _ o hw fun j fu1 H1 y1 h1 g1 n1 => k _ _ _ _ h1 g1 n1⟩
/-- as values: all but the last are bools -/
def wAndV (wa wb : WE) : WE := fun ρ fu P => wa ρ fu fun d fu1 => ∃ k, d = .bl k ∧ if k = true then wb ρ fu1 P else P (.bl false) fu1
def wOrV (wa wb : WE) : WE := fun ρ fu P => wa ρ fu fun d fu1 => ∃ k, d = .bl k ∧ if k = true then P (.bl true) fu1 else wb ρ fu1 P
def wNotV (wa : WE) : WE := fun ρ fu P => wa ρ fu fun d fu1 => ∃ k, d = .bl k ∧ P (.bl (!k)) fu1
theorem wx_one {op} (h : WX F K a wa) : WX F K (.BoolOp op [a] pos) wa := let ⟨_, p, r⟩ := h.ex; ⟨_, fun k => pe_one (p k), r⟩
theorem wx_and (ha : WX F K a wa) (hb : WX F K (.BoolOp .And (b :: rest) pos) wb) : WX F K (.BoolOp .And (a :: b :: rest) pos) (wAndV wa wb) := by
  obtain ⟨ta, pa, ra⟩ := ha.ex
  obtain ⟨tb, pb, rb⟩ := hb.ex
  refine ⟨_, fun k => pe_and (pa k) (pb k), fun σ H y ρ fu P Q o hw k => ?_⟩
  refine ra σ H y ρ fu _ _ o hw fun d fu1 v H1 y1 h1 g1 n1 r1 => ?_
  obtain ⟨j, rfl, h1⟩ := h1
  cases r1
  refine ⟨j, rfl, ?_⟩
  cases j with
  | false =>
    rw [if_neg Bool.false_ne_true] at h1 ⊢
    exact k _ _ _ _ _ h1 g1 n1 (.bl false)
  | true =>
    rw [if_pos rfl] at h1 ⊢
    exact rb σ H1 y1 ρ fu1 _ _ (o.next n1 g1) h1 fun d2 fu2 v2 H2 y2 h2 g2 n2 r2 => k _ _ _ _ _ h2 g2 (n1.trans n2) r2
theorem wx_or (ha : WX F K a wa) (hb : WX F K (.BoolOp .Or (b :: rest) pos) wb) : WX F K (.BoolOp .Or (a :: b :: rest) pos) (wOrV wa wb) := by
  obtain ⟨ta, pa, ra⟩ := ha.ex
  obtain ⟨tb, pb, rb⟩ := hb.ex
  refine ⟨_, fun k => pe_or (pa k) (pb k), fun σ H y ρ fu P Q o hw k => ?_⟩
  refine ra σ H y ρ fu _ _ o hw fun d fu1 v H1 y1 h1 g1 n1 r1 => ?_
  obtain ⟨j, rfl, h1⟩ := h1
  cases r1
  refine ⟨j, rfl, ?_⟩
  cases j with
  | true =>
    rw [if_pos rfl] at h1 ⊢
    exact k _ _ _ _ _ h1 g1 n1 (.bl true)
  | false =>
    rw [if_neg Bool.false_ne_true] at h1 ⊢
    exact rb σ H1 y1 ρ fu1 _ _ (o.next n1 g1) h1 fun d2 fu2 v2 H2 y2 h2 g2 n2 r2 => k _ _ _ _ _ h2 g2 (n1.trans n2) r2
theorem wx_not (ha : WX F K a wa) : WX F K (.UnaryOp .Not a pos) (wNotV wa) := by
  obtain ⟨ta, pa, ra⟩ := ha.ex
  refine ⟨_, fun k => pe_not (pa k), fun σ H y ρ fu P Q o hw k => ?_⟩
  refine ra σ H y ρ fu _ _ o hw fun d fu1 v H1 y1 h1 g1 n1 r1 => ?_
  obtain ⟨j, rfl, h1⟩ := h1
  cases r1
  exact ⟨j, rfl, k _ _ _ _ _ h1 g1 n1 (.bl _)⟩
/-- a if t else b -/
def wIf (u : WT) (wa wb : WE) : WE := fun ρ fu P => u ρ fu fun k fu1 => if k = true then wa ρ fu1 P else wb ρ fu1 P
theorem wx_if (hc : WTs F K c u) (ha : WX F K a wa) (hb : WX F K b wb) : WX F K (.IfExp c a b pos) (wIf u wa wb) := by
  obtain ⟨tc, pc, rc⟩ := hc.ex
  obtain ⟨ta, pa, ra⟩ := ha.ex
  obtain ⟨tb, pb, rb⟩ := hb.ex
  refine ⟨_, fun k => pe_ifExp (pc k) (pa k) (pb k), fun σ H y ρ fu P Q o hw k => ?_⟩
  refine rc σ H y ρ fu _ _ o hw fun j fu1 H1 y1 h1 g1 n1 => ?_
  cases j with
  | true =>
    rw [if_pos rfl] at h1 ⊢
    exact ra σ H1 y1 ρ fu1 _ _ (o.next n1 g1) h1 fun d2 fu2 v2 H2 y2 h2 g2 n2 r2 => k _ _ _ _ _ h2 g2 (n1.trans n2) r2
  | false =>
    rw [if_neg Bool.false_ne_true] at h1 ⊢
    exact rb σ H1 y1 ρ fu1 _ _ (o.next n1 g1) h1 fun d2 fu2 v2 H2 y2 h2 g2 n2 r2 => k _ _ _ _ _ h2 g2 (n1.trans n2) r2

/-! ## lists of arguments, displays -/
variable {v : WA}
def wNil : WA := fun _ fu P => P [] fu
def wCons (w : WE) (v : WA) : WA := fun ρ fu P => w ρ fu fun d fu1 => v ρ fu1 fun ds fu2 => P (d :: ds) fu2
theorem wa_nil : WAs F K [] wNil := ⟨_, fun _ => pa_nil, fun σ H y ρ fu P Q o hw k => k [] fu [] H y hw o.g (Nx.refl y H) .nil⟩
theorem rd_cons {ta : TE} {tr : TA} (ra : RdE K ta wa) (rr : RdA K tr v) : RdA K (tCons ta tr) (wCons wa v) := fun σ H y ρ fu P Q o hw k => by
  refine ra σ H y ρ fu _ _ o hw fun d fu1 x H1 y1 h1 g1 n1 r1 => ?_
  exact rr σ H1 y1 ρ fu1 _ _ (o.next n1 g1) h1 fun ds fu2 vs H2 y2 h2 g2 n2 r2 => k _ _ _ _ _ h2 g2 (n1.trans n2) (.cons (r1.mono n2.x) r2)
theorem wa_cons (ha : WX F K e wa) (hr : WAs F K es v) (hs : ∀ k, starEach (e :: es) (F k).env = (false, eval e (F k).env) :: starEach es (F k).env := by intro _; rfl) : WAs F K (e :: es) (wCons wa v) := by
  obtain ⟨ta, pa, ra⟩ := ha.ex
  obtain ⟨tr, pr, rr⟩ := hr.ex
  exact ⟨_, fun k => pa_cons (pa k) (pr k) (hs k), rd_cons ra rr⟩
def wTup (v : WA) : WE := fun ρ fu P => v ρ fu fun ds fu1 => ds.length ≤ sizeLine ∧ P (.tup ds) fu1
def wLst (v : WA) : WA := fun ρ fu P => v ρ fu fun ds fu1 => ds.length ≤ sizeLine ∧ P ds fu1
theorem wx_tup {x1} (h : WAs F K es v) : WX F K (.Tuple es x1 pos) (wTup v) := by
  obtain ⟨t, p, r⟩ := h.ex
  refine ⟨_, fun k => pe_tup (p k), fun σ H y ρ fu P Q o hw k => ?_⟩
  refine r σ H y ρ fu _ _ o hw fun ds fu1 vs H1 y1 h1 g1 n1 r1 => ⟨by rw [r1.length]; exact h1.1, fun q nq => ?_⟩
  obtain ⟨g2, n2⟩ := grow (o := .tup vs) g1 nq
  exact k _ _ _ _ _ h1.2 g2 (n1.trans n2) (.tup (.inl (.inl upd_same)) (r1.mono n2.x))
theorem wl_lst (h : WAs F K es v) : WLs F K (.List es pos) (wLst v) := by
  obtain ⟨t, p, r⟩ := h.ex
  refine ⟨_, fun k => pe_lst (p k), fun σ H y ρ fu P Q o hw k => ?_⟩
  refine r σ H y ρ fu _ _ o hw fun ds fu1 vs H1 y1 h1 g1 n1 r1 => ⟨by rw [r1.length]; exact h1.1, fun q nq => ?_⟩
  obtain ⟨g2, n2, z1, z2⟩ := alone (o := .lst vs) g1 nq
  refine k ds fu1 q vs _ y1 h1.2 g2 (n1.trans n2) z1 ?_ upd_same z2 r1
  cases e : H q with
  | none => rfl
  | some u => exact absurd nq (n1.here q (by rw [e]; simp))
/-- a new list as a value -/
def wFz (v : WA) : WE := fun ρ fu P => v ρ fu fun ds fu1 => P (.lst ds) fu1
theorem rd_fz {t : TE} (r : RdL K t v) : RdE K t (wFz v) := fun σ H y ρ fu P Q o hw k => by
  refine r σ H y ρ fu _ _ o hw fun ds fu1 q vs H1 y1 h1 g1 n1 z1 z0 z2 z3 r1 => ?_
  obtain ⟨g2, x2⟩ := settle g1 z1 z2 z3
  refine k _ _ _ _ _ h1 g2 ⟨n1.x.trans x2, n1.frm, n1.here, fun b hb kb => ?_, n1.new⟩ (.lst upd_same (r1.mono x2))
  have nb : b ≠ q := fun e => hb (e ▸ z0)
  show upd y1.g q _ b = none
  rw [upd_ne nb]
  exact n1.out b hb kb
theorem WLs.x (h : WLs F K e v) : WX F K e (wFz v) := let ⟨_, p, r⟩ := h.ex; ⟨_, p, rd_fz r⟩
end
end Z
namespace Z
open PySem PySem.Spec L2

/-! ## statements -/
structure DEnds where
  nx : List Sl → Fu → Prop
  rt : KD
  bk : List Sl → Fu → Prop
  ct : List Sl → Fu → Prop
abbrev WS := DEnds → List Sl → Fu → Prop

/-- the state within a def's body: y0, H0 at its entry -/
structure St0 (K : PySem.W.Frag) (y0 : Gh) (H0 : Hp) (y : Gh) (H : Hp) (σ : L2.St) (ρ : List Sl) (fu : Fu) : Prop where
  ok : Ok K y H σ ρ fu
  nx : Nx y0 H0 y H
  ow : ∀ (i : Nat) (ds : List D) (a : Addr), ρ[i]? = some (.ow ds) → σ[i]? = some (some (.ref a)) → H0 a = none

structure Sim (K : PySem.W.Frag) (y0 : Gh) (H0 : Hp) (B : DEnds) (E : Ends) : Prop where
  nx : ∀ σ ρ fu H y, B.nx ρ fu → St0 K y0 H0 y H σ ρ fu → E.nx σ H
  rt : ∀ d fu v H y, B.rt d fu → GOk y H fu → Nx y0 H0 y H → Rp K y v d → E.rt v H
  bk : ∀ σ ρ fu H y, B.bk ρ fu → St0 K y0 H0 y H σ ρ fu → E.bk σ H
  ct : ∀ σ ρ fu H y, B.ct ρ fu → St0 K y0 H0 y H σ ρ fu → E.ct σ H

def RdS (K : PySem.W.Frag) (t : TS) (w : WS) : Prop := ∀ (y0 : Gh) (H0 : Hp) (σ : L2.St) (H : Hp) (y : Gh) (ρ : List Sl) (fu : Fu) (B : DEnds) (E : Ends),
  St0 K y0 H0 y H σ ρ fu → w B ρ fu → Sim K y0 H0 B E → t E σ H
abbrev U1 (X : Cx) : Unit → Cx := fun _ => X
structure WSt (X : Cx) (st : Stmt) (w : WS) : Prop where
  ex : ∃ t, PS X st t ∧ RdS X.K t w
structure WSs (X : Cx) (st : List Stmt) (w : WS) : Prop where
  ex : ∃ t, PSs X st t ∧ RdS X.K t w

section
variable {K : PySem.W.Frag} {y y0 y' : Gh} {H H0 H' : Hp} {σ : L2.St} {ρ : List Sl} {fu fu' : Fu}
theorem St0.next (s : St0 K y0 H0 y H σ ρ fu) (n : Nx y H y' H') (g : GOk y' H' fu') : St0 K y0 H0 y' H' σ ρ fu' := ⟨s.ok.next n g, s.nx.trans n, s.ow⟩
theorem get_set_un {α : Type} {l : List α} {i j : Nat} {a b : α} (h : (l.set i a)[j]? = some b) : (i = j ∧ a = b) ∨ (i ≠ j ∧ l[j]? = some b) := by
  by_cases hj : i = j
  · subst hj
    have hl : i < l.length := by
      have := (List.getElem?_eq_some_iff.mp h).1
      simpa using this
    rw [List.getElem?_set_self hl] at h
    exact .inl ⟨rfl, Option.some.inj h⟩
  · rw [List.getElem?_set_ne hj] at h
    exact .inr ⟨hj, h⟩
theorem St0.set (s : St0 K y0 H0 y H σ ρ fu) (i : Nat) {v : V} {d : D} (r : Rp K y v d) : St0 K y0 H0 y H (σ.set i (some v)) (ρ.set i (.va d)) fu := by
  refine ⟨s.ok.set i r, s.nx, fun j ds a h1 h2 => ?_⟩
  rcases get_set_un h1 with ⟨_, e⟩ | ⟨ne, h1⟩
  · cases e
  · rw [List.getElem?_set_ne ne] at h2
    exact s.ow j ds a h1 h2
/-- a slot takes a new list -/
theorem St0.setL (s : St0 K y0 H0 y H σ ρ fu) (i : Nat) {p : Addr} {vs : List V} {ds : List D} (z1 : y.g p = none) (z2 : H p = some (.lst vs)) (z3 : Nsr y p) (r : RpL K y vs ds) (z0 : H0 p = none)
    (fresh : ∀ (j : Nat) (es : List D), ρ[j]? = some (.ow es) → σ[j]? ≠ some (some (.ref p))) : St0 K y0 H0 y H (σ.set i (some (.ref p))) (ρ.set i (.ow ds)) fu := by
  refine ⟨⟨s.ok.g, by simpa using s.ok.len, fun j d h => ?_, fun j es h => ?_, fun j k ds' es a h1 h2 h3 h4 => ?_⟩, s.nx, fun j es a h1 h2 => ?_⟩
  · rcases get_set_un h with ⟨_, e⟩ | ⟨ne, h⟩
    · cases e
    · obtain ⟨v, q1, q2⟩ := s.ok.va j d h
      exact ⟨v, by rw [List.getElem?_set_ne ne]; exact q1, q2⟩
  · have hj := (List.getElem?_eq_some_iff.mp h).1
    rcases get_set_un h with ⟨e0, e⟩ | ⟨ne, h⟩
    · subst e0
      cases e
      exact ⟨p, vs, List.getElem?_set_self (by rw [s.ok.len]; simpa using hj), z1, z2, r, z3⟩
    · obtain ⟨a, ws, q1, q2⟩ := s.ok.ow j es h
      exact ⟨a, ws, by rw [List.getElem?_set_ne ne]; exact q1, q2⟩
  · have hj := (List.getElem?_eq_some_iff.mp h1).1
    have hk := (List.getElem?_eq_some_iff.mp h2).1
    have low : ∀ {x : Nat}, x < (ρ.set i (.ow ds)).length → x < σ.length := fun h => by rw [s.ok.len]; simpa using h
    rcases get_set_un h1 with ⟨e0, e⟩ | ⟨ne, q1⟩
    · rcases get_set_un h2 with ⟨e0', e'⟩ | ⟨ne', q2⟩
      · rw [← e0, ← e0']
      · subst e0
        rw [List.getElem?_set_self (low hj)] at h3
        cases h3
        rw [List.getElem?_set_ne ne'] at h4
        exact absurd h4 (fresh k es q2)
    · rcases get_set_un h2 with ⟨e0', e'⟩ | ⟨ne', q2⟩
      · subst e0'
        rw [List.getElem?_set_self (low hk)] at h4
        cases h4
        rw [List.getElem?_set_ne ne] at h3
        exact absurd h3 (fresh j _ q1)
      · rw [List.getElem?_set_ne ne] at h3
        rw [List.getElem?_set_ne ne'] at h4
        exact s.ok.sep j k ds' es a q1 q2 h3 h4
  · have hj := (List.getElem?_eq_some_iff.mp h1).1
    rcases get_set_un h1 with ⟨e0, e⟩ | ⟨ne, q1⟩
    · subst e0
      rw [List.getElem?_set_self (by rw [s.ok.len]; simpa using hj)] at h2
      cases h2
      exact z0
    · rw [List.getElem?_set_ne ne] at h2
      exact s.ow j es a q1 h2
/-- the list of a slot is another now -/
theorem St0.write (s : St0 K y0 H0 y H σ ρ fu) {i : Nat} {p : Addr} {ds es : List D} {ws : List V} (h : ρ[i]? = some (.ow ds)) (hp : σ[i]? = some (some (.ref p))) (r : RpL K y ws es) :
    St0 K y0 H0 y (upd H p (.lst ws)) σ (ρ.set i (.ow es)) fu := by
  obtain ⟨p', vs, h1, h2, h3, h4, h5⟩ := s.ok.ow i ds h
  rw [hp] at h1
  cases h1
  have hH0 : H0 p = none := s.ow i ds p h hp
  have hl := (List.getElem?_eq_some_iff.mp h).1
  have ne_g : ∀ {b u}, y.g b = some u → b ≠ p := fun e z => by rw [z, h2] at e; cases e
  refine ⟨⟨⟨fun b u e => ?_, ?_⟩, by simpa using s.ok.len, fun j d e => ?_, fun j fs e => ?_, fun j k ds' fs a e1 e2 e3 e4 => ?_⟩, ?_, fun j fs a e1 e2 => ?_⟩
  · rw [upd_ne (ne_g e)]
    exact s.ok.g.sub b u e
  · have gs := s.ok.g.src
    cases fu with
    | none => exact gs
    | some n =>
      obtain ⟨a, c, e1, e2, e3, e0, ns, t, m, k1, k2, k3⟩ := gs
      obtain ⟨n1, n2⟩ := h5 _ e1
      exact ⟨a, c, e1, e2, e3, e0, ns, t, m, by rw [upd_ne (Ne.symm n1)]; exact k1, by rw [upd_ne (Ne.symm n2)]; exact k2, k3⟩
  · rcases get_set_un e with ⟨_, e⟩ | ⟨ne, e⟩
    · cases e
    · exact s.ok.va j d e
  · rcases get_set_un e with ⟨e0, e9⟩ | ⟨ne, e⟩
    · subst e0
      cases e9
      exact ⟨p, ws, hp, h2, upd_same, r, h5⟩
    · obtain ⟨a, xs, q1, q2, q3, q4, q5⟩ := s.ok.ow j fs e
      have na : a ≠ p := fun z => by
        subst z
        exact ne (s.ok.sep i j ds fs _ h e hp q1)
      exact ⟨a, xs, q1, q2, by rw [upd_ne na]; exact q3, q4, q5⟩
  · have own : ∀ {j : Nat} {fs : List D}, (ρ.set i (.ow es))[j]? = some (.ow fs) → ∃ gs, ρ[j]? = some (.ow gs) := fun {j fs} e => by
      rcases get_set_un e with ⟨e0, _⟩ | ⟨_, e⟩
      · exact ⟨ds, e0 ▸ h⟩
      · exact ⟨fs, e⟩
    obtain ⟨g1, q1⟩ := own e1
    obtain ⟨g2, q2⟩ := own e2
    exact s.ok.sep j k g1 g2 a q1 q2 e3 e4
  · refine ⟨s.nx.x, fun a u e k => ?_, fun a e => ?_, s.nx.out, s.nx.new⟩
    · have na : a ≠ p := fun z => by rw [z, hH0] at e; cases e
      rw [upd_ne na]
      exact s.nx.frm a u e k
    · by_cases na : a = p
      · rw [na, upd_same]; simp
      · rw [upd_ne na]; exact s.nx.here a e
  · rcases get_set_un e1 with ⟨e0, _⟩ | ⟨_, e⟩
    · subst e0
      exact s.ow _ ds a h e2
    · exact s.ow j fs a e e2
/-- the list of a slot stays as it is from now on -/
theorem St0.freeze (s : St0 K y0 H0 y H σ ρ fu) {i : Nat} {ds : List D} (h : ρ[i]? = some (.ow ds)) : ∃ y', St0 K y0 H0 y' H σ (ρ.set i (.va (.lst ds))) fu := by
  obtain ⟨p, vs, h1, h2, h3, h4, h5⟩ := s.ok.ow i ds h
  obtain ⟨g', x'⟩ := settle s.ok.g h2 h3 h5
  have hH0 : H0 p = none := s.ow i ds p h h1
  refine ⟨⟨upd y.g p (.lst vs), y.s⟩, ⟨g', by simpa using s.ok.len, fun j d e => ?_, fun j fs e => ?_, fun j k ds' fs a e1 e2 e3 e4 => ?_⟩, ?_, fun j fs a e1 e2 => ?_⟩
  · rcases get_set_un e with ⟨e0, e9⟩ | ⟨ne, e⟩
    · subst e0
      cases e9
      exact ⟨.ref p, h1, .lst upd_same (h4.mono x')⟩
    · obtain ⟨v, q1, q2⟩ := s.ok.va j d e
      exact ⟨v, q1, q2.mono x'⟩
  · rcases get_set_un e with ⟨_, e⟩ | ⟨ne, e⟩
    · cases e
    · obtain ⟨a, xs, q1, q2, q3, q4, q5⟩ := s.ok.ow j fs e
      have na : a ≠ p := fun z => by
        subst z
        exact ne (s.ok.sep i j ds fs _ h e h1 q1)
      exact ⟨a, xs, q1, by show upd y.g p _ a = none; rw [upd_ne na]; exact q2, q3, q4.mono x', q5⟩
  · rcases get_set_un e1 with ⟨_, e⟩ | ⟨_, e1⟩
    · cases e
    · rcases get_set_un e2 with ⟨_, e⟩ | ⟨_, e2⟩
      · cases e
      · exact s.ok.sep j k ds' fs a e1 e2 e3 e4
  · refine ⟨s.nx.x.trans x', s.nx.frm, s.nx.here, fun a e k => ?_, s.nx.new⟩
    have na : a ≠ p := fun z => e (z ▸ hH0)
    show upd y.g p _ a = none
    rw [upd_ne na]
    exact s.nx.out a e k
  · rcases get_set_un e1 with ⟨_, e⟩ | ⟨_, e1⟩
    · cases e
    · exact s.ow j fs a e1 e2
end

section
variable {X : Cx} {st : Stmt} {sts : List Stmt} {w w' : WS} {e c : Expr} {we : WE} {pos : Pos}
def zNext : WS := fun B ρ fu => B.nx ρ fu
def zSeq (w w' : WS) : WS := fun B ρ fu => w { B with nx := w' B } ρ fu
theorem rd_seq {K : PySem.W.Frag} {t u : TS} (h1 : RdS K t w) (h2 : RdS K u w') : RdS K (tSeq t u) (zSeq w w') := fun y0 H0 σ H y ρ fu B E s hw m =>
  h1 y0 H0 σ H y ρ fu _ _ s hw ⟨fun σ' ρ' fu' H' y' h s' => h2 y0 H0 σ' H' y' ρ' fu' B E s' h m, m.rt, m.bk, m.ct⟩
theorem zs_nil : WSs X [] zNext := ⟨_, pss_nil, fun y0 H0 σ H y ρ fu B E s hw m => m.nx σ ρ fu H y hw s⟩
theorem zs_cons (h1 : WSt X st w) (h2 : WSs X sts w') : WSs X (st :: sts) (zSeq w w') := by
  obtain ⟨t, p, r⟩ := h1.ex
  obtain ⟨u, p2, r2⟩ := h2.ex
  exact ⟨_, pss_cons p p2, rd_seq r r2⟩
theorem zs_one (h1 : WSt X st w) : WSs X [st] w := let ⟨_, p, r⟩ := h1.ex; ⟨_, pss_one p, r⟩
/-- a list of a slot stays from now on -/
def zFz (i : Nat) (w : WS) : WS := fun B ρ fu => match ρ[i]? with
  | some (.ow ds) => w B (ρ.set i (.va (.lst ds))) fu
  | _ => w B ρ fu
theorem rd_freeze {K : PySem.W.Frag} {t : TS} (i : Nat) (h : RdS K t w) : RdS K t (zFz i w) := fun y0 H0 σ H y ρ fu B E s hw m => by
  unfold zFz at hw
  split at hw
  · rename_i ds q
    obtain ⟨y', s'⟩ := s.freeze q
    exact h y0 H0 σ H y' _ fu B E s' hw m
  · exact h y0 H0 σ H y ρ fu B E s hw m
theorem zt_freeze (i : Nat) (h : WSt X st w) : WSt X st (zFz i w) := let ⟨_, p, r⟩ := h.ex; ⟨_, p, rd_freeze i r⟩
theorem zs_freeze (i : Nat) (h : WSs X sts w) : WSs X sts (zFz i w) := let ⟨_, p, r⟩ := h.ex; ⟨_, p, rd_freeze i r⟩

def zPass : WS := fun B ρ fu => B.nx ρ fu
theorem zt_pass : WSt X (.Pass pos) zPass := ⟨_, ps_pass, fun y0 H0 σ H y ρ fu B E s hw m => m.nx σ ρ fu H y hw s⟩
def zBreak : WS := fun B ρ fu => B.bk ρ fu
def zCont : WS := fun B ρ fu => B.ct ρ fu
theorem zt_break : WSt X (.Break pos) zBreak := ⟨_, ps_break, fun y0 H0 σ H y ρ fu B E s hw m => m.bk σ ρ fu H y hw s⟩
theorem zt_cont : WSt X (.Continue pos) zCont := ⟨_, ps_continue, fun y0 H0 σ H y ρ fu B E s hw m => m.ct σ ρ fu H y hw s⟩
def zExpr (we : WE) : WS := fun B ρ fu => we ρ fu fun _ fu' => B.nx ρ fu'
theorem zt_expr (h : WX (U1 X) X.K e we) (hs : swapsWith e none pos.line X.env = pure false := by rfl) : WSt X (.Expr e pos) (zExpr we) := by
  obtain ⟨t, p, r⟩ := h.ex
  exact ⟨_, ps_expr (p ()) hs, fun y0 H0 σ H y ρ fu B E s hw m => r σ H y ρ fu _ _ s.ok hw fun d fu' v H' y' h' g' n' r' => m.nx σ ρ fu' H' y' h' (s.next n' g')⟩
def zRet (we : WE) : WS := fun B ρ fu => we ρ fu B.rt
theorem zt_ret (h : WX (U1 X) X.K e we) : WSt X (.Return (some e) pos) (zRet we) := by
  obtain ⟨t, p, r⟩ := h.ex
  exact ⟨_, ps_ret (p ()), fun y0 H0 σ H y ρ fu B E s hw m => r σ H y ρ fu _ _ s.ok hw fun d fu' v H' y' h' g' n' r' => m.rt d fu' v H' y' h' g' (s.nx.trans n') r'⟩
def zRetN : WS := fun B _ fu => B.rt .non fu
theorem zt_retN : WSt X (.Return none pos) zRetN := ⟨_, ps_retN, fun y0 H0 σ H y ρ fu B E s hw m => m.rt .non fu .non H y hw s.ok.g s.nx .non⟩
def zIf (u : WT) (w w' : WS) : WS := fun B ρ fu => u ρ fu fun k fu' => if k = true then w B ρ fu' else w' B ρ fu'
theorem zt_if {u : WT} {b1 b2 : List Stmt} (hc : WTs (U1 X) X.K c u) (h1 : WSs X b1 w) (h2 : WSs X b2 w') : WSt X (.If c b1 b2 pos) (zIf u w w') := by
  obtain ⟨tc, pc, rc⟩ := hc.ex
  obtain ⟨t1, p1, r1⟩ := h1.ex
  obtain ⟨t2, p2, r2⟩ := h2.ex
  refine ⟨_, ps_if (pc ()) p1 p2, fun y0 H0 σ H y ρ fu B E s hw m => ?_⟩
  refine rc σ H y ρ fu _ _ s.ok hw fun k fu' H' y' h' g' n' => ?_
  cases k with
  | true =>
    rw [if_pos rfl] at h' ⊢
    exact r1 y0 H0 σ H' y' ρ fu' B E (s.next n' g') h' m
  | false =>
    rw [if_neg Bool.false_ne_true] at h' ⊢
    exact r2 y0 H0 σ H' y' ρ fu' B E (s.next n' g') h' m

/-! ## stores -/
def zSet (i : Nat) (we : WE) : WS := fun B ρ fu => we ρ fu fun d fu' => B.nx (ρ.set i (.va d)) fu'
theorem rd_set {K : PySem.W.Frag} {t : TE} (i : Nat) (r : RdE K t we) : RdS K (tAsg t (gName i)) (zSet i we) := fun y0 H0 σ H y ρ fu B E s hw m =>
  r σ H y ρ fu _ _ s.ok hw fun d fu' v H' y' h' g' n' r' => m.nx _ _ fu' H' y' h' ((s.next n' g').set i r')
def zSetL (i : Nat) (v : WA) : WS := fun B ρ fu => v ρ fu fun ds fu' => B.nx (ρ.set i (.ow ds)) fu'
theorem rd_setL {K : PySem.W.Frag} {t : TE} {v : WA} (i : Nat) (r : RdL K t v) : RdS K (tAsg t (gName i)) (zSetL i v) := fun y0 H0 σ H y ρ fu B E s hw m =>
  r σ H y ρ fu _ _ s.ok hw fun ds fu' p vs H' y' h' g' n' z1 z0 z2 z3 r' => m.nx _ _ fu' H' y' h' ((s.next n' g').setL i z1 z2 z3 r' (by
    cases q : H0 p with
    | none => rfl
    | some u => exact absurd z0 (s.nx.here p (by rw [q]; simp))) fun j es e1 e2 => by
      obtain ⟨a, ws, q1, q2, q3, _⟩ := s.ok.ow j es e1
      rw [e2] at q1
      cases q1
      rw [z0] at q3; cases q3)
theorem zt_set {x : Str} {i : Nat} {pos' : Pos} (hN : X.N.Nodup) (hi : X.N[i]? = some x) (hx : Loc X.env.scope x) (h : WX (U1 X) X.K e we) (hs : swapsWith e (some (.Name x pos')) pos.line X.env = pure false := by rfl)
    (hf : X.fn x = true ∨ X.env.scope.names.lookup x = some .local := by first | exact .inl rfl | exact .inr rfl | assumption) : WSt X (.Assign [.Name x pos'] e pos) (zSet i we) := by
  obtain ⟨t, p, r⟩ := h.ex
  exact ⟨_, ps_set hN hi hx (p ()) hs hf, rd_set i r⟩
theorem zt_setL {x : Str} {i : Nat} {pos' : Pos} {v : WA} (hN : X.N.Nodup) (hi : X.N[i]? = some x) (hx : Loc X.env.scope x) (h : WLs (U1 X) X.K e v) (hs : swapsWith e (some (.Name x pos')) pos.line X.env = pure false := by rfl)
    (hf : X.fn x = true ∨ X.env.scope.names.lookup x = some .local := by first | exact .inl rfl | exact .inr rfl | assumption) : WSt X (.Assign [.Name x pos'] e pos) (zSetL i v) := by
  obtain ⟨t, p, r⟩ := h.ex
  exact ⟨_, ps_set hN hi hx (p ()) hs hf, rd_setL i r⟩
end
end Z
namespace Z
open PySem PySem.Spec L2

/-! ## what is walked -/
/-- the iterator hands out the data ds, one after another -/
def Pres (K : PySem.W.Frag) (y : Gh) (J : It) (ds : List D) : Prop := ∀ (i : Nat) (H1 : Hp) (y1 : Gh) (fu1 : Fu), Gx y y1 → GOk y1 H1 fu1 →
  (ds.length ≤ i → J.stop i H1) ∧ ∀ d, ds[i]? = some d → J.go i H1 ∧ ∀ x H2, J.yld i H1 x H2 → ∃ y2, GOk y2 H2 fu1 ∧ Nx y1 H1 y2 H2 ∧ Rp K y2 x d
theorem Pres.up {K : PySem.W.Frag} {y y' : Gh} {J : It} {ds : List D} (h : Pres K y J ds) (x : Gx y y') : Pres K y' J ds := fun i H1 y1 fu1 x1 g1 => h i H1 y1 fu1 (x.trans x1) g1
def RdI (K : PySem.W.Frag) (t : TI) (w : WA) : Prop := ∀ (σ : L2.St) (H : Hp) (y : Gh) (ρ : List Sl) (fu : Fu) (P : List D → Fu → Prop) (R : It → Hp → Prop), Ok K y H σ ρ fu → w ρ fu P →
  (∀ ds fu' J H' y', P ds fu' → GOk y' H' fu' → Nx y H y' H' → Pres K y' J ds → R J H') → t σ H R
structure WI {ι : Type} (F : ι → Cx) (K : PySem.W.Frag) (tg iter : Expr) (w : WA) : Prop where
  ex : ∃ t, (∀ i, PI (F i) tg iter t) ∧ RdI K t w

/-- only the slots sl are touched -/
def Tch (sl : List Nat) (σ σ' : L2.St) : Prop := σ'.length = σ.length ∧ ∀ i, i ∉ sl → σ'[i]? = σ[i]?
theorem Tch.refl (sl : List Nat) (σ : L2.St) : Tch sl σ σ := ⟨rfl, fun _ _ => rfl⟩
theorem Tch.trans {sl sl' : List Nat} {σ σ' σ'' : L2.St} (a : Tch sl σ σ') (b : Tch sl' σ' σ'') : Tch (sl ++ sl') σ σ'' :=
  ⟨b.1.trans a.1, fun i h => (b.2 i fun k => h (List.mem_append_right _ k)).trans (a.2 i fun k => h (List.mem_append_left _ k))⟩
/-- a target -/
abbrev WG := D → List Sl → (List Sl → Prop) → Prop
def RdG (K : PySem.W.Frag) (g : TG) (sl : List Nat) (w : WG) : Prop := ∀ (y0 : Gh) (H0 : Hp) (v : V) (d : D) (σ : L2.St) (H : Hp) (y : Gh) (ρ : List Sl) (fu : Fu) (P : List Sl → Prop) (Q : L2.St → Hp → Prop),
  St0 K y0 H0 y H σ ρ fu → Rp K y v d → w d ρ P → (∀ σ' ρ', P ρ' → St0 K y0 H0 y H σ' ρ' fu → Tch sl σ σ' → Q σ' H) → g v σ H Q
structure WGt {ι : Type} (F : ι → Cx) (K : PySem.W.Frag) (tg : Expr) (sl : List Nat) (w : WG) : Prop where
  ex : ∃ g, (∀ i, PG (F i) tg g) ∧ RdG K g sl w
abbrev WGl := List D → List Sl → (List Sl → Prop) → Prop
def RdGl (K : PySem.W.Frag) (g : TGs) (sl : List Nat) (w : WGl) : Prop := ∀ (y0 : Gh) (H0 : Hp) (vs : List V) (ds : List D) (σ : L2.St) (H : Hp) (y : Gh) (ρ : List Sl) (fu : Fu) (P : List Sl → Prop) (Q : L2.St → Hp → Prop),
  St0 K y0 H0 y H σ ρ fu → RpL K y vs ds → w ds ρ P → (∀ σ' ρ', P ρ' → St0 K y0 H0 y H σ' ρ' fu → Tch sl σ σ' → Q σ' H) → g vs σ H Q
structure WGs {ι : Type} (F : ι → Cx) (K : PySem.W.Frag) (tgs : List Expr) (sl : List Nat) (w : WGl) : Prop where
  ex : ∃ g, (∀ i, PGs (F i) tgs g) ∧ RdGl K g sl w

section
variable {ι : Type} {F : ι → Cx} {K : PySem.W.Frag} {e : Expr} {es : List Expr} {wa : WE} {pos : Pos}
def gN (i : Nat) : WG := fun d ρ P => P (ρ.set i (.va d))
theorem wg_name {i : Nat} {x : Str} (h : ∀ k, PG (F k) (.Name x pos) (gName i)) : WGt F K (.Name x pos) [i] (gN i) :=
  ⟨_, h, fun y0 H0 v d σ H y ρ fu P Q s r hw k => k _ _ hw (s.set i r) ⟨by simp, fun j hj => List.getElem?_set_ne fun e => hj (by simp [e])⟩⟩
def glNil : WGl := fun ds ρ P => ds = [] ∧ P ρ
def glCons (g : WG) (gl : WGl) : WGl := fun ds ρ P => ∃ d r, ds = d :: r ∧ g d ρ fun ρ' => gl r ρ' P
theorem wgs_nil : WGs F K [] [] glNil := ⟨_, fun _ => pgs_nil, fun y0 H0 vs ds σ H y ρ fu P Q s r hw k => by
  obtain ⟨rfl, hw⟩ := hw
  cases r
  exact ⟨rfl, k _ _ hw s (Tch.refl _ _)⟩⟩
theorem wgs_cons {g : WG} {gl : WGl} {sl sl' : List Nat} (h1 : WGt F K e sl g) (h2 : WGs F K es sl' gl) (hs : ∀ k, (assignEach (e :: es) (F k).env).map (·.2) = assign e (F k).env :: (assignEach es (F k).env).map (·.2) := by intro _; rfl) : WGs F K (e :: es) (sl ++ sl') (glCons g gl) := by
  obtain ⟨t, p, r1⟩ := h1.ex
  obtain ⟨u, q, r2⟩ := h2.ex
  refine ⟨_, fun k => pgs_cons (p k) (q k) (hs k), fun y0 H0 vs ds σ H y ρ fu P Q s r hw k => ?_⟩
  obtain ⟨d, rr, rfl, hw⟩ := hw
  cases r with
  | cons a b =>
    refine ⟨_, _, rfl, r1 y0 H0 _ d σ H y ρ fu _ _ s a hw fun σ' ρ' h' s' t1 => ?_⟩
    exact r2 y0 H0 _ rr σ' H y ρ' fu P Q s' b h' fun σ2 ρ2 h2 s2 t2 => k σ2 ρ2 h2 s2 (t1.trans t2)
def gT (n : Nat) (gl : WGl) : WG := fun d ρ P => ∃ ds, d = .tup ds ∧ ds.length = n ∧ gl ds ρ P
theorem wg_tup {kk : Nat} {gl : WGl} {n : Nat} {sl : List Nat} (hK : ∀ k, (F k).K = K) (hc : ∀ k, (F k).calm = true) (h : WGs F K es sl gl)
    (hn : ∀ k, (assignEach es (F k).env).length = n := by intro _; rfl) (hst : ∀ k, (assignEach es (F k).env).findIdx? (·.1) = none := by intro _; rfl) : WGt F K (.Tuple es kk pos) sl (gT n gl) := by
  obtain ⟨u, q, r2⟩ := h.ex
  refine ⟨gTup K n u, fun k => by rw [← hK k]; exact pg_tup (hc k) (q k) (hn k) (hst k), fun y0 H0 v d σ H y ρ fu P Q s r hw k => ?_⟩
  obtain ⟨ds, rfl, hl, hw⟩ := hw
  cases r with
  | tup a b =>
    refine ⟨_, _, rfl, sqT_same s.ok.g.sub a, b.length.trans hl, ?_⟩
    exact r2 y0 H0 _ ds σ H y ρ fu P Q s b hw k

/-! ## lists, tuples, ranges, texts -/
def iSeq (wa : WE) : WA := fun ρ fu P => wa ρ fu fun d fu' => ∃ ds, (d = .lst ds ∨ d = .tup ds) ∧ P ds fu'
theorem pres_list {y : Gh} {a : Addr} {xs : List V} {ds : List D} (h : y.g a = some (.lst xs)) (r : RpL K y xs ds) : Pres K y (Itl K a) ds := fun i H1 y1 fu1 x1 g1 => by
  have hS : SqL K H1 a xs := .inl (.inl (g1.sub _ _ (x1.g _ _ h)))
  refine ⟨fun hl => ⟨xs, hS, by rw [r.length]; exact hl⟩, fun d hd => ?_⟩
  obtain ⟨v, hv, rv⟩ := r.get hd
  refine ⟨⟨xs, v, hS, hv⟩, fun x H2 hy => ?_⟩
  obtain ⟨rfl, hy⟩ := hy
  rw [hy xs hS] at hv
  cases hv
  exact ⟨y1, g1, Nx.refl _ _, rv.mono x1⟩
theorem pres_tup {y : Gh} {a : Addr} {xs : List V} {ds : List D} (h : SqT K y.g a xs) (r : RpL K y xs ds) : Pres K y (Itt K a) ds := fun i H1 y1 fu1 x1 g1 => by
  have hS : SqT K H1 a xs := sqT_same g1.sub (sqT_same x1.g h)
  refine ⟨fun hl => ⟨xs, hS, by rw [r.length]; exact hl⟩, fun d hd => ?_⟩
  obtain ⟨v, hv, rv⟩ := r.get hd
  refine ⟨⟨xs, v, hS, hv⟩, fun x H2 hy => ?_⟩
  obtain ⟨rfl, hy⟩ := hy
  rw [hy xs hS] at hv
  cases hv
  exact ⟨y1, g1, Nx.refl _ _, rv.mono x1⟩
def iL (wa : WE) : WA := fun ρ fu P => wa ρ fu fun d fu' => ∃ ds, d = .lst ds ∧ P ds fu'
def iT (wa : WE) : WA := fun ρ fu P => wa ρ fu fun d fu' => ∃ ds, d = .tup ds ∧ P ds fu'
theorem wi_list {tg : Expr} (hK : ∀ k, (F k).K = K) (h : WX F K e wa) : WI F K tg e (iL wa) := by
  obtain ⟨t, p, r⟩ := h.ex
  refine ⟨iList K t, fun k => by rw [← hK k]; exact pi_list (p k), fun σ H y ρ fu P R o hw k => ?_⟩
  refine r σ H y ρ fu _ _ o hw fun d fu' v H' y' h' g' n' r' => ?_
  obtain ⟨ds, rfl, h'⟩ := h'
  cases r' with
  | lst a b => exact ⟨_, rfl, ⟨_, .inl (.inl (g'.sub _ _ a))⟩, k ds fu' _ H' y' h' g' n' (pres_list a b)⟩
theorem wi_tup {tg : Expr} (hK : ∀ k, (F k).K = K) (h : WX F K e wa) : WI F K tg e (iT wa) := by
  obtain ⟨t, p, r⟩ := h.ex
  refine ⟨iTup K t, fun k => by rw [← hK k]; exact pi_tup (p k), fun σ H y ρ fu P R o hw k => ?_⟩
  refine r σ H y ρ fu _ _ o hw fun d fu' v H' y' h' g' n' r' => ?_
  obtain ⟨ds, rfl, h'⟩ := h'
  cases r' with
  | tup a b => exact ⟨_, rfl, ⟨_, sqT_same g'.sub a⟩, k ds fu' _ H' y' h' g' n' (pres_tup a b)⟩
/-- a text's signs -/
def signs (x : Str) : List D := x.cps.toList.map fun c => .str ⟨#[c]⟩
def iS (wa : WE) : WA := fun ρ fu P => wa ρ fu fun d fu' => ∃ x, d = .str x ∧ P (signs x) fu'
theorem wi_str {tg : Expr} (h : WX F K e wa) : WI F K tg e (iS wa) := by
  obtain ⟨t, p, r⟩ := h.ex
  refine ⟨iStr t, fun k => pi_str (p k), fun σ H y ρ fu P R o hw k => ?_⟩
  refine r σ H y ρ fu _ _ o hw fun d fu' v H' y' h' g' n' r' => ?_
  obtain ⟨x, rfl, h'⟩ := h'
  cases r'
  refine ⟨x, rfl, k _ fu' _ H' y' h' g' n' fun i H1 y1 fu1 x1 g1 => ⟨fun hl => ?_, fun d hd => ?_⟩⟩
  · have : x.cps.size ≤ i := by simpa [signs] using hl
    exact this
  · have hd' : (x.cps.toList.map fun c => D.str ⟨#[c]⟩)[i]? = some d := hd
    rw [List.getElem?_map] at hd'
    obtain ⟨c, hc, rfl⟩ := Option.map_eq_some_iff.mp hd'
    have hi : i < x.cps.size := by
      have := (List.getElem?_eq_some_iff.mp hc).1
      simpa using this
    refine ⟨hi, fun v H2 hy => ?_⟩
    obtain ⟨rfl, c', hc', rfl⟩ := hy
    rw [Array.getElem?_toList] at hc
    rw [hc] at hc'
    cases hc'
    exact ⟨y1, g1, Nx.refl _ _, .str _⟩
/-- lo, lo + 1, .. below hi -/
def rng (lo hi : Int) : List D := (List.range (hi - lo).toNat).map fun (k : Nat) => .int (lo + k)
theorem pres_rng {y : Gh} (lo hi : Int) : Pres K y (Itr lo (hi - lo).toNat) (rng lo hi) := fun i H1 y1 fu1 x1 g1 => by
  refine ⟨fun hl => ?_, fun d hd => ?_⟩
  · have : (hi - lo).toNat ≤ i := by simpa [rng] using hl
    exact this
  · have hd' : ((List.range (hi - lo).toNat).map fun (k : Nat) => D.int (lo + k))[i]? = some d := hd
    rw [List.getElem?_map] at hd'
    obtain ⟨c, hc, rfl⟩ := Option.map_eq_some_iff.mp hd'
    obtain ⟨hlt, hc⟩ := List.getElem?_eq_some_iff.mp hc
    have hlt' : i < (hi - lo).toNat := by simpa using hlt
    have hc' : c = i := by simpa using hc.symm
    subst hc'
    refine ⟨hlt', fun v H2 hy => ?_⟩
    obtain ⟨rfl, rfl⟩ := hy
    exact ⟨y1, g1, Nx.refl _ _, .int _⟩
def iR1 (wa : WE) : WA := fun ρ fu P => wa ρ fu fun d fu' => ∃ n : Int, d = .int n ∧ (-(2 ^ 62) ≤ n ∧ n < 2 ^ 62) ∧ P (rng 0 n) fu'
theorem wi_range1 {tg : Expr} {p : Pos} (hg : ∀ k, Gl (F k) "range") (hm : ∀ k, (F k).mg "range" = none) (h : WX F K e wa) (hs : ∀ k, starEach [e] (F k).env = [(false, eval e (F k).env)] := by intro _; rfl)
    (hs' : ∀ k, starEach [e] (F k).env = (false, eval e (F k).env) :: starEach [] (F k).env := by intro _; rfl) : WI F K tg (.Call (.Name "range" p) [e] [] pos) (iR1 wa) := by
  obtain ⟨t, q, r⟩ := h.ex
  refine ⟨_, fun k => pi_range1 (hg k) (hm k) (pa_cons (q k) pa_nil (hs' k)) (hs k), fun σ H y ρ fu P R o hw k => ?_⟩
  refine r σ H y ρ fu _ _ o hw fun d fu' v H' y' h' g' n' r' => ?_
  obtain ⟨n, rfl, ⟨h1, h2⟩, h'⟩ := h'
  cases r'
  have hp : Pres K y' (Itr 0 (n - 0).toNat) (rng 0 n) := pres_rng 0 n
  rw [Int.sub_zero] at hp
  exact ⟨n, rfl, h1, h2, k _ fu' _ H' y' h' g' n' hp⟩
def iR2 (wa wb : WE) : WA := fun ρ fu P => wa ρ fu fun d fu' => wb ρ fu' fun d' fu'' => ∃ m n : Int, d = .int m ∧ d' = .int n ∧ (-(2 ^ 62) ≤ m ∧ m < 2 ^ 62 ∧ -(2 ^ 62) ≤ n ∧ n < 2 ^ 62) ∧ P (rng m n) fu''
theorem wi_range2 {tg e2 : Expr} {wb : WE} {p : Pos} (hg : ∀ k, Gl (F k) "range") (hm : ∀ k, (F k).mg "range" = none) (h : WX F K e wa) (h2 : WX F K e2 wb)
    (hs : ∀ k, starEach [e, e2] (F k).env = [(false, eval e (F k).env), (false, eval e2 (F k).env)] := by intro _; rfl) (hs2 : ∀ k, starEach [e2] (F k).env = [(false, eval e2 (F k).env)] := by intro _; rfl)
    (hs3 : ∀ k, starEach [e, e2] (F k).env = (false, eval e (F k).env) :: starEach [e2] (F k).env := by intro _; rfl) (hs4 : ∀ k, starEach [e2] (F k).env = (false, eval e2 (F k).env) :: starEach [] (F k).env := by intro _; rfl) :
    WI F K tg (.Call (.Name "range" p) [e, e2] [] pos) (iR2 wa wb) := by
  obtain ⟨t, q, r⟩ := h.ex
  obtain ⟨t2, q2, r2⟩ := h2.ex
  refine ⟨_, fun k => pi_range2 (hg k) (hm k) (pa_cons (q k) (pa_cons (q2 k) pa_nil (hs4 k)) (hs3 k)) (hs k) (hs2 k), fun σ H y ρ fu P R o hw k => ?_⟩
  refine r σ H y ρ fu _ _ o hw fun d fu' v H' y' h' g' n' r' => ?_
  refine r2 σ H' y' ρ fu' _ _ (o.next n' g') h' fun d2 fu2 v2 H2 y2 h2 g2 n2 r2 => ?_
  obtain ⟨m, n, rfl, rfl, hb, h2⟩ := h2
  cases r'
  cases r2
  exact ⟨m, n, rfl, hb, k _ fu2 _ H2 y2 h2 g2 (n'.trans n2) (pres_rng m n)⟩
end

/-! ## for -/
section
variable {K : PySem.W.Frag} {y y0 y' : Gh} {H H0 H' : Hp} {σ σ' : L2.St} {ρ ρ' : List Sl} {fu fu' : Fu}
/-- the same from here on -/
theorem St0.here (s : St0 K y0 H0 y H σ ρ fu) : St0 K y H0 y H σ ρ fu := ⟨s.ok, ⟨Gx.refl y, s.nx.frm, s.nx.here, fun _ _ h => h, fun _ h => .inl h⟩, s.ow⟩
theorem nx_back (n : Nx y0 H0 y H) (n' : Nx y H0 y' H') : Nx y0 H0 y' H' := by
  refine ⟨n.x.trans n'.x, n'.frm, n'.here, fun a h k => n'.out a h (n.out a h k), fun p h => ?_⟩
  rcases n'.new p h with q | q
  · exact n.new p q
  · exact .inr q
theorem St0.back (n : Nx y0 H0 y H) (s : St0 K y H0 y' H' σ' ρ' fu') : St0 K y0 H0 y' H' σ' ρ' fu' := ⟨s.ok, nx_back n s.nx, s.ow⟩
/-- .. for a part of a body, where what it grows is wanted -/
theorem Sim.here {B : DEnds} {E : Ends} (n : Nx y0 H0 y H) (m : Sim K y0 H0 B E) : Sim K y H0 B E :=
  ⟨fun σ ρ fu H y h s => m.nx σ ρ fu H y h (s.back n), fun d fu v H y h g k r => m.rt d fu v H y h g (nx_back n k) r, fun σ ρ fu H y h s => m.bk σ ρ fu H y h (s.back n), fun σ ρ fu H y h s => m.ct σ ρ fu H y h (s.back n)⟩
end
section
variable {X : Cx} {pos : Pos}
def zLoop (g : WG) (w : WS) (B : DEnds) : List D → List Sl → Fu → Prop
  | [], ρ, fu => B.nx ρ fu
  | d :: ds, ρ, fu => g d ρ fun ρ' => w { nx := zLoop g w B ds, rt := B.rt, bk := B.nx, ct := zLoop g w B ds } ρ' fu
def zFor (wi : WA) (g : WG) (w : WS) : WS := fun B ρ fu => wi ρ fu fun ds fu' => zLoop g w B ds ρ fu'
theorem zt_for {tg iter : Expr} {body : List Stmt} {sl : List Nat} {wi : WA} {g : WG} {w : WS} (hp : PassesOwn (model X.prog X.w) X.A X.env X.xe) (hc : X.calm = true) (hi : WI (U1 X) X.K tg iter wi) (hg : WGt (U1 X) X.K tg sl g) (hb : WSs X body w)
    (hs : ∀ x, foldedSetIterable iter X.env x = pure x := by intro _; rfl) : WSt X (.For tg iter body [] pos) (zFor wi g w) := by
  obtain ⟨ti, pi, ri⟩ := hi.ex
  obtain ⟨tg', pg, rg⟩ := hg.ex
  obtain ⟨tb, pb, rb⟩ := hb.ex
  refine ⟨_, ps_for hp hc (pi ()) (pg ()) pb hs, fun y0 H0 σ H y ρ fu B E s hw m => ?_⟩
  refine ri σ H y ρ fu _ _ s.ok hw fun ds fu1 J H1 y1 h1 g1 n1 pr => ?_
  refine ⟨fun i n σ H => ∃ y ρ fu, St0 X.K y0 H0 y H σ ρ fu ∧ Gx y1 y ∧ i ≤ ds.length ∧ n = ds.length - i ∧ zLoop g w B (ds.drop i) ρ fu, ⟨ds.length, y1, ρ, fu1, s.next n1 g1, Gx.refl _, Nat.zero_le _, rfl, h1⟩, ?_⟩
  rintro i n σ2 H2 ⟨y2, ρ2, fu2, s2, x2, hi2, rfl, hz⟩
  obtain ⟨pst, pgo⟩ := pr i H2 y2 fu2 x2 s2.ok.g
  by_cases hlt : i < ds.length
  · rw [List.drop_eq_getElem_cons hlt] at hz
    obtain ⟨go, hy⟩ := pgo ds[i] (List.getElem?_eq_getElem hlt)
    refine .inr ⟨go, fun σ' H' => ∃ y' ρ' fu', St0 X.K y0 H0 y' H' σ' ρ' fu' ∧ Gx y1 y' ∧ zLoop g w B (ds.drop (i + 1)) ρ' fu', ?_, fun x H3 yl => ?_⟩
    · rintro σ' H' ⟨y', ρ', fu', s', x', hz'⟩
      exact ⟨ds.length - (i + 1), by omega, y', ρ', fu', s', x', hlt, rfl, hz'⟩
    · obtain ⟨y3, g3, n3, r3⟩ := hy x H3 yl
      refine rg y0 H0 x _ σ2 H3 y3 ρ2 fu2 _ _ (s2.next n3 g3) r3 hz fun σ4 ρ4 h4 s4 _ => ?_
      refine rb y3 H0 σ4 H3 y3 ρ4 fu2 _ _ s4.here h4 ⟨fun σ5 ρ5 fu5 H5 y5 h5 s5 => ?_, fun d fu v H y h g k r => ?_, fun σ5 ρ5 fu5 H5 y5 h5 s5 => ?_, fun σ5 ρ5 fu5 H5 y5 h5 s5 => ?_⟩
      · exact ⟨y5, ρ5, fu5, s5.back s4.nx, (x2.trans n3.x).trans s5.nx.x, h5⟩
      · exact m.rt d fu v H y h g (nx_back s4.nx k) r
      · exact m.nx σ5 ρ5 fu5 H5 y5 h5 (s5.back s4.nx)
      · exact ⟨y5, ρ5, fu5, s5.back s4.nx, (x2.trans n3.x).trans s5.nx.x, h5⟩
  · have e : i = ds.length := by omega
    subst e
    rw [List.drop_length] at hz
    exact .inl ⟨pst (Nat.le_refl _), m.nx σ2 ρ2 fu2 H2 y2 hz s2⟩
end
end Z
namespace Z
open PySem PySem.Spec L2

/-! ## comprehensions -/
def wipeD (ρ : List Sl) : List Nat → List Sl
  | [] => ρ
  | v :: vs => (wipeD ρ vs).set v .un
section
variable {K : PySem.W.Frag} {y y0 y' : Gh} {H H0 H' : Hp} {σ σ' : L2.St} {ρ ρ' : List Sl} {fu fu' : Fu}
theorem Ok.unset (o : Ok K y H σ ρ fu) (i : Nat) : Ok K y H (σ.set i none) (ρ.set i .un) fu := by
  refine ⟨o.g, by simpa using o.len, fun j d h => ?_, fun j ds h => ?_, fun j k ds es a h1 h2 h3 h4 => ?_⟩
  · rcases get_set_un h with ⟨_, e⟩ | ⟨ne, h⟩
    · cases e
    · obtain ⟨v, q1, q2⟩ := o.va j d h
      exact ⟨v, by rw [List.getElem?_set_ne ne]; exact q1, q2⟩
  · rcases get_set_un h with ⟨_, e⟩ | ⟨ne, h⟩
    · cases e
    · obtain ⟨a, vs, q1, q2⟩ := o.ow j ds h
      exact ⟨a, vs, by rw [List.getElem?_set_ne ne]; exact q1, q2⟩
  · rcases get_set_un h1 with ⟨_, e⟩ | ⟨n1, h1⟩
    · cases e
    · rcases get_set_un h2 with ⟨_, e⟩ | ⟨n2, h2⟩
      · cases e
      · rw [List.getElem?_set_ne n1] at h3
        rw [List.getElem?_set_ne n2] at h4
        exact o.sep j k ds es a h1 h2 h3 h4
theorem Ok.wipe (o : Ok K y H σ ρ fu) : ∀ vs : List Nat, Ok K y H (L2.wipe σ vs) (wipeD ρ vs) fu
  | [] => o
  | v :: vs => (o.wipe vs).unset v
/-- a state, seen from nowhere -/
def y00 : Gh := ⟨fun _ => none, none⟩
def H00 : Hp := fun _ => none
theorem Ok.st (o : Ok K y H σ ρ fu) : St0 K y00 H00 y H σ ρ fu := by
  refine ⟨o, ⟨⟨fun a u h => ?_, fun p h => ?_⟩, fun a u h _ => ?_, fun a h => absurd rfl h, fun a h => absurd rfl h, fun _ _ => .inr ⟨rfl, rfl⟩⟩, fun _ _ _ _ _ => rfl⟩
  · have h' : (none : Option HO) = some u := h
    cases h'
  · have h' : (none : Option (Addr × Addr)) = some p := h
    cases h'
  · have h' : (none : Option HO) = some u := h
    cases h'
theorem wipe_get {vs : List Nat} : ∀ {i : Nat}, i ∉ vs → (L2.wipe σ vs)[i]? = σ[i]? := by
  induction vs with
  | nil => intro i _; rfl
  | cons v vs ih =>
    intro i h
    show ((L2.wipe σ vs).set v none)[i]? = _
    rw [List.getElem?_set_ne (fun e => h (by simp [e]))]
    exact ih fun k => h (List.mem_cons_of_mem _ k)
theorem wipe_in {vs : List Nat} : ∀ {i : Nat}, i ∈ vs → (L2.wipe σ vs)[i]? = if i < σ.length then some none else none := by
  induction vs with
  | nil => intro i h; simp at h
  | cons v vs ih =>
    intro i h
    show ((L2.wipe σ vs).set v none)[i]? = _
    by_cases e : v = i
    · subst e
      by_cases hl : v < σ.length
      · rw [List.getElem?_set_self (by rw [wipe_length]; exact hl), if_pos hl]
      · rw [if_neg hl, List.getElem?_eq_none_iff]
        rw [List.length_set, wipe_length]
        omega
    · rw [List.getElem?_set_ne e]
      refine ih ?_
      rcases List.mem_cons.mp h with h | h
      · exact absurd h.symm e
      · exact h
theorem wipe_tch {sl vs : List Nat} (t : Tch sl (L2.wipe σ vs) σ') (h : ∀ i ∈ sl, i ∈ vs) : L2.wipe σ' vs = L2.wipe σ vs := by
  have hl : σ'.length = σ.length := t.1.trans (wipe_length _ _)
  refine List.ext_getElem? fun i => ?_
  by_cases hi : i ∈ vs
  · rw [wipe_in hi, wipe_in hi, hl]
  · rw [wipe_get hi, t.2 i fun k => hi (h i k)]
theorem GOk.put {p : Addr} {o : HO} (g : GOk y H fu) (z1 : y.g p = none) (z2 : Nsr y p) : GOk y (upd H p o) fu := by
  refine ⟨fun b u e => ?_, ?_⟩
  · rw [upd_ne (ne_of_none e z1)]
    exact g.sub b u e
  · have gs := g.src
    cases fu with
    | none => exact gs
    | some n =>
      obtain ⟨a, c, e1, e2, e3, e0, ns, t, m, k1, k2, k3⟩ := gs
      obtain ⟨n1, n2⟩ := z2 _ e1
      exact ⟨a, c, e1, e2, e3, e0, ns, t, m, by rw [upd_ne (Ne.symm n1)]; exact k1, by rw [upd_ne (Ne.symm n2)]; exact k2, k3⟩
theorem Nx.put {p : Addr} {o : HO} (n : Nx y H y' H') (h : H p = none) : Nx y H y' (upd H' p o) := by
  refine ⟨n.x, fun a u e k => ?_, fun a e => ?_, n.out, n.new⟩
  · rw [upd_ne (ne_of_none e h)]
    exact n.frm a u e k
  · by_cases na : a = p
    · rw [na, upd_same]; simp
    · rw [upd_ne na]; exact n.here a e
theorem Nx.was {p : Addr} (n : Nx y H y' H') (h : H' p = none) : H p = none := by
  cases e : H p with
  | none => rfl
  | some u => exact absurd h (n.here p (by rw [e]; simp))
end

def lcLoop (g : WG) (u : WT) (we : WE) (ρ : List Sl) (P : List D → Fu → Prop) : List D → List D → Fu → Prop
  | [], acc, fu => P acc fu
  | d :: ds, acc, fu => g d ρ fun ρ' => u ρ' fu fun k fu1 => if k = true then we ρ' fu1 fun d' fu2 => acc.length < sizeLine ∧ lcLoop g u we ρ P ds (acc ++ [d']) fu2 else lcLoop g u we ρ P ds acc fu1
def wLc (wi : WA) (g : WG) (u : WT) (we : WE) (vs : List Nat) : WA := fun ρ fu P => wi ρ fu fun ds fu1 => lcLoop g u we (wipeD ρ vs) P ds [] fu1
theorem rd_lc {K : PySem.W.Frag} {wi : WA} {g : WG} {u : WT} {we : WE} {vs sl : List Nat} {ti : TI} {tg : TG} {tt : TT} {te : TE} (ri : RdI K ti wi) (rg : RdG K tg sl g) (rt : RdT K tt u) (re : RdE K te we) (hv : ∀ i ∈ sl, i ∈ vs) :
    RdL K (tLc ti tg tt te vs) (wLc wi g u we vs) := fun σ H y ρ fu P Q o hw k => by
  refine ri σ H y ρ fu _ _ o hw fun ds fu1 J H1 y1 h1 g1 n1 pr D nD => ?_
  have hD : H D = none := n1.was nD
  refine ⟨fun i n Hh => ∃ y2 fu2 av ad, GOk y2 Hh fu2 ∧ Nx y H y2 Hh ∧ Gx y1 y2 ∧ y2.g D = none ∧ Hh D = some (.lst av) ∧ Nsr y2 D ∧ RpL K y2 av ad ∧ i ≤ ds.length ∧ n = ds.length - i ∧ lcLoop g u we (wipeD ρ vs) P (ds.drop i) ad fu2, ?_, ?_⟩
  · obtain ⟨g2, n2, z1, z2⟩ := alone (o := .lst []) g1 nD
    exact ⟨ds.length, y1, fu1, [], [], g2, n1.trans n2, Gx.refl _, z1, upd_same, z2, .nil, Nat.zero_le _, rfl, h1⟩
  rintro i n Hh ⟨y2, fu2, av, ad, g2, n2, x2, z1, hl, z2, ra, hi, rfl, hz⟩
  obtain ⟨pst, pgo⟩ := pr i Hh y2 fu2 x2 g2
  by_cases hlt : i < ds.length
  · rw [List.drop_eq_getElem_cons hlt] at hz
    obtain ⟨go, hy⟩ := pgo ds[i] (List.getElem?_eq_getElem hlt)
    refine .inr ⟨go, fun H' => ∃ y2 fu2 av ad, GOk y2 H' fu2 ∧ Nx y H y2 H' ∧ Gx y1 y2 ∧ y2.g D = none ∧ H' D = some (.lst av) ∧ Nsr y2 D ∧ RpL K y2 av ad ∧ lcLoop g u we (wipeD ρ vs) P (ds.drop (i + 1)) ad fu2, ?_, fun x H3 yl => ?_⟩
    · rintro H' ⟨y', fu', av', ad', q1, q2, q3, q4, q5, q6, q7, q8⟩
      exact ⟨ds.length - (i + 1), by omega, y', fu', av', ad', q1, q2, q3, q4, q5, q6, q7, hlt, rfl, q8⟩
    · obtain ⟨y3, g3, n3, r3⟩ := hy x H3 yl
      have hh : Hh D ≠ none := by rw [hl]; simp
      have o3 : Ok K y3 H3 (L2.wipe σ vs) (wipeD ρ vs) fu2 := (o.wipe vs).next (n2.trans n3) g3
      refine rg y00 H00 x _ _ H3 y3 _ fu2 _ _ o3.st r3 hz fun σ4 ρ4 h4 s4 t4 => ⟨wipe_tch t4 hv, ?_⟩
      refine rt σ4 H3 y3 ρ4 fu2 _ _ s4.ok h4 fun b fu5 H5 y5 h5 g5 n5 => ?_
      have z5 : y5.g D = none := n5.out D (n3.here D hh) (n3.out D hh z1)
      have w3 : Nsr y3 D := z2.next n3 hh
      have w5 : Nsr y5 D := w3.next n5 (n3.here D hh)
      have l5 : H5 D = some (.lst av) := n5.frm D _ (n3.frm D _ hl w3) w5
      cases b with
      | false =>
        rw [if_neg Bool.false_ne_true] at h5 ⊢
        exact ⟨y5, fu5, av, ad, g5, (n2.trans n3).trans n5, (x2.trans n3.x).trans n5.x, z5, l5, w5, (ra.mono n3.x).mono n5.x, h5⟩
      | true =>
        rw [if_pos rfl] at h5 ⊢
        refine re σ4 H5 y5 ρ4 fu5 _ _ (s4.ok.next n5 g5) h5 fun d6 fu6 v6 H6 y6 h6 g6 n6 r6 => ?_
        have hh5 : H5 D ≠ none := by rw [l5]; simp
        have w6 : Nsr y6 D := w5.next n6 hh5
        have z6 := n6.out D hh5 z5
        have ra6 : RpL K y6 av ad := ((ra.mono n3.x).mono n5.x).mono n6.x
        refine ⟨av, n6.frm D _ l5 w6, by rw [ra6.length]; exact h6.1, y6, fu6, av ++ [v6], ad ++ [d6], g6.put z6 w6, (((n2.trans n3).trans n5).trans n6).put hD, ((x2.trans n3.x).trans n5.x).trans n6.x, z6, upd_same, w6, ra6.append (.cons r6 .nil), h6.2⟩
  · have e : i = ds.length := by omega
    subst e
    rw [List.drop_length] at hz
    exact .inl ⟨pst (Nat.le_refl _), k ad fu2 D av Hh y2 hz g2 n2 z1 hD hl z2 ra⟩

/-- the contexts of a comprehension's block -/
abbrev FB {ι : Type} (F : ι → Cx) (sc : Scope) : ι × Shared × Hp × Addr × List (Str × Addr) × List Addr → Cx := fun p => (F p.1).blk p.2.1 p.2.2.1 sc (compEnvC sc p.2.2.2.2.1 p.2.2.2.1 (F p.1).env) p.2.2.2.2.2
structure WIf {ι : Type} (F : ι → Cx) (K : PySem.W.Frag) (ifs : List Expr) (w : WT) : Prop where
  ex : ∃ t, (∀ i, PTs (F i) ifs t) ∧ RdT K t w
section
variable {ι : Type} {F : ι → Cx} {K : PySem.W.Frag} {c : Expr} {u : WT} {pos : Pos}
def wYes : WT := fun _ fu P => P true fu
theorem wf_nil : WIf F K [] wYes := ⟨_, fun _ => pts_nil, fun σ H y ρ fu P Q o hw k => k true fu H y hw o.g (Nx.refl y H)⟩
theorem wf_one (h : WTs F K c u) : WIf F K [c] u := let ⟨_, p, r⟩ := h.ex; ⟨_, fun k => pts_one (p k), r⟩
variable {elt tg iter : Expr} {ifs : List Expr} {scope : Scope} {own : List (Str × Nat)} {wi : WA} {g : WG} {we : WE} {sl : List Nat}
theorem wl_lc (hc : ∀ k, (F k).calm = true) (hN : ∀ k, (F k).N.Nodup) (hi : WI F K tg iter wi) (ok : ∀ k, BlkOk (F k).N (F k).env.scope scope own) (hg : WGt (FB F scope) K tg sl g) (ht : WIf (FB F scope) K ifs u) (he : WX (FB F scope) K elt we)
    (hv : ∀ i ∈ sl, i ∈ own.map (·.2) := by decide) (hs : ∀ k x, foldedSetIterable iter (F k).env x = pure x := by intro _ _; rfl) :
    WLs F K (.ListComp elt [⟨tg, iter, ifs, 0⟩] scope pos) (wLc wi g u we (own.map (·.2))) := by
  obtain ⟨ti, pi, ri⟩ := hi.ex
  obtain ⟨g', pg, rg⟩ := hg.ex
  obtain ⟨tt, pt, rt⟩ := ht.ex
  obtain ⟨te, pe, re⟩ := he.ex
  exact ⟨_, fun k => pe_lc (hc k) (hN k) (pi k) (ok k) (fun s H C cl fp => pg (k, s, H, C, cl, fp)) (fun s H C cl fp => pt (k, s, H, C, cl, fp)) (fun s H C cl fp => pe (k, s, H, C, cl, fp)) (hs k), rd_lc ri rg rt re hv⟩
end
section
variable {X : Cx} {elt tg iter : Expr} {ifs : List Expr} {scope : Scope} {own : List (Str × Nat)} {wi : WA} {g : WG} {we : WE} {sl : List Nat} {u : WT} {pos py spos : Pos} {x : Str} {i : Nat}
/-- x = [..], x a local: as a new list -/
theorem zt_setLcL (hc : X.calm = true) (hN : X.N.Nodup) (hy : X.N[i]? = some x) (hyl : X.env.scope.names.lookup x = some .local)
    (hsw : swapsWith (.ListComp elt [⟨tg, iter, ifs, 0⟩] scope pos) (some (.Name x py)) spos.line X.env = pure true) (hi : WI (U1 X) X.K tg iter wi) (ok : BlkOk X.N X.env.scope scope own) (hg : WGt (FB (U1 X) scope) X.K tg sl g) (ht : WIf (FB (U1 X) scope) X.K ifs u)
    (he : WX (FB (U1 X) scope) X.K elt we) (hv : ∀ i ∈ sl, i ∈ own.map (·.2) := by decide) (hs : ∀ x, foldedSetIterable iter X.env x = pure x := by intro _; rfl) :
    WSt X (.Assign [.Name x py] (.ListComp elt [⟨tg, iter, ifs, 0⟩] scope pos) spos) (zSetL i (wLc wi g u we (own.map (·.2)))) := by
  obtain ⟨ti, pi, ri⟩ := hi.ex
  obtain ⟨g', pg, rg⟩ := hg.ex
  obtain ⟨tt, pt, rt⟩ := ht.ex
  obtain ⟨te, pe, re⟩ := he.ex
  exact ⟨_, ps_setLc hc hN hy hyl hsw (pi ()) ok (fun s H C cl fp => pg ((), s, H, C, cl, fp)) (fun s H C cl fp => pt ((), s, H, C, cl, fp)) (fun s H C cl fp => pe ((), s, H, C, cl, fp)) hs, rd_setL i (rd_lc ri rg rt re hv)⟩
/-- .. as a value that stays -/
theorem zt_setLc (hc : X.calm = true) (hN : X.N.Nodup) (hy : X.N[i]? = some x) (hyl : X.env.scope.names.lookup x = some .local)
    (hsw : swapsWith (.ListComp elt [⟨tg, iter, ifs, 0⟩] scope pos) (some (.Name x py)) spos.line X.env = pure true) (hi : WI (U1 X) X.K tg iter wi) (ok : BlkOk X.N X.env.scope scope own) (hg : WGt (FB (U1 X) scope) X.K tg sl g) (ht : WIf (FB (U1 X) scope) X.K ifs u)
    (he : WX (FB (U1 X) scope) X.K elt we) (hv : ∀ i ∈ sl, i ∈ own.map (·.2) := by decide) (hs : ∀ x, foldedSetIterable iter X.env x = pure x := by intro _; rfl) :
    WSt X (.Assign [.Name x py] (.ListComp elt [⟨tg, iter, ifs, 0⟩] scope pos) spos) (zSet i (wFz (wLc wi g u we (own.map (·.2))))) := by
  obtain ⟨ti, pi, ri⟩ := hi.ex
  obtain ⟨g', pg, rg⟩ := hg.ex
  obtain ⟨tt, pt, rt⟩ := ht.ex
  obtain ⟨te, pe, re⟩ := he.ex
  exact ⟨_, ps_setLc hc hN hy hyl hsw (pi ()) ok (fun s H C cl fp => pg ((), s, H, C, cl, fp)) (fun s H C cl fp => pt ((), s, H, C, cl, fp)) (fun s H C cl fp => pe ((), s, H, C, cl, fp)) hs, rd_set i (rd_fz (rd_lc ri rg rt re hv))⟩
end
end Z
namespace Z
open PySem PySem.Spec L2
open PyProof.Rows (envOfC)

/-! ## defs -/
abbrev WF := List D → Fu → KD → Prop
/-- the def at f does what wf says, where nothing is being shown around it -/
structure FnG (P : Program) (w : World) (K : PySem.W.Frag) (mg : Str → Option Value) (base : Heap) (k : Nat) (f : Addr) (fd : FuncData) (ps : List Str) (wf : WF) : Prop where
  run : ∀ (A : Around) (outer : List Env) (s : Shared) (H : Hp) (args : Args) (us : List Value) (vs : List V) (ds : List D) (y : Gh) (fu : Fu) (Pd : KD) (Q : VK),
    Room k A → A.guards = some [] → Env0 P w K mg base A outer s H → BindsTo s fd args (ps.zip us) → Vals vs us → vs.length = ps.length → GOk y H fu → RpL K y vs ds → wf ds fu Pd →
    (∀ d fu' v H' y', Pd d fu' → GOk y' H' fu' → Nx y H y' H' → Rp K y' v d → Q v H') →
    codeAny (model P w) A (.call (.ref f) args) (CR CX0 outer P w H s Q E0) s
theorem FnG.up {P : Program} {w : World} {K : PySem.W.Frag} {mg : Str → Option Value} {base : Heap} {j k : Nat} {f : Addr} {fd : FuncData} {ps : List Str} {wf : WF} (F : FnG P w K mg base j f fd ps wf) (h : j ≤ k) : FnG P w K mg base k f fd ps wf :=
  ⟨fun A o s H args us vs ds y fu Pd Q r g e b v l go rp hw q => F.run A o s H args us vs ds y fu Pd Q (r.mono h) g e b v l go rp hw q⟩
/-- a promise that is easier to use -/
theorem FnG.as {P : Program} {w : World} {K : PySem.W.Frag} {mg : Str → Option Value} {base : Heap} {k : Nat} {f : Addr} {fd : FuncData} {ps : List Str} {wf wf' : WF} (F : FnG P w K mg base k f fd ps wf) (h : ∀ ds fu Q, wf' ds fu Q → wf ds fu Q) : FnG P w K mg base k f fd ps wf' :=
  ⟨fun A o s H args us vs ds y fu Pd Q r g e b v l go rp hw q => F.run A o s H args us vs ds y fu Pd Q r g e b v l go rp (h _ _ _ hw) q⟩

/-- the slots at a def's entry -/
def startD (N : List Str) (ds : List D) : List Sl := ds.map .va ++ List.replicate (N.length - ds.length) .un
def wFn (N : List Str) (wb : WS) : WF := fun ds fu P => wb { nx := fun _ fu' => P .non fu', rt := P, bk := fun _ _ => False, ct := fun _ _ => False } (startD N ds) fu

theorem ok_start {K : PySem.W.Frag} {y : Gh} {H : Hp} {fu : Fu} {N : List Str} {vs : List V} {ds : List D} (g : GOk y H fu) (r : RpL K y vs ds) : Ok K y H (L2.start N vs) (startD N ds) fu := by
  have hl := r.length
  have hva : ∀ (i : Nat) (z : Sl), (startD N ds)[i]? = some z → z = .un ∨ ∃ d, ds[i]? = some d ∧ z = .va d := fun i z h => by
    unfold startD at h
    by_cases hi : i < ds.length
    · rw [List.getElem?_append_left (by simpa using hi), List.getElem?_map] at h
      obtain ⟨d, hd, rfl⟩ := Option.map_eq_some_iff.mp h
      exact .inr ⟨d, hd, rfl⟩
    · rw [List.getElem?_append_right (by simp; omega), List.getElem?_replicate] at h
      split at h
      · cases h; exact .inl rfl
      · cases h
  refine ⟨g, by simp [L2.start, startD, hl], fun i d h => ?_, fun i es h => ?_, fun i j es fs a h1 h2 h3 h4 => ?_⟩
  · rcases hva i _ h with e | ⟨d', hd, e⟩
    · cases e
    · cases e
      obtain ⟨v, hv, rv⟩ := r.get hd
      refine ⟨v, ?_, rv⟩
      have hi := (List.getElem?_eq_some_iff.mp hv).1
      unfold L2.start
      rw [List.getElem?_append_left (by simpa using hi), List.getElem?_map, hv]
      rfl
  · rcases hva i _ h with e | ⟨d', hd, e⟩ <;> cases e
  · rcases hva i _ h1 with e | ⟨d', hd, e⟩ <;> cases e

section
variable {P : Program} {w : World} {K : PySem.W.Frag} {mg : Str → Option Value} {base : Heap}
/-- the context in which a def's body runs -/
abbrev cxB (P : Program) (w : World) (K : PySem.W.Frag) (mg : Str → Option Value) (base : Heap) (N : List Str) (qual : Str) (sc : Scope) (f : Addr) (cdv : Value) (A : Around) (outer : List Env) (s : Shared) (H : Hp) : Cx :=
  (cxOf CX0 P w K mg base N qual sc f cdv A outer s H E0).nox
/-- THE RULE for a def, by any reading of its body -/
theorem FnG.ofH {x qual : Str} {st : Stmt} {f : Addr} {fd : FuncData} {N ps : List Str} {k : Nat} (F : Fun K x qual st f fd) (S : FnScope N ps (defScope st)) {wf : WF}
    (hbody : ∀ (cdv : Value) (A : Around) (outer : List Env) (s : Shared) (H : Hp) (vs : List V) (ds : List D) (y : Gh) (fu : Fu) (Pd : KD) (Q : VK), Room k (A.deeper (envOfC qual (defScope st) s.heap.objs.size f cdv)) →
      (A.deeper (envOfC qual (defScope st) s.heap.objs.size f cdv)).guards = some [] → vs.length = ps.length → GOk y H fu → RpL K y vs ds → wf ds fu Pd → (∀ d fu' v H' y', Pd d fu' → GOk y' H' fu' → Nx y H y' H' → Rp K y' v d → Q v H') →
      ∃ t, PSs (cxB P w K mg base N qual (defScope st) f cdv A outer s H) (defBody st) t ∧ t { nx := fun _ H' => Q .non H', rt := Q } (L2.start N vs) H) :
    FnG P w K mg base (k + 1) f fd ps wf := by
  obtain ⟨oc, od, kV, doc, pm, an, cdv, ct, osl, rfl, lk, hcd⟩ := F.ex
  refine ⟨fun A outer s H args us vs ds y fu Pd Q hr hg e0 hb rv hl go rp hw q => ?_⟩
  have KX : K.In s.heap := e0.mod.kin.keeps fun b o e => (e0.bs b o e).1
  have lim : s.heap.NoLimit := e0.mod.nolimit.keeps fun b o e => (e0.bs b o e).1
  have kinds : ∀ z ∈ ps.zip us, (defScope st).names.lookup z.1 = some .local ∨ ((defScope st).names.lookup z.1 = some .cell ∧ ((cellsFrom (s.heap.objs.size + 1) (defScope st).names []).lookup z.1).isSome = true) := by
    rintro ⟨n, v⟩ hz
    rcases S.par n (List.of_mem_zip hz).1 with h | h
    · exact .inl h
    · exact .inr ⟨h, PySem.W.cellsFrom_some _ _ _ (.inl h)⟩
  refine codeAny_call_function hr.depth (KX _ _ lk) rfl S.co S.gen rfl (PySem.W.codeRec_of KX hcd) (hb _ _ _ _ ?_)
  refine wpAny_newFunctionEnv_cells S.kind kinds fun env he s1 x => ?_
  subst he
  refine ⟨lim.keeps x.toInCall.keep, codeAny_func ?_⟩
  have hgd : (A.deeper (envOfC qual (defScope st) s.heap.objs.size f cdv)).guards = some [] := by
    first
      | exact hg
      | (simp only [Around.deeper]; exact hg)
      | (simp [Around.deeper, hg])
  obtain ⟨t, ht, hq⟩ := hbody cdv A outer s H vs ds y fu Pd Q (hr.deeper _) hgd hl go rp hw q
  have I := inv_start (CX := CX0) (E := E0) (cd := cdv) (qual := qual) (f := f) S hr.hd e0 hl rv x
  refine wpAny_mono (ht.nox.run [] s1 (L2.start N vs) H _ I hq) (fun fl s' hs => ?_) fun e s' hs => hs
  have fin : ∀ {σ' : L2.St} {H' : Hp} {v : V} {u : Value}, Inv (cxOf CX0 P w K mg base N qual (defScope st) f cdv A outer s H E0) [] σ' H' s' → RelV v u → Q v H' → CE outer P w H s Q u s' :=
    fun J r1 r2 => ⟨_, _, J.os, J.bare, J.base, J.hok, r1, r2⟩
  cases fl with
  | ret u =>
    obtain ⟨v, σ', H', J, r1, r2⟩ := hs
    exact fin J r1 r2
  | next =>
    obtain ⟨σ', H', J, r2⟩ := hs
    exact fin (v := V.non) (u := Value.none) J rfl r2
  | brk =>
    obtain ⟨_, _, _, z⟩ := hs
    exact z.elim
  | cont =>
    obtain ⟨_, _, _, z⟩ := hs
    exact z.elim
/-- THE RULE for a def -/
theorem FnG.of {x qual : Str} {st : Stmt} {f : Addr} {fd : FuncData} {N ps : List Str} {k : Nat} (F : Fun K x qual st f fd) (S : FnScope N ps (defScope st)) {wb : WS}
    (hbody : ∀ (cdv : Value) (A : Around) (outer : List Env) (s : Shared) (H : Hp), Room k (A.deeper (envOfC qual (defScope st) s.heap.objs.size f cdv)) → (A.deeper (envOfC qual (defScope st) s.heap.objs.size f cdv)).guards = some [] →
      WSs (cxB P w K mg base N qual (defScope st) f cdv A outer s H) (defBody st) wb) :
    FnG P w K mg base (k + 1) f fd ps (wFn N wb) := by
  refine FnG.ofH F S fun cdv A outer s H vs ds y fu Pd Q hr hgd hl go rp hw q => ?_
  obtain ⟨t, ht, rd⟩ := (hbody cdv A outer s H hr hgd).ex
  refine ⟨t, ht, rd y H (L2.start N vs) H y (startD N ds) fu _ _ ⟨ok_start go rp, Nx.refl y H, fun i es a h1 _ => by
      unfold startD at h1
      by_cases hi : i < ds.length
      · rw [List.getElem?_append_left (by simpa using hi), List.getElem?_map] at h1
        obtain ⟨d, _, e⟩ := Option.map_eq_some_iff.mp h1
        cases e
      · rw [List.getElem?_append_right (by simp; omega), List.getElem?_replicate] at h1
        split at h1 <;> cases h1⟩ hw
    ⟨fun σ' ρ' fu' H' y' h s' => q .non fu' .non H' y' h s'.ok.g s'.nx .non, fun d fu' v H' y' h g' n' r' => q d fu' v H' y' h g' n' r', fun _ _ _ _ _ h _ => h.elim, fun _ _ _ _ _ h _ => h.elim⟩⟩
end

/-! ## calls of defs -/
section
variable {ι : Type} {F : ι → Cx} {K : PySem.W.Frag} {k : Nat} {f : Addr} {fd : FuncData} {ps ks : List Str} {wf : WF} {x : Str} {p pos : Pos} {e : Expr} {es : List Expr} {kws : List Keyword} {v vk : WA}
theorem run_g {X : Cx} {pins : List (Addr × Obj)} {σ : L2.St} {H : Hp} {s : Shared} {Q : VK} {args : Args} {us : List Value} {vs : List V} {ds : List D} {y : Gh} {fu : Fu} {Pd : KD}
    (G : FnG X.prog X.w X.K X.mg X.base k f fd ps wf) (hr : Room k X.A) (hgd : X.A.guards = some []) (I : Inv X pins σ H s) (hb : BindsTo s fd args (ps.zip us)) (r : Vals vs us) (hl : vs.length = ps.length) (go : GOk y H fu) (rp : RpL X.K y vs ds) (hw : wf ds fu Pd)
    (q : ∀ d fu' v H' y', Pd d fu' → GOk y' H' fu' → Nx y H y' H' → Rp X.K y' v d → Q v H') : wpAny (model X.prog X.w) X.A (call (.ref f) args.pos args.kw) (EP X pins σ Q) X.xe s := by
  refine wpAny_call (codeAny_mono (G.run X.A X.stack s H args us vs ds y fu Pd Q hr hgd I.env0 hb r hl go rp hw q) fun res s' hq => ?_)
  cases res with
  | error e => exact False.elim hq
  | ok fl =>
    cases fl with
    | ret u => exact I.after hq
    | next => exact False.elim hq
    | brk => exact False.elim hq
    | cont => exact False.elim hq
end

/-- what all contexts of a family share -/
structure Cxs {ι : Type} (F : ι → Cx) (P : Program) (w : World) (K : PySem.W.Frag) (mg : Str → Option Value) (base : Heap) (k : Nat) : Prop where
  prog : ∀ i, (F i).prog = P
  w : ∀ i, (F i).w = w
  K : ∀ i, (F i).K = K
  mg : ∀ i, (F i).mg = mg
  base : ∀ i, (F i).base = base
  calm : ∀ i, (F i).calm = true
  room : ∀ i, Room k (F i).A
  grd : ∀ i, (F i).A.guards = some []
theorem Cxs.blk {ι : Type} {F : ι → Cx} {P : Program} {w : World} {K : PySem.W.Frag} {mg : Str → Option Value} {base : Heap} {k : Nat} (C : Cxs F P w K mg base k) (sc : Scope) : Cxs (FB F sc) P w K mg base k :=
  ⟨fun i => C.prog i.1, fun i => C.w i.1, fun i => C.K i.1, fun i => C.mg i.1, fun i => C.base i.1, fun i => C.calm i.1, fun i => C.room i.1, fun i => C.grd i.1⟩

def wCall (n : Nat) (wf : WF) (v : WA) : WE := fun ρ fu P => v ρ fu fun ds fu' => ds.length = n ∧ wf ds fu' P
def tG (K : PySem.W.Frag) (n : Nat) (wf : WF) (t : TA) : TE := fun σ H Q => t σ H fun vs H1 => ∃ y ds fu Pd, vs.length = n ∧ GOk y H1 fu ∧ RpL K y vs ds ∧ wf ds fu Pd ∧ ∀ d fu' v H' y', Pd d fu' → GOk y' H' fu' → Nx y H1 y' H' → Rp K y' v d → Q v H'
theorem rd_call {K : PySem.W.Frag} {n : Nat} {wf : WF} {t : TA} {v : WA} (r : RdA K t v) : RdE K (tG K n wf t) (wCall n wf v) := fun σ H y ρ fu P Q o hw q => by
  refine r σ H y ρ fu _ _ o hw fun ds fu' vs H' y' h' g' n' r' => ?_
  exact ⟨y', ds, fu', P, r'.length.trans h'.1, g', r', h'.2, fun d fu2 v2 H2 y2 h2 g2 n2 r2 => q d fu2 v2 H2 y2 h2 g2 (n'.trans n2) r2⟩
theorem pe_g {X : Cx} {P : Program} {w : World} {K : PySem.W.Frag} {mg : Str → Option Value} {base : Heap} {k j : Nat} {f : Addr} {fd : FuncData} {ps : List Str} {wf : WF} {x : Str} {p pos : Pos} {e : Expr} {es : List Expr} {t : TA}
    (h1 : X.prog = P) (h2 : X.w = w) (h3 : X.K = K) (h4 : X.mg = mg) (h5 : X.base = base) (hr : Room k X.A) (hgd : X.A.guards = some [])
    (G : FnG P w K mg base j f fd ps wf) (hj : j ≤ k) (hg : Gl X x) (hm : mg x = some (.ref f)) (hk : PySem.W.keepIn K (.ref f) = true) (hb : Binds K fd ps []) (ha : PA X (e :: es) t) (hdb : (x == ("__debug__" : Str)) = false)
    (he : starEach (e :: es) X.env = (false, eval e X.env) :: starEach es X.env) (hpl : (backTo pos (starEach es X.env)).any (·.1) = false) : PE X (.Call (.Name x p) (e :: es) [] pos) (tG K ps.length wf t) := by
  subst h1 h2 h3 h4 h5
  refine ⟨fun pins s σ H Q I h => ?_⟩
  refine wpAny_Call_Name_kw (ld_glob I hg hm ?_ hdb)
  refine PySem.W.callWith_K (h₀ := X.base) I.ok.mod.kin hk (thn (ha.run pos pins s σ H _ I h) fun us s1 hh => ?_) he hpl
  obtain ⟨vs, H1, I1, r, y, ds, fu, Pd, hl, go, rp, hw, q⟩ := hh
  refine ⟨I1.kIn, ?_⟩
  have hb' := hb s1 us I1.kIn (by rw [List.append_nil, ← r.length]; exact hl)
  rw [List.append_nil] at hb'
  exact run_g (args := ⟨us, []⟩) G (hr.mono hj) hgd I1 hb' r hl go rp hw q
theorem pe_g0 {X : Cx} {P : Program} {w : World} {K : PySem.W.Frag} {mg : Str → Option Value} {base : Heap} {k j : Nat} {f : Addr} {fd : FuncData} {wf : WF} {x : Str} {p pos : Pos}
    (h1 : X.prog = P) (h2 : X.w = w) (h3 : X.K = K) (h4 : X.mg = mg) (h5 : X.base = base) (hr : Room k X.A) (hgd : X.A.guards = some [])
    (G : FnG P w K mg base j f fd [] wf) (hj : j ≤ k) (hg : Gl X x) (hm : mg x = some (.ref f)) (hk : PySem.W.keepIn K (.ref f) = true) (hb : Binds K fd [] []) (hdb : (x == ("__debug__" : Str)) = false) : PE X (.Call (.Name x p) [] [] pos) (tG K 0 wf tNil) := by
  subst h1 h2 h3 h4 h5
  refine ⟨fun pins s σ H Q I h => ?_⟩
  refine wpAny_Call_Name_kw (ld_glob I hg hm ?_ hdb)
  obtain ⟨y, ds, fu, Pd, hl, go, rp, hw, q⟩ := h
  have hb' := hb s [] I.kIn rfl
  exact PySem.W.callWith_K0 I.kIn hk (run_g (args := ⟨[], []⟩) G (hr.mono hj) hgd I hb' .nil rfl go rp hw q)

/-! ### with keywords -/
def pick {α : Type} (perm : List Nat) (l : List α) : List α := perm.filterMap fun i => l[i]?
theorem Vals.pick {vs : List V} {us : List Value} (r : Vals vs us) : ∀ perm : List Nat, Vals (pick perm vs) (pick perm us)
  | [] => .nil
  | i :: perm => by
    have ih := Vals.pick r perm
    unfold Z.pick at ih ⊢
    rw [List.filterMap_cons, List.filterMap_cons]
    cases e : vs[i]? with
    | none => rw [L2.Vals.none_of r e]; exact ih
    | some v =>
      obtain ⟨u, hu, ru⟩ := L2.Vals.get r e
      rw [hu]
      exact .cons ru ih
theorem RpL.none_of {K : PySem.W.Frag} {y : Gh} {vs : List V} {ds : List D} {i : Nat} (r : RpL K y vs ds) (h : vs[i]? = none) : ds[i]? = none := by
  rw [List.getElem?_eq_none_iff] at h ⊢
  rw [← r.length]; exact h
theorem RpL.pick {K : PySem.W.Frag} {y : Gh} {vs : List V} {ds : List D} (r : RpL K y vs ds) : ∀ perm : List Nat, RpL K y (pick perm vs) (pick perm ds)
  | [] => .nil
  | i :: perm => by
    have ih := RpL.pick r perm
    unfold Z.pick at ih ⊢
    rw [List.filterMap_cons, List.filterMap_cons]
    cases e : vs[i]? with
    | none => rw [r.none_of e]; exact ih
    | some v =>
      obtain ⟨d, hd, rd⟩ := r.getV e
      rw [hd]
      exact .cons rd ih
structure WKs {ι : Type} (F : ι → Cx) (K : PySem.W.Frag) (kws : List Keyword) (w : WA) : Prop where
  ex : ∃ t, (∀ i, PK (F i) kws t) ∧ RdA K t w
theorem wk_nil {ι : Type} {F : ι → Cx} {K : PySem.W.Frag} : WKs F K [] wNil := ⟨_, fun _ => pk_nil, fun σ H y ρ fu P Q o hw k => k [] fu [] H y hw o.g (Nx.refl y H) .nil⟩
theorem wk_cons {ι : Type} {F : ι → Cx} {K : PySem.W.Frag} {e : Expr} {kws : List Keyword} {wa : WE} {v : WA} {nm : Option Str} {kpos : Pos} (ha : WX F K e wa) (hr : WKs F K kws v) : WKs F K (⟨nm, e, kpos⟩ :: kws) (wCons wa v) := by
  obtain ⟨ta, pa, ra⟩ := ha.ex
  obtain ⟨tr, pr, rr⟩ := hr.ex
  exact ⟨_, fun k => pk_cons (pa k) (pr k), rd_cons ra rr⟩
def wCallK (n m l : Nat) (perm : List Nat) (wf : WF) (v vk : WA) : WE := fun ρ fu P => v ρ fu fun ds fu' => vk ρ fu' fun es fu'' => ds.length = m ∧ es.length = l ∧ (pick perm (ds ++ es)).length = n ∧ wf (pick perm (ds ++ es)) fu'' P
def tGK (K : PySem.W.Frag) (n m l : Nat) (perm : List Nat) (wf : WF) (t tk : TA) : TE := fun σ H Q => t σ H fun vs H1 => tk σ H1 fun zs H2 => ∃ y ds fu Pd, vs.length = m ∧ zs.length = l ∧ (pick perm (vs ++ zs)).length = n ∧ GOk y H2 fu ∧ RpL K y (pick perm (vs ++ zs)) ds ∧ wf ds fu Pd ∧
  ∀ d fu' v H' y', Pd d fu' → GOk y' H' fu' → Nx y H2 y' H' → Rp K y' v d → Q v H'
/-- how f(.., k = ..) binds: perm, the places among the positional and then the keywords' values -/
def KPerm (K : PySem.W.Frag) (fd : FuncData) (ps ks : List Str) (m : Nat) (perm : List Nat) : Prop := ∀ (s : Shared) (us ws : List Value), K.In s.heap → us.length = m → ws.length = ks.length → BindsTo s fd ⟨us, ks.zip ws⟩ (ps.zip (pick perm (us ++ ws)))
section
variable {P : Program} {w : World} {K : PySem.W.Frag} {mg : Str → Option Value} {base : Heap} {k j m : Nat} {f : Addr} {fd : FuncData} {ps ks : List Str} {wf : WF} {x : Str} {p pos : Pos} {e : Expr} {es : List Expr} {kws : List Keyword} {perm : List Nat}
theorem pe_gK {X : Cx} {t tk : TA} (h1 : X.prog = P) (h2 : X.w = w) (h3 : X.K = K) (h4 : X.mg = mg) (h5 : X.base = base) (hr : Room k X.A) (hgd : X.A.guards = some [])
    (G : FnG P w K mg base j f fd ps wf) (hj : j ≤ k) (hg : Gl X x) (hm : mg x = some (.ref f)) (hk : PySem.W.keepIn K (.ref f) = true) (hb : KPerm K fd ps ks m perm) (ha : PA X (e :: es) t) (hkw : PK X kws tk) (hdb : (x == ("__debug__" : Str)) = false)
    (hall : (backToKw pos (keywordEach kws X.env)).all (·.1.isSome) = true) (hks : (backToKw pos (keywordEach kws X.env)).filterMap (·.1) = ks)
    (he : starEach (e :: es) X.env = (false, eval e X.env) :: starEach es X.env) (hpl : ((backTo pos (starEach (e :: es) X.env)).any (·.1) || (backToKw pos (keywordEach kws X.env)).any (·.1.isNone)) = false) :
    PE X (.Call (.Name x p) (e :: es) kws pos) (tGK K ps.length m ks.length perm wf t tk) := by
  subst h1 h2 h3 h4 h5
  refine ⟨fun pins s σ H Q I h => ?_⟩
  refine wpAny_Call_Name_kw (ld_glob I hg hm ?_ hdb)
  refine PySem.W.callWith_KW (h₀ := X.base) I.ok.mod.kin hk hall (thn (ha.run pos pins s σ H _ I h) fun us s1 hh => ?_) hpl he
  obtain ⟨vs, H1, I1, r, q1⟩ := hh
  refine thn (hkw.run pos pins s1 σ H1 _ I1 q1) fun ws s2 hh => ?_
  obtain ⟨zs, H2, I2, rz, y, ds, fu, Pd, lm, lz, hl, go, rp, hw, q⟩ := hh
  refine ⟨I2.kIn, ?_⟩
  rw [hks]
  have hb' := hb s2 us ws I2.kIn (by rw [← r.length]; exact lm) (by rw [← rz.length]; exact lz)
  exact run_g (args := ⟨us, ks.zip ws⟩) G (hr.mono hj) hgd I2 hb' (Vals.pick (r.append rz) perm) hl go rp hw q
theorem pe_gK0 {X : Cx} {tk : TA} (h1 : X.prog = P) (h2 : X.w = w) (h3 : X.K = K) (h4 : X.mg = mg) (h5 : X.base = base) (hr : Room k X.A) (hgd : X.A.guards = some [])
    (G : FnG P w K mg base j f fd ps wf) (hj : j ≤ k) (hg : Gl X x) (hm : mg x = some (.ref f)) (hk : PySem.W.keepIn K (.ref f) = true) (hb : KPerm K fd ps ks 0 perm) (hkw : PK X kws tk) (hdb : (x == ("__debug__" : Str)) = false)
    (hall : (backToKw pos (keywordEach kws X.env)).all (·.1.isSome) = true) (hks : (backToKw pos (keywordEach kws X.env)).filterMap (·.1) = ks)
    (hpl : ((backTo pos (starEach [] X.env)).any (·.1) || (backToKw pos (keywordEach kws X.env)).any (·.1.isNone)) = false) :
    PE X (.Call (.Name x p) [] kws pos) (tGK K ps.length 0 ks.length perm wf tNil tk) := by
  subst h1 h2 h3 h4 h5
  refine ⟨fun pins s σ H Q I h => ?_⟩
  refine wpAny_Call_Name_kw (ld_glob I hg hm ?_ hdb)
  refine PySem.W.callWith_KW0 (h₀ := X.base) I.ok.mod.kin hk hall (thn (hkw.run pos pins s σ H _ I h) fun ws s2 hh => ?_) hpl
  obtain ⟨zs, H2, I2, rz, y, ds, fu, Pd, lm, lz, hl, go, rp, hw, q⟩ := hh
  refine ⟨I2.kIn, ?_⟩
  rw [hks]
  have hb' := hb s2 [] ws I2.kIn rfl (by rw [← rz.length]; exact lz)
  exact run_g (args := ⟨[], ks.zip ws⟩) G (hr.mono hj) hgd I2 hb' (Vals.pick rz perm) hl go rp hw q
end
/-! ## the calls, for families -/
section
variable {ι : Type} {F : ι → Cx} {P : Program} {w : World} {K : PySem.W.Frag} {mg : Str → Option Value} {base : Heap} {k j m : Nat} {f : Addr} {fd : FuncData} {ps ks : List Str} {wf : WF} {x : Str} {p pos : Pos} {e : Expr} {es : List Expr} {kws : List Keyword} {perm : List Nat} {v vk : WA} {wa : WE}
/-- what is known of a def that is called -/
structure Dn (P : Program) (w : World) (K : PySem.W.Frag) (mg : Str → Option Value) (base : Heap) (j : Nat) (x : Str) (f : Addr) (fd : FuncData) (ps : List Str) (wf : WF) : Prop where
  ok : FnG P w K mg base j f fd ps wf
  mg : mg x = some (.ref f)
  kp : PySem.W.keepIn K (.ref f) = true
  bd : Binds K fd ps []
theorem wx_call (C : Cxs F P w K mg base k) (G : Dn P w K mg base j x f fd ps wf) (ha : WX F K e wa) (hr : WAs F K es v) (hj : j ≤ k := by decide) (hg : ∀ i, Gl (F i) x := by intro _; rfl) (hdb : (x == ("__debug__" : Str)) = false := by decide)
    (hs : ∀ i, starEach (e :: es) (F i).env = (false, eval e (F i).env) :: starEach es (F i).env := by intro _; rfl) (hpl : ∀ i, (backTo pos (starEach es (F i).env)).any (·.1) = false := by intro _; rfl) :
    WX F K (.Call (.Name x p) (e :: es) [] pos) (wCall ps.length wf (wCons wa v)) := by
  obtain ⟨t, q, r⟩ := (wa_cons ha hr hs).ex
  exact ⟨_, fun i => pe_g (C.prog i) (C.w i) (C.K i) (C.mg i) (C.base i) (C.room i) (C.grd i) G.ok hj (hg i) G.mg G.kp G.bd (q i) hdb (hs i) (hpl i), rd_call r⟩
theorem wx_call0 (C : Cxs F P w K mg base k) (G : Dn P w K mg base j x f fd [] wf) (hj : j ≤ k := by decide) (hg : ∀ i, Gl (F i) x := by intro _; rfl) (hdb : (x == ("__debug__" : Str)) = false := by decide) : WX F K (.Call (.Name x p) [] [] pos) (wCall 0 wf wNil) := by
  obtain ⟨t, q, r⟩ := (wa_nil (F := F) (K := K)).ex
  exact ⟨_, fun i => pe_g0 (C.prog i) (C.w i) (C.K i) (C.mg i) (C.base i) (C.room i) (C.grd i) G.ok hj (hg i) G.mg G.kp G.bd hdb, rd_call (fun σ H y ρ fu P Q o hw k => k [] fu [] H y hw o.g (Nx.refl y H) .nil)⟩
theorem rd_callK {n l : Nat} {t tk : TA} (r : RdA K t v) (rk : RdA K tk vk) : RdE K (tGK K n m l perm wf t tk) (wCallK n m l perm wf v vk) := fun σ H y ρ fu P Q o hw q => by
  refine r σ H y ρ fu _ _ o hw fun ds fu1 vs H1 y1 h1 g1 n1 r1 => ?_
  refine rk σ H1 y1 ρ fu1 _ _ (o.next n1 g1) h1 fun es fu2 zs H2 y2 h2 g2 n2 r2 => ?_
  obtain ⟨l1, l2, l3, hw⟩ := h2
  have rr := RpL.pick ((r1.mono n2.x).append r2) perm
  exact ⟨y2, _, fu2, P, r1.length.trans l1, r2.length.trans l2, rr.length.trans l3, g2, rr, hw, fun d fu3 v3 H3 y3 h3 g3 n3 r3 => q d fu3 v3 H3 y3 h3 g3 ((n1.trans n2).trans n3) r3⟩
theorem wx_callK (C : Cxs F P w K mg base k) (G : Dn P w K mg base j x f fd ps wf) (ha : WX F K e wa) (hr : WAs F K es v) (hkw : WKs F K kws vk) (hb : KPerm K fd ps ks m perm) (hj : j ≤ k := by decide) (hg : ∀ i, Gl (F i) x := by intro _; rfl)
    (hdb : (x == ("__debug__" : Str)) = false := by decide) (hs : ∀ i, starEach (e :: es) (F i).env = (false, eval e (F i).env) :: starEach es (F i).env := by intro _; rfl)
    (hall : ∀ i, (backToKw pos (keywordEach kws (F i).env)).all (·.1.isSome) = true := by intro _; rfl) (hks : ∀ i, (backToKw pos (keywordEach kws (F i).env)).filterMap (·.1) = ks := by intro _; rfl)
    (hpl : ∀ i, ((backTo pos (starEach (e :: es) (F i).env)).any (·.1) || (backToKw pos (keywordEach kws (F i).env)).any (·.1.isNone)) = false := by intro _; rfl) :
    WX F K (.Call (.Name x p) (e :: es) kws pos) (wCallK ps.length m ks.length perm wf (wCons wa v) vk) := by
  obtain ⟨t, q, r⟩ := (wa_cons ha hr hs).ex
  obtain ⟨tk, qk, rk⟩ := hkw.ex
  exact ⟨_, fun i => pe_gK (C.prog i) (C.w i) (C.K i) (C.mg i) (C.base i) (C.room i) (C.grd i) G.ok hj (hg i) G.mg G.kp hb (q i) (qk i) hdb (hall i) (hks i) (hs i) (hpl i), rd_callK r rk⟩
theorem wx_callK0 (C : Cxs F P w K mg base k) (G : Dn P w K mg base j x f fd ps wf) (hkw : WKs F K kws vk) (hb : KPerm K fd ps ks 0 perm) (hj : j ≤ k := by decide) (hg : ∀ i, Gl (F i) x := by intro _; rfl)
    (hdb : (x == ("__debug__" : Str)) = false := by decide) (hall : ∀ i, (backToKw pos (keywordEach kws (F i).env)).all (·.1.isSome) = true := by intro _; rfl) (hks : ∀ i, (backToKw pos (keywordEach kws (F i).env)).filterMap (·.1) = ks := by intro _; rfl)
    (hpl : ∀ i, ((backTo pos (starEach [] (F i).env)).any (·.1) || (backToKw pos (keywordEach kws (F i).env)).any (·.1.isNone)) = false := by intro _; rfl) :
    WX F K (.Call (.Name x p) [] kws pos) (wCallK ps.length 0 ks.length perm wf wNil vk) := by
  obtain ⟨tk, qk, rk⟩ := hkw.ex
  exact ⟨_, fun i => pe_gK0 (C.prog i) (C.w i) (C.K i) (C.mg i) (C.base i) (C.room i) (C.grd i) G.ok hj (hg i) G.mg G.kp hb (qk i) hdb (hall i) (hks i) (hpl i), rd_callK (fun σ H y ρ fu P Q o hw k => k [] fu [] H y hw o.g (Nx.refl y H) .nil) rk⟩
end
end Z
namespace Z
open PySem PySem.Spec L2

/-! ## data as the model's data -/
mutual
def py : D → PyData
  | .non => .none
  | .bl b => .bool b
  | .int i => .int i
  | .str s => .str s
  | .tup l => .tuple (pyL l)
  | .lst l => .list (pyL l)
  | .dic l => .dict (pyK l)
  | .src => .none
  | .scr => .none
def pyL : List D → List PyData
  | [] => []
  | d :: l => py d :: pyL l
def pyK : List (Str × D) → List (PyData × PyData)
  | [] => []
  | (k, d) :: l => (.str k, py d) :: pyK l
end
mutual
/-- no dict, no source within -/
def plain : D → Bool
  | .non => true
  | .bl _ => true
  | .int _ => true
  | .str _ => true
  | .tup l => plainL l
  | .lst l => plainL l
  | .dic _ => false
  | .src => false
  | .scr => false
def plainL : List D → Bool
  | [] => true
  | d :: l => plain d && plainL l
end
section
variable {K : PySem.W.Frag} {y : Gh} {H : Hp}
mutual
theorem Rp.dp (hs : Sub y.g H) : ∀ {v : V} {d : D}, Rp K y v d → plain d = true → Dp K H v (py d)
  | _, _, .non, _ => by unfold py; exact .non
  | _, _, .bl b, _ => by unfold py; exact .bl b
  | _, _, .int b, _ => by unfold py; exact .int b
  | _, _, .str b, _ => by unfold py; exact .str b
  | _, _, .tup h k, p => by
    unfold py
    unfold plain at p
    exact .tup (sqT_same hs h) (RpL.dp hs k p)
  | _, _, .lst h k, p => by
    unfold py
    unfold plain at p
    exact .lst (.inl (.inl (hs _ _ h))) (RpL.dp hs k p)
  | _, _, .dic h k, p => by unfold plain at p; cases p
  | _, _, .src h, p => by unfold plain at p; cases p
  | _, _, .scr h k, p => by unfold plain at p; cases p
theorem RpL.dp (hs : Sub y.g H) : ∀ {vs : List V} {ds : List D}, RpL K y vs ds → plainL ds = true → DpAll K H vs (pyL ds)
  | _, _, .nil, _ => by unfold pyL; exact .nil
  | _, _, .cons h k, p => by
    unfold pyL
    unfold plainL at p
    rw [Bool.and_eq_true] at p
    exact .cons (Rp.dp hs h p.1) (RpL.dp hs k p.2)
end
end

/-! ## == -/
/-- scalars that == compares as data -/
def scalD : D → D → Bool
  | .non, .non => true | .non, .int _ => true | .int _, .non => true | .non, .bl _ => true | .bl _, .non => true | .non, .str _ => true | .str _, .non => true
  | .int _, .int _ => true | .bl _, .bl _ => true | .str _, .str _ => true | .int _, .str _ => true | .str _, .int _ => true | .bl _, .str _ => true | .str _, .bl _ => true
  | _, _ => false
def deq (a b : D) : Bool := PyData.eqv (py a) (py b)
def eqOk (a b : D) : Bool := scalD a b || (plain a && plain b && SeqAt.shaped (py a) && SeqAt.shaped (py b))
def dEq (a b : D) : Option D := if eqOk a b = true then some (.bl (deq a b)) else none
def dNe (a b : D) : Option D := if eqOk a b = true then some (.bl (!deq a b)) else none
theorem scal_deq {K : PySem.W.Frag} {y : Gh} {v u : V} {a b : D} (r : Rp K y v a) (q : Rp K y u b) (h : scalD a b = true) : scal v u = true ∧ decide (v = u) = deq a b := by
  cases a <;> cases b <;> first
    | (cases (show false = true from h); done)
    | (cases r; cases q; exact ⟨rfl, dec_int⟩)
    | (cases r; cases q; exact ⟨rfl, dec_bl⟩)
    | (cases r; cases q; exact ⟨rfl, dec_str⟩)
    | (cases r; cases q; exact ⟨rfl, by simp [deq, py, PyData.eqv]⟩)
abbrev rEqA (K : PySem.W.Frag) : R2 := fun x y H Q => rEq x y H Q ∨ rEqD K x y H Q
abbrev rNeA (K : PySem.W.Frag) : R2 := fun x y H Q => rNe x y H Q ∨ rNeD K x y H Q
theorem opd_eq {K : PySem.W.Frag} : OpD K (rEqA K) dEq := fun H y fu x z p q d Q g rx rz hf k => by
  unfold dEq at hf
  split at hf
  · rename_i ho
    cases hf
    unfold eqOk at ho
    rw [Bool.or_eq_true] at ho
    rcases ho with ho | ho
    · obtain ⟨h1, h2⟩ := scal_deq rx rz ho
      exact .inl ⟨h1, by rw [h2]; exact k _ H y g (Nx.refl y H) (.bl _)⟩
    · simp only [Bool.and_eq_true] at ho
      obtain ⟨⟨⟨h1, h2⟩, h3⟩, h4⟩ := ho
      exact .inr ⟨_, _, rx.dp g.sub h1, rz.dp g.sub h2, h3, h4, k _ H y g (Nx.refl y H) (.bl _)⟩
  · cases hf
theorem opd_ne {K : PySem.W.Frag} : OpD K (rNeA K) dNe := fun H y fu x z p q d Q g rx rz hf k => by
  unfold dNe at hf
  split at hf
  · rename_i ho
    cases hf
    unfold eqOk at ho
    rw [Bool.or_eq_true] at ho
    rcases ho with ho | ho
    · obtain ⟨h1, h2⟩ := scal_deq rx rz ho
      exact .inl ⟨h1, by rw [h2]; exact k _ H y g (Nx.refl y H) (.bl _)⟩
    · simp only [Bool.and_eq_true] at ho
      obtain ⟨⟨⟨h1, h2⟩, h3⟩, h4⟩ := ho
      exact .inr ⟨_, _, rx.dp g.sub h1, rz.dp g.sub h2, h3, h4, k _ H y g (Nx.refl y H) (.bl _)⟩
  · cases hf

/-! ## is None, order -/
def dIsN : D → D → Option D
  | .non, .non => some (.bl true)
  | _, .non => some (.bl false)
  | _, _ => none
def dNotN : D → D → Option D
  | .non, .non => some (.bl false)
  | _, .non => some (.bl true)
  | _, _ => none
theorem opd_isN {K : PySem.W.Frag} : OpD K (fun x y H Q => y = .non ∧ Q (.bl (decide (x = .non))) H) dIsN := fun H y fu x z p q d Q g rx rz hf k => by
  cases q <;> first
    | (cases p <;> first | (cases hf; done) | (cases hf; cases rz; cases rx; exact ⟨rfl, k _ H y g (Nx.refl y H) (.bl _)⟩))
    | (cases p <;> cases hf)
theorem opd_notN {K : PySem.W.Frag} : OpD K (fun x y H Q => y = .non ∧ Q (.bl (!decide (x = .non))) H) dNotN := fun H y fu x z p q d Q g rx rz hf k => by
  cases q <;> first
    | (cases p <;> first | (cases hf; done) | (cases hf; cases rz; cases rx; exact ⟨rfl, k _ H y g (Nx.refl y H) (.bl _)⟩))
    | (cases p <;> cases hf)
/-- texts by code points -/
def sLt (a b : Str) : Bool := decide (a.cps.toList < b.cps.toList)
def dLt : D → D → Option D
  | .int i, .int j => some (.bl (decide (i < j)))
  | .str a, .str b => some (.bl (sLt a b))
  | _, _ => none
def dLe : D → D → Option D
  | .int i, .int j => some (.bl (decide (i ≤ j)))
  | .str a, .str b => some (.bl (!sLt b a))
  | _, _ => none
def dGt : D → D → Option D
  | .int i, .int j => some (.bl (decide (j < i)))
  | .str a, .str b => some (.bl (sLt b a))
  | _, _ => none
def dGe : D → D → Option D
  | .int i, .int j => some (.bl (decide (j ≤ i)))
  | .str a, .str b => some (.bl (!sLt a b))
  | _, _ => none
abbrev rOrd (f : Int → Int → Bool) (g : Str → Str → Bool) : R2 := fun x y H Q => rI0 (fun i j => .bl (f i j)) x y H Q ∨ ∃ i j, x = .str i ∧ y = .str j ∧ Q (.bl (g i j)) H
theorem opd_ord {K : PySem.W.Frag} {f : Int → Int → Bool} {g : Str → Str → Bool} {F : D → D → Option D} (hi : ∀ i j, F (.int i) (.int j) = some (.bl (f i j))) (hs : ∀ i j, F (.str i) (.str j) = some (.bl (g i j)))
    (hn : ∀ a b, (∃ d, F a b = some d) → (∃ i j, a = .int i ∧ b = .int j) ∨ ∃ i j, a = .str i ∧ b = .str j) : OpD K (rOrd f g) F := fun H y fu x z p q d Q gk rx rz hf k => by
  rcases hn p q ⟨d, hf⟩ with ⟨i, j, rfl, rfl⟩ | ⟨i, j, rfl, rfl⟩
  · rw [hi] at hf
    cases hf; cases rx; cases rz
    exact .inl ⟨i, j, rfl, rfl, k _ H y gk (Nx.refl y H) (.bl _)⟩
  · rw [hs] at hf
    cases hf; cases rx; cases rz
    exact .inr ⟨i, j, rfl, rfl, k _ H y gk (Nx.refl y H) (.bl _)⟩
theorem ord_cases {F : D → D → Option D} (h : ∀ a b d, F a b = some d → (∃ i j, a = .int i ∧ b = .int j) ∨ ∃ i j, a = .str i ∧ b = .str j) : ∀ a b, (∃ d, F a b = some d) → (∃ i j, a = .int i ∧ b = .int j) ∨ ∃ i j, a = .str i ∧ b = .str j :=
  fun a b ⟨d, e⟩ => h a b d e
theorem opd_lt {K : PySem.W.Frag} : OpD K (rOrd (fun i j => decide (i < j)) sLt) dLt := opd_ord (fun _ _ => rfl) (fun _ _ => rfl) (ord_cases fun a b d h => by
  cases a <;> cases b <;> first | (cases h; done) | exact .inl ⟨_, _, rfl, rfl⟩ | exact .inr ⟨_, _, rfl, rfl⟩)
theorem opd_le {K : PySem.W.Frag} : OpD K (rOrd (fun i j => decide (i ≤ j)) fun a b => !sLt b a) dLe := opd_ord (fun _ _ => rfl) (fun _ _ => rfl) (ord_cases fun a b d h => by
  cases a <;> cases b <;> first | (cases h; done) | exact .inl ⟨_, _, rfl, rfl⟩ | exact .inr ⟨_, _, rfl, rfl⟩)
theorem opd_gt {K : PySem.W.Frag} : OpD K (rOrd (fun i j => decide (j < i)) fun a b => sLt b a) dGt := opd_ord (fun _ _ => rfl) (fun _ _ => rfl) (ord_cases fun a b d h => by
  cases a <;> cases b <;> first | (cases h; done) | exact .inl ⟨_, _, rfl, rfl⟩ | exact .inr ⟨_, _, rfl, rfl⟩)
theorem opd_ge {K : PySem.W.Frag} : OpD K (rOrd (fun i j => decide (j ≤ i)) fun a b => !sLt a b) dGe := opd_ord (fun _ _ => rfl) (fun _ _ => rfl) (ord_cases fun a b d h => by
  cases a <;> cases b <;> first | (cases h; done) | exact .inl ⟨_, _, rfl, rfl⟩ | exact .inr ⟨_, _, rfl, rfl⟩)
theorem opr_lt {X : Cx} : OpR X (compareOp .Lt) (rOrd (fun i j => decide (i < j)) sLt) := op_lt.or op_lt_str
theorem opr_le {X : Cx} : OpR X (compareOp .LtE) (rOrd (fun i j => decide (i ≤ j)) fun a b => !sLt b a) := op_le.or op_le_str
theorem opr_gt {X : Cx} : OpR X (compareOp .Gt) (rOrd (fun i j => decide (j < i)) fun a b => sLt b a) := op_gt.or op_gt_str
theorem opr_ge {X : Cx} : OpR X (compareOp .GtE) (rOrd (fun i j => decide (j ≤ i)) fun a b => !sLt a b) := op_ge.or op_ge_str

/-! ## + - * // % -/
def dAdd : D → D → Option D
  | .int i, .int j => some (.int (i + j))
  | .str a, .str b => if a.length + b.length ≤ sizeLine then some (.str (a ++ b)) else none
  | .tup a, .tup b => if a.length + b.length ≤ sizeLine then some (.tup (a ++ b)) else none
  | .lst a, .lst b => if a.length + b.length ≤ sizeLine then some (.lst (a ++ b)) else none
  | _, _ => none
abbrev rAdd (K : PySem.W.Frag) : R2 := fun x y H Q => rI0 (fun i j => .int (i + j)) x y H Q ∨ (∃ i j, x = .str i ∧ y = .str j ∧ i.length + j.length ≤ sizeLine ∧ Q (.str (i ++ j)) H) ∨ rCatA K x y H Q ∨ rCat x y H Q
theorem opr_add {X : Cx} : OpR X (binaryOp .Add) (rAdd X.K) := op_add.or (op_add_str.or (op_catA.or op_cat))
theorem ite_some {c : Prop} [Decidable c] {a b : D} (h : (if c then some a else none) = some b) : c ∧ a = b := by
  by_cases hc : c
  · rw [if_pos hc] at h
    exact ⟨hc, Option.some.inj h⟩
  · rw [if_neg hc] at h
    cases h
theorem opd_add {K : PySem.W.Frag} : OpD K (rAdd K) dAdd := fun H y fu x z p q d Q g rx rz hf k => by
  cases p <;> cases q
  all_goals try (cases hf; done)
  · cases hf; cases rx; cases rz
    exact .inl ⟨_, _, rfl, rfl, k _ H y g (Nx.refl y H) (.int _)⟩
  · obtain ⟨hl, rfl⟩ := ite_some hf
    cases rx; cases rz
    exact .inr (.inl ⟨_, _, rfl, rfl, hl, k _ H y g (Nx.refl y H) (.str _)⟩)
  · obtain ⟨hl, rfl⟩ := ite_some hf
    cases rx with
    | tup h1 r1 =>
      cases rz with
      | tup h2 r2 =>
        refine .inr (.inr (.inl ⟨_, _, _, _, rfl, rfl, sqT_same g.sub h1, sqT_same g.sub h2, by rw [r1.length, r2.length]; exact hl, fun e => ?_, fun _ e => ?_, fun _ _ pp np => ?_⟩))
        · subst e
          cases r1
          exact k _ H y g (Nx.refl y H) (.tup h2 r2)
        · subst e
          cases r2
          rw [List.append_nil] at k
          exact k _ H y g (Nx.refl y H) (.tup h1 r1)
        · obtain ⟨g2, n2⟩ := grow (o := .tup _) g np
          exact k _ _ _ g2 n2 (.tup (.inl (.inl upd_same)) ((r1.append r2).mono n2.x))
  · obtain ⟨hl, rfl⟩ := ite_some hf
    cases rx with
    | lst h1 r1 =>
      cases rz with
      | lst h2 r2 =>
        refine .inr (.inr (.inr ⟨_, _, _, _, rfl, rfl, g.sub _ _ h1, g.sub _ _ h2, by rw [r1.length, r2.length]; exact hl, fun pp np => ?_⟩))
        obtain ⟨g2, n2⟩ := grow (o := .lst _) g np
        exact k _ _ _ g2 n2 (.lst upd_same ((r1.append r2).mono n2.x))
def dI2 (C : Int → Int → Bool) (f : Int → Int → Int) : D → D → Option D
  | .int i, .int j => if C i j = true then some (.int (f i j)) else none
  | _, _ => none
theorem opd_I2 {K : PySem.W.Frag} {C : Int → Int → Prop} {Cb : Int → Int → Bool} {f : Int → Int → Int} (h : ∀ i j, Cb i j = true → C i j) : OpD K (rI C fun i j => .int (f i j)) (dI2 Cb f) := fun H y fu x z p q d Q g rx rz hf k => by
  cases p <;> cases q
  all_goals try (cases hf; done)
  obtain ⟨hc, rfl⟩ := ite_some hf
  cases rx; cases rz
  exact ⟨_, _, rfl, rfl, h _ _ hc, k _ H y g (Nx.refl y H) (.int _)⟩
def dSub : D → D → Option D := dI2 (fun _ _ => true) fun i j => i - j
theorem opr_sub {X : Cx} : OpR X (binaryOp .Sub) (rI (fun _ _ => True) fun i j => .int (i - j)) := fun pins s σ H x y v u Q I rx ry ⟨i, j, h1, h2, _, q⟩ => op_sub pins s σ H x y v u Q I rx ry ⟨i, j, h1, h2, q⟩
theorem opd_sub {K : PySem.W.Frag} : OpD K (rI (fun _ _ => True) fun i j => .int (i - j)) dSub := opd_I2 fun _ _ _ => trivial
/-- products that the model reckons: one side within 2 ^ 64 -/
def mulOk (i j : Int) : Bool := (decide (-(2 ^ 64) < i) && decide (i < 2 ^ 64)) || (decide (-(2 ^ 64) < j) && decide (j < 2 ^ 64))
def dMul : D → D → Option D := dI2 mulOk fun i j => i * j
theorem opd_mul {K : PySem.W.Frag} : OpD K (rI CMul fun i j => .int (i * j)) dMul := opd_I2 fun i j h => by
  unfold mulOk at h
  simp only [Bool.or_eq_true, Bool.and_eq_true, decide_eq_true_eq] at h
  exact h
def dMod : D → D → Option D := dI2 (fun _ j => decide (0 < j)) fun i j => i % j
theorem opd_mod {K : PySem.W.Frag} : OpD K (rI (fun _ j => 0 < j) fun i j => .int (i % j)) dMod := opd_I2 fun i j h => of_decide_eq_true h
def dFdiv : D → D → Option D := dI2 (fun _ j => decide (0 < j) && decide (j < 1073741824)) fun i j => i / j
theorem opd_fdiv {K : PySem.W.Frag} : OpD K (rI CDiv fun i j => .int (i / j)) dFdiv := opd_I2 fun i j h => by
  simp only [Bool.and_eq_true, decide_eq_true_eq] at h
  exact h
end Z
namespace Z
open PySem PySem.Spec L2

section
variable {ι : Type} {F : ι → Cx} {P : Program} {w : World} {K : PySem.W.Frag} {mg : Str → Option Value} {base : Heap} {k : Nat} {a b e : Expr} {es : List Expr} {wa wb : WE} {v : WA} {pos : Pos}

/-! ## subscripts -/
def dIx : D → D → Option D
  | .lst l, .int i => atI l i
  | .tup l, .int i => atI l i
  | .str z, .int i => if z.length ≤ sizeLine then (atI z.cps.toList i).map fun c => .str ⟨#[c]⟩ else none
  | _, _ => none
theorem atI_rel {y : Gh} {vs : List V} {ds : List D} {i : Int} {d : D} (r : RpL K y vs ds) (h : atI ds i = some d) : ∃ v, atI vs i = some v ∧ Rp K y v d := by
  unfold atI at h ⊢
  rw [r.length]
  cases e : ixN ds.length i with
  | none => rw [e] at h; cases h
  | some j =>
    rw [e] at h
    exact r.get h
theorem opd_ix : OpD K (rIx K) dIx := fun H y fu x z p q d Q g rx rz hf k => by
  cases p <;> cases q
  all_goals try (cases hf; done)
  · rename_i z0 i0
    have hf' : (if z0.length ≤ sizeLine then (atI z0.cps.toList i0).map (fun c => D.str ⟨#[c]⟩) else none) = some d := hf
    by_cases hl : z0.length ≤ sizeLine
    · rw [if_pos hl] at hf'
      obtain ⟨c, hc, rfl⟩ := Option.map_eq_some_iff.mp hf'
      cases rx; cases rz
      exact .inr (.inr ⟨_, _, c, rfl, rfl, hl, hc, k _ H y g (Nx.refl y H) (.str _)⟩)
    · rw [if_neg hl] at hf'
      cases hf'
  · cases rx with
    | tup h1 r1 =>
      cases rz
      obtain ⟨v, hv, rv⟩ := atI_rel r1 hf
      exact .inr (.inl ⟨_, _, _, v, rfl, rfl, sqT_same g.sub h1, hv, k _ H y g (Nx.refl y H) rv⟩)
  · cases rx with
    | lst h1 r1 =>
      cases rz
      obtain ⟨v, hv, rv⟩ := atI_rel r1 hf
      exact .inl ⟨_, _, _, v, rfl, rfl, .inl (.inl (g.sub _ _ h1)), hv, k _ H y g (Nx.refl y H) rv⟩
theorem wx_ix (C : Cxs F P w K mg base k) (ha : WX F K a wa) (hb : WX F K b wb) (hs : PlainIx b := by intro _ _; rfl) : WX F K (.Subscript a b pos) (wOp dIx wa wb) := by
  obtain ⟨ta, pa, ra⟩ := ha.ex
  obtain ⟨tb, pb, rb⟩ := hb.ex
  refine ⟨tOp (rIx K) ta tb, fun i => ?_, rd_op opd_ix ra rb⟩
  have := pe_ix (X := F i) (pos := pos) ix_seq (pa i) (pb i) hs
  rw [C.K i] at this
  exact this

/-! ## slices -/
abbrev WO := List Sl → Fu → (Option Int → Fu → Prop) → Prop
def RdO (K : PySem.W.Frag) (t : TO) (w : WO) : Prop := ∀ (σ : L2.St) (H : Hp) (y : Gh) (ρ : List Sl) (fu : Fu) (P : Option Int → Fu → Prop) (Q : Option Int → Hp → Prop), Ok K y H σ ρ fu → w ρ fu P →
  (∀ o fu' H' y', P o fu' → GOk y' H' fu' → Nx y H y' H' → Q o H') → t σ H Q
structure WOs {ι : Type} (F : ι → Cx) (K : PySem.W.Frag) (e : Option Expr) (w : WO) : Prop where
  ex : ∃ t, (∀ i, PO (F i) e t) ∧ RdO K t w
def oNone : WO := fun _ fu P => P none fu
def oSome (wa : WE) : WO := fun ρ fu P => wa ρ fu fun d fu' => ∃ i, d = .int i ∧ P (some i) fu'
theorem wo_none : WOs F K none oNone := ⟨_, fun _ => po_none, fun σ H y ρ fu P Q o hw k => k none fu H y hw o.g (Nx.refl y H)⟩
theorem wo_some (h : WX F K e wa) : WOs F K (some e) (oSome wa) := by
  obtain ⟨t, p, r⟩ := h.ex
  refine ⟨_, fun i => po_some (p i), fun σ H y ρ fu P Q o hw k => ?_⟩
  refine r σ H y ρ fu _ _ o hw fun d fu' v H' y' h' g' n' r' => ?_
  obtain ⟨i, rfl, h'⟩ := h'
  cases r'
  exact ⟨i, rfl, k _ fu' H' y' h' g' n'⟩
/-- the items of a slice -/
def cutG {α : Type} (xs : List α) (lo hi : Option Int) : List α := (xs.drop (HT.sIx xs.length 0 lo)).take (HT.sIx xs.length xs.length hi - HT.sIx xs.length 0 lo)
theorem RpL.cut {y : Gh} {vs : List V} {ds : List D} (r : RpL K y vs ds) (lo hi : Option Int) : RpL K y (cutV vs lo hi) (cutG ds lo hi) := by
  unfold cutV cutG
  rw [r.length]
  exact (r.drop _).take _
def dSl : D → Option Int → Option Int → Option D
  | .lst l, lo, hi => some (.lst (cutG l lo hi))
  | .tup l, lo, hi => some (.tup (cutG l lo hi))
  | .str z, lo, hi => if z.length ≤ sizeLine then some (.str (cutS z lo hi)) else none
  | _, _, _ => none
abbrev rSlD (K : PySem.W.Frag) : V → Option Int → Option Int → Hp → VK → Prop := fun x lo hi H Q => rSlL K x lo hi H Q ∨ rSlA K x lo hi H Q ∨ rSlS x lo hi H Q
theorem sl_data {X : Cx} : SlR X (rSlD X.K) := SlR.or sl_list (SlR.or sl_tupA sl_str)
theorem cut_all {α : Type} {xs : List α} {lo hi : Option Int} (h : HT.sIx xs.length 0 lo = 0 ∧ HT.sIx xs.length xs.length hi = xs.length) : cutG xs lo hi = xs := by
  unfold cutG
  rw [h.1, h.2]
  simp
theorem sld_ok {H : Hp} {y : Gh} {fu : Fu} {x : V} {p d : D} {lo hi : Option Int} {Q : VK} (g : GOk y H fu) (rx : Rp K y x p) (hf : dSl p lo hi = some d) (k : ∀ v H' y', GOk y' H' fu → Nx y H y' H' → Rp K y' v d → Q v H') : rSlD K x lo hi H Q := by
  cases p
  all_goals try (cases hf; done)
  · obtain ⟨hl, rfl⟩ := ite_some hf
    cases rx
    exact .inr (.inr ⟨_, rfl, hl, k _ H y g (Nx.refl y H) (.str _)⟩)
  · cases hf
    cases rx with
    | tup h1 r1 =>
      refine .inr (.inl ⟨_, _, rfl, sqT_same g.sub h1, fun hw => ?_, fun _ pp np => ?_⟩)
      · rw [r1.length] at hw
        rw [cut_all hw] at k
        exact k _ H y g (Nx.refl y H) (.tup h1 r1)
      · obtain ⟨g2, n2⟩ := grow (o := .tup _) g np
        exact k _ _ _ g2 n2 (.tup (.inl (.inl upd_same)) ((r1.cut lo hi).mono n2.x))
  · cases hf
    cases rx with
    | lst h1 r1 =>
      refine .inl ⟨_, _, rfl, .inl (.inl (g.sub _ _ h1)), fun pp np => ?_⟩
      obtain ⟨g2, n2⟩ := grow (o := .lst _) g np
      exact k _ _ _ g2 n2 (.lst upd_same ((r1.cut lo hi).mono n2.x))
def wSl (wa : WE) (wl wh : WO) : WE := fun ρ fu P => wa ρ fu fun p fu1 => wl ρ fu1 fun lo fu2 => wh ρ fu2 fun hi fu3 => ∃ d, dSl p lo hi = some d ∧ P d fu3
theorem wx_slice {lo hi : Option Expr} {wl wh : WO} {p2 : Pos} (C : Cxs F P w K mg base k) (ha : WX F K a wa) (hl : WOs F K lo wl) (hh : WOs F K hi wh) : WX F K (.Subscript a (.Slice lo hi none p2) pos) (wSl wa wl wh) := by
  obtain ⟨ta, pa, ra⟩ := ha.ex
  obtain ⟨tl, pl, rl⟩ := hl.ex
  obtain ⟨th, ph, rh⟩ := hh.ex
  refine ⟨tSl (rSlD K) ta tl th, fun i => ?_, fun σ H y ρ fu P Q o hw q => ?_⟩
  · have := pe_slice (X := F i) (pos := pos) (p2 := p2) sl_data (pa i) (pl i) (ph i)
    rw [C.K i] at this
    exact this
  · refine ra σ H y ρ fu _ _ o hw fun d fu1 v1 H1 y1 h1 g1 n1 r1 => ?_
    refine rl σ H1 y1 ρ fu1 _ _ (o.next n1 g1) h1 fun l fu2 H2 y2 h2 g2 n2 => ?_
    refine rh σ H2 y2 ρ fu2 _ _ (o.next (n1.trans n2) g2) h2 fun h fu3 H3 y3 h3 g3 n3 => ?_
    obtain ⟨d', e, h3⟩ := h3
    exact sld_ok g3 ((r1.mono n2.x).mono n3.x) e fun v H' y' g' n' r' => q _ _ _ _ _ h3 g' (((n1.trans n2).trans n3).trans n') r'
/-- xs[::-1] of a list -/
def dRev : D → Option D
  | .lst l => some (.lst l.reverse)
  | _ => none
def wUn (f : D → Option D) (wa : WE) : WE := fun ρ fu P => wa ρ fu fun p fu1 => ∃ d, f p = some d ∧ P d fu1
theorem wx_rev {j : Nat} {p1 p2 p3 : Pos} (C : Cxs F P w K mg base k) (ha : WX F K a wa) : WX F K (.Subscript a (.Slice none none (some (.UnaryOp .USub (.Constant (.int 1) j p1) p2)) p3) pos) (wUn dRev wa) := by
  obtain ⟨ta, pa, ra⟩ := ha.ex
  refine ⟨tRevL K ta, fun i => ?_, fun σ H y ρ fu P Q o hw q => ?_⟩
  · have := pe_revL (X := F i) (k := j) (p1 := p1) (p2 := p2) (p3 := p3) (pos := pos) (pa i)
    rw [C.K i] at this
    exact this
  · refine ra σ H y ρ fu _ _ o hw fun d fu1 v1 H1 y1 h1 g1 n1 r1 => ?_
    obtain ⟨d', e, h1⟩ := h1
    cases d
    all_goals try (cases e; done)
    cases e
    cases r1 with
    | lst z1 z2 =>
      refine ⟨_, _, rfl, .inl (.inl (g1.sub _ _ z1)), fun pp np => ?_⟩
      obtain ⟨g2, n2⟩ := grow (o := .lst _) g1 np
      exact q _ _ _ _ _ h1 g2 (n1.trans n2) (.lst upd_same (z2.reverse.mono n2.x))
theorem wx_neg (ha : WX F K a wa) : WX F K (.UnaryOp .USub a pos) (wUn (fun d => match d with | .int i => some (.int (-i)) | _ => none) wa) := by
  obtain ⟨ta, pa, ra⟩ := ha.ex
  refine ⟨_, fun i => pe_un un_neg (pa i), fun σ H y ρ fu P Q o hw q => ?_⟩
  refine ra σ H y ρ fu _ _ o hw fun d fu1 v1 H1 y1 h1 g1 n1 r1 => ?_
  obtain ⟨d', e, h1⟩ := h1
  cases d
  all_goals try (cases e; done)
  cases e
  cases r1
  exact ⟨_, rfl, q _ _ _ _ _ h1 g1 n1 (.int _)⟩

/-! ## built-ins -/
/-- a built-in's call on data -/
def ClD (K : PySem.W.Frag) (r : List V → Hp → VK → Prop) (f : List D → Option D) : Prop := ∀ (H : Hp) (y : Gh) (fu : Fu) (vs : List V) (ds : List D) (d : D) (Q : VK), GOk y H fu → RpL K y vs ds → f ds = some d →
  (∀ v H' y', GOk y' H' fu → Nx y H y' H' → Rp K y' v d → Q v H') → r vs H Q
def wCl (f : List D → Option D) (v : WA) : WE := fun ρ fu P => v ρ fu fun ds fu1 => ∃ d, f ds = some d ∧ P d fu1
theorem rd_cl {r : List V → Hp → VK → Prop} {f : List D → Option D} {t : TA} (h : ClD K r f) (ra : RdA K t v) : RdE K (tCB r t) (wCl f v) := fun σ H y ρ fu P Q o hw q => by
  refine ra σ H y ρ fu _ _ o hw fun ds fu1 vs H1 y1 h1 g1 n1 r1 => ?_
  obtain ⟨d, e, h1⟩ := h1
  exact h H1 y1 fu1 vs ds d Q g1 r1 e fun v' H' y' g' n' r' => q _ _ _ _ _ h1 g' (n1.trans n') r'
variable {id T : String} {x : Str} {p : Pos} {r : List V → Hp → VK → Prop} {f : List D → Option D}
theorem wx_bi (C : Cxs F P w K mg base k) (hc : ∀ i, CallR (F i) (.builtin id) r) (hr : ClD K r f) (hm : mg x = none) (hv : bootBuiltins x = some (.builtin id)) (ha : WX F K e wa) (hes : WAs F K es v) (hg : ∀ i, Gl (F i) x := by intro _; rfl) (hn : x ≠ "__name__" := by decide)
    (hdb : (x == ("__debug__" : Str)) = false := by decide) (hs : ∀ i, starEach (e :: es) (F i).env = (false, eval e (F i).env) :: starEach es (F i).env := by intro _; rfl) (hpl : ∀ i, (backTo pos (starEach es (F i).env)).any (·.1) = false := by intro _; rfl) :
    WX F K (.Call (.Name x p) (e :: es) [] pos) (wCl f (wCons wa v)) := by
  obtain ⟨t, q, rr⟩ := (wa_cons ha hes hs).ex
  exact ⟨_, fun i => pe_callB (hc i) (hg i) (by rw [C.mg i]; exact hm) hv (q i) hn hdb (hs i) (hpl i), rd_cl hr rr⟩
theorem wx_ty (C : Cxs F P w K mg base k) (hc : ∀ i, CallR (F i) (.type T) r) (hr : ClD K r f) (hm : mg x = none) (hv : bootBuiltins x = some (.type T)) (ha : WX F K e wa) (hes : WAs F K es v) (hg : ∀ i, Gl (F i) x := by intro _; rfl) (hn : x ≠ "__name__" := by decide)
    (hdb : (x == ("__debug__" : Str)) = false := by decide) (hs : ∀ i, starEach (e :: es) (F i).env = (false, eval e (F i).env) :: starEach es (F i).env := by intro _; rfl) (hpl : ∀ i, (backTo pos (starEach es (F i).env)).any (·.1) = false := by intro _; rfl) :
    WX F K (.Call (.Name x p) (e :: es) [] pos) (wCl f (wCons wa v)) := by
  obtain ⟨t, q, rr⟩ := (wa_cons ha hes hs).ex
  exact ⟨_, fun i => pe_callTy (hc i) (hg i) (by rw [C.mg i]; exact hm) hv (q i) hn hdb (hs i) (hpl i), rd_cl hr rr⟩
/-- len -/
def dLen : List D → Option D
  | [.lst l] => some (.int l.length)
  | [.tup l] => some (.int l.length)
  | [.str z] => if z.length ≤ sizeLine then some (.int z.length) else none
  | _ => none
abbrev rLen (K : PySem.W.Frag) : List V → Hp → VK → Prop := fun xs H Q => ∃ x n, xs = [x] ∧ LenV K x H n ∧ Q (.int n) H
theorem cld_len : ClD K (rLen K) dLen := fun H y fu vs ds d Q g r hf q => by
  cases r with
  | nil => cases hf
  | cons r1 r2 =>
    cases r2 with
    | cons _ _ => cases r1 <;> cases hf
    | nil =>
      cases r1 with
      | tup h1 z1 => cases hf; exact ⟨_, _, rfl, .inr ⟨_, sqT_same g.sub h1, z1.length.symm⟩, q _ H y g (Nx.refl y H) (.int _)⟩
      | lst h1 z1 => cases hf; exact ⟨_, _, rfl, .inl ⟨_, .inl (.inl (g.sub _ _ h1)), z1.length.symm⟩, q _ H y g (Nx.refl y H) (.int _)⟩
      | str z =>
        obtain ⟨hl, rfl⟩ := ite_some hf
        exact ⟨_, _, rfl, ⟨hl, rfl⟩, q _ H y g (Nx.refl y H) (.int _)⟩
      | _ => cases hf
theorem clr_len {X : Cx} : CallR X (.builtin "len") (rLen X.K) := call_len
theorem wx_len (C : Cxs F P w K mg base k) (hm : mg "len" = none) (ha : WX F K e wa) (hg : ∀ i, Gl (F i) "len" := by intro _; rfl)
    (hs : ∀ i, starEach [e] (F i).env = (false, eval e (F i).env) :: starEach [] (F i).env := by intro _; rfl) : WX F K (.Call (.Name "len" p) [e] [] pos) (wCl dLen (wCons wa wNil)) :=
  wx_bi C (fun i => by rw [← C.K i]; exact clr_len) cld_len hm PySem.boot_len ha wa_nil hg (by decide) (by decide) hs (fun _ => rfl)
/-- tuple(..) of a list or a tuple; list(..) -/
def dTuple : List D → Option D
  | [.lst l] => some (.tup l)
  | [.tup l] => some (.tup l)
  | _ => none
abbrev rTuple (K : PySem.W.Frag) : List V → Hp → VK → Prop := fun xs H Q => ∃ p ys, xs = [.ref p] ∧ ((SqL K H p ys ∧ ∀ l, H l = none → Q (.ref l) (upd H l (.tup ys))) ∨ (SqT K H p ys ∧ Q (.ref p) H))
theorem cld_tuple : ClD K (rTuple K) dTuple := fun H y fu vs ds d Q g r hf q => by
  cases r with
  | nil => cases hf
  | cons r1 r2 =>
    cases r2 with
    | cons _ _ => cases r1 <;> cases hf
    | nil =>
      cases r1 with
      | tup h1 z1 => cases hf; exact ⟨_, _, rfl, .inr ⟨sqT_same g.sub h1, q _ H y g (Nx.refl y H) (.tup h1 z1)⟩⟩
      | lst h1 z1 =>
        cases hf
        refine ⟨_, _, rfl, .inl ⟨.inl (.inl (g.sub _ _ h1)), fun pp np => ?_⟩⟩
        obtain ⟨g2, n2⟩ := grow (o := .tup _) g np
        exact q _ _ _ g2 n2 (.tup (.inl (.inl upd_same)) (z1.mono n2.x))
      | _ => cases hf
theorem clr_tuple {X : Cx} : CallR X (.type "tuple") (rTuple X.K) := call_tuple_of
theorem wx_tuple (C : Cxs F P w K mg base k) (hm : mg "tuple" = none) (ha : WX F K e wa) (hg : ∀ i, Gl (F i) "tuple" := by intro _; rfl)
    (hs : ∀ i, starEach [e] (F i).env = (false, eval e (F i).env) :: starEach [] (F i).env := by intro _; rfl) : WX F K (.Call (.Name "tuple" p) [e] [] pos) (wCl dTuple (wCons wa wNil)) :=
  wx_ty C (fun i => by rw [← C.K i]; exact clr_tuple) cld_tuple hm (by decide +kernel) ha wa_nil hg (by decide) (by decide) hs (fun _ => rfl)
def dList : List D → Option D
  | [.lst l] => some (.lst l)
  | [.tup l] => some (.lst l)
  | _ => none
abbrev rList (K : PySem.W.Frag) : List V → Hp → VK → Prop := fun xs H Q => ∃ p ys, xs = [.ref p] ∧ (SqL K H p ys ∨ SqT K H p ys) ∧ ∀ l, H l = none → Q (.ref l) (upd H l (.lst ys))
theorem cld_list : ClD K (rList K) dList := fun H y fu vs ds d Q g r hf q => by
  cases r with
  | nil => cases hf
  | cons r1 r2 =>
    cases r2 with
    | cons _ _ => cases r1 <;> cases hf
    | nil =>
      cases r1 with
      | tup h1 z1 =>
        cases hf
        refine ⟨_, _, rfl, .inr (sqT_same g.sub h1), fun pp np => ?_⟩
        obtain ⟨g2, n2⟩ := grow (o := .lst _) g np
        exact q _ _ _ g2 n2 (.lst upd_same (z1.mono n2.x))
      | lst h1 z1 =>
        cases hf
        refine ⟨_, _, rfl, .inl (.inl (.inl (g.sub _ _ h1))), fun pp np => ?_⟩
        obtain ⟨g2, n2⟩ := grow (o := .lst _) g np
        exact q _ _ _ g2 n2 (.lst upd_same (z1.mono n2.x))
      | _ => cases hf
theorem clr_list {X : Cx} : CallR X (.type "list") (rList X.K) := call_list_of
theorem wx_list (C : Cxs F P w K mg base k) (hm : mg "list" = none) (ha : WX F K e wa) (hg : ∀ i, Gl (F i) "list" := by intro _; rfl)
    (hs : ∀ i, starEach [e] (F i).env = (false, eval e (F i).env) :: starEach [] (F i).env := by intro _; rfl) : WX F K (.Call (.Name "list" p) [e] [] pos) (wCl dList (wCons wa wNil)) :=
  wx_ty C (fun i => by rw [← C.K i]; exact clr_list) cld_list hm (by decide +kernel) ha wa_nil hg (by decide) (by decide) hs (fun _ => rfl)

/-! ## repr -/
def reprOk (d : D) : Bool := plain d && PyData.showable (py d) && decide (PyData.depth (py d) ≤ 64) && decide ((PyData.shown (py d)).length ≤ sizeLine)
def dRepr : List D → Option D
  | [d] => if reprOk d = true then some (.str (PyData.shown (py d))) else none
  | _ => none
mutual
theorem plain_nodict : ∀ d : D, plain d = true → PyData.hasDict (py d) = false
  | .non, _ => by unfold py PyData.hasDict; rfl
  | .bl _, _ => by unfold py PyData.hasDict; rfl
  | .int _, _ => by unfold py PyData.hasDict; rfl
  | .str _, _ => by unfold py PyData.hasDict; rfl
  | .tup l, h => by
    unfold plain at h
    unfold py PyData.hasDict
    exact plainL_nodict l h
  | .lst l, h => by
    unfold plain at h
    unfold py PyData.hasDict
    exact plainL_nodict l h
  | .dic _, h => by unfold plain at h; cases h
  | .src, h => by unfold plain at h; cases h
  | .scr, h => by unfold plain at h; cases h
theorem plainL_nodict : ∀ l : List D, plainL l = true → PyData.hasDictAll (pyL l) = false
  | [], _ => by unfold pyL PyData.hasDictAll; rfl
  | d :: l, h => by
    unfold plainL at h
    rw [Bool.and_eq_true] at h
    unfold pyL PyData.hasDictAll
    rw [plain_nodict d h.1, plainL_nodict l h.2]
    rfl
end
abbrev rRepr (K : PySem.W.Frag) : List V → Hp → VK → Prop := fun xs H Q => ∃ x d, xs = [x] ∧ Dp K H x d ∧ PyData.hasDict d = false ∧ PyData.showable d = true ∧ PyData.depth d ≤ 64 ∧ (PyData.shown d).length ≤ sizeLine ∧ Q (.str (PyData.shown d)) H
theorem clr_repr {X : Cx} (hg : X.A.guards = some []) (hu : X.A.units + 66 < cLine) : CallR X (.builtin "repr") (rRepr X.K) := by
  intro pins s σ H xs us Q I r h
  obtain ⟨x, d, rfl, hd, hn, hsh, hdp, hz, q⟩ := h
  obtain ⟨u, rfl, rx⟩ := vals1 r
  cases hd with
  | non =>
    cases rx
    refine PySem.P.repr_of_none ⟨.str _, H, I.tok _, ⟨_, rfl⟩, ?_⟩
    unfold PyData.shown at q
    exact q
  | bl b =>
    cases rx
    refine PySem.P.repr_of_bool ⟨.str _, H, I.tok _, ⟨_, rfl⟩, ?_⟩
    unfold PyData.shown at q
    exact q
  | int i =>
    obtain ⟨t, rfl⟩ := rx
    unfold PyData.showable at hsh
    refine PySem.P.repr_of_int (of_decide_eq_true hsh) ⟨.str _, H, I.tok _, ⟨_, rfl⟩, ?_⟩
    unfold PyData.shown at q
    exact q
  | str z =>
    obtain ⟨t, rfl⟩ := rx
    unfold PyData.shown at q hz
    exact PySem.P.repr_of_str ⟨.str _, H, I.tok _, ⟨_, rfl⟩, q⟩ hz
  | lst h1 h2 =>
    obtain ⟨as, rd⟩ := Dp.reads I _ _ _ (Dp.lst h1 h2) rx
    cases rx
    exact PySem.repr_of_reads' rd hsh (PyData.noDict_hsm hn) hg (by omega) (fun _ _ e => e) (fun h' u' tk hk => ⟨.str _, H, I.kept hk, ⟨_, rfl⟩, q⟩) hz
  | tup h1 h2 =>
    obtain ⟨as, rd⟩ := Dp.reads I _ _ _ (Dp.tup h1 h2) rx
    cases rx
    exact PySem.repr_of_reads' rd hsh (PyData.noDict_hsm hn) hg (by omega) (fun _ _ e => e) (fun h' u' tk hk => ⟨.str _, H, I.kept hk, ⟨_, rfl⟩, q⟩) hz
theorem cld_repr : ClD K (rRepr K) dRepr := fun H y fu vs ds d Q g r hf q => by
  cases r with
  | nil => cases hf
  | cons r1 r2 =>
    cases r2 with
    | cons _ _ => cases hf
    | nil =>
      obtain ⟨ho, rfl⟩ := ite_some hf
      unfold reprOk at ho
      simp only [Bool.and_eq_true, decide_eq_true_eq] at ho
      obtain ⟨⟨⟨h1, h2⟩, h3⟩, h4⟩ := ho
      exact ⟨_, _, rfl, r1.dp g.sub h1, plain_nodict _ h1, h2, h3, h4, q _ H y g (Nx.refl y H) (.str _)⟩
theorem wx_repr (C : Cxs F P w K mg base k) (hm : mg "repr" = none) (ha : WX F K e wa) (hg : ∀ i, Gl (F i) "repr" := by intro _; rfl)
    (hs : ∀ i, starEach [e] (F i).env = (false, eval e (F i).env) :: starEach [] (F i).env := by intro _; rfl) : WX F K (.Call (.Name "repr" p) [e] [] pos) (wCl dRepr (wCons wa wNil)) :=
  wx_bi C (fun i => by rw [← C.K i]; exact clr_repr (C.grd i) (by have := (C.room i).un; omega)) cld_repr hm (by decide +kernel) ha wa_nil hg (by decide) (by decide) hs (fun _ => rfl)

/-! ## sep.join(texts) -/
def strsOf : List D → Option (List Str)
  | [] => some []
  | .str s :: l => (strsOf l).map (s :: ·)
  | _ :: _ => none
theorem strsOf_rel {y : Gh} : ∀ {vs : List V} {ds : List D} {ss : List Str}, RpL K y vs ds → strsOf ds = some ss → vs = ss.map V.str
  | _, _, _, .nil, h => by cases h; rfl
  | _, _, ss, .cons r1 r2, h => by
    cases r1 with
    | str s =>
      unfold strsOf at h
      obtain ⟨tl, h1, rfl⟩ := Option.map_eq_some_iff.mp h
      rw [strsOf_rel r2 h1]
      rfl
    | _ => cases h
def dJoin : D → D → Option D
  | .str a, .lst l => (strsOf l).bind fun ss => if (ss.map (·.length)).sum + ss.length * a.length ≤ 16777216 then some (.str (Txt.join a ss)) else none
  | .str a, .tup l => (strsOf l).bind fun ss => if (ss.map (·.length)).sum + ss.length * a.length ≤ 16777216 then some (.str (Txt.join a ss)) else none
  | _, _ => none
def wM1 (f : D → D → Option D) (wa wb : WE) : WE := fun ρ fu P => wa ρ fu fun p fu1 => (∃ s, p = .str s) ∧ wb ρ fu1 fun q fu2 => ∃ d, f p q = some d ∧ P d fu2
def wM0 (f : D → Option D) (wa : WE) : WE := fun ρ fu P => wa ρ fu fun p fu1 => (∃ s, p = .str s) ∧ ∃ d, f p = some d ∧ P d fu1
/-- a method of a text -/
theorem wx_m1 {name : Str} {apos : Pos} {rm : V → List V → Hp → VK → Prop} {g : D → D → Option D} (slot : Slot "str" name id) (ty : typeOf (.builtin id) = pure (.type "method_descriptor")) (rule : ∀ i, MtR (F i) id rm) (hr : OpD K (fun x z H Q => rm x [z] H Q) g)
    (ha : WX F K a wa) (he : WX F K e wb) (hs : ∀ i, starEach [e] (F i).env = [(false, eval e (F i).env)] := by intro _; rfl)
    (hbase : ∀ i, attributeBase a name (F i).env (eval a (F i).env) = eval a (F i).env := by intro _; rfl) (hline : (apos.endLine == pos.line) = true := by rfl) :
    WX F K (.Call (.Attribute a name apos) [e] [] pos) (wM1 g wa wb) := by
  obtain ⟨ta, pa, ra⟩ := ha.ex
  obtain ⟨te, pe, re⟩ := he.ex
  refine ⟨_, fun i => pe_m1 slot ty (rule i) (pa i) (pe i) (hs i) (hbase i) hline, fun σ H y ρ fu P Q o hw q => ?_⟩
  refine ra σ H y ρ fu _ _ o hw fun d fu1 v1 H1 y1 h1 g1 n1 r1 => ?_
  obtain ⟨⟨z, rfl⟩, h1⟩ := h1
  refine ⟨by cases r1; exact ⟨_, rfl⟩, ?_⟩
  refine re σ H1 y1 ρ fu1 _ _ (o.next n1 g1) h1 fun d2 fu2 v2 H2 y2 h2 g2 n2 r2 => ?_
  obtain ⟨d3, e3, h2⟩ := h2
  exact hr H2 y2 fu2 v1 v2 _ d2 d3 Q g2 (r1.mono n2.x) r2 e3 fun v' H' y' g' n' r' => q _ _ _ _ _ h2 g' ((n1.trans n2).trans n') r'
theorem wx_m0 {name : Str} {apos : Pos} {rm : V → List V → Hp → VK → Prop} {g : D → Option D} (slot : Slot "str" name id) (ty : typeOf (.builtin id) = pure (.type "method_descriptor")) (rule : ∀ i, MtR (F i) id rm)
    (hr : ∀ (H : Hp) (y : Gh) (fu : Fu) (x : V) (p d : D) (Q : VK), GOk y H fu → Rp K y x p → g p = some d → (∀ v H' y', GOk y' H' fu → Nx y H y' H' → Rp K y' v d → Q v H') → rm x [] H Q)
    (ha : WX F K a wa) (hbase : ∀ i, attributeBase a name (F i).env (eval a (F i).env) = eval a (F i).env := by intro _; rfl) (hline : (apos.endLine == pos.line) = true := by rfl) :
    WX F K (.Call (.Attribute a name apos) [] [] pos) (wM0 g wa) := by
  obtain ⟨ta, pa, ra⟩ := ha.ex
  refine ⟨_, fun i => pe_m0 slot ty (rule i) (pa i) (hbase i) hline, fun σ H y ρ fu P Q o hw q => ?_⟩
  refine ra σ H y ρ fu _ _ o hw fun d fu1 v1 H1 y1 h1 g1 n1 r1 => ?_
  obtain ⟨⟨z, rfl⟩, d3, e3, h1⟩ := h1
  refine ⟨by cases r1; exact ⟨_, rfl⟩, ?_⟩
  exact hr H1 y1 fu1 v1 _ d3 Q g1 r1 e3 fun v' H' y' g' n' r' => q _ _ _ _ _ h1 g' (n1.trans n') r'
abbrev rJoin (K : PySem.W.Frag) : V → List V → Hp → VK → Prop := fun x xs H Q => ∃ a p, ∃ ys : List Str, x = .str a ∧ xs = [.ref p] ∧ (SqL K H p (ys.map V.str) ∨ SqT K H p (ys.map V.str)) ∧ (ys.map (·.length)).sum + ys.length * a.length ≤ 16777216 ∧ Q (.str (Txt.join a ys)) H
theorem opd_join : OpD K (fun x z H Q => rJoin K x [z] H Q) dJoin := fun H y fu x z p q d Q g rx rz hf k => by
  cases p <;> cases q
  all_goals try (cases hf; done)
  · obtain ⟨ss, h1, h2⟩ := Option.bind_eq_some_iff.mp hf
    obtain ⟨hl, rfl⟩ := ite_some h2
    cases rx
    cases rz with
    | tup z1 z2 =>
      rw [strsOf_rel z2 h1] at z1
      exact ⟨_, _, ss, rfl, rfl, .inr (sqT_same g.sub z1), hl, k _ H y g (Nx.refl y H) (.str _)⟩
  · obtain ⟨ss, h1, h2⟩ := Option.bind_eq_some_iff.mp hf
    obtain ⟨hl, rfl⟩ := ite_some h2
    cases rx
    cases rz with
    | lst z1 z2 =>
      rw [strsOf_rel z2 h1] at z1
      exact ⟨_, _, ss, rfl, rfl, .inl (.inl (.inl (g.sub _ _ z1))), hl, k _ H y g (Nx.refl y H) (.str _)⟩
theorem wx_join {apos : Pos} (C : Cxs F P w K mg base k) (ha : WX F K a wa) (he : WX F K e wb) (hs : ∀ i, starEach [e] (F i).env = [(false, eval e (F i).env)] := by intro _; rfl)
    (hbase : ∀ i, attributeBase a "join" (F i).env (eval a (F i).env) = eval a (F i).env := by intro _; rfl) (hline : (apos.endLine == pos.line) = true := by rfl) :
    WX F K (.Call (.Attribute a "join" apos) [e] [] pos) (wM1 dJoin wa wb) :=
  wx_m1 PySem.F.slot_str_join PySem.F.type_str_join (fun i => by rw [← C.K i]; exact mt_join) opd_join ha he hs hbase hline
end
end Z
namespace Z
open PySem PySem.Spec L2

/-! ## what goes into a slot: a value, or a new list -/
def Res (K : PySem.W.Frag) (y : Gh) (H : Hp) (v : V) : Sl → Prop
  | .va d => Rp K y v d
  | .ow ds => ∃ p vs, v = .ref p ∧ y.g p = none ∧ H p = some (.lst vs) ∧ Nsr y p ∧ RpL K y vs ds
  | .un => False
/-- a list is new -/
def Frs (H : Hp) (v : V) (s : Sl) : Prop := ∀ ds p, s = .ow ds → v = .ref p → H p = none
abbrev WR := List Sl → Fu → (Sl → Fu → Prop) → Prop
def RdR (K : PySem.W.Frag) (t : TE) (w : WR) : Prop := ∀ (σ : L2.St) (H : Hp) (y : Gh) (ρ : List Sl) (fu : Fu) (P : Sl → Fu → Prop) (Q : VK), Ok K y H σ ρ fu → w ρ fu P →
  (∀ s fu' v H' y', P s fu' → GOk y' H' fu' → Nx y H y' H' → Res K y' H' v s → Frs H v s → Q v H') → t σ H Q
structure WRs {ι : Type} (F : ι → Cx) (K : PySem.W.Frag) (e : Expr) (w : WR) : Prop where
  ex : ∃ t, (∀ i, PE (F i) e t) ∧ RdR K t w
section
variable {K : PySem.W.Frag} {y y0 y' : Gh} {H H0 H' : Hp} {σ : L2.St} {ρ : List Sl} {fu fu' : Fu}
theorem Res.next {v : V} {s : Sl} (r : Res K y H v s) (n : Nx y H y' H') : Res K y' H' v s := by
  cases s with
  | va d => exact Rp.mono n.x r
  | un => exact r
  | ow ds =>
    obtain ⟨p, vs, h1, h2, h3, h4, h5⟩ := r
    have hh : H p ≠ none := by rw [h3]; simp
    exact ⟨p, vs, h1, n.out p hh h2, n.frm p _ h3 (h4.next n hh), h4.next n hh, h5.mono n.x⟩
theorem St0.setR (s : St0 K y0 H0 y H σ ρ fu) (i : Nat) {v : V} {z : Sl} (r : Res K y H v z) (h0 : Frs H0 v z) (h1 : ∀ p, v = .ref p → (∃ ds, z = .ow ds) → ∀ (j : Nat) (es : List D), ρ[j]? = some (.ow es) → σ[j]? ≠ some (some (.ref p))) :
    St0 K y0 H0 y H (σ.set i (some v)) (ρ.set i z) fu := by
  cases z with
  | va d => exact s.set i r
  | un => exact r.elim
  | ow ds =>
    obtain ⟨p, vs, rfl, q2, q3, q4, q5⟩ := r
    exact s.setL i q2 q3 q4 q5 (h0 ds p rfl rfl) (h1 p rfl ⟨ds, rfl⟩)
theorem Frs.of {v : V} {z : Sl} (n : Nx y0 H0 y H) (h : Frs H v z) : Frs H0 v z := fun ds p e1 e2 => n.was (h ds p e1 e2)
theorem Frs.slots {v : V} {z : Sl} (o : Ok K y H σ ρ fu) (h : Frs H v z) : ∀ p, v = .ref p → (∃ ds, z = .ow ds) → ∀ (j : Nat) (es : List D), ρ[j]? = some (.ow es) → σ[j]? ≠ some (some (.ref p)) := by
  rintro p e1 ⟨ds, e2⟩ j es h1 h2
  obtain ⟨a, vs, q1, _, q3, _⟩ := o.ow j es h1
  rw [h2] at q1
  cases q1
  rw [h ds p e2 e1] at q3
  cases q3
end
section
variable {ι : Type} {F : ι → Cx} {K : PySem.W.Frag} {e : Expr} {we : WE} {v : WA}
def wV (w : WE) : WR := fun ρ fu P => w ρ fu fun d fu' => P (.va d) fu'
def wO (v : WA) : WR := fun ρ fu P => v ρ fu fun ds fu' => P (.ow ds) fu'
theorem WX.r (h : WX F K e we) : WRs F K e (wV we) := by
  obtain ⟨t, p, r⟩ := h.ex
  exact ⟨t, p, fun σ H y ρ fu P Q o hw q => r σ H y ρ fu _ _ o hw fun d fu' x H' y' h' g' n' r' => q _ fu' x H' y' h' g' n' r' fun _ _ e1 _ => by cases e1⟩
theorem WLs.r (h : WLs F K e v) : WRs F K e (wO v) := by
  obtain ⟨t, p, r⟩ := h.ex
  exact ⟨t, p, fun σ H y ρ fu P Q o hw q => r σ H y ρ fu _ _ o hw fun ds fu' x vs H' y' h' g' n' z1 z0 z2 z3 r' => q _ fu' _ H' y' h' g' n' ⟨x, vs, rfl, z1, z2, z3, r'⟩ fun _ x' _ e2 => by cases e2; exact z0⟩
end
section
variable {X : Cx} {x y z : Str} {a b c : Expr} {w1 w2 w3 : WR} {i j l : Nat} {px py pz pt pos : Pos} {kt k2 : Nat} {pt2 : Pos}
def zPar (i j : Nat) (w1 w2 : WR) : WS := fun B ρ fu => w1 ρ fu fun s1 fu1 => w2 ρ fu1 fun s2 fu2 => B.nx ((ρ.set i s1).set j s2) fu2
theorem set_ow {ρ : List Sl} {σ : L2.St} {i j : Nat} {s1 : Sl} {v1 : V} {es : List D} {p : Addr} (hl : σ.length = ρ.length) (h : (ρ.set i s1)[j]? = some (.ow es)) (h2 : (σ.set i (some v1))[j]? = some (some (.ref p))) :
    (∃ ds, s1 = .ow ds ∧ v1 = .ref p) ∨ (ρ[j]? = some (.ow es) ∧ σ[j]? = some (some (.ref p))) := by
  have hj := (List.getElem?_eq_some_iff.mp h).1
  rcases get_set_un h with ⟨e0, e⟩ | ⟨ne, h⟩
  · subst e0
    rw [List.getElem?_set_self (by rw [hl]; simpa using hj)] at h2
    exact .inl ⟨es, e, by cases h2; rfl⟩
  · rw [List.getElem?_set_ne ne] at h2
    exact .inr ⟨h, h2⟩
/-- a, b = .., .. of plain local names -/
theorem zt_par (hc : X.calm = true) (hN : X.N.Nodup) (hi : X.N[i]? = some x) (hj : X.N[j]? = some y) (hij : i ≠ j) (hx : X.env.scope.names.lookup x = some .local) (hy : X.env.scope.names.lookup y = some .local)
    (ha : WRs (U1 X) X.K a w1) (hb : WRs (U1 X) X.K b w2) (hw : swappedStores [.Tuple [.Name x px, .Name y py] kt pt] (.Tuple [a, b] k2 pt2) X.env = pure (some [x, y]))
    (hs : swapsWithSole [.Tuple [.Name x px, .Name y py] kt pt] (.Tuple [a, b] k2 pt2) pos.line X.env = pure false := by rfl)
    (hs1 : starEach [a, b] X.env = (false, eval a X.env) :: starEach [b] X.env := by rfl) (hs2 : starEach [b] X.env = (false, eval b X.env) :: starEach [] X.env := by rfl) :
    WSt X (.Assign [.Tuple [.Name x px, .Name y py] kt pt] (.Tuple [a, b] k2 pt2) pos) (zPar i j w1 w2) := by
  obtain ⟨ta, pa, ra⟩ := ha.ex
  obtain ⟨tb, pb, rb⟩ := hb.ex
  refine ⟨_, ps_par hc hN hi hj hij hx hy (pa_cons (pa ()) (pa_cons (pb ()) pa_nil hs2) hs1) hw hs, fun y0 H0 σ H y ρ fu B E s hw m => ?_⟩
  refine ra σ H y ρ fu _ _ s.ok hw fun s1 fu1 v1 H1 y1 h1 g1 n1 r1 f1 => ?_
  refine rb σ H1 y1 ρ fu1 _ _ (s.ok.next n1 g1) h1 fun s2 fu2 v2 H2 y2 h2 g2 n2 r2 f2 => ?_
  refine ⟨v1, v2, rfl, m.nx _ _ fu2 H2 y2 h2 ?_⟩
  have st := s.next (n1.trans n2) g2
  have q1 := st.setR i (r1.next n2) (Frs.of s.nx f1) (Frs.slots s.ok f1)
  refine q1.setR j r2 (Frs.of (s.nx.trans n1) f2) fun p e1 e2 k es h3 h4 => ?_
  rcases set_ow s.ok.len h3 h4 with ⟨ds, e3, e4⟩ | ⟨h5, h6⟩
  · subst e3
    obtain ⟨p', vs, e5, _, e6, _⟩ := r1
    rw [e4] at e5
    cases e5
    obtain ⟨ds2, e2⟩ := e2
    rw [f2 ds2 p e2 e1] at e6
    cases e6
  · exact Frs.slots (s.ok.next n1 g1) f2 p e1 e2 k es h5 h6
def zPar3 (i j l : Nat) (w1 w2 w3 : WR) : WS := fun B ρ fu => w1 ρ fu fun s1 fu1 => w2 ρ fu1 fun s2 fu2 => w3 ρ fu2 fun s3 fu3 => B.nx (((ρ.set i s1).set j s2).set l s3) fu3
theorem zt_par3 (hc : X.calm = true) (hN : X.N.Nodup) (hi : X.N[i]? = some x) (hj : X.N[j]? = some y) (hl : X.N[l]? = some z) (hij : i ≠ j) (hil : i ≠ l) (hjl : j ≠ l)
    (hx : X.env.scope.names.lookup x = some .local) (hy : X.env.scope.names.lookup y = some .local) (hz : X.env.scope.names.lookup z = some .local)
    (ha : WRs (U1 X) X.K a w1) (hb : WRs (U1 X) X.K b w2) (hcc : WRs (U1 X) X.K c w3)
    (hw : swappedStores [.Tuple [.Name x px, .Name y py, .Name z pz] kt pt] (.Tuple [a, b, c] k2 pt2) X.env = pure (some [x, y, z]))
    (hs : swapsWithSole [.Tuple [.Name x px, .Name y py, .Name z pz] kt pt] (.Tuple [a, b, c] k2 pt2) pos.line X.env = pure false := by rfl)
    (hs1 : starEach [a, b, c] X.env = (false, eval a X.env) :: starEach [b, c] X.env := by rfl) (hs2 : starEach [b, c] X.env = (false, eval b X.env) :: starEach [c] X.env := by rfl)
    (hs3 : starEach [c] X.env = (false, eval c X.env) :: starEach [] X.env := by rfl) :
    WSt X (.Assign [.Tuple [.Name x px, .Name y py, .Name z pz] kt pt] (.Tuple [a, b, c] k2 pt2) pos) (zPar3 i j l w1 w2 w3) := by
  obtain ⟨ta, pa, ra⟩ := ha.ex
  obtain ⟨tb, pb, rb⟩ := hb.ex
  obtain ⟨tc, pc, rc⟩ := hcc.ex
  refine ⟨_, ps_par3 hc hN hi hj hl hij hil hjl hx hy hz (pa_cons (pa ()) (pa_cons (pb ()) (pa_cons (pc ()) pa_nil hs3) hs2) hs1) hw hs, fun y0 H0 σ H y ρ fu B E s hw m => ?_⟩
  refine ra σ H y ρ fu _ _ s.ok hw fun s1 fu1 v1 H1 y1 h1 g1 n1 r1 f1 => ?_
  refine rb σ H1 y1 ρ fu1 _ _ (s.ok.next n1 g1) h1 fun s2 fu2 v2 H2 y2 h2 g2 n2 r2 f2 => ?_
  refine rc σ H2 y2 ρ fu2 _ _ (s.ok.next (n1.trans n2) g2) h2 fun s3 fu3 v3 H3 y3 h3 g3 n3 r3 f3 => ?_
  refine ⟨v1, v2, v3, rfl, m.nx _ _ fu3 H3 y3 h3 ?_⟩
  have st := s.next ((n1.trans n2).trans n3) g3
  have q1 := st.setR i ((r1.next n2).next n3) (Frs.of s.nx f1) (Frs.slots s.ok f1)
  have q2 := q1.setR j (r2.next n3) (Frs.of (s.nx.trans n1) f2) fun p e1 e2 k es h3 h4 => by
    rcases set_ow s.ok.len h3 h4 with ⟨ds, e3, e4⟩ | ⟨h5, h6⟩
    · subst e3
      obtain ⟨p', vs, e5, _, e6, _⟩ := r1
      rw [e4] at e5
      cases e5
      obtain ⟨ds2, e2⟩ := e2
      rw [f2 ds2 p e2 e1] at e6
      cases e6
    · exact Frs.slots (s.ok.next n1 g1) f2 p e1 e2 k es h5 h6
  refine q2.setR l r3 (Frs.of ((s.nx.trans n1).trans n2) f3) fun p e1 e2 k es h3 h4 => ?_
  obtain ⟨ds3, e2'⟩ := id e2
  rcases set_ow (by simpa using s.ok.len) h3 h4 with ⟨ds, e3, e4⟩ | ⟨h5, h6⟩
  · subst e3
    obtain ⟨p', vs, e5, _, e6, _⟩ := r2
    rw [e4] at e5
    cases e5
    rw [f3 ds3 p e2' e1] at e6
    cases e6
  · rcases set_ow s.ok.len h5 h6 with ⟨ds, e3, e4⟩ | ⟨h5, h6⟩
    · subst e3
      obtain ⟨p', vs, e5, _, e6, _⟩ := r1.next n2
      rw [e4] at e5
      cases e5
      rw [f3 ds3 p e2' e1] at e6
      cases e6
    · exact Frs.slots (s.ok.next (n1.trans n2) g2) f3 p e1 e2 k es h5 h6

/-! ## a tuple taken apart -/
def zAsg (we : WE) (g : WG) : WS := fun B ρ fu => we ρ fu fun d fu' => g d ρ fun ρ' => B.nx ρ' fu'
theorem zt_asg {tg e : Expr} {we : WE} {g : WG} {sl : List Nat} (h : WX (U1 X) X.K e we) (hg : WGt (U1 X) X.K tg sl g) (hs : swapsWithSole [tg] e pos.line X.env = pure false := by rfl) (hw : swappedStores [tg] e X.env = pure none := by rfl)
    (h1 : (assignEach [tg] X.env).map (·.2) = [assign tg X.env] := by rfl) : WSt X (.Assign [tg] e pos) (zAsg we g) := by
  obtain ⟨t, p, r⟩ := h.ex
  obtain ⟨g', pg, rg⟩ := hg.ex
  refine ⟨_, ps_asg (p ()) (pg ()) hs hw h1, fun y0 H0 σ H y ρ fu B E s hw m => ?_⟩
  refine r σ H y ρ fu _ _ s.ok hw fun d fu' v H' y' h' g2 n' r' => ?_
  exact rg y0 H0 v d σ H' y' ρ fu' _ _ (s.next n' g2) r' h' fun σ' ρ' h2 s2 _ => m.nx _ _ fu' H' y' h2 s2

/-! ## lists that grow -/
variable {e : Expr} {we : WE}
def zApp (i : Nat) (we : WE) : WS := fun B ρ fu => ∃ ds0, ρ[i]? = some (.ow ds0) ∧ we ρ fu fun d fu' => ds0.length < sizeLine ∧ B.nx (ρ.set i (.ow (ds0 ++ [d]))) fu'
theorem zt_append {nx : Str} {p1 p2 cpos : Pos} (hv : PE X (.Name nx p1) (tVar i)) (h : WX (U1 X) X.K e we) (hbase : attributeBase (.Name nx p1) "append" X.env (eval (.Name nx p1) X.env) = eval (.Name nx p1) X.env := by rfl)
    (hfew : ((backTo cpos (starEach [e] X.env)).all (fun x => !x.1) && (backToKw cpos (keywordEach [] X.env)).all (fun x => x.1.isSome) && decide ([e].length + ([] : List Keyword).length + (if ([] : List Keyword).isEmpty then 0 else 1) < 30)) = true := by rfl)
    (hline : (p2.endLine == cpos.line) = true := by rfl) (hs : starEach [e] X.env = (false, eval e X.env) :: starEach [] X.env := by rfl) (hpl : (backTo cpos (starEach [] X.env)).any (·.1) = false := by rfl)
    (hsw : swapsWith (.Call (.Attribute (.Name nx p1) "append" p2) [e] [] cpos) none pos.line X.env = pure false := by rfl) :
    WSt X (.Expr (.Call (.Attribute (.Name nx p1) "append" p2) [e] [] cpos) pos) (zApp i we) := by
  obtain ⟨t, p, r⟩ := h.ex
  refine ⟨_, ps_expr (pe_bm PySem.F.plainAttrs_list PySem.F.slot_list_append PySem.F.type_list_append mt_append hv (pa_cons (p ()) pa_nil hs) hbase hfew hline hs hpl) hsw, fun y0 H0 σ H y ρ fu B E s hw m => ?_⟩
  obtain ⟨ds0, h0, hw⟩ := hw
  obtain ⟨a, vs, q1, q2, q3, q4, q5⟩ := s.ok.ow i ds0 h0
  refine ⟨.ref a, q1, .inl ⟨rfl, _, .inl (.inl q3)⟩, ?_⟩
  refine r σ H y ρ fu _ _ s.ok hw fun d fu' v H' y' h' g' n' r' => ?_
  have hh : H a ≠ none := by rw [q3]; simp
  refine ⟨a, vs, v, rfl, rfl, n'.frm a _ q3 (q5.next n' hh), by rw [q4.length]; exact h'.1, ?_⟩
  exact m.nx _ _ fu' _ y' h'.2 ((s.next n' g').write h0 q1 ((q4.mono n'.x).append (.cons r' .nil)))
def zExt (i : Nat) (we : WE) : WS := fun B ρ fu => ∃ ds0, ρ[i]? = some (.ow ds0) ∧ we ρ fu fun d fu' => ∃ es, d = .lst es ∧ ds0.length + es.length ≤ sizeLine ∧ B.nx (ρ.set i (.ow (ds0 ++ es))) fu'
theorem zt_extend {nx : Str} {p1 p2 cpos : Pos} (hv : PE X (.Name nx p1) (tVar i)) (h : WX (U1 X) X.K e we) (hbase : attributeBase (.Name nx p1) "extend" X.env (eval (.Name nx p1) X.env) = eval (.Name nx p1) X.env := by rfl)
    (hfew : ((backTo cpos (starEach [e] X.env)).all (fun x => !x.1) && (backToKw cpos (keywordEach [] X.env)).all (fun x => x.1.isSome) && decide ([e].length + ([] : List Keyword).length + (if ([] : List Keyword).isEmpty then 0 else 1) < 30)) = true := by rfl)
    (hline : (p2.endLine == cpos.line) = true := by rfl) (hs : starEach [e] X.env = (false, eval e X.env) :: starEach [] X.env := by rfl) (hpl : (backTo cpos (starEach [] X.env)).any (·.1) = false := by rfl)
    (hsw : swapsWith (.Call (.Attribute (.Name nx p1) "extend" p2) [e] [] cpos) none pos.line X.env = pure false := by rfl) :
    WSt X (.Expr (.Call (.Attribute (.Name nx p1) "extend" p2) [e] [] cpos) pos) (zExt i we) := by
  obtain ⟨t, p, r⟩ := h.ex
  refine ⟨_, ps_expr (pe_bm PySem.F.plainAttrs_list PySem.F.slot_list_extend PySem.F.type_list_extend mt_extend hv (pa_cons (p ()) pa_nil hs) hbase hfew hline hs hpl) hsw, fun y0 H0 σ H y ρ fu B E s hw m => ?_⟩
  obtain ⟨ds0, h0, hw⟩ := hw
  obtain ⟨a, vs, q1, q2, q3, q4, q5⟩ := s.ok.ow i ds0 h0
  refine ⟨.ref a, q1, .inl ⟨rfl, _, .inl (.inl q3)⟩, ?_⟩
  refine r σ H y ρ fu _ _ s.ok hw fun d fu' v H' y' h' g' n' r' => ?_
  obtain ⟨es, rfl, hl, h'⟩ := h'
  have hh : H a ≠ none := by rw [q3]; simp
  cases r' with
  | lst z1 z2 =>
    refine ⟨a, _, vs, _, rfl, rfl, n'.frm a _ q3 (q5.next n' hh), g'.sub _ _ z1, by rw [q4.length, z2.length]; exact hl, ?_⟩
    exact m.nx _ _ fu' _ y' h' ((s.next n' g').write h0 q1 ((q4.mono n'.x).append z2))

/-! ## while, op= -/
def whN (u : WT) (w : WS) (B : DEnds) : Nat → List Sl → Fu → Prop
  | 0, _, _ => False
  | n + 1, ρ, fu => u ρ fu fun k fu' => if k = true then w { nx := whN u w B n, rt := B.rt, bk := B.nx, ct := whN u w B n } ρ fu' else B.nx ρ fu'
def zWhile (u : WT) (w : WS) : WS := fun B ρ fu => ∃ n, whN u w B n ρ fu
theorem zt_while {body : List Stmt} {u : WT} {w : WS} (hp : PassesOwn (model X.prog X.w) X.A X.env X.xe) (hc : WTs (U1 X) X.K c u) (hb : WSs X body w) : WSt X (.While c body [] pos) (zWhile u w) := by
  obtain ⟨tc, pc, rc⟩ := hc.ex
  obtain ⟨tb, pb, rb⟩ := hb.ex
  refine ⟨_, ps_while hp (pc ()) pb, fun y0 H0 σ H y ρ fu B E s hw m => ?_⟩
  obtain ⟨n, hw⟩ := hw
  refine ⟨fun m σ H => ∃ y ρ fu, St0 X.K y0 H0 y H σ ρ fu ∧ whN u w B m ρ fu, ⟨n, y, ρ, fu, s, hw⟩, ?_⟩
  rintro k σ2 H2 ⟨y2, ρ2, fu2, s2, h2⟩
  cases k with
  | zero => exact False.elim h2
  | succ k =>
    refine rc σ2 H2 y2 ρ2 fu2 _ _ s2.ok h2 fun j fu3 H3 y3 h3 g3 n3 => ?_
    cases j with
    | false =>
      rw [if_neg Bool.false_ne_true] at h3 ⊢
      exact m.nx _ _ _ _ _ h3 (s2.next n3 g3)
    | true =>
      rw [if_pos rfl] at h3 ⊢
      refine ⟨fun σ' H' => ∃ y ρ fu, St0 X.K y0 H0 y H' σ' ρ fu ∧ whN u w B k ρ fu, fun σ' H' h => ⟨k, Nat.lt_succ_self _, h⟩, ?_⟩
      exact rb y0 H0 σ2 H3 y3 ρ2 fu3 _ _ (s2.next n3 g3) h3 ⟨fun σ ρ fu H y h s => ⟨y, ρ, fu, s, h⟩, m.rt, m.nx, fun σ ρ fu H y h s => ⟨y, ρ, fu, s, h⟩⟩
def zAug (i : Nat) (f : D → D → Option D) (we : WE) : WS := fun B ρ fu => ∃ d0, ρ[i]? = some (.va d0) ∧ we ρ fu fun d fu' => ∃ d2, f d0 d = some d2 ∧ B.nx (ρ.set i (.va d2)) fu'
theorem zt_aug {x : Str} {op : Operator} {pos' : Pos} {r : R2} {f : D → D → Option D} (hN : X.N.Nodup) (hi : X.N[i]? = some x) (hx : Loc X.env.scope x) (ho : OpR X (inplaceOp op) r) (hr : OpD X.K r f) (h : WX (U1 X) X.K e we)
    (hf : X.fn x = true ∨ X.env.scope.names.lookup x = some .local := by first | exact .inl rfl | exact .inr rfl | assumption) : WSt X (.AugAssign (.Name x pos') op e pos) (zAug i f we) := by
  obtain ⟨t, p, rr⟩ := h.ex
  refine ⟨_, ps_aug hN hi hx (p ()) ho hf, fun y0 H0 σ H y ρ fu B E s hw m => ?_⟩
  obtain ⟨d0, h0, hw⟩ := hw
  obtain ⟨v0, q1, q2⟩ := s.ok.va i d0 h0
  refine ⟨v0, q1, ?_⟩
  refine rr σ H y ρ fu _ _ s.ok hw fun d fu' v H' y' h' g' n' r' => ?_
  obtain ⟨d2, e2, h'⟩ := h'
  refine hr H' y' fu' v0 v d0 d d2 _ g' (q2.mono n'.x) r' e2 fun v2 H2 y2 g2 n2 r2 => ?_
  exact m.nx _ _ fu' H2 y2 h' ((s.next (n'.trans n2) g2).set i r2)
end
end Z
namespace Z
open PySem PySem.Spec L2

/-! ## lists that still grow, read where nothing of them stays -/
def thaw : Sl → Sl
  | .ow ds => .va (.lst ds)
  | s => s
section
variable {K : PySem.W.Frag} {y y' : Gh} {H H' : Hp} {σ : L2.St} {ρ : List Sl} {fu fu' : Fu}
def Own (σ : L2.St) (ρ : List Sl) (a : Addr) : Prop := ∃ (i : Nat) (ds : List D), ρ[i]? = some (.ow ds) ∧ σ[i]? = some (some (.ref a))
open Classical in
theorem Ok.thaw (o : Ok K y H σ ρ fu) : ∃ y', Ok K y' H σ (ρ.map thaw) fu ∧ Gx y y' ∧ y'.s = y.s := by
  have own : ∀ {a}, Own σ ρ a → y.g a = none ∧ Nsr y a := fun {a} h => by
    obtain ⟨i, ds, h1, h2⟩ := h
    obtain ⟨b, vs, q1, q2, q3, q4, q5⟩ := o.ow i ds h1
    rw [h2] at q1
    cases q1
    exact ⟨q2, q5⟩
  let y2 : Gh := ⟨fun a => if Own σ ρ a then H a else y.g a, y.s⟩
  have hx : Gx y y2 := ⟨fun a u e => by
    show (if Own σ ρ a then H a else y.g a) = some u
    by_cases ho : Own σ ρ a
    · rw [(own ho).1] at e; cases e
    · rw [if_neg ho]; exact e, fun _ h => h⟩
  refine ⟨y2, ⟨⟨fun a u e => ?_, ?_⟩, by simpa using o.len, fun i d e => ?_, fun i ds e => ?_, fun i j ds es a e1 e2 e3 e4 => ?_⟩, hx, rfl⟩
  · have e' : (if Own σ ρ a then H a else y.g a) = some u := e
    by_cases ho : Own σ ρ a
    · rw [if_pos ho] at e'; exact e'
    · rw [if_neg ho] at e'; exact o.g.sub a u e'
  · have gs := o.g.src
    cases fu with
    | none => exact gs
    | some n =>
      obtain ⟨a, c, e1, e2, e3, r⟩ := gs
      have no : ∀ b, (b = a ∨ b = c) → ¬ Own σ ρ b := fun b hb ho => by
        obtain ⟨n1, n2⟩ := (own ho).2 _ e1
        rcases hb with rfl | rfl
        · exact n1 rfl
        · exact n2 rfl
      refine ⟨a, c, e1, ?_, ?_, r⟩
      · show (if Own σ ρ a then H a else y.g a) = none
        rw [if_neg (no a (.inl rfl))]; exact e2
      · show (if Own σ ρ c then H c else y.g c) = none
        rw [if_neg (no c (.inr rfl))]; exact e3
  · rw [List.getElem?_map] at e
    obtain ⟨z, hz, e⟩ := Option.map_eq_some_iff.mp e
    cases z with
    | un => cases e
    | va d0 =>
      cases e
      obtain ⟨v, q1, q2⟩ := o.va i d hz
      exact ⟨v, q1, q2.mono hx⟩
    | ow ds =>
      cases e
      obtain ⟨a, vs, q1, q2, q3, q4, q5⟩ := o.ow i ds hz
      refine ⟨.ref a, q1, .lst ?_ (q4.mono hx)⟩
      show (if Own σ ρ a then H a else y.g a) = some (.lst vs)
      rw [if_pos ⟨i, ds, hz, q1⟩]
      exact q3
  · rw [List.getElem?_map] at e
    obtain ⟨z, hz, e⟩ := Option.map_eq_some_iff.mp e
    cases z <;> cases e
  · rw [List.getElem?_map] at e1
    obtain ⟨z, hz, e⟩ := Option.map_eq_some_iff.mp e1
    cases z <;> cases e
theorem thaw_back {y2 : Gh} (g : GOk y H fu) (x : Gx y y') (hs : y'.s = y.s) (g2 : GOk y2 H' fu') (n : Nx y' H y2 H') : GOk ⟨y.g, y2.s⟩ H' fu' ∧ Nx y H ⟨y.g, y2.s⟩ H' := by
  have hsub : Sub y.g y2.g := x.g.trans n.x.g
  refine ⟨⟨hsub.trans g2.sub, ?_⟩, ⟨⟨Sub.refl _, fun p h => n.x.s p (by rw [hs]; exact h)⟩, n.frm, n.here, fun _ _ h => h, fun p h => ?_⟩⟩
  · have gs := g2.src
    cases fu' with
    | none => exact gs
    | some k =>
      obtain ⟨a, c, e1, e2, e3, r⟩ := gs
      have out : ∀ b, y2.g b = none → y.g b = none := fun b hb => by
        cases q : y.g b with
        | none => rfl
        | some u => rw [hsub b u q] at hb; cases hb
      exact ⟨a, c, e1, out a e2, out c e3, r⟩
  · rcases n.new p h with q | q
    · exact .inl (by rw [← hs]; exact q)
    · exact .inr q
end
section
variable {ι : Type} {F : ι → Cx} {K : PySem.W.Frag} {e : Expr} {we : WE} {u : WT}
def wBorT (u : WT) : WT := fun ρ fu P => u (ρ.map thaw) fu P
theorem WTs.bor (h : WTs F K e u) : WTs F K e (wBorT u) := by
  obtain ⟨t, p, r⟩ := h.ex
  refine ⟨t, p, fun σ H y ρ fu P Q o hw k => ?_⟩
  obtain ⟨y', o', x', s'⟩ := o.thaw
  refine r σ H y' _ fu P Q o' hw fun b fu' H' y2 h' g' n' => ?_
  obtain ⟨g3, n3⟩ := thaw_back o.g x' s' g' n'
  exact k b fu' H' _ h' g3 n3
/-- what is no object -/
def flat : D → Bool
  | .non => true
  | .bl _ => true
  | .int _ => true
  | .str _ => true
  | _ => false
def wBor (we : WE) : WE := fun ρ fu P => we (ρ.map thaw) fu fun d fu' => flat d = true ∧ P d fu'
theorem WX.bor (h : WX F K e we) : WX F K e (wBor we) := by
  obtain ⟨t, p, r⟩ := h.ex
  refine ⟨t, p, fun σ H y ρ fu P Q o hw k => ?_⟩
  obtain ⟨y', o', x', s'⟩ := o.thaw
  refine r σ H y' _ fu _ Q o' hw fun d fu' v H' y2 h' g' n' r' => ?_
  obtain ⟨g3, n3⟩ := thaw_back o.g x' s' g' n'
  refine k d fu' v H' _ h'.2 g3 n3 ?_
  cases r' with
  | non => exact .non
  | bl b => exact .bl b
  | int b => exact .int b
  | str b => exact .str b
  | _ => cases h'.1
end

/-! ## the end -/
section
open PyProof.Rows (IntsAre AllBare)
theorem guards_caller : callerA.guards = some [] := rfl
/-- a heap in which the script alone may be tracked -/
structure Alone (K : PySem.W.Frag) (H : Hp) (a : Addr) (xs : List V) : Prop where
  only : ∀ b u, H b = some u → b = a ∧ ∃ o, u = .frz o (.lst xs)
  seq : SqL K H a xs
  notK : H a ≠ none → K.lookup a = none
/-- the law's call, from its promise -/
theorem law_end {P : Program} {w : World} {K : PySem.W.Frag} {mg mb : Str → Option Value} {k : Nat} {fa a : Addr} {fd : FuncData} {x : Str} {wf : WF} {s1 : Shared} {vs : List Value} {ns : List Int}
    (KX : K.In s1.heap) (hns : s1.heap.Ns mainGlobals mg) (hb : s1.heap.Ns builtinsNs mb) (hbb : ∀ x : Str, x ≠ "__name__" → mb x = bootBuiltins x) (hlim : s1.heap.NoLimit) (hg : s1.gens = #[])
    (ha : s1.heap.get? a = some { cls := .type "list", data := .seq vs.toArray }) (hi : IntsAre vs ns) (hl : ns.length ≤ 63) (hr : Room k callerA)
    (F : ∀ base : Heap, K.In base → base.Ns mainGlobals mg → FnG P w K mg base k fa fd [x] wf) (hbind : ∀ (s : Shared) (u : Value), BindsTo s fd ⟨[u], []⟩ [(x, u)])
    (hw : wf [.scr] none fun d _ => d = .bl true) :
    codeAny (model P w) callerA (.call (.ref fa) ⟨[.ref a], []⟩) (fun r s' => r = .ok (.ret (.bool true)) ∧ OldK s1.heap s'.heap ∧ s'.os = s1.os ∧ AllBare s'.gens) s1 := by
  have hl2 : ns.length ≤ sizeLine := Nat.le_trans hl (by decide)
  have rv := L2.vals_ints hi
  have main : ∀ H : Hp, Alone K H a (ns.map V.int) → HOk P w H s1.heap → codeAny (model P w) callerA (.call (.ref fa) ⟨[.ref a], []⟩) (fun r s' => r = .ok (.ret (.bool true)) ∧ OldK s1.heap s'.heap ∧ s'.os = s1.os ∧ AllBare s'.gens) s1 := by
    intro H al hok
    have dicts : ∀ {b : Addr} {o : Obj} {es : Array DictEntry} {ep : Nat}, s1.heap.get? b = some o → o.data = .dict es ep → H b = none := by
      intro b o es ep e d
      cases q : H b with
      | none => rfl
      | some u =>
        obtain ⟨rfl, _⟩ := al.only b u q
        rw [ha] at e
        cases e
        have d' : Data.seq vs.toArray _ = Data.dict es ep := d
        cases d'
    have nsOf : ∀ {b : Addr} {m : Str → Option Value}, s1.heap.Ns b m → (hidT s1.heap H).Ns b m := by
      rintro b m ⟨o, es, ep, e, d, r⟩
      exact ⟨o, es, ep, hidT_get e (dicts e d), d, r⟩
    have kin : K.In (hidT s1.heap H) := by
      intro b o e
      refine hidT_get (KX b o e) ?_
      cases q : H b with
      | none => rfl
      | some u =>
        obtain ⟨rfl, _⟩ := al.only b u q
        rw [al.notK (by rw [q]; simp)] at e
        cases e
    have md : Mod K mg (hidT s1.heap H) := ⟨kin, nsOf hns, ⟨mb, nsOf hb, hbb⟩, by obtain ⟨mc, h1, h2⟩ := hlim; exact ⟨mc, nsOf h1, h2⟩⟩
    have e0 : Env0 P w K mg (hidT s1.heap H) callerA [] s1 H := ⟨rfl, md, fun b o e => of_hidT e, Nat.le_of_eq (hidT_size _ _), trivial, by intro b hb; exact absurd (show b ∈ ([] : List Addr) from hb) (by simp), hok, .of_eq hg⟩
    have go : GOk ⟨H, none⟩ H none := ⟨Sub.refl H, rfl⟩
    refine codeAny_mono ((F _ kin (nsOf hns)).run callerA [] s1 H ⟨[.ref a], []⟩ [.ref a] [.ref a] [.scr] ⟨H, none⟩ none _ (fun v _ => v = .bl true) hr guards_caller e0 (hbind s1 (.ref a)) (.cons rfl .nil) rfl go (.cons (.scr al.seq hl) .nil) hw ?_) ?_
    · intro d fu' v H' y' hd _ _ r
      subst hd
      cases r
      rfl
    · intro r s' h
      cases r with
      | error e => exact False.elim h
      | ok fl =>
        cases fl with
        | next => exact False.elim h
        | brk => exact False.elim h
        | cont => exact False.elim h
        | ret u =>
          obtain ⟨v, H', os, bare, un, hok', r', q⟩ := h
          have q' : v = .bl true := q
          subst q'
          obtain rfl : u = Value.bool true := r'
          refine ⟨rfl, OldK.of_keep fun b o e => ?_, os, bare⟩
          cases q : H b with
          | none => exact un.keep b o e q (by intro z; exact absurd (show b ∈ ([] : List Addr) from z) (by simp)) (by simp)
          | some u =>
            obtain ⟨_, ob, rfl⟩ := al.only b u q
            obtain ⟨e1, _⟩ := hok b _ q
            obtain ⟨e2, _⟩ := hok' b _ (un.frzs b ob _ q)
            rw [e] at e1
            cases e1
            exact e2
  cases hk : K.lookup a with
  | some o =>
    have e := KX a o hk
    rw [ha] at e
    cases e
    refine main (fun _ => none) ⟨fun b u z => (by have z' : (none : Option HO) = some u := z; cases z'), ?_, fun z => absurd rfl z⟩ fun b u z => (by have z' : (none : Option HO) = some u := z; cases z')
    refine .inr ⟨_, vs.toArray, _, hk, rfl, rfl, rfl, ?_, by simpa using rv⟩
    have := hi.length
    simp only [List.size_toArray]
    omega
  | none =>
    let Hs : Hp := fun b => if b = a then some (.frz { cls := .type "list", data := .seq vs.toArray } (.lst (ns.map V.int))) else none
    have at_a : Hs a = some (.frz { cls := .type "list", data := .seq vs.toArray } (.lst (ns.map V.int))) := if_pos rfl
    have at_b : ∀ b u, Hs b = some u → b = a := fun b u z => by
      by_cases hb : b = a
      · exact hb
      · have z' := (if_neg hb).symm.trans z
        cases z'
    refine main Hs ⟨fun b u z => ?_, .inl (.inr ⟨_, at_a⟩), fun _ => hk⟩ fun b u z => ?_
    · have hb := at_b b u z
      subst hb
      rw [at_a] at z
      cases z
      exact ⟨rfl, _, rfl⟩
    · have hb := at_b b u z
      subst hb
      rw [at_a] at z
      cases z
      exact ⟨ha, by rw [List.length_map]; exact hl2, vs, _, rv, ha⟩
/-- the goal that k_head leaves -/
theorem walk_g {l : PySem.W.OpenLaw} {k : Nat} {q : Program} {loose : List Str} {XP : (Str → Option Value) → Heap → Prop} {YP : World → Heap → Prop} {d : DefRec} {K : Params → PySem.W.Frag} {x : Str} {wf : WF}
    (hn : l.most = some 63) (hdf : d.params.defaults = []) (hr : Room k callerA) (hY : ∀ (w : World) (h : Heap), YP w h → (K w.params).In h)
    (F : ∀ (w : World) (mg : Str → Option Value) (fa : Addr) (h : Heap), (K w.params).In h → h.Ns mainGlobals mg → mg d.name = some (.ref fa) →
      ∃ fd : FuncData, (∀ (s : Shared) (u : Value), BindsTo s fd ⟨[u], []⟩ [(x, u)]) ∧ ∀ base : Heap, (K w.params).In base → base.Ns mainGlobals mg → FnG l.prog w (K w.params) mg base k fa fd [x] wf)
    (hw : wf [.scr] none fun d _ => d = .bl true) : PySem.W.WalkO q loose XP YP l.row.toRowW d [] (fun f vs => PySem.call f vs) := by
  refine Att.attach_call hn hdf fun w s0 s1 mg mb fa o pm cd doc a vs ns G Y ho hd hcd hmg hobj hints hlen hg => ?_
  have KX := hY w _ Y
  obtain ⟨fd, hb, hF⟩ := F w mg fa _ KX G.T.g hmg
  exact law_end KX G.T.g G.T.b G.T.builtins G.T.nolimit hg hobj hints hlen hr hF hb hw
end
end Z
namespace Z
open PySem PySem.Spec L2

/-! ## short rules -/
section
variable {ι : Type} {F : ι → Cx} {P : Program} {w : World} {K : PySem.W.Frag} {mg : Str → Option Value} {base : Heap} {k : Nat} {a b : Expr} {wa wb : WE} {pos : Pos}
theorem wx_add (C : Cxs F P w K mg base k) (ha : WX F K a wa) (hb : WX F K b wb) : WX F K (.BinOp a .Add b pos) (wOp dAdd wa wb) := wx_op (fun i => by rw [← C.K i]; exact opr_add) opd_add ha hb
theorem wx_sub (C : Cxs F P w K mg base k) (ha : WX F K a wa) (hb : WX F K b wb) : WX F K (.BinOp a .Sub b pos) (wOp dSub wa wb) := wx_op (fun i => opr_sub) opd_sub ha hb
theorem wx_mul (C : Cxs F P w K mg base k) (ha : WX F K a wa) (hb : WX F K b wb) : WX F K (.BinOp a .Mult b pos) (wOp dMul wa wb) := wx_op (fun i => op_mul) opd_mul ha hb
theorem wx_mod (C : Cxs F P w K mg base k) (ha : WX F K a wa) (hb : WX F K b wb) : WX F K (.BinOp a .Mod b pos) (wOp dMod wa wb) := wx_op (fun i => op_mod) opd_mod ha hb
theorem wx_fdiv (C : Cxs F P w K mg base k) (ha : WX F K a wa) (hb : WX F K b wb) : WX F K (.BinOp a .FloorDiv b pos) (wOp dFdiv wa wb) := wx_op (fun i => op_fdiv) opd_fdiv ha hb
theorem opr_eq {X : Cx} (hu : X.A.units + 64 < cLine) : OpR X (compareOp .Eq) (rEqA X.K) := op_eq.or (op_eqD hu)
theorem opr_ne {X : Cx} (hu : X.A.units + 64 < cLine) : OpR X (compareOp .NotEq) (rNeA X.K) := op_ne.or (op_neD hu)
theorem wx_eq (C : Cxs F P w K mg base k) (ha : WX F K a wa) (hb : WX F K b wb) : WX F K (.Compare a [.Eq] [b] pos) (wOp dEq wa wb) := wx_cmp (fun i => by rw [← C.K i]; exact opr_eq (C.room i).units) opd_eq ha hb (nomark _)
theorem wx_ne (C : Cxs F P w K mg base k) (ha : WX F K a wa) (hb : WX F K b wb) : WX F K (.Compare a [.NotEq] [b] pos) (wOp dNe wa wb) := wx_cmp (fun i => by rw [← C.K i]; exact opr_ne (C.room i).units) opd_ne ha hb (nomark _)
theorem wx_lt (C : Cxs F P w K mg base k) (ha : WX F K a wa) (hb : WX F K b wb) : WX F K (.Compare a [.Lt] [b] pos) (wOp dLt wa wb) := wx_cmp (fun i => opr_lt) opd_lt ha hb (nomark _)
theorem wx_le (C : Cxs F P w K mg base k) (ha : WX F K a wa) (hb : WX F K b wb) : WX F K (.Compare a [.LtE] [b] pos) (wOp dLe wa wb) := wx_cmp (fun i => opr_le) opd_le ha hb (nomark _)
theorem wx_gt (C : Cxs F P w K mg base k) (ha : WX F K a wa) (hb : WX F K b wb) : WX F K (.Compare a [.Gt] [b] pos) (wOp dGt wa wb) := wx_cmp (fun i => opr_gt) opd_gt ha hb (nomark _)
theorem wx_ge (C : Cxs F P w K mg base k) (ha : WX F K a wa) (hb : WX F K b wb) : WX F K (.Compare a [.GtE] [b] pos) (wOp dGe wa wb) := wx_cmp (fun i => opr_ge) opd_ge ha hb (nomark _)
theorem wx_isN {j : Nat} {p : Pos} (C : Cxs F P w K mg base k) (ha : WX F K a wa) : WX F K (.Compare a [.Is] [.Constant .none j p] pos) (wOp dIsN wa (wC .non)) := wx_cmp (fun i => op_isN) opd_isN ha wx_non (nomark _)
theorem wx_notN {j : Nat} {p : Pos} (C : Cxs F P w K mg base k) (ha : WX F K a wa) : WX F K (.Compare a [.IsNot] [.Constant .none j p] pos) (wOp dNotN wa (wC .non)) := wx_cmp (fun i => op_notN) opd_notN ha wx_non (nomark _)
theorem wt_eq (C : Cxs F P w K mg base k) (ha : WX F K a wa) (hb : WX F K b wb) : WTs F K (.Compare a [.Eq] [b] pos) (wB (wOp dEq wa wb)) := wt_cmp (fun i => by rw [← C.K i]; exact opr_eq (C.room i).units) opd_eq ha hb (nomark _)
theorem wt_ne (C : Cxs F P w K mg base k) (ha : WX F K a wa) (hb : WX F K b wb) : WTs F K (.Compare a [.NotEq] [b] pos) (wB (wOp dNe wa wb)) := wt_cmp (fun i => by rw [← C.K i]; exact opr_ne (C.room i).units) opd_ne ha hb (nomark _)
theorem wt_lt (C : Cxs F P w K mg base k) (ha : WX F K a wa) (hb : WX F K b wb) : WTs F K (.Compare a [.Lt] [b] pos) (wB (wOp dLt wa wb)) := wt_cmp (fun i => opr_lt) opd_lt ha hb (nomark _)
theorem wt_le (C : Cxs F P w K mg base k) (ha : WX F K a wa) (hb : WX F K b wb) : WTs F K (.Compare a [.LtE] [b] pos) (wB (wOp dLe wa wb)) := wt_cmp (fun i => opr_le) opd_le ha hb (nomark _)
theorem wt_gt (C : Cxs F P w K mg base k) (ha : WX F K a wa) (hb : WX F K b wb) : WTs F K (.Compare a [.Gt] [b] pos) (wB (wOp dGt wa wb)) := wt_cmp (fun i => opr_gt) opd_gt ha hb (nomark _)
theorem wt_ge (C : Cxs F P w K mg base k) (ha : WX F K a wa) (hb : WX F K b wb) : WTs F K (.Compare a [.GtE] [b] pos) (wB (wOp dGe wa wb)) := wt_cmp (fun i => opr_ge) opd_ge ha hb (nomark _)
theorem wt_isN {j : Nat} {p : Pos} (C : Cxs F P w K mg base k) (ha : WX F K a wa) : WTs F K (.Compare a [.Is] [.Constant .none j p] pos) (wB (wOp dIsN wa (wC .non))) := wt_cmp (fun i => op_isN) opd_isN ha wx_non (nomark _)
theorem wt_notN {j : Nat} {p : Pos} (C : Cxs F P w K mg base k) (ha : WX F K a wa) : WTs F K (.Compare a [.IsNot] [.Constant .none j p] pos) (wB (wOp dNotN wa (wC .non))) := wt_cmp (fun i => op_notN) opd_notN ha wx_non (nomark _)
/-- a name of a slot -/
theorem wvar (i : Nat) {x : Str} (h : ∀ k, PE (F k) (.Name x pos) (tVar i) := by intro _; exact pv _) : WX F K (.Name x pos) (wVar i) := wx_var i h
theorem gvar (i : Nat) {x : Str} (h : ∀ k, PG (F k) (.Name x pos) (gName i)) : WGt F K (.Name x pos) [i] (gN i) := wg_name h
/-- a global that holds a text -/
theorem wgs {x s : Str} {t : Tok} (C : Cxs F P w K mg base k) (hm : mg x = some (.str s t)) (hg : ∀ i, Gl (F i) x := by intro _; rfl) (hd : (x == ("__debug__" : Str)) = false := by decide) : WX F K (.Name x pos) (wC (.str s)) :=
  wx_glob (fun i => pe_glob (v := .str s) (hg i) (by rw [C.mg i]; exact hm) ⟨t, rfl⟩ hd) fun _ => .str s
/-- a global that holds an int -/
theorem wgi {x : Str} {n : Int} {t : Tok} (C : Cxs F P w K mg base k) (hm : mg x = some (.int n t)) (hg : ∀ i, Gl (F i) x := by intro _; rfl) (hd : (x == ("__debug__" : Str)) = false := by decide) : WX F K (.Name x pos) (wC (.int n)) :=
  wx_glob (fun i => pe_glob (v := .int n) (hg i) (by rw [C.mg i]; exact hm) ⟨t, rfl⟩ hd) fun _ => .int n
/-- ranges -/
theorem wr1 {tg e : Expr} {p : Pos} {we : WE} (C : Cxs F P w K mg base k) (hm : mg "range" = none) (h : WX F K e we) (hg : ∀ k, Gl (F k) "range" := by intro _; rfl) (hs : ∀ k, starEach [e] (F k).env = [(false, eval e (F k).env)] := by intro _; rfl)
    (hs' : ∀ k, starEach [e] (F k).env = (false, eval e (F k).env) :: starEach [] (F k).env := by intro _; rfl) : WI F K tg (.Call (.Name "range" p) [e] [] pos) (iR1 we) := wi_range1 hg (fun i => (C.mg i).symm ▸ hm) h hs hs'
theorem wr2 {tg e e2 : Expr} {p : Pos} {we w2 : WE} (C : Cxs F P w K mg base k) (hm : mg "range" = none) (h : WX F K e we) (h2 : WX F K e2 w2) (hg : ∀ k, Gl (F k) "range" := by intro _; rfl)
    (hs : ∀ k, starEach [e, e2] (F k).env = [(false, eval e (F k).env), (false, eval e2 (F k).env)] := by intro _; rfl) (hs2 : ∀ k, starEach [e2] (F k).env = [(false, eval e2 (F k).env)] := by intro _; rfl)
    (hs3 : ∀ k, starEach [e, e2] (F k).env = (false, eval e (F k).env) :: starEach [e2] (F k).env := by intro _; rfl) (hs4 : ∀ k, starEach [e2] (F k).env = (false, eval e2 (F k).env) :: starEach [] (F k).env := by intro _; rfl) :
    WI F K tg (.Call (.Name "range" p) [e, e2] [] pos) (iR2 we w2) := wi_range2 hg (fun i => (C.mg i).symm ▸ hm) h h2 hs hs2 hs3 hs4
end
end Z
namespace Z
open PySem PySem.Spec L2

/-! ## plain facts for proofs about data -/
theorem shaped_py {d : D} (h : plain d = true) (h1 : PyData.canLay0 (py d) = true) (h2 : PyData.depth (py d) ≤ 64) : SeqAt.shaped (py d) = true := by
  unfold SeqAt.shaped
  rw [h1, decide_eq_true h2]
  rfl
/-- a list of texts -/
def sL (l : List Str) : D := .lst (l.map .str)
theorem pyL_strs : ∀ l : List Str, pyL (l.map .str) = l.map .str
  | [] => by simp [pyL]
  | s :: l => by rw [List.map_cons, pyL, pyL_strs l]; simp [py]
theorem plainL_strs : ∀ l : List Str, plainL (l.map .str) = true
  | [] => by simp [plainL]
  | s :: l => by rw [List.map_cons, plainL, plainL_strs l]; simp [plain]
theorem lay_strs : ∀ l : List Str, (∀ s ∈ l, PyData.strOk s = true) → PyData.canLayAll0 (l.map .str) = true
  | [], _ => by simp [PyData.canLayAll0]
  | s :: l, h => by
    rw [List.map_cons, PyData.canLayAll0, lay_strs l fun x hx => h x (List.mem_cons_of_mem _ hx)]
    simp [PyData.canLay0, h s List.mem_cons_self]
theorem depth_strs : ∀ l : List Str, PyData.depthAll (l.map .str) = 0
  | [] => by simp [PyData.depthAll]
  | s :: l => by rw [List.map_cons, PyData.depthAll, depth_strs l]; simp [PyData.depth]
/-- strs == [] -/
theorem eq_strs_nil (l : List Str) (h : ∀ s ∈ l, PyData.strOk s = true) : dEq (sL l) (.lst []) = some (.bl l.isEmpty) := by
  have hs : SeqAt.shaped (py (sL l)) = true := by
    unfold sL py SeqAt.shaped PyData.canLay0 PyData.depth
    rw [pyL_strs, lay_strs l h, depth_strs]
    rfl
  have hp : plain (sL l) = true := by unfold sL plain; exact plainL_strs l
  have h0 : SeqAt.shaped (py (.lst [])) = true := by decide
  unfold dEq eqOk
  rw [hp, hs, h0]
  have : deq (sL l) (.lst []) = l.isEmpty := by
    unfold deq sL py
    rw [pyL_strs]
    cases l <;> simp [pyL, PyData.eqv, PyData.eqvAll]
  simp [plain, plainL, scalD, sL, this]
  exact this
end Z
namespace Z
open PySem PySem.Spec L2

/-! ## reading the readings -/
theorem ite_and' {a b x y : Prop} [Decidable a] [Decidable b] : (if a ∧ b then x else y) = (if a then if b then x else y else y) := by
  by_cases ha : a <;> by_cases hb : b <;> simp [ha, hb]
/-- it is a bool, and .. -/
def IsB (d : D) (R : Bool → Prop) : Prop := ∃ k, d = .bl k ∧ R k
@[simp] theorem isB {b : Bool} {R : Bool → Prop} : IsB (.bl b) R = R b := propext ⟨fun ⟨_, e, h⟩ => by cases e; exact h, fun h => ⟨b, rfl, h⟩⟩
/-- there is one, and .. -/
def IsS {α : Type} (o : Option α) (R : α → Prop) : Prop := ∃ d, o = some d ∧ R d
@[simp] theorem isS {α : Type} {d : α} {R : α → Prop} : IsS (some d) R = R d := propext ⟨fun ⟨_, e, h⟩ => by cases e; exact h, fun h => ⟨d, rfl, h⟩⟩
@[simp] theorem isS0 {α : Type} {R : α → Prop} : IsS none R = False := propext ⟨fun ⟨_, e, _⟩ => (by cases e), False.elim⟩
theorem isS_of {α : Type} {o : Option α} {d : α} {R : α → Prop} (h : o = some d) (r : R d) : IsS o R := ⟨d, h, r⟩
section
variable {ρ : List Sl} {fu : Fu} {i j l : Nat} {d : D} {P : KD} {R : Bool → Fu → Prop} {T : List D → Fu → Prop} {B : DEnds} {wa wb we : WE} {u u' : WT} {v vk : WA} {w w' : WS} {f : D → D → Option D} {f1 : D → Option D} {fl : List D → Option D} {g : WG} {gl : WGl} {wf : WF} {n m : Nat}
@[simp] theorem e_var : wVar i ρ fu P = ∃ d, ρ[i]? = some (.va d) ∧ P d fu := rfl
@[simp] theorem e_c : wC d ρ fu P = P d fu := rfl
@[simp] theorem e_op : wOp f wa wb ρ fu P = wa ρ fu fun p fu1 => wb ρ fu1 fun q fu2 => IsS (f p q) fun d => P d fu2 := rfl
@[simp] theorem e_b : wB wa ρ fu R = wa ρ fu fun d fu' => IsB d fun k => R k fu' := rfl
@[simp] theorem e_and : wAnd u u' ρ fu R = u ρ fu fun k fu1 => if k = true then u' ρ fu1 R else R false fu1 := rfl
@[simp] theorem e_or : wOr u u' ρ fu R = u ρ fu fun k fu1 => if k = true then R true fu1 else u' ρ fu1 R := rfl
@[simp] theorem e_not : wNot u ρ fu R = u ρ fu fun k fu1 => R (!k) fu1 := rfl
@[simp] theorem e_andv : wAndV wa wb ρ fu P = wa ρ fu fun d fu1 => IsB d fun k => if k = true then wb ρ fu1 P else P (.bl false) fu1 := rfl
@[simp] theorem e_orv : wOrV wa wb ρ fu P = wa ρ fu fun d fu1 => IsB d fun k => if k = true then P (.bl true) fu1 else wb ρ fu1 P := rfl
@[simp] theorem e_notv : wNotV wa ρ fu P = wa ρ fu fun d fu1 => IsB d fun k => P (.bl (!k)) fu1 := rfl
@[simp] theorem e_if : wIf u wa wb ρ fu P = u ρ fu fun k fu1 => if k = true then wa ρ fu1 P else wb ρ fu1 P := rfl
@[simp] theorem e_anil : wNil ρ fu T = T [] fu := rfl
@[simp] theorem e_acons : wCons wa v ρ fu T = wa ρ fu fun d fu1 => v ρ fu1 fun ds fu2 => T (d :: ds) fu2 := rfl
@[simp] theorem e_tup : wTup v ρ fu P = v ρ fu fun ds fu1 => ds.length ≤ sizeLine ∧ P (.tup ds) fu1 := rfl
@[simp] theorem e_lst : wLst v ρ fu T = v ρ fu fun ds fu1 => ds.length ≤ sizeLine ∧ T ds fu1 := rfl
@[simp] theorem e_fz : wFz v ρ fu P = v ρ fu fun ds fu1 => P (.lst ds) fu1 := rfl
@[simp] theorem e_yes : wYes ρ fu R = R true fu := rfl
@[simp] theorem e_cl : wCl fl v ρ fu P = v ρ fu fun ds fu1 => IsS (fl ds) fun d => P d fu1 := rfl
@[simp] theorem e_un : wUn f1 wa ρ fu P = wa ρ fu fun p fu1 => IsS (f1 p) fun d => P d fu1 := rfl
@[simp] theorem e_m1 : wM1 f wa wb ρ fu P = wa ρ fu fun p fu1 => (∃ s, p = .str s) ∧ wb ρ fu1 fun q fu2 => IsS (f p q) fun d => P d fu2 := rfl
@[simp] theorem e_m0 : wM0 f1 wa ρ fu P = wa ρ fu fun p fu1 => (∃ s, p = .str s) ∧ IsS (f1 p) fun d => P d fu1 := rfl
@[simp] theorem e_call : wCall n wf v ρ fu P = v ρ fu fun ds fu' => ds.length = n ∧ wf ds fu' P := rfl
@[simp] theorem e_callk {perm : List Nat} : wCallK n m l perm wf v vk ρ fu P = v ρ fu fun ds fu' => vk ρ fu' fun es fu'' => ds.length = m ∧ es.length = l ∧ (pick perm (ds ++ es)).length = n ∧ wf (pick perm (ds ++ es)) fu'' P := rfl
@[simp] theorem e_bort : wBorT u ρ fu R = u (ρ.map thaw) fu R := rfl
@[simp] theorem e_bor : wBor we ρ fu P = we (ρ.map thaw) fu fun d fu' => flat d = true ∧ P d fu' := rfl
@[simp] theorem e_gn {Q : List Sl → Prop} : gN i d ρ Q = Q (ρ.set i (.va d)) := rfl
@[simp] theorem e_glnil {Q : List Sl → Prop} : glNil [] ρ Q = Q ρ := by simp [glNil]
@[simp] theorem e_glcons {ds : List D} {Q : List Sl → Prop} : glCons g gl (d :: ds) ρ Q = g d ρ fun ρ' => gl ds ρ' Q := propext ⟨fun ⟨_, _, e, h⟩ => by cases e; exact h, fun h => ⟨_, _, rfl, h⟩⟩
@[simp] theorem e_gt {ds : List D} {Q : List Sl → Prop} : gT n gl (.tup ds) ρ Q = (ds.length = n ∧ gl ds ρ Q) := propext ⟨fun ⟨_, e, h⟩ => by cases e; exact h, fun h => ⟨_, rfl, h⟩⟩
@[simp] theorem sz0 : 0 ≤ sizeLine := Nat.zero_le _
@[simp] theorem sz1 : 1 ≤ sizeLine := by decide
@[simp] theorem sz2 : 2 ≤ sizeLine := by decide
@[simp] theorem sz3 : 3 ≤ sizeLine := by decide
@[simp] theorem sz4 : 4 ≤ sizeLine := by decide
@[simp] theorem sz5 : 5 ≤ sizeLine := by decide
@[simp] theorem sz6 : 6 ≤ sizeLine := by decide
@[simp] theorem sz7 : 7 ≤ sizeLine := by decide
@[simp] theorem sz8 : 8 ≤ sizeLine := by decide
@[simp] theorem sz9 : 9 ≤ sizeLine := by decide
@[simp] theorem sz10 : 10 ≤ sizeLine := by decide
@[simp] theorem sz11 : 11 ≤ sizeLine := by decide
@[simp] theorem sz12 : 12 ≤ sizeLine := by decide
@[simp] theorem sz13 : 13 ≤ sizeLine := by decide
@[simp] theorem sz14 : 14 ≤ sizeLine := by decide
@[simp] theorem sz15 : 15 ≤ sizeLine := by decide
@[simp] theorem sz16 : 16 ≤ sizeLine := by decide
@[simp] theorem sz17 : 17 ≤ sizeLine := by decide
@[simp] theorem sz18 : 18 ≤ sizeLine := by decide
@[simp] theorem sz19 : 19 ≤ sizeLine := by decide
@[simp] theorem sz20 : 20 ≤ sizeLine := by decide
@[simp] theorem sz21 : 21 ≤ sizeLine := by decide
@[simp] theorem sz22 : 22 ≤ sizeLine := by decide
@[simp] theorem sz23 : 23 ≤ sizeLine := by decide
@[simp] theorem sz24 : 24 ≤ sizeLine := by decide
@[simp] theorem sz25 : 25 ≤ sizeLine := by decide
@[simp] theorem sz26 : 26 ≤ sizeLine := by decide
@[simp] theorem sz27 : 27 ≤ sizeLine := by decide
@[simp] theorem sz28 : 28 ≤ sizeLine := by decide
@[simp] theorem sz29 : 29 ≤ sizeLine := by decide
@[simp] theorem sz30 : 30 ≤ sizeLine := by decide
@[simp] theorem sz31 : 31 ≤ sizeLine := by decide
@[simp] theorem sz32 : 32 ≤ sizeLine := by decide
@[simp] theorem sz33 : 33 ≤ sizeLine := by decide
@[simp] theorem sz34 : 34 ≤ sizeLine := by decide
@[simp] theorem sz35 : 35 ≤ sizeLine := by decide
@[simp] theorem sz36 : 36 ≤ sizeLine := by decide
@[simp] theorem sz37 : 37 ≤ sizeLine := by decide
@[simp] theorem sz38 : 38 ≤ sizeLine := by decide
@[simp] theorem sz39 : 39 ≤ sizeLine := by decide
@[simp] theorem sz40 : 40 ≤ sizeLine := by decide
@[simp] theorem e_il : iL wa ρ fu T = wa ρ fu fun d fu' => ∃ ds, d = .lst ds ∧ T ds fu' := rfl
@[simp] theorem e_it : iT wa ρ fu T = wa ρ fu fun d fu' => ∃ ds, d = .tup ds ∧ T ds fu' := rfl
@[simp] theorem e_is : iS wa ρ fu T = wa ρ fu fun d fu' => ∃ x, d = .str x ∧ T (signs x) fu' := rfl
@[simp] theorem e_ir1 : iR1 wa ρ fu T = wa ρ fu fun d fu' => ∃ n : Int, d = .int n ∧ (-(2 ^ 62) ≤ n ∧ n < 2 ^ 62) ∧ T (rng 0 n) fu' := rfl
@[simp] theorem e_ir2 : iR2 wa wb ρ fu T = wa ρ fu fun d fu' => wb ρ fu' fun d' fu'' => ∃ m n : Int, d = .int m ∧ d' = .int n ∧ (-(2 ^ 62) ≤ m ∧ m < 2 ^ 62 ∧ -(2 ^ 62) ≤ n ∧ n < 2 ^ 62) ∧ T (rng m n) fu'' := rfl
@[simp] theorem e_onone {U : Option Int → Fu → Prop} : oNone ρ fu U = U none fu := rfl
@[simp] theorem e_osome {U : Option Int → Fu → Prop} : oSome wa ρ fu U = wa ρ fu fun d fu' => ∃ i, d = .int i ∧ U (some i) fu' := rfl
@[simp] theorem e_sl {wl wh : WO} : wSl wa wl wh ρ fu P = wa ρ fu fun p fu1 => wl ρ fu1 fun lo fu2 => wh ρ fu2 fun hi fu3 => IsS (dSl p lo hi) fun d => P d fu3 := rfl
-- statements
@[simp] theorem z_next : zNext B ρ fu = B.nx ρ fu := rfl
@[simp] theorem z_pass : zPass B ρ fu = B.nx ρ fu := rfl
@[simp] theorem z_break : zBreak B ρ fu = B.bk ρ fu := rfl
@[simp] theorem z_cont : zCont B ρ fu = B.ct ρ fu := rfl
@[simp] theorem z_expr : zExpr we B ρ fu = we ρ fu fun _ fu' => B.nx ρ fu' := rfl
@[simp] theorem z_ret : zRet we B ρ fu = we ρ fu B.rt := rfl
@[simp] theorem z_retn : zRetN B ρ fu = B.rt .non fu := rfl
@[simp] theorem z_if : zIf u w w' B ρ fu = u ρ fu fun k fu' => if k = true then w B ρ fu' else w' B ρ fu' := rfl
@[simp] theorem z_set : zSet i we B ρ fu = we ρ fu fun d fu' => B.nx (ρ.set i (.va d)) fu' := rfl
@[simp] theorem z_setl : zSetL i v B ρ fu = v ρ fu fun ds fu' => B.nx (ρ.set i (.ow ds)) fu' := rfl
@[simp] theorem z_asg : zAsg we g B ρ fu = we ρ fu fun d fu' => g d ρ fun ρ' => B.nx ρ' fu' := rfl
@[simp] theorem z_app : zApp i we B ρ fu = ∃ ds0, ρ[i]? = some (.ow ds0) ∧ we ρ fu fun d fu' => ds0.length < sizeLine ∧ B.nx (ρ.set i (.ow (ds0 ++ [d]))) fu' := rfl
@[simp] theorem z_ext : zExt i we B ρ fu = ∃ ds0, ρ[i]? = some (.ow ds0) ∧ we ρ fu fun d fu' => ∃ es, d = .lst es ∧ ds0.length + es.length ≤ sizeLine ∧ B.nx (ρ.set i (.ow (ds0 ++ es))) fu' := rfl
@[simp] theorem z_aug : zAug i f we B ρ fu = ∃ d0, ρ[i]? = some (.va d0) ∧ we ρ fu fun d fu' => IsS (f d0 d) fun d2 => B.nx (ρ.set i (.va d2)) fu' := rfl
@[simp] theorem z_for {wi : WA} : zFor wi g w B ρ fu = wi ρ fu fun ds fu' => zLoop g w B ds ρ fu' := rfl
@[simp] theorem z_seq : zSeq w w' B ρ fu = w { B with nx := w' B } ρ fu := rfl
@[simp] theorem e_wv {U : Sl → Fu → Prop} : wV we ρ fu U = we ρ fu fun d fu' => U (.va d) fu' := rfl
@[simp] theorem e_wo {U : Sl → Fu → Prop} : wO v ρ fu U = v ρ fu fun ds fu' => U (.ow ds) fu' := rfl
@[simp] theorem z_par {w1 w2 : WR} : zPar i j w1 w2 B ρ fu = w1 ρ fu fun s1 fu1 => w2 ρ fu1 fun s2 fu2 => B.nx ((ρ.set i s1).set j s2) fu2 := rfl
@[simp] theorem z_par3 {w1 w2 w3 : WR} : zPar3 i j l w1 w2 w3 B ρ fu = w1 ρ fu fun s1 fu1 => w2 ρ fu1 fun s2 fu2 => w3 ρ fu2 fun s3 fu3 => B.nx (((ρ.set i s1).set j s2).set l s3) fu3 := rfl
@[simp] theorem z_fz {ds : List D} (h : ρ[i]? = some (.ow ds)) : zFz i w B ρ fu = w B (ρ.set i (.va (.lst ds))) fu := by
  unfold zFz
  rw [h]
theorem z_fn {N : List Str} {ds : List D} (h : ∀ B : DEnds, B.nx = (fun _ fu' => P .non fu') → B.rt = P → w B (startD N ds) fu) : wFn N w ds fu P := h _ rfl rfl
/-- one statement at a time -/
theorem zq (h : ∀ k : List Sl → Fu → Prop, k = w' B → w { B with nx := k } ρ fu) : zSeq w w' B ρ fu := h _ rfl
@[simp] theorem z_whl : zWhile u w B ρ fu = ∃ n, whN u w B n ρ fu := rfl
/-! ## loops -/
theorem loop_nil : zLoop g w B [] ρ fu = B.nx ρ fu := rfl
theorem loop_cons {ds : List D} : zLoop g w B (d :: ds) ρ fu = g d ρ fun ρ' => w { nx := zLoop g w B ds, rt := B.rt, bk := B.nx, ct := zLoop g w B ds } ρ' fu := rfl
/-- a loop by an invariant: I i ρ fu before the item i -/
theorem loop_inv {ds : List D} (I : Nat → List Sl → Fu → Prop) (h0 : I 0 ρ fu)
    (hs : ∀ (i : Nat) (d : D) (ρ : List Sl) (fu : Fu) (k : List Sl → Fu → Prop), ds[i]? = some d → I i ρ fu → (∀ ρ' fu', I (i + 1) ρ' fu' → k ρ' fu') → g d ρ fun ρ' => w { nx := k, rt := B.rt, bk := B.nx, ct := k } ρ' fu)
    (hn : ∀ ρ fu, I ds.length ρ fu → B.nx ρ fu) : zLoop g w B ds ρ fu := by
  have key : ∀ (es : List D) (i : Nat) (ρ : List Sl) (fu : Fu), ds.drop i = es → i + es.length = ds.length → I i ρ fu → zLoop g w B es ρ fu := by
    intro es
    induction es with
    | nil =>
      intro i ρ fu _ hl hI
      simp at hl
      subst hl
      exact hn _ _ hI
    | cons e es ih =>
      intro i ρ fu hd hl hI
      have hi : ds[i]? = some e := by
        have := congrArg (·[0]?) hd
        simpa using this
      refine hs i e ρ fu _ hi hI fun ρ' fu' hI' => ih (i + 1) ρ' fu' ?_ (by simp at hl ⊢; omega) hI'
      have := congrArg List.tail hd
      simpa using this
  exact key ds 0 ρ fu rfl (by simp) h0
/-- a comprehension that reads each item by a plain function -/
theorem lc_plain {ds acc : List D} (p : D → Bool) (h : D → D) (hs : ∀ d ∈ ds, ∀ (k1 : D → Fu → Prop) (k0 : Fu → Prop), (if p d = true then k1 (h d) fu else k0 fu) → g d ρ fun ρ' => u ρ' fu fun k fu1 => if k = true then we ρ' fu1 k1 else k0 fu1)
    (hl : acc.length + ds.length ≤ sizeLine) (hn : T (acc ++ (ds.filter p).map h) fu) : lcLoop g u we ρ T ds acc fu := by
  induction ds generalizing acc with
  | nil => simpa [lcLoop] using hn
  | cons d ds ih =>
    refine hs d List.mem_cons_self _ _ ?_
    by_cases hp : p d = true
    · rw [if_pos hp]
      simp at hl
      refine ⟨by omega, ih (fun e he => hs e (List.mem_cons_of_mem _ he)) (by simp; omega) ?_⟩
      simpa [List.filter_cons, hp] using hn
    · rw [if_neg hp]
      refine ih (fun e he => hs e (List.mem_cons_of_mem _ he)) (by simp at hl; omega) ?_
      simpa [List.filter_cons, hp] using hn
/-- a comprehension by an invariant over the items got so far -/
theorem lc_inv {ds : List D} (I : Nat → List D → Fu → Prop) (h0 : I 0 [] fu)
    (hs : ∀ (i : Nat) (d : D) (acc : List D) (fu : Fu) (k1 : D → Fu → Prop) (k0 : Fu → Prop), ds[i]? = some d → I i acc fu → (∀ e fu', I (i + 1) (acc ++ [e]) fu' → k1 e fu') → (∀ fu', I (i + 1) acc fu' → k0 fu') → g d ρ fun ρ' => u ρ' fu fun k fu1 => if k = true then we ρ' fu1 k1 else k0 fu1)
    (hl : ds.length ≤ sizeLine) (hn : ∀ acc fu, I ds.length acc fu → T acc fu) : lcLoop g u we ρ T ds [] fu := by
  have key : ∀ (es : List D) (i : Nat) (acc : List D) (fu : Fu), ds.drop i = es → i + es.length = ds.length → acc.length ≤ i → I i acc fu → lcLoop g u we ρ T es acc fu := by
    intro es
    induction es with
    | nil =>
      intro i acc fu _ hl _ hI
      simp at hl
      subst hl
      exact hn _ _ hI
    | cons e es ih =>
      intro i acc fu hd hl2 ha hI
      have hi : ds[i]? = some e := by
        have := congrArg (·[0]?) hd
        simpa using this
      have hd2 : ds.drop (i + 1) = es := by
        have := congrArg List.tail hd
        simpa using this
      simp at hl2
      refine hs i e acc fu _ _ hi hI (fun e' fu' hI' => ⟨by omega, ih (i + 1) _ fu' hd2 (by omega) (by simp; omega) hI'⟩) fun fu' hI' => ih (i + 1) _ fu' hd2 (by omega) (by omega) hI'
  exact key ds 0 [] fu rfl (by simp) (by simp) h0
@[simp] theorem e_lc {wi : WA} {vs : List Nat} : wLc wi g u we vs ρ fu T = wi ρ fu fun ds fu1 => lcLoop g u we (wipeD ρ vs) T ds [] fu1 := rfl
end
@[simp] theorem wipe_nil {ρ : List Sl} : wipeD ρ [] = ρ := rfl
@[simp] theorem wipe_cons {ρ : List Sl} {v : Nat} {vs : List Nat} : wipeD ρ (v :: vs) = (wipeD ρ vs).set v .un := rfl
theorem rng_get {lo hi : Int} {i : Nat} {d : D} (h : (rng lo hi)[i]? = some d) : d = .int (lo + i) ∧ lo + i < hi := by
  unfold rng at h
  rw [List.getElem?_map] at h
  obtain ⟨c, hc, rfl⟩ := Option.map_eq_some_iff.mp h
  obtain ⟨hlt, hc⟩ := List.getElem?_eq_some_iff.mp hc
  have hlt' : i < (hi - lo).toNat := by simpa using hlt
  have hc' : c = i := by simpa using hc.symm
  subst hc'
  exact ⟨rfl, by omega⟩
@[simp] theorem rng_len {lo hi : Int} : (rng lo hi).length = (hi - lo).toNat := by simp [rng]
theorem size_pos {n : Nat} (h : n ≤ 10000000) : n ≤ sizeLine := Nat.le_trans h (by decide)
end Z
namespace Z
open PySem PySem.Spec L2

/-! ## texts by their signs -/
abbrev S (l : List Nat) : Str := ⟨l.toArray⟩
theorem S_app (a b : List Nat) : S a ++ S b = S (a ++ b) := by
  show Str.append _ _ = _
  unfold Str.append S
  simp
theorem S_len (a : List Nat) : (S a).length = a.length := by unfold Str.length S; simp
theorem S_inj {a b : List Nat} : S a = S b ↔ a = b := by
  constructor
  · intro h
    have := congrArg (fun s : Str => s.cps.toList) h
    simpa using this
  · rintro rfl; rfl
theorem S_lt (a b : List Nat) : sLt (S a) (S b) = decide (a < b) := by unfold sLt; simp
theorem S_of (s : Str) : ∃ l, s = S l := ⟨s.cps.toList, by cases s; simp [S]⟩
theorem S_eta (s : Str) : S s.cps.toList = s := by cases s; simp [S]
theorem deq_str (a b : Str) : deq (.str a) (.str b) = decide (a = b) := by
  simp [deq, py, PyData.eqv]
  by_cases h : a = b
  · subst h; simp
  · simp [h]
theorem deq_int (a b : Int) : deq (.int a) (.int b) = decide (a = b) := by
  simp [deq, py, PyData.eqv]
  by_cases h : a = b
  · subst h; simp
  · simp [h]
theorem deq_bl (a b : Bool) : deq (.bl a) (.bl b) = (a == b) := by simp [deq, py, PyData.eqv]
theorem dEq_str (a b : Str) : dEq (.str a) (.str b) = some (.bl (decide (a = b))) := by unfold dEq; rw [if_pos (by rfl : eqOk _ _ = true), deq_str]
theorem dNe_str (a b : Str) : dNe (.str a) (.str b) = some (.bl (!decide (a = b))) := by unfold dNe; rw [if_pos (by rfl : eqOk _ _ = true), deq_str]
theorem dEq_int (a b : Int) : dEq (.int a) (.int b) = some (.bl (decide (a = b))) := by unfold dEq; rw [if_pos (by rfl : eqOk _ _ = true), deq_int]
theorem dNe_int (a b : Int) : dNe (.int a) (.int b) = some (.bl (!decide (a = b))) := by unfold dNe; rw [if_pos (by rfl : eqOk _ _ = true), deq_int]
theorem dAdd_S {a b : List Nat} (h : a.length + b.length ≤ sizeLine) : dAdd (.str (S a)) (.str (S b)) = some (.str (S (a ++ b))) := by
  unfold dAdd
  simp only []
  rw [S_len, S_len, if_pos h, S_app]
theorem ite_some' {α : Type} {c : Prop} [Decidable c] {a b : α} (h : (if c then some a else none) = some b) : c ∧ a = b := by
  by_cases hc : c
  · rw [if_pos hc] at h
    exact ⟨hc, Option.some.inj h⟩
  · rw [if_neg hc] at h
    cases h
/-- joined texts -/
def jn (sep : List Nat) : List (List Nat) → List Nat
  | [] => []
  | [x] => x
  | x :: y :: r => x ++ sep ++ jn sep (y :: r)
theorem join_S (sep : List Nat) : ∀ ls : List (List Nat), Txt.join (S sep) (ls.map S) = S (jn sep ls) := by
  intro ls
  show Builtin.Str.glued _ _ = _
  rw [StrLaws.glued_eq_join]
  induction ls with
  | nil => rfl
  | cons x ls ih =>
    cases ls with
    | nil => rfl
    | cons y r =>
      show S x ++ S sep ++ Str.join (S sep) ((y :: r).map S) = _
      rw [ih, S_app, S_app]
      rfl
theorem jn_nil : ∀ ls : List (List Nat), jn [] ls = ls.flatten
  | [] => rfl
  | [x] => by simp [jn]
  | x :: y :: r => by
    unfold jn
    rw [jn_nil (y :: r)]
    simp
theorem strsOf_map : ∀ l : List Str, strsOf (l.map .str) = some l
  | [] => rfl
  | s :: l => by
    rw [List.map_cons]
    unfold strsOf
    rw [strsOf_map l]
    rfl
theorem dJoin_S (sep : List Nat) (ls : List (List Nat)) (h : (ls.map (·.length)).sum + ls.length * sep.length ≤ 16777216) : dJoin (.str (S sep)) (.lst (ls.map fun x => .str (S x))) = some (.str (S (jn sep ls))) := by
  unfold dJoin
  simp only []
  have e : (ls.map fun x => D.str (S x)) = (ls.map S).map .str := by rw [List.map_map]; rfl
  rw [e, strsOf_map]
  have e2 : ((ls.map S).map (·.length)).sum + (ls.map S).length * (S sep).length ≤ 16777216 := by
    rw [List.map_map, List.length_map, S_len]
    have : ((fun x : Str => x.length) ∘ S) = fun x : List Nat => x.length := funext fun x => S_len x
    rw [this]
    exact h
  simp only [Option.bind]
  rw [if_pos e2, join_S]
theorem sum_ones {α : Type} (l : List α) : (l.map fun _ => 1).sum = l.length := by
  induction l with
  | nil => rfl
  | cons a l ih => simp [ih]; omega
theorem dRepr_ok {d : D} (h : reprOk d = true) : dRepr [d] = some (.str (PyData.shown (py d))) := if_pos h
/-- some of many: one item of a list, a tuple, a text, by a draw -/
def items : D → Option (List D)
  | .lst l => some l
  | .tup l => some l
  | .str s => if s.length ≤ sizeLine then some (signs s) else none
  | _ => none
theorem items_len {d : D} {l : List D} (h : items d = some l) : dLen [d] = some (.int l.length) := by
  cases d
  all_goals try (cases h; done)
  · unfold items at h
    simp only [] at h
    obtain ⟨hl, rfl⟩ := ite_some' h
    unfold dLen
    simp only []
    rw [if_pos hl]
    simp [signs, Str.length]
  · cases h; rfl
  · cases h; rfl
theorem atI_nat {α : Type} {l : List α} {k : Nat} (h : k < l.length) : atI l (k : Int) = some l[k] := by
  unfold atI ixN
  simp [h]
theorem atI_int {α : Type} {l : List α} {i : Int} (h0 : 0 ≤ i) (h : i < l.length) : ∃ a, a ∈ l ∧ l[i.toNat]? = some a ∧ atI l i = some a := by
  have h' : i.toNat < l.length := by omega
  refine ⟨l[i.toNat], List.getElem_mem _, List.getElem?_eq_getElem _, ?_⟩
  have e : (i.toNat : Int) = i := by omega
  have := atI_nat h'
  rw [e] at this
  exact this
theorem items_ix {d : D} {l : List D} {i : Int} (h : items d = some l) (h0 : 0 ≤ i) (h1 : i < l.length) : ∃ a, a ∈ l ∧ l[i.toNat]? = some a ∧ dIx d (.int i) = some a := by
  cases d
  all_goals try (cases h; done)
  · unfold items at h
    simp only [] at h
    obtain ⟨hl, rfl⟩ := ite_some' h
    rename_i s
    obtain ⟨c, hc1, hc2, hc3⟩ := atI_int (l := s.cps.toList) h0 (by simpa [signs] using h1)
    refine ⟨.str ⟨#[c]⟩, ?_, ?_, ?_⟩
    · unfold signs
      exact List.mem_map.mpr ⟨c, hc1, rfl⟩
    · unfold signs
      rw [List.getElem?_map, hc2]
      rfl
    · unfold dIx
      simp only []
      rw [if_pos hl, hc3]
      rfl
  · cases h; exact atI_int h0 h1
  · cases h; exact atI_int h0 h1
def wPick : WF := fun ds fu Q => ∃ (x : D) (l : List D) (n : Nat), ds = [.src, x] ∧ items x = some l ∧ l ≠ [] ∧ l.length < 1073741824 ∧ fu = some (n + 1) ∧ ∀ d ∈ l, Q d (some n)
end Z
namespace Z
open PySem PySem.Spec L2

/-! ## repr of data with dicts -/
mutual
/-- no source within -/
def dat : D → Bool
  | .non => true
  | .bl _ => true
  | .int _ => true
  | .str _ => true
  | .tup l => datL l
  | .lst l => datL l
  | .dic l => datK l
  | .src => false
  | .scr => false
def datL : List D → Bool
  | [] => true
  | d :: l => dat d && datL l
def datK : List (Str × D) → Bool
  | [] => true
  | (_, d) :: l => dat d && datK l
end
theorem depth_list (l : List PyData) : PyData.depth (.list l) = PyData.depthAll l + 1 := by unfold PyData.depth; rfl
theorem depth_tup (l : List PyData) : PyData.depth (.tuple l) = PyData.depthAll l + 1 := by unfold PyData.depth; rfl
theorem depth_dict (l : List (PyData × PyData)) : PyData.depth (.dict l) = PyData.depthKv l + 1 := by unfold PyData.depth; rfl
theorem mem_keys {p : Str × D} : ∀ {ds : List (Str × D)}, p ∈ ds → PyData.shown (.str p.1) ∈ PyData.shownAll (ds.map fun p => PyData.str p.1)
  | [], h => by cases h
  | q :: ds, h => by
    rw [List.map_cons]
    unfold PyData.shownAll
    rcases List.mem_cons.mp h with e | e
    · subst e; exact List.mem_cons_self
    · exact List.mem_cons_of_mem _ (mem_keys e)
theorem pyK_fst : ∀ l : List (Str × D), (pyK l).map (·.1) = l.map fun p => PyData.str p.1
  | [] => by unfold pyK; rfl
  | (k, d) :: l => by unfold pyK; rw [List.map_cons, List.map_cons, pyK_fst l]
section
variable {X : Cx} {pins : List (Addr × Obj)} {σ : L2.St} {H : Hp} {s : Shared} {y : Gh}
/-- entries of a dict, from its description -/
theorem ents_of {knd : PySem.KeyKind X.prog X.w Key} (hk : ∀ (x : Str) (u : Value), knd.is (.inr x) u = true → ∃ t, u = .str x t) : ∀ {kvs : List (Key × V)} {ds : List (Str × D)} {vs : List (Key × Value)} {es : List DictEntry}, RpK X.K y kvs ds → KV kvs vs → Pairs knd es vs →
    ∃ us : List Value, es.map (·.val) = us ∧ Vals (kvs.map (·.2)) us ∧ ∃ ts : List Tok, es.map (·.key) = List.zipWith (fun p t => Value.str p.1 t) ds ts ∧ ts.length = ds.length
  | [], _, _, _, r, k, p => by
    cases r
    cases k
    cases p
    exact ⟨[], rfl, .nil, [], rfl, rfl⟩
  | _ :: _, _, _, _, r, k, p => by
    cases r with
    | cons r rs =>
    cases k with
    | cons h1 h2 =>
    cases p with
    | cons p1 p2 p3 =>
    obtain ⟨us, e1, e2, ts, e3, e4⟩ := ents_of hk rs h2 p3
    rw [← h1.1] at p1
    obtain ⟨t, ht⟩ := hk _ _ p1
    refine ⟨_, rfl, ?_, t :: ts, ?_, by simp [e4]⟩
    · rw [List.map_cons, List.map_cons]
      refine .cons ?_ (e1 ▸ e2)
      rw [p2]
      exact h1.2
    · rw [List.map_cons, e3, ht]
      rfl
theorem keys_rd {h : Heap} : ∀ {ds : List (Str × D)} {ts : List Tok}, ts.length = ds.length → ReadsAll h (List.zipWith (fun p t => Value.str p.1 t) ds ts) (ds.map fun p => PyData.str p.1) []
  | [], [], _ => .nil
  | [], _ :: _, h => by simp at h
  | _ :: _, [], h => by simp at h
  | p :: ds, t :: ts, h => .cons (.str p.1 t) (keys_rd (by simpa using h))
theorem keys_rk {P : Program} {w : World} {h : Heap} : ∀ {ds : List (Str × D)} {ts : List Tok}, ts.length = ds.length → (∀ p ∈ ds, (PyData.shown (.str p.1)).length ≤ sizeLine) → ReprAllK P w [] h 0 (List.zipWith (fun p t => Value.str p.1 t) ds ts) (PyData.shownAll (ds.map fun p => PyData.str p.1))
  | [], [], _, _ => by unfold PyData.shownAll; exact .nil
  | [], _ :: _, h, _ => by simp at h
  | _ :: _, [], h, _ => by simp at h
  | p :: ds, t :: ts, h, hz => by
    have ih := keys_rk (P := P) (w := w) (h := ‹Heap›) (ds := ds) (ts := ts) (by simpa using h) fun q hq => hz q (List.mem_cons_of_mem _ hq)
    have h0 := hz p List.mem_cons_self
    rw [List.map_cons]
    unfold PyData.shownAll
    refine .cons ?_ ih
    unfold PyData.shown at h0 ⊢
    exact .of_is (ReprIs.str p.1 t h0) _ _ _
/-- data are read, and shown -/
structure Shw (X : Cx) (s : Shared) (u : Value) (p : PyData) : Prop where
  rd : ∃ as, Reads s.heap u p as
  rk : p.showable = true → p.shown.length ≤ sizeLine → ∃ bs, ReadAtMost s.heap p.depth bs ∧ ReprK X.prog X.w bs s.heap p.depth u p.shown
  tp : ∀ a, u = .ref a → p.showable = true → p.shown.length ≤ sizeLine → ∃ T idr, ShowsBy X.prog X.w s.heap a p T idr
structure ShwL (X : Cx) (s : Shared) (us : List Value) (ps : List PyData) : Prop where
  rd : ∃ as, ReadsAll s.heap us ps as
  rk : PyData.showableAll ps = true → (∀ t ∈ PyData.shownAll ps, t.length ≤ sizeLine) → ∃ bs, ReadAtMost s.heap (PyData.depthAll ps) bs ∧ ReprAllK X.prog X.w bs s.heap (PyData.depthAll ps) us (PyData.shownAll ps)
theorem shw_nil : ShwL X s [] [] := ⟨⟨_, .nil⟩, fun _ _ => ⟨[], fun _ q => (nomatch q), by unfold PyData.shownAll; exact .nil⟩⟩
theorem shw_cons {u : Value} {us : List Value} {p : PyData} {ps : List PyData} (a : Shw X s u p) (b : ShwL X s us ps) : ShwL X s (u :: us) (p :: ps) := by
  obtain ⟨as, ra⟩ := a.rd
  obtain ⟨bs, rb⟩ := b.rd
  refine ⟨⟨_, .cons ra rb⟩, fun hs hz => ?_⟩
  unfold PyData.showableAll at hs
  rw [Bool.and_eq_true] at hs
  unfold PyData.shownAll at hz ⊢
  obtain ⟨b1, m1, k1⟩ := a.rk hs.1 (hz _ List.mem_cons_self)
  obtain ⟨b2, m2, k2⟩ := b.rk hs.2 fun t ht => hz t (List.mem_cons_of_mem _ ht)
  refine ⟨b1 ++ b2, fun b hb => ?_, ?_⟩
  · unfold PyData.depthAll
    rcases List.mem_append.mp hb with q | q
    · obtain ⟨d', as', r', h'⟩ := m1 b q
      exact ⟨d', as', r', by omega⟩
    · obtain ⟨d', as', r', h'⟩ := m2 b q
      exact ⟨d', as', r', by omega⟩
  · unfold PyData.depthAll
    exact .cons ((k1.more fun c hc => List.mem_append.mpr (.inl hc)).level_le (by omega)) (k2.more_le (fun c hc => List.mem_append.mpr (.inr hc)) (by omega))
theorem shw_list {a : Addr} {us : List Value} {ps : List PyData} (hl : s.heap.IsList a us.toArray) (b : ShwL X s us ps) : Shw X s (.ref a) (.list ps) := by
  obtain ⟨as, ra⟩ := b.rd
  obtain ⟨o, ho, hc, n, hd⟩ := id hl
  have r : Reads s.heap (.ref a) (.list ps) _ := .list ho hc hd ra
  refine ⟨⟨_, r⟩, fun hs hz => ?_, fun a' ea hs hz => ?_⟩
  rotate_left
  · cases ea
    unfold PyData.showable at hs
    unfold PyData.shown at hz
    obtain ⟨bs, m, k⟩ := b.rk hs fun t ht => Nat.le_trans (listText_mem_le ht) hz
    have na : a ∉ bs := not_mem_of_deeper r (by unfold PyData.depth; omega) m
    refine ⟨"list", "list.__repr__", F.slot_list_repr.toG, F.slot_list_str, F.slot_list_format, fun s' hk => ⟨o, hk _ _ ho, hc⟩, fun A E s' Q hg hu hk hQ => ?_⟩
    rw [depth_list] at hu
    unfold PyData.shown at hQ
    cases us with
    | nil =>
      cases ps with
      | cons _ _ => cases ra
      | nil =>
        unfold PyData.shownAll at hQ
        rw [listText_nil] at hQ
        exact call_list_repr_empty ⟨o, hk _ _ ho, hc⟩ (hk _ _ ho) hd (hQ s'.heap _ _ fun _ _ e => e)
    | cons u us => exact call_list_reprK ho hc hd na (by simpa using k.length_eq) (fun i z e => k.item i z (by simpa using e)) hg (fun c _ => Clear.nil c) hu hk hQ hz
  unfold PyData.showable at hs
  unfold PyData.shown at hz ⊢
  obtain ⟨bs, m, k⟩ := b.rk hs fun t ht => Nat.le_trans (listText_mem_le ht) hz
  have na : a ∉ bs := not_mem_of_deeper r (by unfold PyData.depth; omega) m
  refine ⟨a :: bs, ReadAtMost.cons r (Nat.le_refl _) fun c hc => ?_, ?_⟩
  · obtain ⟨d', as', r', h'⟩ := m c hc
    exact ⟨d', as', r', by rw [depth_list]; omega⟩
  unfold PyData.depth
  cases us with
  | nil =>
    cases ps with
    | cons _ _ => cases ra
    | nil =>
      unfold PyData.shownAll
      rw [listText_nil]
      exact ReprK.listEmpty ho hc hd
  | cons u us => exact ReprK.list ho hc hd na (by simpa using k.length_eq) fun i z e => k.item i z (by simpa using e)
theorem shw_tup {a : Addr} {us : List Value} {ps : List PyData} (hl : s.heap.IsTuple a us.toArray) (b : ShwL X s us ps) : Shw X s (.ref a) (.tuple ps) := by
  obtain ⟨as, ra⟩ := b.rd
  obtain ⟨o, ho, hc, n, hd⟩ := id hl
  have r : Reads s.heap (.ref a) (.tuple ps) _ := .tuple ho hc hd ra
  refine ⟨⟨_, r⟩, fun hs hz => ?_, fun a' ea hs hz => ?_⟩
  rotate_left
  · cases ea
    unfold PyData.showable at hs
    unfold PyData.shown at hz
    obtain ⟨bs, m, k⟩ := b.rk hs fun t ht => Nat.le_trans (tupleText_mem_le ht) hz
    have na : a ∉ bs := not_mem_of_deeper r (by unfold PyData.depth; omega) m
    refine ⟨"tuple", "tuple.__repr__", F.slot_tuple_repr, F.slot_tuple_str, F.slot_tuple_format, fun s' hk => ⟨o, hk _ _ ho, hc⟩, fun A E s' Q hg hu hk hQ => ?_⟩
    rw [depth_tup] at hu
    unfold PyData.shown at hQ
    exact call_tuple_reprK ho hc hd na k hg (fun c _ => Clear.nil c) hu hk hQ hz
  unfold PyData.showable at hs
  unfold PyData.shown at hz ⊢
  obtain ⟨bs, m, k⟩ := b.rk hs fun t ht => Nat.le_trans (tupleText_mem_le ht) hz
  have na : a ∉ bs := not_mem_of_deeper r (by unfold PyData.depth; omega) m
  refine ⟨a :: bs, ReadAtMost.cons r (Nat.le_refl _) fun c hc => ?_, ?_⟩
  · obtain ⟨d', as', r', h'⟩ := m c hc
    exact ⟨d', as', r', by rw [depth_tup]; omega⟩
  unfold PyData.depth
  exact ReprK.tuple ho hc hd na k
theorem shown_keys : ∀ (ds : List (Str × D)), PyData.shownKv (pyK ds) = List.zipWith (fun k v : Str => k ++ ": " ++ v) (PyData.shownAll (ds.map fun p => PyData.str p.1)) (PyData.shownAll ((pyK ds).map (·.2)))
  | ds => by rw [PyData.shownKv_eq, pyK_fst]
theorem shw_dict {a : Addr} {kvs : List (Key × V)} {ds : List (Str × D)} (I : Inv X pins σ H s) (hH : H a = some (.dK kvs)) (rr : RpK X.K y kvs ds) (b : ∀ us : List Value, Vals (kvs.map (·.2)) us → ShwL X s us ((pyK ds).map (·.2))) : Shw X s (.ref a) (.dict (pyK ds)) := by
  obtain ⟨_, hm, vs, kv, o, es, ep, ho, hx, hd, _, pr, _⟩ := dk_of I.hok hH
  obtain ⟨us, e1, e2, ts, e3, e4⟩ := ents_of (fun x u h => by
    rcases keyIs_shape (show keyIs (.inr x) u = true from h) with ⟨_, _, z, _⟩ | ⟨x', t, z, rfl⟩
    · cases z
    · cases z; exact ⟨t, rfl⟩) rr kv pr
  have bb := b us e2
  obtain ⟨as, ra⟩ := bb.rd
  have hc : o.cls = .type "dict" := hx.1
  have kr : ReadsAll s.heap (es.toList.map (·.key)) ((pyK ds).map (·.1)) [] := by rw [e3, pyK_fst]; exact keys_rd e4
  have r : Reads s.heap (.ref a) (.dict (pyK ds)) _ := .dict ho hc hd kr (by rw [e1]; exact ra)
  have main : (PyData.dict (pyK ds)).showable = true → (PyData.dict (pyK ds)).shown.length ≤ sizeLine → ∃ bs, ReadAtMost s.heap (PyData.depthKv (pyK ds)) bs ∧ a ∉ bs ∧ ReprEntriesK X.prog X.w bs s.heap (PyData.depthKv (pyK ds)) es.toList (PyData.shownKv (pyK ds)) := fun hs hz => by
    unfold PyData.showable at hs
    unfold PyData.shown at hz
    obtain ⟨s1, s2⟩ := PyData.showableKv_split _ hs
    obtain ⟨bs, m, k⟩ := bb.rk s2 fun t ht => by
      obtain ⟨q, hq, hl⟩ := PyData.shownKv_val_le _ t ht
      exact Nat.le_trans hl (Nat.le_trans (dictText_mem_le hq) hz)
    have m2 : ReadAtMost s.heap (PyData.depthKv (pyK ds)) bs := m.mono (PyData.depthAll_vals_le _)
    have na : a ∉ bs := not_mem_of_deeper r (by unfold PyData.depth; omega) m2
    refine ⟨bs, m2, na, ?_⟩
    rw [shown_keys]
    refine ReprEntriesK.of_two es.toList _ _ ?_ ?_
    · rw [e3]
      refine (keys_rk e4 fun p hp => ?_).more_le (fun _ q => absurd q List.not_mem_nil) (Nat.zero_le _)
      have hmem : PyData.shown (.str p.1) ∈ PyData.shownAll ((pyK ds).map (·.1)) := by
        rw [pyK_fst]
        exact mem_keys hp
      obtain ⟨q, hq, hl⟩ := PyData.shownKv_key_le _ _ hmem
      exact Nat.le_trans hl (Nat.le_trans (dictText_mem_le hq) hz)
    · rw [e1]
      exact k.more_le (fun _ q => q) (PyData.depthAll_vals_le _)
  refine ⟨⟨_, r⟩, fun hs hz => ?_, fun a' ea hs hz => ?_⟩
  · obtain ⟨bs, m, na, k⟩ := main hs hz
    refine ⟨a :: bs, ReadAtMost.cons r (Nat.le_refl _) fun c hc => ?_, ?_⟩
    · obtain ⟨d', as', r', h'⟩ := m c hc
      exact ⟨d', as', r', by rw [depth_dict]; omega⟩
    unfold PyData.depth PyData.shown
    exact ReprK.dict ho hc hd hm na k
  · cases ea
    obtain ⟨bs, m, na, k⟩ := main hs hz
    refine ⟨"dict", "dict.__repr__", F.slot_dict_repr, F.slot_dict_str, F.slot_dict_format, fun s' hk => ⟨o, hk _ _ ho, hc⟩, fun A E s' Q hg hu hk hQ => ?_⟩
    rw [depth_dict] at hu
    unfold PyData.shown at hQ hz
    exact call_dict_reprK ho hc hd hm na k hg (fun c _ => Clear.nil c) hu hk hQ hz
theorem shw_is {u : Value} {p : PyData} (r : Reads s.heap u p []) (h : p.showable = true → p.shown.length ≤ sizeLine → ReprIs X.prog X.w u p.shown) (hu : ∀ a, u ≠ .ref a) : Shw X s u p :=
  ⟨⟨_, r⟩, fun a b => ⟨[], fun _ q => (nomatch q), .of_is (h a b) _ _ _⟩, fun a e => absurd e (hu a)⟩
mutual
theorem Rp.shw (I : Inv X pins σ H s) (hs : Sub y.g H) : ∀ {v : V} {d : D}, Rp X.K y v d → dat d = true → ∀ u, RelV v u → Shw X s u (py d)
  | _, _, .non, _, u, r => by
    cases r
    unfold py
    exact shw_is .none (fun _ _ => by unfold PyData.shown; exact ReprIs.none) (fun _ e => by cases e)
  | _, _, .bl b, _, u, r => by
    cases r
    unfold py
    exact shw_is (.bool b) (fun _ _ => by unfold PyData.shown; exact ReprIs.bool b) (fun _ e => by cases e)
  | _, _, .int i, _, u, r => by
    obtain ⟨t, rfl⟩ := r
    unfold py
    exact shw_is (.int i t) (fun h _ => by unfold PyData.showable at h; unfold PyData.shown; exact ReprIs.int t (of_decide_eq_true h)) (fun _ e => by cases e)
  | _, _, .str x, _, u, r => by
    obtain ⟨t, rfl⟩ := r
    unfold py
    exact shw_is (.str x t) (fun _ h => by unfold PyData.shown at h ⊢; exact ReprIs.str x t h) (fun _ e => by cases e)
  | _, _, .tup h k, p, u, r => by
    cases r
    unfold dat at p
    obtain ⟨its, rv, hT, _⟩ := I.tuple (sqT_same hs h)
    unfold py
    exact shw_tup hT (RpL.shw I hs k p its rv)
  | _, _, .lst h k, p, u, r => by
    cases r
    unfold dat at p
    obtain ⟨its, rv, hT, _⟩ := I.list (.inl (.inl (hs _ _ h)))
    unfold py
    exact shw_list hT.isList (RpL.shw I hs k p its rv)
  | _, _, .dic h k, p, u, r => by
    cases r
    unfold dat at p
    unfold py
    exact shw_dict I (hs _ _ h) k (RpK.shw I hs k p)
  | _, _, .src h, p, _, _ => by unfold dat at p; cases p
  | _, _, .scr h k, p, _, _ => by unfold dat at p; cases p
theorem RpL.shw (I : Inv X pins σ H s) (hs : Sub y.g H) : ∀ {vs : List V} {ds : List D}, RpL X.K y vs ds → datL ds = true → ∀ us, Vals vs us → ShwL X s us (pyL ds)
  | _, _, .nil, _, us, r => by cases r; unfold pyL; exact shw_nil
  | _, _, .cons h k, p, us, r => by
    cases r with
    | cons r1 r2 =>
    unfold datL at p
    rw [Bool.and_eq_true] at p
    unfold pyL
    exact shw_cons (Rp.shw I hs h p.1 _ r1) (RpL.shw I hs k p.2 _ r2)
theorem RpK.shw (I : Inv X pins σ H s) (hs : Sub y.g H) : ∀ {kvs : List (Key × V)} {ds : List (Str × D)}, RpK X.K y kvs ds → datK ds = true → ∀ us, Vals (kvs.map (·.2)) us → ShwL X s us ((pyK ds).map (·.2))
  | _, _, .nil, _, us, r => by cases r; unfold pyK; exact shw_nil
  | _, _, .cons h k, p, us, r => by
    cases r with
    | cons r1 r2 =>
    unfold datK at p
    rw [Bool.and_eq_true] at p
    unfold pyK
    exact shw_cons (Rp.shw I hs h p.1 _ r1) (RpK.shw I hs k p.2 _ r2)
end
end
/-- repr of data -/
def repOk (d : D) : Bool := dat d && PyData.showable (py d) && decide (PyData.depth (py d) ≤ 64) && decide ((PyData.shown (py d)).length ≤ sizeLine)
def dRep : List D → Option D
  | [d] => if repOk d = true then some (.str (PyData.shown (py d))) else none
  | _ => none
abbrev rRep (K : PySem.W.Frag) : List V → Hp → VK → Prop := fun xs H Q => ∃ x d y, xs = [x] ∧ Sub y.g H ∧ Rp K y x d ∧ repOk d = true ∧ Q (.str (PyData.shown (py d))) H
theorem clr_rep {X : Cx} (hg : X.A.guards = some []) (hu : X.A.units + 66 < cLine) : CallR X (.builtin "repr") (rRep X.K) := by
  intro pins s σ H xs us Q I r h
  obtain ⟨x, d, y, rfl, hs, rd, ho, q⟩ := h
  obtain ⟨u, rfl, rx⟩ := vals1 r
  unfold repOk at ho
  simp only [Bool.and_eq_true, decide_eq_true_eq] at ho
  obtain ⟨⟨⟨h1, h2⟩, h3⟩, h4⟩ := ho
  have S := rd.shw I hs h1 u rx
  have byRef : ∀ a, u = .ref a → wpAny (model X.prog X.w) X.A (call (.builtin "repr") [u]) (EP X pins σ Q) X.xe s := fun a e => by
    obtain ⟨T, idr, B⟩ := S.tp a e h2 h4
    subst e
    exact call_repr_slot (by omega) (B.typeIs s fun _ _ e => e) B.slotRepr (B.call X.A.in1 X.xe s _ hg (by show X.A.units + 1 + _ < cLine; omega) (fun _ _ e => e) fun h' u' tk hk => ⟨_, _, rfl, .str _, H, I.kept hk, ⟨_, rfl⟩, q⟩)
  cases rd with
  | non =>
    cases rx
    refine PySem.P.repr_of_none ⟨.str _, H, I.tok _, ⟨_, rfl⟩, ?_⟩
    unfold py PyData.shown at q
    exact q
  | bl b =>
    cases rx
    refine PySem.P.repr_of_bool ⟨.str _, H, I.tok _, ⟨_, rfl⟩, ?_⟩
    unfold py PyData.shown at q
    exact q
  | int i =>
    obtain ⟨t, rfl⟩ := rx
    unfold py PyData.showable at h2
    refine PySem.P.repr_of_int (of_decide_eq_true h2) ⟨.str _, H, I.tok _, ⟨_, rfl⟩, ?_⟩
    unfold py PyData.shown at q
    exact q
  | str z =>
    obtain ⟨t, rfl⟩ := rx
    unfold py PyData.shown at q h4
    exact PySem.P.repr_of_str ⟨.str _, H, I.tok _, ⟨_, rfl⟩, q⟩ h4
  | tup _ _ => cases rx; exact byRef _ rfl
  | lst _ _ => cases rx; exact byRef _ rfl
  | dic _ _ => cases rx; exact byRef _ rfl
  | src _ => unfold dat at h1; cases h1
  | scr _ _ => unfold dat at h1; cases h1
theorem cld_rep {K : PySem.W.Frag} : ClD K (rRep K) dRep := fun H y fu vs ds d Q g r hf q => by
  cases r with
  | nil => cases hf
  | cons r1 r2 =>
    cases r2 with
    | cons _ _ => cases hf
    | nil =>
      obtain ⟨ho, rfl⟩ := ite_some hf
      exact ⟨_, _, y, rfl, g.sub, r1, ho, q _ H y g (Nx.refl y H) (.str _)⟩
section
variable {ι : Type} {F : ι → Cx} {P : Program} {w : World} {K : PySem.W.Frag} {mg : Str → Option Value} {base : Heap} {k : Nat} {e : Expr} {wa : WE} {p pos : Pos}
theorem wx_rep (C : Cxs F P w K mg base k) (hm : mg "repr" = none) (ha : WX F K e wa) (hg : ∀ i, Gl (F i) "repr" := by intro _; rfl)
    (hs : ∀ i, starEach [e] (F i).env = (false, eval e (F i).env) :: starEach [] (F i).env := by intro _; rfl) : WX F K (.Call (.Name "repr" p) [e] [] pos) (wCl dRep (wCons wa wNil)) :=
  wx_bi C (fun i => by rw [← C.K i]; exact clr_rep (C.grd i) (by have := (C.room i).un; omega)) cld_rep hm (by decide +kernel) ha wa_nil hg (by decide) (by decide) hs (fun _ => rfl)
end
theorem dRep_ok {d : D} (h : repOk d = true) : dRep [d] = some (.str (PyData.shown (py d))) := if_pos h
end Z
namespace Z
open PySem PySem.Spec L2

section
variable {ι : Type} {F : ι → Cx} {P : Program} {w : World} {K : PySem.W.Frag} {mg : Str → Option Value} {base : Heap} {k : Nat} {a b c e : Expr} {es : List Expr} {wa wb wc : WE} {v : WA} {p pos : Pos}

/-! ## isinstance -/
/-- the name of a datum's type -/
def tyOf : D → Option String
  | .non => some "NoneType"
  | .bl _ => some "bool"
  | .int _ => some "int"
  | .str _ => some "str"
  | .tup _ => some "tuple"
  | .lst _ => some "list"
  | .dic _ => some "dict"
  | _ => none
def dIsi (T : String) : List D → Option D
  | [d] => (tyOf d).bind fun s => (kitB s T).map .bl
  | _ => none
theorem tyx_of {y : Gh} {H : Hp} {x : V} {d : D} {s : String} (hs : Sub y.g H) (r : Rp K y x d) (h : tyOf d = some s) : TyX K H x (.type s) := by
  cases r
  all_goals try (cases h; done)
  · cases h; exact .base .non
  · cases h; exact .base (.bl _)
  · cases h; exact .base (.int _)
  · cases h; exact .base (.str _)
  · cases h
    rename_i a xs ds hT _
    rcases sqT_same hs hT with q | q
    · rcases q with q | ⟨o, q⟩
      · exact .base (.tup q)
      · exact .fTuple q
    · obtain ⟨o, _, _, hk, hc, _⟩ := q
      exact .kTuple hk hc
  · cases h
    rename_i a xs ds hT _
    exact .base (.lst (hs _ _ hT))
  · cases h
    rename_i a xs ds hT _
    exact .base (.dK (hs _ _ hT))
theorem wx_isi {T : String} {x : Str} {p2 : Pos} (C : Cxs F P w K mg base k) (hm : mg "isinstance" = none) (hT : mg x = none) (hv : bootBuiltins x = some (.type T)) (ha : WX F K e wa) (hn : x ≠ "__name__" := by decide) (hd : (x == ("__debug__" : Str)) = false := by decide)
    (hg : ∀ i, Gl (F i) "isinstance" := by intro _; rfl) (hg2 : ∀ i, Gl (F i) x := by intro _; rfl)
    (hs : ∀ i, starEach [e, .Name x p2] (F i).env = (false, eval e (F i).env) :: starEach [.Name x p2] (F i).env := by intro _; rfl) (hs2 : ∀ i, starEach [.Name x p2] (F i).env = (false, eval (.Name x p2) (F i).env) :: starEach [] (F i).env := by intro _; rfl)
    (hpl : ∀ i, (backTo pos (starEach [.Name x p2] (F i).env)).any (·.1) = false := by intro _; rfl) : WX F K (.Call (.Name "isinstance" p) [e, .Name x p2] [] pos) (wCl (dIsi T) (wCons wa wNil)) := by
  obtain ⟨t, q, r⟩ := ha.ex
  refine ⟨tCB (rIsi K) (tCons t (tCons (tC (.ty T)) tNil)), fun i => ?_, fun σ H y ρ fu P Q o hw z => ?_⟩
  · refine pe_callB (by rw [← C.K i]; exact call_isi) (hg i) (by rw [C.mg i]; exact hm) PyProof.Rows.boot_isinstance (pa_cons (q i) (pa_cons (pe_bltn (hg2 i) (by rw [C.mg i]; exact hT) hv rfl hn hd) pa_nil (hs2 i)) (hs i)) (by decide) (by decide) (hs i) (hpl i)
  · refine r σ H y ρ fu _ _ o hw fun d fu1 v1 H1 y1 h1 g1 n1 r1 => ?_
    obtain ⟨d2, e2, h1⟩ := h1
    obtain ⟨s, hs', hk⟩ := Option.bind_eq_some_iff.mp (show ((tyOf d).bind fun s => (kitB s T).map .bl) = some d2 from e2)
    obtain ⟨b, hb, rfl⟩ := Option.map_eq_some_iff.mp hk
    exact ⟨v1, _, _, _, b, rfl, .ty T, tyx_of g1.sub r1 hs', kit_ty hb, z _ _ _ _ _ h1 g1 n1 (.bl b)⟩
theorem kit_str (s : String) (h : s ∈ ["NoneType", "bool", "int", "str", "tuple", "list", "dict"]) : kitB s "str" = some (decide (s = "str")) := by
  simp only [List.mem_cons, List.mem_nil_iff, or_false] at h
  rcases h with rfl | rfl | rfl | rfl | rfl | rfl | rfl <;> decide +kernel
theorem kit_tup (s : String) (h : s ∈ ["NoneType", "bool", "int", "str", "tuple", "list", "dict"]) : kitB s "tuple" = some (decide (s = "tuple")) := by
  simp only [List.mem_cons, List.mem_nil_iff, or_false] at h
  rcases h with rfl | rfl | rfl | rfl | rfl | rfl | rfl <;> decide +kernel
def isStrD : D → Bool
  | .str _ => true
  | _ => false
def isTupD : D → Bool
  | .tup _ => true
  | _ => false
theorem dIsi_str {d : D} (h : dat d = true) : dIsi "str" [d] = some (.bl (isStrD d)) := by
  cases d with
  | src => unfold dat at h; cases h
  | scr => unfold dat at h; cases h
  | _ =>
    unfold dIsi tyOf
    simp only [Option.bind]
    rw [kit_str _ (by decide)]
    rfl
theorem dIsi_tup {d : D} (h : dat d = true) : dIsi "tuple" [d] = some (.bl (isTupD d)) := by
  cases d with
  | src => unfold dat at h; cases h
  | scr => unfold dat at h; cases h
  | _ =>
    unfold dIsi tyOf
    simp only [Option.bind]
    rw [kit_tup _ (by decide)]
    rfl

/-! ## a sign in a text -/
def dInS : D → D → Option D
  | .str a, .str b => match a.cps.toList with
    | [c] => some (.bl (decide (c ∈ b.cps.toList)))
    | _ => none
  | _, _ => none
def dNinS : D → D → Option D
  | .str a, .str b => match a.cps.toList with
    | [c] => some (.bl (!decide (c ∈ b.cps.toList)))
    | _ => none
  | _, _ => none
theorem one_sign {a : Str} {c : Nat} (h : a.cps.toList = [c]) : a = ⟨#[c]⟩ := by
  cases a with
  | mk l =>
    have : l = #[c] := by
      cases l
      simp at h
      rw [h]
    rw [this]
theorem opd_inS : OpD K (fun x y H Q => ∃ (c : Nat) (z : Str), x = .str ⟨#[c]⟩ ∧ y = .str z ∧ Q (.bl (decide (c ∈ z.cps.toList))) H) dInS := fun H y fu x z p q d Q g rx rz hf k => by
  cases p <;> cases q
  all_goals try (cases hf; done)
  unfold dInS at hf
  simp only [] at hf
  split at hf
  · rename_i c hc
    cases hf
    cases one_sign hc
    cases rx; cases rz
    exact ⟨c, _, rfl, rfl, k _ H y g (Nx.refl y H) (.bl _)⟩
  · cases hf
theorem opd_ninS : OpD K (fun x y H Q => ∃ (c : Nat) (z : Str), x = .str ⟨#[c]⟩ ∧ y = .str z ∧ Q (.bl (!decide (c ∈ z.cps.toList))) H) dNinS := fun H y fu x z p q d Q g rx rz hf k => by
  cases p <;> cases q
  all_goals try (cases hf; done)
  unfold dNinS at hf
  simp only [] at hf
  split at hf
  · rename_i c hc
    cases hf
    cases one_sign hc
    cases rx; cases rz
    exact ⟨c, _, rfl, rfl, k _ H y g (Nx.refl y H) (.bl _)⟩
  · cases hf
theorem wx_inS (ha : WX F K a wa) (hb : WX F K b wb) (hmk : behindInMarks .In b = false := by first | exact nobehind _ (by decide) (by decide) | rfl) : WX F K (.Compare a [.In] [b] pos) (wOp dInS wa wb) := wx_cmp (fun i => op_in_sign) opd_inS ha hb hmk
theorem wt_ninS (ha : WX F K a wa) (hb : WX F K b wb) (hmk : behindInMarks .NotIn b = false := by first | exact nobehind _ (by decide) (by decide) | rfl) : WTs F K (.Compare a [.NotIn] [b] pos) (wB (wOp dNinS wa wb)) := wt_cmp (fun i => op_notIn_sign) opd_ninS ha hb hmk
theorem wt_inS (ha : WX F K a wa) (hb : WX F K b wb) (hmk : behindInMarks .In b = false := by first | exact nobehind _ (by decide) (by decide) | rfl) : WTs F K (.Compare a [.In] [b] pos) (wB (wOp dInS wa wb)) := wt_cmp (fun i => op_in_sign) opd_inS ha hb hmk

/-! ## all, any of a list of bools; int(..) -/
def bls : List D → Option (List Bool)
  | [] => some []
  | .bl b :: l => (bls l).map (b :: ·)
  | _ :: _ => none
theorem bls_rel {y : Gh} : ∀ {vs : List V} {ds : List D} {bs : List Bool}, RpL K y vs ds → bls ds = some bs → vs = bs.map V.bl
  | _, _, _, .nil, h => by cases h; rfl
  | _, _, bs, .cons r1 r2, h => by
    cases r1 with
    | bl b =>
      unfold bls at h
      obtain ⟨tl, h1, rfl⟩ := Option.map_eq_some_iff.mp h
      rw [bls_rel r2 h1]
      rfl
    | _ => cases h
theorem bls_map (l : List Bool) : bls (l.map .bl) = some l := by
  induction l with
  | nil => rfl
  | cons b l ih => rw [List.map_cons]; unfold bls; rw [ih]; rfl
def dAll : List D → Option D
  | [.lst l] => (bls l).map fun bs => .bl (bs.all id)
  | _ => none
def dAny : List D → Option D
  | [.lst l] => (bls l).map fun bs => .bl (bs.any id)
  | _ => none
theorem cld_all : ClD K (rAll K) dAll := fun H y fu vs ds d Q g r hf q => by
  cases r with
  | nil => cases hf
  | cons r1 r2 =>
    cases r2 with
    | cons _ _ => cases r1 <;> cases hf
    | nil =>
      cases r1 with
      | lst h1 z1 =>
        obtain ⟨bs, hb, rfl⟩ := Option.map_eq_some_iff.mp (show (bls _).map _ = some d from hf)
        refine ⟨_, bs, rfl, .inl (.inl ?_), q _ H y g (Nx.refl y H) (.bl _)⟩
        rw [← bls_rel z1 hb]
        exact g.sub _ _ h1
      | _ => cases hf
theorem cld_any : ClD K (rAny K) dAny := fun H y fu vs ds d Q g r hf q => by
  cases r with
  | nil => cases hf
  | cons r1 r2 =>
    cases r2 with
    | cons _ _ => cases r1 <;> cases hf
    | nil =>
      cases r1 with
      | lst h1 z1 =>
        obtain ⟨bs, hb, rfl⟩ := Option.map_eq_some_iff.mp (show (bls _).map _ = some d from hf)
        refine ⟨_, bs, rfl, .inl (.inl ?_), q _ H y g (Nx.refl y H) (.bl _)⟩
        rw [← bls_rel z1 hb]
        exact g.sub _ _ h1
      | _ => cases hf
theorem wx_all (C : Cxs F P w K mg base k) (hm : mg "all" = none) (ha : WX F K e wa) (hg : ∀ i, Gl (F i) "all" := by intro _; rfl)
    (hs : ∀ i, starEach [e] (F i).env = (false, eval e (F i).env) :: starEach [] (F i).env := by intro _; rfl) : WX F K (.Call (.Name "all" p) [e] [] pos) (wCl dAll (wCons wa wNil)) :=
  wx_bi C (fun i => by rw [← C.K i]; exact cr_all (C.calm i)) cld_all hm (by decide +kernel) ha wa_nil hg (by decide) (by decide) hs (fun _ => rfl)
theorem wx_any (C : Cxs F P w K mg base k) (hm : mg "any" = none) (ha : WX F K e wa) (hg : ∀ i, Gl (F i) "any" := by intro _; rfl)
    (hs : ∀ i, starEach [e] (F i).env = (false, eval e (F i).env) :: starEach [] (F i).env := by intro _; rfl) : WX F K (.Call (.Name "any" p) [e] [] pos) (wCl dAny (wCons wa wNil)) :=
  wx_bi C (fun i => by rw [← C.K i]; exact cr_any (C.calm i)) cld_any hm (by decide +kernel) ha wa_nil hg (by decide) (by decide) hs (fun _ => rfl)
def dInt : List D → Option D
  | [.int i] => some (.int i)
  | [.bl b] => some (.int (if b then 1 else 0))
  | _ => none
abbrev rInt : List V → Hp → VK → Prop := fun xs H Q => (∃ i, xs = [.int i] ∧ Q (.int i) H) ∨ ∃ k, xs = [.bl k] ∧ Q (.int (if k then 1 else 0)) H
theorem cld_int : ClD K rInt dInt := fun H y fu vs ds d Q g r hf q => by
  cases r with
  | nil => cases hf
  | cons r1 r2 =>
    cases r2 with
    | cons _ _ => cases r1 <;> cases hf
    | nil =>
      cases r1 with
      | int i => cases hf; exact .inl ⟨i, rfl, q _ H y g (Nx.refl y H) (.int _)⟩
      | bl b => cases hf; exact .inr ⟨b, rfl, q _ H y g (Nx.refl y H) (.int _)⟩
      | _ => cases hf
theorem wx_toint (C : Cxs F P w K mg base k) (hm : mg "int" = none) (ha : WX F K e wa) (hg : ∀ i, Gl (F i) "int" := by intro _; rfl)
    (hs : ∀ i, starEach [e] (F i).env = (false, eval e (F i).env) :: starEach [] (F i).env := by intro _; rfl) : WX F K (.Call (.Name "int" p) [e] [] pos) (wCl dInt (wCons wa wNil)) :=
  wx_ty C (fun i => call_int1) cld_int hm (by decide +kernel) ha wa_nil hg (by decide) (by decide) hs (fun _ => rfl)

/-! ## upper, lower; powers -/
def dUpper : D → Option D
  | .str a => if a.length ≤ 5592405 then some (.str (Txt.upper a)) else none
  | _ => none
def dLower : D → Option D
  | .str a => if a.length ≤ 5592405 then some (.str (Txt.lower a)) else none
  | _ => none
theorem wx_upper {apos : Pos} (ha : WX F K a wa) (hbase : ∀ i, attributeBase a "upper" (F i).env (eval a (F i).env) = eval a (F i).env := by intro _; rfl) (hline : (apos.endLine == pos.line) = true := by rfl) : WX F K (.Call (.Attribute a "upper" apos) [] [] pos) (wM0 dUpper wa) :=
  wx_m0 PySem.F.slot_str_upper PySem.F.type_str_upper (fun i => mt_upper) (fun H y fu x p d Q g r hf q => by
    cases p <;> try (cases hf; done)
    obtain ⟨hl, rfl⟩ := ite_some hf
    cases r
    exact ⟨_, rfl, rfl, hl, q _ H y g (Nx.refl y H) (.str _)⟩) ha hbase hline
theorem wx_lower {apos : Pos} (ha : WX F K a wa) (hbase : ∀ i, attributeBase a "lower" (F i).env (eval a (F i).env) = eval a (F i).env := by intro _; rfl) (hline : (apos.endLine == pos.line) = true := by rfl) : WX F K (.Call (.Attribute a "lower" apos) [] [] pos) (wM0 dLower wa) :=
  wx_m0 PySem.F.slot_str_lower PySem.F.type_str_lower (fun i => mt_lower) (fun H y fu x p d Q g r hf q => by
    cases p <;> try (cases hf; done)
    obtain ⟨hl, rfl⟩ := ite_some hf
    cases r
    exact ⟨_, rfl, rfl, hl, q _ H y g (Nx.refl y H) (.str _)⟩) ha hbase hline
def dPow : D → D → Option D := dI2 (fun i j => decide (0 ≤ j) && decide (j ≤ 1000000) && decide (i.natAbs < 2 ^ 64)) fun i j => i ^ j.toNat
theorem wx_pow (ha : WX F K a wa) (hb : WX F K b wb) : WX F K (.BinOp a .Pow b pos) (wOp dPow wa wb) := wx_op (fun i => op_pow) (opd_I2 fun i j h => by
  simp only [Bool.and_eq_true, decide_eq_true_eq] at h
  exact ⟨h.1.1, h.1.2, h.2⟩) ha hb

/-! ## chains -/
def wChain (f g : D → D → Option D) (wa wb wc : WE) : WE := fun ρ fu P => wa ρ fu fun p fu1 => wb ρ fu1 fun q fu2 => ∃ d, f p q = some d ∧ ∃ k, d = .bl k ∧ if k = true then wc ρ fu2 fun r fu3 => ∃ d', g q r = some d' ∧ P d' fu3 else P (.bl false) fu2
theorem rd_chain {r r' : R2} {f g : D → D → Option D} {ta tb tc : TE} (hf : OpD K r f) (hg : OpD K r' g) (ra : RdE K ta wa) (rb : RdE K tb wb) (rc : RdE K tc wc) : RdE K (tChain r r' ta tb tc) (wChain f g wa wb wc) := fun σ H y ρ fu P Q o hw z => by
  refine ra σ H y ρ fu _ _ o hw fun p fu1 v1 H1 y1 h1 g1 n1 r1 => ?_
  refine rb σ H1 y1 ρ fu1 _ _ (o.next n1 g1) h1 fun q fu2 v2 H2 y2 h2 g2 n2 r2 => ?_
  obtain ⟨d, e, kk, rfl, h2⟩ := h2
  refine hf H2 y2 fu2 v1 v2 p q _ _ g2 (r1.mono n2.x) r2 e fun v3 H3 y3 g3 n3 r3 => ?_
  cases r3
  refine ⟨kk, rfl, ?_⟩
  have n13 := (n1.trans n2).trans n3
  cases kk with
  | false =>
    rw [if_neg Bool.false_ne_true] at h2 ⊢
    exact z _ _ _ _ _ h2 g3 n13 (.bl false)
  | true =>
    rw [if_pos rfl] at h2 ⊢
    refine rc σ H3 y3 ρ fu2 _ _ (o.next n13 g3) h2 fun q3 fu4 v4 H4 y4 h4 g4 n4 r4 => ?_
    obtain ⟨d', e', h4⟩ := h4
    exact hg H4 y4 fu4 v2 v4 q q3 d' Q g4 ((r2.mono n3.x).mono n4.x) r4 e' fun v5 H5 y5 g5 n5 r5 => z _ _ _ _ _ h4 g5 ((n13.trans n4).trans n5) r5
theorem wx_chain {op op' : CmpOp} {r r' : R2} {f g : D → D → Option D} (ho : ∀ i, OpR (F i) (compareOp op) r) (ho' : ∀ i, OpR (F i) (compareOp op') r') (hf : OpD K r f) (hg : OpD K r' g) (ha : WX F K a wa) (hb : WX F K b wb) (hc : WX F K c wc)
    (hm : lastMarks [op, op'] [b, c] = false := by with_unfolding_all rfl) : WX F K (.Compare a [op, op'] [b, c] pos) (wChain f g wa wb wc) := by
  obtain ⟨ta, pa, ra⟩ := ha.ex
  obtain ⟨tb, pb, rb⟩ := hb.ex
  obtain ⟨tc, pc, rc⟩ := hc.ex
  exact ⟨_, fun i => pe_chain (ho i) (ho' i) (pa i) (pb i) (pc i) hm, rd_chain hf hg ra rb rc⟩
theorem wx_ltle (ha : WX F K a wa) (hb : WX F K b wb) (hc : WX F K c wc) (hm : lastMarks [.Lt, .LtE] [b, c] = false := by with_unfolding_all rfl) : WX F K (.Compare a [.Lt, .LtE] [b, c] pos) (wChain dLt dLe wa wb wc) :=
  wx_chain (fun i => opr_lt) (fun i => opr_le) opd_lt opd_le ha hb hc hm
theorem wx_ltlt (ha : WX F K a wa) (hb : WX F K b wb) (hc : WX F K c wc) (hm : lastMarks [.Lt, .Lt] [b, c] = false := by with_unfolding_all rfl) : WX F K (.Compare a [.Lt, .Lt] [b, c] pos) (wChain dLt dLt wa wb wc) :=
  wx_chain (fun i => opr_lt) (fun i => opr_lt) opd_lt opd_lt ha hb hc hm
@[simp] theorem e_chain {f g : D → D → Option D} {ρ : List Sl} {fu : Fu} {P : KD} : wChain f g wa wb wc ρ fu P = wa ρ fu fun p fu1 => wb ρ fu1 fun q fu2 => IsS (f p q) fun d => IsB d fun k => if k = true then wc ρ fu2 fun r fu3 => IsS (g q r) fun d' => P d' fu3 else P (.bl false) fu2 := rfl

/-! ## dict displays -/
theorem wx_dic0 : WX F K (.Dict [] [] pos) (wC (.dic [])) := by
  refine ⟨tDNewK, fun i => pe_dnewK, fun σ H y ρ fu P Q o hw z pp np => ?_⟩
  obtain ⟨g2, n2⟩ := grow (o := .dK []) o.g np
  exact z _ _ _ _ _ hw g2 n2 (.dic upd_same .nil)
def wDic1 (x : Str) (wa : WE) : WE := fun ρ fu P => wa ρ fu fun d fu' => P (.dic [(x, d)]) fu'
theorem wx_dic1 {x : Str} {j : Nat} {p2 : Pos} (ha : WX F K a wa) : WX F K (.Dict [some (.Constant (.str x) j p2)] [a] pos) (wDic1 x wa) := by
  obtain ⟨t, q, r⟩ := ha.ex
  refine ⟨tDisp [(tC (.str x), t)], fun i => pe_disp (pps_cons pe_str (q i) pps_nil) rfl rfl (by simp) (by simp), fun σ H y ρ fu P Q o hw z pp np => ?_⟩
  obtain ⟨g0, n0, z1, z2⟩ := alone (o := .dK []) o.g np
  refine r σ _ y ρ fu _ _ (o.next n0 g0) hw fun d fu1 v1 H1 y1 h1 g1 n1 r1 => ?_
  have hh : upd H pp (.dK []) pp ≠ none := by rw [upd_same]; simp
  have w1 : Nsr y1 pp := z2.next n1 hh
  have l1 : H1 pp = some (.dK []) := n1.frm pp _ upd_same w1
  have q1 : y1.g pp = none := n1.out pp hh z1
  refine ⟨l1, [(.inr x, v1)], rfl, by simp, ?_⟩
  have hmk : mergeK [] [((.inr x : Key), v1)] = [(.inr x, v1)] := rfl
  rw [hmk]
  have g2 : GOk y1 (upd H1 pp (.dK [(.inr x, v1)])) fu1 := g1.put q1 w1
  have n2 : Nx y H y1 (upd H1 pp (.dK [(.inr x, v1)])) := (n0.trans n1).put np
  obtain ⟨g3, x3⟩ := settle g2 q1 upd_same w1
  refine z _ _ _ _ _ h1 g3 ⟨n2.x.trans x3, n2.frm, n2.here, fun b hb kb => ?_, n2.new⟩ (.dic upd_same (.cons (r1.mono x3) .nil))
  have nb : b ≠ pp := fun e => hb (e ▸ np)
  show upd y1.g pp _ b = none
  rw [upd_ne nb]
  exact n2.out b hb kb
@[simp] theorem e_dic1 {x : Str} {ρ : List Sl} {fu : Fu} {P : KD} : wDic1 x wa ρ fu P = wa ρ fu fun d fu' => P (.dic [(x, d)]) fu' := rfl
end
end Z
namespace PySem.SeqAt
open AutoSeq1 (wpAny_loadPart')
open MeetsSeq
section
variable {A : Around} {s : Shared}
theorem dct_eq_str (l : Addr) (es : Array DictEntry) (n : Nat) (dd : Option Addr) (sl : Array (Option Value)) (b : Str) (u : Tok) :
    Meets (Builtin.«dict.__eq__» ⟨[.ref l, .str b u], []⟩) (fun _ R s => s.heap.get? l = some { cls := .type "dict", dict := dd, data := .dict es n, slots := sl } ∧ R (.ok (.ret .notImplemented)) s) :=
  .of_wp fun prog w A R s h => by
    obtain ⟨hp, g, d, tk, os⟩ := s
    obtain ⟨hl, h⟩ := h
    have f1 := F.sub_str_dict
    wp_walk using wpAny_loadPart' hl
    exact ⟨_, rfl, h⟩
theorem str_eq_dct (b : Str) (u : Tok) (l : Addr) (c : Value) (es : Array DictEntry) (n : Nat) (dd : Option Addr) (sl : Array (Option Value)) :
    Meets (Builtin.«str.__eq__» ⟨[.str b u, .ref l], []⟩) (fun _ R s => s.heap.get? l = some { cls := c, dict := dd, data := .dict es n, slots := sl } ∧ R (.ok (.ret .notImplemented)) s) :=
  .of_wp fun prog w A R s h => by
    obtain ⟨hp, g, d, tk, os⟩ := s
    obtain ⟨hl, h⟩ := h
    wp_walk using wpAny_loadPart' hl, wpAny_load hl
    exact ⟨_, rfl, h⟩
theorem RcAt.dct_str {l : Addr} {o : Obj} {es : Array DictEntry} {n : Nat} (b : Str) (u : Tok) (ho : s.heap.get? l = some o) (hc : o.cls = .type "dict") (hd : o.data = .dict es n) (hu : A.units < cLine) : RcAt A s (.ref l) (.str b u) false := fun prog w E Q h => by
  obtain ⟨cls, dd, data, sl⟩ := o
  simp only at hc hd
  subst hc hd
  refine rc_eq_decline_or (k := false) ⟨_, ho, rfl⟩ (typeIs_str s b u) (by decide) F.sub_str_dict F.slot_dict_eq F.slot_str_eq_refl (fun _ hq => ?_) (fun _ hq => ?_) (fun _ hq => wpAny_of_eq (rfl : isSame (.ref l) (.str b u) = pure false) hq) (.inr hu) h
  · exact call_meets F.slot_dict_eq ⟨_, ho, rfl⟩ F.entry_dict_eq (F.args_dict_eq_2 _ _) (dct_eq_str l es n dd sl b u) ⟨ho, hq⟩
  · exact call_meets F.slot_str_eq_refl (typeIs_str s b u) F.entry_str_eq (F.args_str_eq_2 _ _) (str_eq_dct b u l (.type "dict") es n dd sl) ⟨ho, hq⟩
end
end PySem.SeqAt
namespace Z
open PySem PySem.Spec L2
/-! ## == of any data with a text, of a tuple with () -/
def isRefD : D → Bool
  | .tup _ => true
  | .lst _ => true
  | .dic _ => true
  | _ => false
def rEqX (K : PySem.W.Frag) : R2 := fun x y H Q => ∃ yg a s, Sub (Gh.g yg) H ∧ Rp K yg x a ∧ isRefD a = true ∧ y = .str s ∧ Q (.bl false) H
theorem op_eqX {X : Cx} (hu : X.A.units + 64 < cLine) : OpR X (compareOp .Eq) (rEqX X.K) := by
  intro pins s σ H x y v u Q I rx ry h
  obtain ⟨yg, a, z, hs, r, ha, rfl, q⟩ := h
  obtain ⟨t, rfl⟩ := ry
  have fin : EP X pins σ Q (.bool false) s := ⟨.bl false, H, I, rfl, q⟩
  have hu' : X.A.units < cLine := by omega
  cases r
  all_goals try (cases ha; done)
  · rename_i ad xs ds hT _
    cases rx
    obtain ⟨its, rv, p, _⟩ := I.tuple (sqT_same hs hT)
    exact SeqAt.RcAt.tuple_str z t p hu' X.prog X.w X.xe _ fin
  · rename_i ad xs ds hT _
    cases rx
    obtain ⟨its, rv, p, _⟩ := I.list (.inl (.inl (hs _ _ hT)))
    exact SeqAt.RcAt.list_str z t p.isList hu' X.prog X.w X.xe _ fin
  · rename_i ad xs ds hT _
    cases rx
    obtain ⟨_, hm, vs, kv, o, es, ep, ho, hx, hd, _⟩ := dk_of I.hok (hs _ _ hT)
    exact SeqAt.RcAt.dct_str z t ho hx.1 hd hu' X.prog X.w X.xe _ fin
def rEqT0 (K : PySem.W.Frag) : R2 := fun x y H Q => ∃ a b xs, x = .ref a ∧ y = .ref b ∧ SqT K H a xs ∧ SqT K H b [] ∧ Q (.bl xs.isEmpty) H
def rNeT0 (K : PySem.W.Frag) : R2 := fun x y H Q => ∃ a b xs, x = .ref a ∧ y = .ref b ∧ SqT K H a xs ∧ SqT K H b [] ∧ Q (.bl (!xs.isEmpty)) H
theorem sz0_eq {xs : List V} {its : List Value} (r : Vals xs its) : ((List.range (min its.toArray.size ([] : List Value).toArray.size)).all (fun _ => true) && its.toArray.size == ([] : List Value).toArray.size) = xs.isEmpty := by
  cases r with
  | nil => rfl
  | cons a b => simp
theorem op_eqT0 {X : Cx} (hu : X.A.units + 64 < cLine) : OpR X (compareOp .Eq) (rEqT0 X.K) := by
  intro pins s σ H x y v u Q I rx ry h
  obtain ⟨a, b, xs, rfl, rfl, h1, h2, q⟩ := h
  cases rx
  cases ry
  obtain ⟨its, rv, p, _⟩ := I.tuple h1
  obtain ⟨its2, rv2, p2, _⟩ := I.tuple h2
  cases rv2
  refine SeqAt.RcAt.tuples (e := fun _ => true) p p2 (by omega) (fun j _ j2 => by simp at j2) X.prog X.w X.xe _ ?_
  rw [sz0_eq rv]
  exact ⟨.bl _, H, I, rfl, q⟩
theorem op_neT0 {X : Cx} (hu : X.A.units + 64 < cLine) : OpR X (compareOp .NotEq) (rNeT0 X.K) := by
  intro pins s σ H x y v u Q I rx ry h
  obtain ⟨a, b, xs, rfl, rfl, h1, h2, q⟩ := h
  cases rx
  cases ry
  obtain ⟨its, rv, p, _⟩ := I.tuple h1
  obtain ⟨its2, rv2, p2, _⟩ := I.tuple h2
  cases rv2
  refine SeqAt.RcNeAt.tuples (e := fun _ => true) p p2 (by omega) (fun j _ j2 => by simp at j2) X.prog X.w X.xe _ ?_
  rw [sz0_eq rv]
  exact ⟨.bl _, H, I, rfl, q⟩
def dEQ (a b : D) : Option D := match a, b with
  | .tup l, .tup [] => some (.bl l.isEmpty)
  | a, .str s => if isRefD a = true then some (.bl false) else dEq a (.str s)
  | a, b => dEq a b
def dNE (a b : D) : Option D := match a, b with
  | .tup l, .tup [] => some (.bl (!l.isEmpty))
  | a, b => dNe a b
abbrev rEQ (K : PySem.W.Frag) : R2 := fun x y H Q => rEqA K x y H Q ∨ rEqX K x y H Q ∨ rEqT0 K x y H Q
abbrev rNE (K : PySem.W.Frag) : R2 := fun x y H Q => rNeA K x y H Q ∨ rNeT0 K x y H Q
theorem isE {K : PySem.W.Frag} {y : Gh} {xs : List V} {l : List D} (r : RpL K y xs l) : xs.isEmpty = l.isEmpty := by cases r <;> rfl
theorem opd_EQ {K : PySem.W.Frag} : OpD K (rEQ K) dEQ := fun H y fu x z p q d Q g rx rz hf k => by
  unfold dEQ at hf
  split at hf
  · cases hf
    cases rx with
    | tup h1 r1 =>
    cases rz with
    | tup h2 r2 =>
    cases r2
    refine .inr (.inr ⟨_, _, _, rfl, rfl, sqT_same g.sub h1, sqT_same g.sub h2, ?_⟩)
    rw [isE r1]
    exact k _ H y g (Nx.refl y H) (.bl _)
  · split at hf
    · rename_i hr
      cases hf
      cases rz
      exact .inr (.inl ⟨y, _, _, g.sub, rx, hr, rfl, k _ H y g (Nx.refl y H) (.bl _)⟩)
    · exact .inl (opd_eq H y fu x z _ _ d Q g rx rz hf k)
  · exact .inl (opd_eq H y fu x z _ _ d Q g rx rz hf k)
theorem opd_NE {K : PySem.W.Frag} : OpD K (rNE K) dNE := fun H y fu x z p q d Q g rx rz hf k => by
  unfold dNE at hf
  split at hf
  · cases hf
    cases rx with
    | tup h1 r1 =>
    cases rz with
    | tup h2 r2 =>
    cases r2
    refine .inr ⟨_, _, _, rfl, rfl, sqT_same g.sub h1, sqT_same g.sub h2, ?_⟩
    rw [isE r1]
    exact k _ H y g (Nx.refl y H) (.bl _)
  · exact .inl (opd_ne H y fu x z _ _ d Q g rx rz hf k)
theorem opr_EQ {X : Cx} (hu : X.A.units + 64 < cLine) : OpR X (compareOp .Eq) (rEQ X.K) := (opr_eq hu).or ((op_eqX hu).or (op_eqT0 hu))
theorem opr_NE {X : Cx} (hu : X.A.units + 64 < cLine) : OpR X (compareOp .NotEq) (rNE X.K) := (opr_ne hu).or (op_neT0 hu)
section
variable {ι : Type} {F : ι → Cx} {P : Program} {w : World} {K : PySem.W.Frag} {mg : Str → Option Value} {base : Heap} {k : Nat} {a b e : Expr} {wa wb we : WE} {pos : Pos}
theorem wx_EQ (C : Cxs F P w K mg base k) (ha : WX F K a wa) (hb : WX F K b wb) : WX F K (.Compare a [.Eq] [b] pos) (wOp dEQ wa wb) := wx_cmp (fun i => by rw [← C.K i]; exact opr_EQ (C.room i).units) opd_EQ ha hb (nomark _)
theorem wx_NE (C : Cxs F P w K mg base k) (ha : WX F K a wa) (hb : WX F K b wb) : WX F K (.Compare a [.NotEq] [b] pos) (wOp dNE wa wb) := wx_cmp (fun i => by rw [← C.K i]; exact opr_NE (C.room i).units) opd_NE ha hb (nomark _)
theorem wt_EQ (C : Cxs F P w K mg base k) (ha : WX F K a wa) (hb : WX F K b wb) : WTs F K (.Compare a [.Eq] [b] pos) (wB (wOp dEQ wa wb)) := wt_cmp (fun i => by rw [← C.K i]; exact opr_EQ (C.room i).units) opd_EQ ha hb (nomark _)
theorem wt_NE (C : Cxs F P w K mg base k) (ha : WX F K a wa) (hb : WX F K b wb) : WTs F K (.Compare a [.NotEq] [b] pos) (wB (wOp dNE wa wb)) := wt_cmp (fun i => by rw [← C.K i]; exact opr_NE (C.room i).units) opd_NE ha hb (nomark _)
end
/-- is it this text? -/
def isS_ (d : D) (s : Str) : Bool := match d with
  | .str t => decide (t = s)
  | _ => false
theorem dEQ_str {d : D} {s : Str} (h : dat d = true) : dEQ d (.str s) = some (.bl (isS_ d s)) := by
  cases d
  case src => unfold dat at h; cases h
  case scr => unfold dat at h; cases h
  case str t => show dEq (.str t) (.str s) = _; rw [dEq_str]; rfl
  case tup l => rfl
  case lst l => rfl
  case dic l => rfl
  case non => show dEq .non (.str s) = _; unfold dEq; rw [if_pos (by rfl : eqOk _ _ = true)]; simp [deq, py, PyData.eqv, isS_]
  case bl b => show dEq (.bl b) (.str s) = _; unfold dEq; rw [if_pos (by rfl : eqOk _ _ = true)]; simp [deq, py, PyData.eqv, isS_]
  case int i => show dEq (.int i) (.str s) = _; unfold dEq; rw [if_pos (by rfl : eqOk _ _ = true)]; simp [deq, py, PyData.eqv, isS_]
theorem dNE_str (a b : Str) : dNE (.str a) (.str b) = some (.bl (!decide (a = b))) := dNe_str a b
theorem dEQ_strs (a b : Str) : dEQ (.str a) (.str b) = some (.bl (decide (a = b))) := dEq_str a b
theorem dEQ_int (a b : Int) : dEQ (.int a) (.int b) = some (.bl (decide (a = b))) := dEq_int a b
theorem dNE_int (a b : Int) : dNE (.int a) (.int b) = some (.bl (!decide (a = b))) := dNe_int a b
theorem dNE_tup0 (l : List D) : dNE (.tup l) (.tup []) = some (.bl (!l.isEmpty)) := rfl
theorem dEQ_tup0 (l : List D) : dEQ (.tup l) (.tup []) = some (.bl l.isEmpty) := rfl
end Z
set_option maxHeartbeats 1000000
namespace Z
open PySem PySem.Spec L2
open PyProof.Rows (IsTup)

/-! ## tuple * int -/
theorem tupMul_same (l : Addr) (items : Array Value) (n : Nat) (dd : Option Addr) (sl : Array (Option Value)) (x : Int) (u : Tok) (c0 : (decide (x < -(2 ^ 63)) || decide (x ≥ 2 ^ 63)) = false) (c1 : (items.isEmpty || x == 1) = true) :
    Meets (Builtin.«tuple.__mul__» ⟨[.ref l, .int x u], []⟩) (fun _ R s => s.heap.get? l = some { cls := .type "tuple", dict := dd, data := .seq items n, slots := sl } ∧ R (.ok (.ret (Value.ref l))) s) :=
  .of_wp fun prog w A R s h => by
    obtain ⟨hp, g, d, tk, os⟩ := s
    obtain ⟨hl, h⟩ := h
    have f1 := AutoSeq1.idx_int
    wp_walk using wpAny_loadPart' hl
    repeat (first
      | (refine wpAny_ite_false (decide_eq_false (by rw [c0]; exact Bool.false_ne_true)) ?_; wp_walk using wpAny_loadPart' hl)
      | (refine wpAny_ite_true (decide_eq_true (by rw [c1])) ?_; wp_walk using wpAny_loadPart' hl))
    exact ⟨_, rfl, h⟩
theorem tupMul_none (l : Addr) (items : Array Value) (n : Nat) (dd : Option Addr) (sl : Array (Option Value)) (x : Int) (u : Tok) (c0 : (decide (x < -(2 ^ 63)) || decide (x ≥ 2 ^ 63)) = false) (c1 : (items.isEmpty || x == 1) = false) (c2 : (decide (x ≤ 0) || items.isEmpty) = true) :
    Meets (Builtin.«tuple.__mul__» ⟨[.ref l, .int x u], []⟩) (fun _ R s => s.heap.get? l = some { cls := .type "tuple", dict := dd, data := .seq items n, slots := sl } ∧
      R (.ok (.ret (Value.ref s.heap.objs.size))) { s with heap := s.heap.push { cls := Value.type "tuple", data := Data.seq #[] }, toks := s.toks }) :=
  .of_wp fun prog w A R s h => by
    obtain ⟨hp, g, d, tk, os⟩ := s
    obtain ⟨hl, h⟩ := h
    have f1 := AutoSeq1.idx_int
    wp_walk using wpAny_loadPart' hl
    repeat (first
      | (refine wpAny_ite_false (decide_eq_false (by rw [c0]; exact Bool.false_ne_true)) ?_; wp_walk using wpAny_loadPart' hl)
      | (refine wpAny_ite_false (decide_eq_false (by rw [c1]; exact Bool.false_ne_true)) ?_; wp_walk using wpAny_loadPart' hl)
      | (refine wpAny_ite_true (decide_eq_true (by rw [c2])) ?_; wp_walk using wpAny_loadPart' hl))
    exact ⟨_, rfl, h⟩
def rRepA (K : PySem.W.Frag) : R2 := fun x y H Q => ∃ l k xs, x = .ref l ∧ y = .int k ∧ SqT K H l xs ∧ -(2 ^ 62) ≤ k ∧ k ≤ 1000 ∧ xs.length ≤ 1000 ∧ (xs = [] ∨ k = 1 → Q (.ref l) H) ∧
  (xs ≠ [] → k ≠ 1 → ∀ p, H p = none → Q (.ref p) (upd H p (.tup (List.replicate k.toNat xs).flatten)))
theorem op_repA {X : Cx} : OpR X (binaryOp .Mult) (rRepA X.K) := by
  intro pins s σ H x y v u Q I rx ry h
  obtain ⟨l, k, xs, rfl, rfl, hT, h1, h2, hz, q1, q2⟩ := h
  by_cases hne : xs = []
  · cases rx
    obtain ⟨t, rfl⟩ := ry
    obtain ⟨its, r, ⟨⟨cls, dd, data, sl⟩, ho, hc, n, hd⟩, hs⟩ := I.tuple hT
    simp only at hc hd
    subst hc hd
    subst hne
    cases r
    have c0 : (decide (k < -(2 ^ 63)) || decide (k ≥ 2 ^ 63)) = false := by
      rw [decide_eq_false (by omega), decide_eq_false (by omega)] <;> rfl
    refine PySem.wpAny_binaryOp_repeat_ref (T := "tuple") (U := "int") (by decide) ⟨_, ho, rfl⟩ (fun s' => typeIs_int s' k t) noFill_tuple_mul F.fills_int_mul F.slot_int_rmul repeat_tuple F.slot_int_index.lookup
      (call_meets F.slot_int_rmul (typeIs_int s k t) F.entry_int_rmul (F.args_int_rmul_2 _ _) (int_rmul_tuple k t l _ n dd sl)
        ⟨ho, rfl, ⟨_, ho, rfl⟩, call_meets F.slot_tuple_mul ⟨_, ho, rfl⟩ F.entry_tuple_mul (F.args_tuple_mul_2 _ _) (tupMul_same l _ n dd sl k t c0 rfl) ⟨ho, .ref l, H, I, rfl, q1 (.inl rfl)⟩⟩)
  by_cases hk1 : k = 1
  · cases rx
    obtain ⟨t, rfl⟩ := ry
    obtain ⟨its, r, ⟨⟨cls, dd, data, sl⟩, ho, hc, n, hd⟩, hs⟩ := I.tuple hT
    simp only at hc hd
    subst hc hd
    subst hk1
    refine PySem.wpAny_binaryOp_repeat_ref (T := "tuple") (U := "int") (by decide) ⟨_, ho, rfl⟩ (fun s' => typeIs_int s' 1 t) noFill_tuple_mul F.fills_int_mul F.slot_int_rmul repeat_tuple F.slot_int_index.lookup
      (call_meets F.slot_int_rmul (typeIs_int s 1 t) F.entry_int_rmul (F.args_int_rmul_2 _ _) (int_rmul_tuple 1 t l _ n dd sl)
        ⟨ho, rfl, ⟨_, ho, rfl⟩, call_meets F.slot_tuple_mul ⟨_, ho, rfl⟩ F.entry_tuple_mul (F.args_tuple_mul_2 _ _) (tupMul_same l _ n dd sl 1 t (by decide) (by simp)) ⟨ho, .ref l, H, I, rfl, q1 (.inr rfl)⟩⟩)
  by_cases hk0 : k ≤ 0
  · cases rx
    obtain ⟨t, rfl⟩ := ry
    obtain ⟨its, r, ⟨⟨cls, dd, data, sl⟩, ho, hc, n, hd⟩, hs⟩ := I.tuple hT
    simp only at hc hd
    subst hc hd
    have c0 : (decide (k < -(2 ^ 63)) || decide (k ≥ 2 ^ 63)) = false := by
      rw [decide_eq_false (by omega), decide_eq_false (by omega)] <;> rfl
    have hi : its.toArray.isEmpty = false := by
      cases its with
      | nil => cases r; exact absurd rfl hne
      | cons a b => rfl
    have c1 : (its.toArray.isEmpty || k == 1) = false := by
      rw [hi, Bool.false_or]
      exact beq_eq_false_iff_ne.mpr (by omega)
    have c2 : (decide (k ≤ 0) || its.toArray.isEmpty) = true := by rw [decide_eq_true hk0]; rfl
    have e0 : (List.replicate k.toNat xs).flatten = [] := by
      have : k.toNat = 0 := by omega
      rw [this]; rfl
    have q3 := q2 hne hk1
    rw [e0] at q3
    refine PySem.wpAny_binaryOp_repeat_ref (T := "tuple") (U := "int") (by decide) ⟨_, ho, rfl⟩ (fun s' => typeIs_int s' k t) noFill_tuple_mul F.fills_int_mul F.slot_int_rmul repeat_tuple F.slot_int_index.lookup
      (call_meets F.slot_int_rmul (typeIs_int s k t) F.entry_int_rmul (F.args_int_rmul_2 _ _) (int_rmul_tuple k t l its.toArray n dd sl)
        ⟨ho, rfl, ⟨_, ho, rfl⟩, call_meets F.slot_tuple_mul ⟨_, ho, rfl⟩ F.entry_tuple_mul (F.args_tuple_mul_2 _ _) (tupMul_none l its.toArray n dd sl k t c0 c1 c2) ⟨ho, ?_⟩⟩)
    refine ⟨.ref s.heap.objs.size, _, I.laid (t' := s.toks) (o := .tup []) (fun b ob q => Heap.get?_push_of_some _ q) (Nat.le_refl _) ?_, rfl, q3 _ (I.hok.fresh (Nat.le_refl _))⟩
    exact ⟨Nat.zero_le _, [], .nil, IsTup.new _ _⟩
  · exact op_repT pins s σ H _ _ v u Q I rx ry ⟨l, k, xs, rfl, rfl, hT, hne, by omega, h2, hz, q2 hne hk1⟩

/-! ## text * int -/
def repS (x : Str) (n : Nat) : Str := ⟨(List.replicate n x.cps.toList).flatten.toArray⟩
def rMulS : R2 := fun x y H Q => ∃ a k, x = .str a ∧ y = .int k ∧ -(2 ^ 62) ≤ k ∧ k ≤ 100000 ∧ a.length ≤ 100 ∧ Q (.str (repS a k.toNat)) H
theorem fold_app (a : Array Nat) : ∀ (n : Nat) (z : Array Nat), (List.replicate n a).foldl (· ++ ·) z = z ++ (List.replicate n a.toList).flatten.toArray
  | 0, z => by simp
  | n + 1, z => by
    rw [List.replicate_succ, List.foldl_cons, fold_app a n, List.replicate_succ, List.flatten_cons, Array.append_assoc]
    congr 1
    apply Array.ext'
    simp
theorem op_mulS {X : Cx} : OpR X (binaryOp .Mult) rMulS := by
  intro pins s σ H x y v u Q I rx ry h
  obtain ⟨a, k, rfl, rfl, h1, h2, h3, q⟩ := h
  obtain ⟨t, rfl⟩ := rx
  obtain ⟨t', rfl⟩ := ry
  have e : (⟨(List.replicate k.toNat a.cps).foldl (· ++ ·) #[]⟩ : Str) = repS a k.toNat := by
    unfold repS
    rw [fold_app]
    simp
  have c0 : (decide (k < -(2 ^ 63 : Int)) || decide (k ≥ 2 ^ 63)) = false := by
    rw [decide_eq_false (by omega), decide_eq_false (by omega)] <;> rfl
  have hm : a.length * k.toNat ≤ 10000000 := by
    have := Nat.mul_le_mul h3 (show k.toNat ≤ 100000 by omega)
    omega
  refine PySem.P.mul_str c0 (fun hk hk2 => ?_) (fun hk hk2 => ?_) ?_
  · have hk0 : 0 < k := by omega
    have : (100 : Int) ≤ (2 ^ 63 - 1) / k := by
      rw [Int.le_ediv_iff_mul_le hk0]
      omega
    omega
  · unfold Builtin.Str.tooLong
    exact decide_eq_false (Nat.not_lt.mpr (size_pos hm))
  · have hlen : (repS a k.toNat).cps.size ≤ sizeLine := by
      refine size_pos ?_
      unfold repS
      simp only [List.size_toArray]
      rw [PyProof.Rows.lm_len_rep_flat]
      have : a.cps.toList.length = a.length := by unfold Str.length; simp
      rw [this, Nat.mul_comm]
      exact hm
    by_cases hk : k < 1
    · rw [if_pos hk]
      have e0 : repS a k.toNat = Str.empty := by
        have : k.toNat = 0 := by omega
        rw [this]; rfl
      rw [e0] at q
      exact ⟨by decide, .str _, H, I.tok _, ⟨_, rfl⟩, q⟩
    · rw [if_neg hk]
      by_cases hk2 : (k == 1 || a.length == 0) = true
      · rw [if_pos hk2]
        have e1 : repS a k.toNat = a := by
          rw [Bool.or_eq_true] at hk2
          rcases hk2 with z | z
          · have : k = 1 := eq_of_beq z
            subst this
            unfold repS
            simp
          · have z' : a.cps.toList = [] := by
              have := eq_of_beq z
              unfold Str.length at this
              simpa using this
            unfold repS
            rw [z']
            cases a with
            | mk l =>
              have : l = #[] := by
                cases l
                simpa using z'
              rw [this]
              simp
        rw [e1] at q
        exact ⟨.str _, H, I, ⟨_, rfl⟩, q⟩
      · rw [if_neg hk2, e]
        exact ⟨hlen, .str _, H, I.tok _, ⟨_, rfl⟩, q⟩
def dMUL : D → D → Option D
  | .int i, .int j => if mulOk i j = true then some (.int (i * j)) else none
  | .str a, .int k => if -(2 ^ 62) ≤ k ∧ k ≤ 100000 ∧ a.length ≤ 100 then some (.str (repS a k.toNat)) else none
  | .tup l, .int k => if -(2 ^ 62) ≤ k ∧ k ≤ 1000 ∧ l.length ≤ 1000 then some (.tup (List.replicate k.toNat l).flatten) else none
  | .lst l, .int k => if -(2 ^ 62) ≤ k ∧ k ≤ 1000 ∧ l.length ≤ 1000 then some (.lst (List.replicate k.toNat l).flatten) else none
  | _, _ => none
abbrev rMUL (K : PySem.W.Frag) : R2 := fun x y H Q => rI CMul (fun i j => .int (i * j)) x y H Q ∨ rMulS x y H Q ∨ rRepA K x y H Q ∨ L2.rRep x y H Q
theorem opr_MUL {X : Cx} : OpR X (binaryOp .Mult) (rMUL X.K) := op_mul.or (op_mulS.or (op_repA.or op_rep))
theorem RpL.rep {K : PySem.W.Frag} {y : Gh} {xs : List V} {l : List D} (r : RpL K y xs l) : ∀ n : Nat, RpL K y (List.replicate n xs).flatten (List.replicate n l).flatten
  | 0 => .nil
  | n + 1 => by
    rw [List.replicate_succ, List.replicate_succ, List.flatten_cons, List.flatten_cons]
    exact r.append (RpL.rep r n)
theorem opd_MUL {K : PySem.W.Frag} : OpD K (rMUL K) dMUL := fun H y fu x z p q d Q g rx rz hf k => by
  cases p <;> cases q
  all_goals try (cases hf; done)
  · rename_i i j
    obtain ⟨hc, rfl⟩ := ite_some hf
    unfold mulOk at hc
    simp only [Bool.or_eq_true, Bool.and_eq_true, decide_eq_true_eq] at hc
    cases rx; cases rz
    exact .inl ⟨_, _, rfl, rfl, hc, k _ H y g (Nx.refl y H) (.int _)⟩
  · obtain ⟨⟨h1, h2, h3⟩, rfl⟩ := ite_some hf
    cases rx; cases rz
    exact .inr (.inl ⟨_, _, rfl, rfl, h1, h2, h3, k _ H y g (Nx.refl y H) (.str _)⟩)
  · obtain ⟨⟨h1, h2, h3⟩, rfl⟩ := ite_some hf
    cases rz
    cases rx with
    | tup z1 z2 =>
    rename_i l i _ _
    refine .inr (.inr (.inl ⟨_, _, _, rfl, rfl, sqT_same g.sub z1, h1, h2, by rw [z2.length]; exact h3, fun hh => ?_, fun _ _ pp np => ?_⟩))
    · rename_i xs
      have e : RpL K y xs (List.replicate i.toNat l).flatten := by
        rcases hh with hh | hh
        · subst hh
          cases z2
          have e0 : ∀ n : Nat, (List.replicate n ([] : List D)).flatten = [] := fun n => by induction n with
            | zero => rfl
            | succ n ih => rw [List.replicate_succ, List.flatten_cons, ih]; rfl
          rw [e0]
          exact .nil
        · subst hh
          simpa using z2
      exact k _ H y g (Nx.refl y H) (.tup z1 e)
    · obtain ⟨g2, n2⟩ := grow (o := .tup _) g np
      exact k _ _ _ g2 n2 (.tup (.inl (.inl upd_same)) ((z2.rep _).mono n2.x))
  · obtain ⟨⟨h1, h2, h3⟩, rfl⟩ := ite_some hf
    cases rz
    cases rx with
    | lst z1 z2 =>
    rename_i l i _ _
    refine .inr (.inr (.inr ⟨_, _, _, rfl, rfl, g.sub _ _ z1, by omega, by omega, ?_, fun pp np => ?_⟩))
    · rw [z2.length]
      have a1 : l.length * i.toNat ≤ 1000 * 1000 := Nat.mul_le_mul h3 (by omega)
      exact size_pos (by omega)
    · obtain ⟨g2, n2⟩ := grow (o := .lst _) g np
      exact k _ _ _ g2 n2 (.lst upd_same ((z2.rep _).mono n2.x))
section
variable {ι : Type} {F : ι → Cx} {P : Program} {w : World} {K : PySem.W.Frag} {mg : Str → Option Value} {base : Heap} {k : Nat} {a b : Expr} {wa wb : WE} {pos : Pos}
theorem wx_MUL (C : Cxs F P w K mg base k) (ha : WX F K a wa) (hb : WX F K b wb) : WX F K (.BinOp a .Mult b pos) (wOp dMUL wa wb) := wx_op (fun i => by rw [← C.K i]; exact opr_MUL) opd_MUL ha hb
end

/-! ## a tuple backwards -/
theorem fmap_eq {α β : Type} {f g : α → Option β} : ∀ {l : List α}, (∀ k ∈ l, f k = g k) → l.filterMap f = l.filterMap g
  | [], _ => rfl
  | a :: l, h => by
    rw [List.filterMap_cons, List.filterMap_cons, h a List.mem_cons_self, fmap_eq fun k hk => h k (List.mem_cons_of_mem _ hk)]
theorem rev_picks (xs : Array Value) : ((List.range xs.size).filterMap fun (k : Nat) => xs[(((xs.size : Int) - 1) + (k : Int) * (-1)).toNat]?).toArray = xs.toList.reverse.toArray := by
  have h1 : ((List.range xs.size).filterMap fun (k : Nat) => xs[(((xs.size : Int) - 1) + (k : Int) * (-1)).toNat]?) = ((List.range xs.size).map fun k => xs.size - 1 - k).filterMap (xs[·]?) := by
    rw [List.filterMap_map]
    refine fmap_eq fun k hk => ?_
    have := List.mem_range.mp hk
    show xs[(((xs.size : Int) - 1) + (k : Int) * (-1)).toNat]? = xs[xs.size - 1 - k]?
    congr 1
    omega
  rw [h1, PySem.W.krv_range, List.filterMap_reverse, PySem.W.krv_all]
theorem applied_rev {prog : Program} {w : World} {A : Around} {E : Value → Shared → Prop} {s : Shared} {sl : Addr} {n : Nat} {vs : Value} {Q : Int × Int × Nat → Shared → Prop} (hs : s.heap.IsSliceOf sl .none .none vs) (ps : IsPart vs (some (-1)))
    (h : Q (((n : Int) - 1), -1, n) s) : wpAny (model prog w) A (Builtin.Slice.sliceApplied (.ref sl) (pure (n : Int))) Q E s := by
  obtain ⟨os, hos, hcs, hds⟩ := id hs
  unfold Builtin.Slice.sliceApplied Builtin.Slice.sliceFields
  refine wpAny_bind (wpAny_bind (wpAny_field hos hds (x := .none) rfl (wpAny_bind (wpAny_field hos hds (x := .none) rfl (wpAny_bind (wpAny_field hos hds (x := vs) rfl (wpAny_pure ?_)))))))
  refine wpAny_bind (HT.slicePart_ ps ?_)
  show wpAny _ _ (if ((-1 : Int) == 0) = true then _ else _) _ _ s
  rw [if_neg (by decide)]
  refine wpAny_bind (PyProof.Rows.slicePart_none (wpAny_bind (PyProof.Rows.slicePart_none (wpAny_bind (wpAny_pure ?_)))))
  show wpAny _ _ (match Builtin.Slice.sliceAdjust none none (-1) (n : Int) with | (lo, hi) => pure (lo, (-1 : Int), Builtin.Slice.slicePlaces lo hi (-1))) _ _ s
  have e1 : Builtin.Slice.sliceAdjust none none (-1) (n : Int) = ((n : Int) - 1, -1) := by
    unfold Builtin.Slice.sliceAdjust
    simp
  rw [e1]
  show wpAny _ _ (pure ((n : Int) - 1, (-1 : Int), Builtin.Slice.slicePlaces ((n : Int) - 1) (-1) (-1))) _ _ s
  have e2 : Builtin.Slice.slicePlaces ((n : Int) - 1) (-1) (-1) = n := by
    unfold Builtin.Slice.slicePlaces
    have h1 : ¬ ((-1 : Int) > 0) := by decide
    simp only [h1, if_false]
    rw [show (-(-1) : Int) = 1 by decide, Int.ediv_one]
    split <;> omega
  rw [e2]
  exact wpAny_pure h
theorem getItem_tuple_rev {prog : Program} {w : World} {A : Around} {E : Value → Shared → Prop} {s : Shared} {t sl : Addr} {items : Array Value} {vs : Value} {Q : Value → Shared → Prop} (ht : IsTup s.heap t items) (hs : s.heap.IsSliceOf sl .none .none vs) (ps : IsPart vs (some (-1)))
    (h : Q (.ref s.heap.objs.size) { s with heap := s.heap.push { cls := .type "tuple", data := .seq items.toList.reverse.toArray } }) (hsz : items.size ≤ sizeLine) : wpAny (model prog w) A (getItem (.ref t) (.ref sl)) Q E s := by
  obtain ⟨os, hos, hcs, hds⟩ := id hs
  have hTs : s.TypeIs (.ref sl) "slice" := ⟨os, hos, hcs⟩
  unfold getItem
  try with_reducible refine wpAny_holding ?_
  first | refine wpAny_bind (wpAny_pure ?_) | skip
  refine wpAny_bind (wpAny_sequenceKey ht.typeIs (by decide) ?_)
  refine wpAny_bind (wpAny_callSpecial?_slot (name := Str.ofString "__getitem__") ht.typeIs PyProof.Rows.slot_tuple_getitem
    (wpAny_call_entry PyProof.Rows.slot_tuple_getitem ht.typeIs PyProof.Rows.entry_tuple_getitem ?_ (PyProof.Rows.args_tuple_getitem _ _)))
  show wpAny _ _ (Builtin.Tuple.tupleItemsOf (.ref t) >>= _) _ _ s
  refine wpAny_bind (PyProof.Rows.tupleItemsOf_ ht ?_)
  refine wpAny_bind (wpAny_typeOf hTs ?_)
  rw [if_pos (by decide)]
  refine wpAny_bind (applied_rev hs ps ?_)
  have hno : ¬ ((((items.size : Int) - 1) == 0 && (-1 : Int) == 1 && items.size == items.size) = true) := by
    have : ((-1 : Int) == 1) = false := by decide
    rw [this]
    simp
  show wpAny _ _ (if ((((items.size : Int) - 1) == 0 && (-1 : Int) == 1 && items.size == items.size) = true) then _ else _) _ _ s
  rw [if_neg hno, rev_picks]
  have hz : sizeOk (.seq items.toList.reverse.toArray) := by
    show items.toList.reverse.toArray.size ≤ sizeLine
    rw [List.size_toArray, List.length_reverse, Array.length_toList]
    exact hsz
  first
    | exact wpAny_bind (m := Builtin.Tuple.tupleExact _) (wpAny_newObj_type (wpAny_pure ⟨_, rfl, wpAny_pure h⟩) hz)
    | exact wpAny_bind (m := Builtin.Tuple.tupleExact _) (wpAny_newObj_type (wpAny_bind (wpAny_pure (wpAny_pure ⟨_, rfl, wpAny_pure h⟩))) hz)
    | exact wpAny_bind (wpAny_bind (m := Builtin.Tuple.tupleExact _) (wpAny_newObj_type (wpAny_pure (wpAny_pure ⟨_, rfl, wpAny_pure h⟩)) hz))
    | exact wpAny_bind (wpAny_bind (m := Builtin.Tuple.tupleExact _) (wpAny_newObj_type (wpAny_pure ⟨_, rfl, wpAny_pure h⟩) hz))
/-- xs[::-1] of a list or a tuple -/
def tRevA (K : PySem.W.Frag) (te : TE) : TE := fun σ H Q => te σ H fun x H1 => ∃ a xs, x = .ref a ∧ ((SqL K H1 a xs ∧ ∀ p, H1 p = none → Q (.ref p) (upd H1 p (.lst xs.reverse))) ∨ (SqT K H1 a xs ∧ ∀ p, H1 p = none → Q (.ref p) (upd H1 p (.tup xs.reverse))))
theorem pe_revA {X : Cx} {e : Expr} {te : TE} {k : Nat} {p1 p2 p3 pos : Pos} (he : PE X e te) : PE X (.Subscript e (.Slice none none (some (.UnaryOp .USub (.Constant (.int 1) k p1) p2)) p3) pos) (tRevA X.K te) := by
  have hst : PO X (some (.UnaryOp .USub (.Constant (.int 1) k p1) p2)) (tPart (tUn (rU fun i => .int (-i)) (tC (.int 1)))) := po_some (pe_un un_neg pe_int)
  refine ⟨fun pins s σ H Q I h => PyProof.Rows.Subscript_ (thn (he.run pins s σ H _ I h) fun v s1 hh => ?_)⟩
  obtain ⟨x, H1, I1, r1, a, xs, rfl, q⟩ := hh
  cases r1
  refine wpAny_Slice (thn (po_none.run pins s1 σ H1 (fun o Hx => Hx = H1 ∧ o = none) I1 ⟨rfl, rfl⟩) fun u1 s2 h2 => ?_)
  obtain ⟨_, H2, I2, d1, rfl, rfl⟩ := h2
  refine thn (po_none.run pins s2 σ H2 (fun o Hx => Hx = H2 ∧ o = none) I2 ⟨rfl, rfl⟩) fun u2 s3 h3 => ?_
  obtain ⟨_, H3, I3, d2, rfl, rfl⟩ := h3
  refine thn (hst.run pins s3 σ H3 (fun o Hx => Hx = H3 ∧ o = some (-1)) I3 ⟨1, rfl, -1, rfl, rfl, rfl⟩) fun u3 s4 h4 => ?_
  obtain ⟨_, H4, I4, d3, rfl, rfl⟩ := h4
  cases d1
  cases d2
  have I5 : Inv X pins σ H4 { s4 with heap := s4.heap.push { cls := .type "slice", data := .fields #[.none, .none, u3] } } := I4.kept (t' := s4.toks) fun b ob z => Heap.get?_push_of_some _ z
  have sl := Heap.IsSliceOf.new s4.heap .none .none u3
  rcases q with ⟨hx, q⟩ | ⟨hx, q⟩
  · obtain ⟨its, r, ht, hz⟩ := I5.list hx
    have hlen := r.length
    refine PyProof.Rows.tail_any (ops := [.ref a, .ref s4.heap.objs.size]) ht.isList.typeIs (PySem.slot_list_getitem.lookup) ?_ (by with_unfolding_all rfl)
    refine wpAny_getItem_list_slice ht.isList sl .none .none d3 (by decide) ?_ (by rw [List.size_toArray]; omega)
    rw [PySem.W.krv_pick]
    refine ⟨.ref _, _, I5.laid (t' := s4.toks) (o := .lst xs.reverse) (fun b ob z => Heap.get?_push_of_some _ z) (Nat.le_refl _) ?_, rfl, q _ (I5.hok.fresh (Nat.le_refl _))⟩
    exact ⟨by rw [List.length_reverse]; exact hz, _, 0, r.reverse, Heap.get?_push_size _ rfl⟩
  · obtain ⟨its, r, ht, hz⟩ := I5.tuple hx
    have hlen := r.length
    refine PyProof.Rows.tail_any (ops := [.ref a, .ref s4.heap.objs.size]) ht.typeIs (PyProof.Rows.slot_tuple_getitem.lookup) ?_ (by with_unfolding_all rfl)
    refine getItem_tuple_rev ht sl d3 ?_ (by rw [List.size_toArray]; omega)
    refine ⟨.ref _, _, I5.laid (t' := s4.toks) (o := .tup xs.reverse) (fun b ob z => Heap.get?_push_of_some _ z) (Nat.le_refl _) ?_, rfl, q _ (I5.hok.fresh (Nat.le_refl _))⟩
    exact ⟨by rw [List.length_reverse]; exact hz, _, r.reverse, IsTup.new _ _⟩
def dREV : D → Option D
  | .lst l => some (.lst l.reverse)
  | .tup l => some (.tup l.reverse)
  | _ => none
theorem wx_REV {ι : Type} {F : ι → Cx} {P : Program} {w : World} {K : PySem.W.Frag} {mg : Str → Option Value} {base : Heap} {k : Nat} {a : Expr} {wa : WE} {pos : Pos} {j : Nat} {p1 p2 p3 : Pos} (C : Cxs F P w K mg base k) (ha : WX F K a wa) :
    WX F K (.Subscript a (.Slice none none (some (.UnaryOp .USub (.Constant (.int 1) j p1) p2)) p3) pos) (wUn dREV wa) := by
  obtain ⟨ta, pa, ra⟩ := ha.ex
  refine ⟨tRevA K ta, fun i => ?_, fun σ H y ρ fu P Q o hw q => ?_⟩
  · have := pe_revA (X := F i) (k := j) (p1 := p1) (p2 := p2) (p3 := p3) (pos := pos) (pa i)
    rw [C.K i] at this
    exact this
  · refine ra σ H y ρ fu _ _ o hw fun d fu1 v1 H1 y1 h1 g1 n1 r1 => ?_
    obtain ⟨d', e, h1⟩ := h1
    cases d
    all_goals try (cases e; done)
    · cases e
      cases r1 with
      | tup z1 z2 =>
        refine ⟨_, _, rfl, .inr ⟨sqT_same g1.sub z1, fun pp np => ?_⟩⟩
        obtain ⟨g2, n2⟩ := grow (o := .tup _) g1 np
        exact q _ _ _ _ _ h1 g2 (n1.trans n2) (.tup (.inl (.inl upd_same)) (z2.reverse.mono n2.x))
    · cases e
      cases r1 with
      | lst z1 z2 =>
        refine ⟨_, _, rfl, .inl ⟨.inl (.inl (g1.sub _ _ z1)), fun pp np => ?_⟩⟩
        obtain ⟨g2, n2⟩ := grow (o := .lst _) g1 np
        exact q _ _ _ _ _ h1 g2 (n1.trans n2) (.lst upd_same (z2.reverse.mono n2.x))
end Z
set_option maxHeartbeats 1000000
namespace PySem
open Sem (wp)
open AutoSeq1 (wpAny_loadPart')
theorem enum_newT (l : Addr) (items : Array Value) (n : Nat) (dct : Option Addr) (sl : Array (Option Value)) :
    Meets (Builtin.«enumerate.__new__» ⟨[.type "enumerate", .ref l], []⟩) (fun _ R s => s.heap.get? l = some { cls := .type "tuple", dict := dct, data := .seq items n, slots := sl } ∧
      R (.ok (.ret (.ref (s.heap.push { cls := .type "tuple_iterator", data := .fields #[.ref l, .int 0 0] }).objs.size)))
        { s with heap := (s.heap.push { cls := .type "tuple_iterator", data := .fields #[.ref l, .int 0 0] }).push { cls := .type "enumerate", data := .fields #[.none, .bool false, .ref s.heap.objs.size, rawInt 0, .none, .none] } }) :=
  .of_wp fun prog w A R s h => by
    obtain ⟨hp, g, d, tk, os⟩ := s
    obtain ⟨hl, h⟩ := h
    have hsub := sub_enumerate
    have hT : Heap.IsTuple (Shared.heap ⟨hp, g, d, tk, os⟩) l items := ⟨_, hl, rfl, n, rfl⟩
    wp_walk using wpAny_loadPart' hl
    refine wpAny_stack_any fun st => wpAny_pure ?_
    split
    · rename_i c _ _ _ _ _
      cases (c == Value.type "enumerate")
      · wp_walk using wpAny_loadPart' hl, wpAny_pyIter_tuple hT
        exact ⟨_, rfl, h⟩
      · wp_walk using wpAny_loadPart' hl, wpAny_pyIter_tuple hT
        exact ⟨_, rfl, h⟩
    · wp_walk using wpAny_loadPart' hl, wpAny_pyIter_tuple hT
      exact ⟨_, rfl, h⟩
section
variable {prog : Program} {w : World} {A : Around} {E : Value → Shared → Prop} {s : Shared}
theorem call_enumT {l : Addr} {items : Array Value} {Q : Value → Shared → Prop} (hL : s.heap.IsTuple l items)
    (h : ∀ h', IsEnum h' (s.heap.objs.size + 1) s.heap.objs.size 0 .none → h'.IsTupleIter s.heap.objs.size l 0 → h'.objs.size = s.heap.objs.size + 2 →
      (∀ b o, s.heap.get? b = some o → h'.get? b = some o) → Q (.ref (s.heap.objs.size + 1)) { s with heap := h' }) :
    wpAny (model prog w) A (call (.type "enumerate") [.ref l]) Q E s := by
  obtain ⟨⟨c, dct, dt, sl⟩, hl, hc, n, hd⟩ := hL
  replace hc : c = .type "tuple" := hc
  replace hd : dt = .seq items n := hd
  subst hc hd
  refine callType_new F.called_enumerate (by decide) (F.typeCall_enumerate_1 _) (F.newCall_enumerate_1 _) (fun obj => F.args_object_init_2 obj _) F.entry_enumerate_new (enum_newT l items n dct sl) ⟨hl, ?_⟩
  have hz : (s.heap.push { cls := .type "tuple_iterator", data := .fields #[.ref l, .int 0 0] }).objs.size = s.heap.objs.size + 1 := Heap.size_push ..
  show _ ∧ _
  rw [hz]
  have he : IsEnum ((s.heap.push { cls := .type "tuple_iterator", data := .fields #[.ref l, .int 0 0] }).push { cls := .type "enumerate", data := .fields #[.none, .bool false, .ref s.heap.objs.size, rawInt 0, .none, .none] }) (s.heap.objs.size + 1) s.heap.objs.size 0 .none := by
    have q := Heap.get?_push_size (s.heap.push { cls := .type "tuple_iterator", data := .fields #[.ref l, .int 0 0] }) (o := { cls := .type "enumerate", data := .fields #[.none, .bool false, .ref s.heap.objs.size, rawInt 0, .none, .none] }) rfl
    rw [hz] at q
    exact q
  exact ⟨⟨_, he, rfl⟩, h _ he ⟨_, Heap.get?_push_of_some _ (Heap.get?_push_size _ rfl), rfl, rfl⟩ (by rw [Heap.size_push, hz]) fun b o x => Heap.get?_push_of_some _ (Heap.get?_push_of_some _ x)⟩
theorem enumT_end {e it l : Addr} {i : Nat} {items : Array Value} {old : Value} {Q : Option Value → Shared → Prop} (hh : A.handled = none)
    (he : IsEnum s.heap e it i old) (hit : s.heap.IsTupleIter it l i) (hl : s.heap.IsTuple l items) (hx : items[i]? = none)
    (hQ : ∀ h', Heap.ExtBut it s.heap h' → Q none { s with heap := h' }) : wpAny (model prog w) A (pyNext (.ref e)) Q E s := by
  have hT : s.TypeIs (.ref e) "enumerate" := ⟨_, he, rfl⟩
  unfold pyNext
  refine wpAny_bind (wpAny_attempt (wpAny_callSpecial?_slot (name := Str.ofString "__next__") hT F.slot_enumerate_next (wpAny_call_entry F.slot_enumerate_next hT F.entry_enumerate_next ?_ (F.args_enumerate_next_1 _))))
  show wpAny _ _ (field (.ref e) 2 >>= _) _ _ _
  refine wpAny_bind (wpAny_field he rfl (x := .ref it) rfl ?_)
  refine wpAny_bind (wpAny_nextOf_tuple_end hh hit hl hx fun h' x he' hx' => ?_)
  obtain ⟨o, ho, hc⟩ := hx'
  exact wpAny_bind (wpAny_isInstance (T := "StopIteration") (b := true) ⟨o, ho, hc⟩ isSubtype_stop (wpAny_pure (hQ _ he')))
end
end PySem
namespace Z
open PySem PySem.Spec L2
/-- the tuple at a, each item in a new pair -/
def IteT (K : PySem.W.Frag) (a : Addr) : It :=
  ⟨fun i H => ∃ (xs : List V) (x : V), SqT K H a xs ∧ xs[i]? = some x, fun i H v H' => ∃ T x, v = .ref T ∧ H T = none ∧ H' = upd H T (.tup [.int (i : Nat), x]) ∧ ∀ xs, SqT K H a xs → xs[i]? = some x, fun i H => ∃ xs : List V, SqT K H a xs ∧ xs.length ≤ i⟩
theorem turn_enumT {P : Program} {w : World} {K : PySem.W.Frag} {elts : List Expr} {kk : Nat} {tpos : Pos} (a e it : Addr) (hae : a ≠ e) (hai : a ≠ it) :
    Turn P w K (.Tuple elts kk tpos) (IteT K a) [e, it] e (fun i h => (∃ old, IsEnum h e it ((i : Nat) : Int) old) ∧ h.IsTupleIter it a i ∧ e ≠ it) where
  mem := by simp
  obj := fun i h st b hb => by
    obtain ⟨⟨old, he⟩, ⟨o, ho, hc, hd⟩, _⟩ := st
    have e' : b = e ∨ b = it := by simpa using hb
    rcases e' with z | z
    · rw [z]; exact ⟨_, he, fun v q => nomatch q⟩
    · rw [z]; exact ⟨o, ho, fun v q => by rw [hd] at q; cases q⟩
  keep := fun i h h' st k => by
    obtain ⟨⟨old, he⟩, hi, hne⟩ := st
    exact ⟨⟨old, k e (by simp) _ he⟩, hi.at fun o q => k it (by simp) o q, hne⟩
  item := by
    intro X hP hw hK hc i pins s σ H E I hf st hg
    subst hP hw hK
    obtain ⟨⟨old, he⟩, hit, hne⟩ := st
    obtain ⟨xs, x, hq, hx⟩ := hg
    obtain ⟨its, rv, p, hz⟩ := I.tuple hq
    obtain ⟨u, hu, ru⟩ := rv.get hx
    have hel : e < s.heap.objs.size := Heap.lt_size he
    have hil : it < s.heap.objs.size := by obtain ⟨_, q, _⟩ := hit; exact Heap.lt_size q
    have hlt : i < its.toArray.size := by
      have := (List.getElem?_eq_some_iff.mp hu).1
      simpa using this
    have hd : X.A.in1.handled = none := I.ok.hd hc
    refine wpAny_pyNext_enum_itemD (Draws.tuple (A := X.A.in1) hd it a hai its.toArray) he ⟨hit, p⟩ hlt hne (by simp [hne, Ne.symm hae]) fun u' h' tk hu' ho hst' hT hsz hk => ?_
    have hu2 : u' = u := by
      have : its.toArray[i]? = some u := by simpa using hu
      exact Option.some.inj (hu'.symm.trans this)
    subst hu2
    refine ⟨_, rfl, wpAny_letOwnedTupleGo_enum (s := { s with heap := h', toks := tk + 1 }) ho fun h'' he' sb => ?_⟩
    have hT2 : h''.get? s.heap.objs.size = some { cls := .type "tuple", data := .seq #[.int i tk, u'] } := (sb.2 _ (Nat.ne_of_gt hel)).trans hT
    have new : ObjOk X.prog X.w (upd H s.heap.objs.size (.tup [.int (i : Nat), x])) h'' s.heap.objs.size (.tup [.int (i : Nat), x]) := by
      refine ⟨by show 2 ≤ sizeLine; decide, [.int i tk, u'], .cons ⟨_, rfl⟩ (.cons ru .nil), ⟨_, hT2, rfl, _, rfl⟩⟩
    have I1 : Inv X pins σ (upd H s.heap.objs.size (.tup [.int (i : Nat), x])) { s with heap := h'', toks := tk + 1 } :=
      I.turnedNew (ch := [e, it]) (fun b ob hb q => (sb.2 b (fun z => hb (by simp [z]))).trans (hk b ob (fun z => hb (by simp [z])) (fun z => hb (by simp [z])) q)) hf (Nat.le_refl _) new
    refine ⟨.ref s.heap.objs.size, _, I1, rfl, ⟨_, x, rfl, I.hok.fresh (Nat.le_refl _), rfl, fun ys hy => by rw [I.tuple_inj hy hq]; exact hx⟩, ⟨⟨u', ?_⟩, hst'.1.at fun o q => (sb.2 it (Ne.symm hne)).trans q, hne⟩, fun b hb => ?_⟩
    · have e1 : ((i + 1 : Nat) : Int) = (i : Int) + 1 := by omega
      rw [e1]; exact he'
    · have hb' : b < s.heap.objs.size := by
        have e' : b = e ∨ b = it := by simpa using hb
        rcases e' with z | z
        · rw [z]; exact hel
        · rw [z]; exact hil
      rw [upd_ne (Nat.ne_of_lt hb')]
      exact (hf b hb).1
  done := by
    intro X hP hw hK hc i pins s σ H E I hf st hg
    subst hP hw hK
    obtain ⟨⟨old, he⟩, hit, hne⟩ := st
    obtain ⟨xs, hq, hx⟩ := hg
    obtain ⟨its, rv, p, hz⟩ := I.tuple hq
    obtain ⟨f0, f1, f2, f3, f4, f5⟩ := hf it (by simp)
    have hl := rv.length
    exact enumT_end (I.ok.hd hc) he hit p (by simp; omega) fun h' eb => ⟨rfl, I.turned (t' := s.toks) (fun b o hb q => eb b o hb q) f0 f1 f3 f4 f5⟩
  self := fun A i s Q E st h => by
    obtain ⟨⟨_, he⟩, _⟩ := st
    exact wpAny_pyIter_enum he h
end Z
set_option maxHeartbeats 1000000
namespace Z
open PySem PySem.Spec L2
/-! ## enumerate, zip -/
def iEnumA (K : PySem.W.Frag) (ta : TA) : TI := fun σ H R => ta σ H fun vs H1 => ∃ a xs, vs = [.ref a] ∧ ((SqL K H1 a xs ∧ R (Ite K a) H1) ∨ (SqT K H1 a xs ∧ R (IteT K a) H1))
theorem pi_enumA {X : Cx} {e : Expr} {ta : TA} {p pos tpos : Pos} {elts : List Expr} {kk : Nat} (hg : Gl X "enumerate") (hm : X.mg "enumerate" = none) (ha : PA X [e] ta) (hs : starEach [e] X.env = [(false, eval e X.env)]) :
    PI X (.Tuple elts kk tpos) (.Call (.Name "enumerate" p) [e] [] pos) (iEnumA X.K ta) := by
  refine ⟨fun pins s σ H R I h => ?_⟩
  refine PyProof.Rows.Call_ (ld_blt I hg hm PyProof.Rows.boot_enumerate (PyProof.Rows.callWith_type1 (thn (ha.run pos pins s σ H _ I h) fun us s1 hh => ?_) hs rfl))
  obtain ⟨vs, H1, I1, r1, a, xs, rfl, q⟩ := hh
  cases r1 with
  | cons r rr =>
  cases rr
  cases r
  have two : ∀ b, b ∈ [s1.heap.objs.size + 1, s1.heap.objs.size] → FpOk X pins H1 b := fun b hb => by
    have hle : s1.heap.objs.size ≤ b := by
      have e' : b = s1.heap.objs.size + 1 ∨ b = s1.heap.objs.size := by simpa using hb
      rcases e' with z | z <;> omega
    exact I1.fpOk hle (I1.hok.fresh hle)
  rcases q with ⟨hq, q⟩ | ⟨hq, q⟩
  · obtain ⟨its, rv, pl, _⟩ := I1.list hq
    refine call_enumerate_list pl.isList fun h' he hit _ hk => wpAny_pyIter_enum he ?_
    exact ⟨s1.heap.objs.size + 1, [s1.heap.objs.size + 1, s1.heap.objs.size], _, _, H1, rfl, I1.kept (t' := s1.toks) hk, turn_enum a (s1.heap.objs.size + 1) s1.heap.objs.size, ⟨⟨.none, he⟩, hit, Nat.succ_ne_self _⟩, two, q⟩
  · obtain ⟨its, rv, pl, _⟩ := I1.tuple hq
    have hal : a < s1.heap.objs.size := pl.lt
    refine call_enumT pl fun h' he hit _ hk => wpAny_pyIter_enum he ?_
    exact ⟨s1.heap.objs.size + 1, [s1.heap.objs.size + 1, s1.heap.objs.size], _, _, H1, rfl, I1.kept (t' := s1.toks) hk, turn_enumT a (s1.heap.objs.size + 1) s1.heap.objs.size (fun e => Nat.lt_irrefl _ (Nat.lt_of_le_of_lt (Nat.le_succ _) (e ▸ hal))) (fun e => Nat.lt_irrefl _ (e ▸ hal)), ⟨⟨.none, he⟩, hit, Nat.succ_ne_self _⟩, two, q⟩
/-- the pairs of enumerate, of zip -/
def enumD : Nat → List D → List D
  | _, [] => []
  | n, d :: l => .tup [.int (n : Nat), d] :: enumD (n + 1) l
def zipD : List D → List D → List D
  | a :: l, b :: m => .tup [a, b] :: zipD l m
  | _, _ => []
theorem enumD_len : ∀ (n : Nat) (l : List D), (enumD n l).length = l.length
  | _, [] => rfl
  | n, d :: l => by unfold enumD; rw [List.length_cons, enumD_len, List.length_cons]
theorem enumD_get : ∀ (n : Nat) (l : List D) (i : Nat) (d : D), (enumD n l)[i]? = some d → ∃ e, l[i]? = some e ∧ d = .tup [.int ((n + i : Nat) : Int), e]
  | n, [], i, d, h => by unfold enumD at h; simp at h
  | n, e :: l, 0, d, h => by unfold enumD at h; simp at h; exact ⟨e, rfl, h.symm⟩
  | n, e :: l, i + 1, d, h => by
    unfold enumD at h
    obtain ⟨z, h1, h2⟩ := enumD_get (n + 1) l i d (by simpa using h)
    refine ⟨z, by simpa using h1, ?_⟩
    have : n + (i + 1) = n + 1 + i := by omega
    rw [this]; exact h2
theorem zipD_len : ∀ (l m : List D), (zipD l m).length = min l.length m.length
  | [], _ => by unfold zipD; simp
  | _ :: _, [] => by unfold zipD; simp
  | a :: l, b :: m => by unfold zipD; simp [zipD_len l m]
theorem zipD_get : ∀ (l m : List D) (i : Nat) (d : D), (zipD l m)[i]? = some d → ∃ a b, l[i]? = some a ∧ m[i]? = some b ∧ d = .tup [a, b]
  | [], m, i, d, h => by unfold zipD at h; simp at h
  | _ :: _, [], i, d, h => by unfold zipD at h; simp at h
  | a :: l, b :: m, 0, d, h => by unfold zipD at h; simp at h; exact ⟨a, b, rfl, rfl, h.symm⟩
  | a :: l, b :: m, i + 1, d, h => by
    unfold zipD at h
    obtain ⟨x, y, h1, h2, h3⟩ := zipD_get l m i d (by simpa using h)
    exact ⟨x, y, by simpa using h1, by simpa using h2, h3⟩
section
variable {K : PySem.W.Frag}
theorem sq_up {y y1 : Gh} {H1 : Hp} {fu : Fu} {a : Addr} {xs : List V} (h : SqT K y.g a xs) (x : Gx y y1) (g : GOk y1 H1 fu) : SqT K H1 a xs := sqT_same g.sub (sqT_same x.g h)
theorem pres_enum {y : Gh} {a : Addr} {xs : List V} {ds : List D} (h : y.g a = some (.lst xs)) (r : RpL K y xs ds) : Pres K y (Ite K a) (enumD 0 ds) := fun i H1 y1 fu1 x1 g1 => by
  have hS : SqL K H1 a xs := .inl (.inl (g1.sub _ _ (x1.g _ _ h)))
  refine ⟨fun hl => ⟨xs, hS, by rw [r.length, ← enumD_len 0]; exact hl⟩, fun d hd => ?_⟩
  obtain ⟨e, he, rfl⟩ := enumD_get 0 ds i d hd
  obtain ⟨v, hv, rv⟩ := r.get he
  refine ⟨⟨xs, v, hS, hv⟩, fun x H2 hy => ?_⟩
  obtain ⟨T, z, rfl, nT, rfl, hz⟩ := hy
  have hz' := hz xs hS
  rw [hv] at hz'
  cases hz'
  obtain ⟨g2, n2⟩ := grow (o := .tup [.int (i : Nat), v]) g1 nT
  refine ⟨_, g2, n2, .tup (.inl (.inl upd_same)) (.cons ?_ (.cons ((rv.mono x1).mono n2.x) .nil))⟩
  rw [Nat.zero_add]
  exact .int _
theorem pres_enumT {y : Gh} {a : Addr} {xs : List V} {ds : List D} (h : SqT K y.g a xs) (r : RpL K y xs ds) : Pres K y (IteT K a) (enumD 0 ds) := fun i H1 y1 fu1 x1 g1 => by
  have hS := sq_up h x1 g1
  refine ⟨fun hl => ⟨xs, hS, by rw [r.length, ← enumD_len 0]; exact hl⟩, fun d hd => ?_⟩
  obtain ⟨e, he, rfl⟩ := enumD_get 0 ds i d hd
  obtain ⟨v, hv, rv⟩ := r.get he
  refine ⟨⟨xs, v, hS, hv⟩, fun x H2 hy => ?_⟩
  obtain ⟨T, z, rfl, nT, rfl, hz⟩ := hy
  have hz' := hz xs hS
  rw [hv] at hz'
  cases hz'
  obtain ⟨g2, n2⟩ := grow (o := .tup [.int (i : Nat), v]) g1 nT
  refine ⟨_, g2, n2, .tup (.inl (.inl upd_same)) (.cons ?_ (.cons ((rv.mono x1).mono n2.x) .nil))⟩
  rw [Nat.zero_add]
  exact .int _
theorem pres_zip {y : Gh} {a b : Addr} {xs zs : List V} {ds es : List D} (h : y.g a = some (.lst xs)) (r : RpL K y xs ds) (h2 : y.g b = some (.lst zs)) (r2 : RpL K y zs es) : Pres K y (Itz K a b) (zipD ds es) := fun i H1 y1 fu1 x1 g1 => by
  have hS : SqL K H1 a xs := .inl (.inl (g1.sub _ _ (x1.g _ _ h)))
  have hS2 : SqL K H1 b zs := .inl (.inl (g1.sub _ _ (x1.g _ _ h2)))
  refine ⟨fun hl => ⟨xs, zs, hS, hS2, ?_⟩, fun d hd => ?_⟩
  · rw [zipD_len] at hl
    rw [r.length, r2.length]
    omega
  obtain ⟨c, e, hc, he, rfl⟩ := zipD_get ds es i d hd
  obtain ⟨v, hv, rv⟩ := r.get hc
  obtain ⟨v2, hv2, rv2⟩ := r2.get he
  refine ⟨⟨xs, zs, v, v2, hS, hS2, hv, hv2⟩, fun x H2 hy => ?_⟩
  obtain ⟨T, z, z2, rfl, nT, rfl, hz, hz2⟩ := hy
  have q1 := hz xs hS
  have q2 := hz2 zs hS2
  rw [hv] at q1
  rw [hv2] at q2
  cases q1
  cases q2
  obtain ⟨g2, n2⟩ := grow (o := .tup [v, v2]) g1 nT
  exact ⟨_, g2, n2, .tup (.inl (.inl upd_same)) (.cons ((rv.mono x1).mono n2.x) (.cons ((rv2.mono x1).mono n2.x) .nil))⟩
theorem pres_zipT {y : Gh} {a b : Addr} {xs zs : List V} {ds es : List D} (h : SqT K y.g a xs) (r : RpL K y xs ds) (h2 : SqT K y.g b zs) (r2 : RpL K y zs es) : Pres K y (RZ.ItzT K a b) (zipD ds es) := fun i H1 y1 fu1 x1 g1 => by
  have hS := sq_up h x1 g1
  have hS2 := sq_up h2 x1 g1
  refine ⟨fun hl => ⟨xs, zs, hS, hS2, ?_⟩, fun d hd => ?_⟩
  · rw [zipD_len] at hl
    rw [r.length, r2.length]
    omega
  obtain ⟨c, e, hc, he, rfl⟩ := zipD_get ds es i d hd
  obtain ⟨v, hv, rv⟩ := r.get hc
  obtain ⟨v2, hv2, rv2⟩ := r2.get he
  refine ⟨⟨xs, zs, v, v2, hS, hS2, hv, hv2⟩, fun x H2 hy => ?_⟩
  obtain ⟨T, z, z2, rfl, nT, rfl, hz, hz2⟩ := hy
  have q1 := hz xs hS
  have q2 := hz2 zs hS2
  rw [hv] at q1
  rw [hv2] at q2
  cases q1
  cases q2
  obtain ⟨g2, n2⟩ := grow (o := .tup [v, v2]) g1 nT
  exact ⟨_, g2, n2, .tup (.inl (.inl upd_same)) (.cons ((rv.mono x1).mono n2.x) (.cons ((rv2.mono x1).mono n2.x) .nil))⟩
/-- the items of a list or a tuple -/
def seqOf : D → Option (List D)
  | .lst l => some l
  | .tup l => some l
  | _ => none
def iEN (wa : WE) : WA := fun ρ fu P => wa ρ fu fun d fu' => IsS (seqOf d) fun l => P (enumD 0 l) fu'
theorem wi_enum {ι : Type} {F : ι → Cx} {P : Program} {w : World} {mg : Str → Option Value} {base : Heap} {k : Nat} {e : Expr} {wa : WE} {p pos tpos : Pos} {elts : List Expr} {kk : Nat} (C : Cxs F P w K mg base k) (hm : mg "enumerate" = none) (h : WX F K e wa)
    (hg : ∀ i, Gl (F i) "enumerate" := by intro _; rfl) (hs : ∀ i, starEach [e] (F i).env = [(false, eval e (F i).env)] := by intro _; rfl) (hs' : ∀ i, starEach [e] (F i).env = (false, eval e (F i).env) :: starEach [] (F i).env := by intro _; rfl) :
    WI F K (.Tuple elts kk tpos) (.Call (.Name "enumerate" p) [e] [] pos) (iEN wa) := by
  obtain ⟨t, q, r⟩ := h.ex
  refine ⟨iEnumA K (tCons t tNil), fun i => by rw [← C.K i]; exact pi_enumA (hg i) (by rw [C.mg i]; exact hm) (pa_cons (q i) pa_nil (hs' i)) (hs i), fun σ H y ρ fu P R o hw z => ?_⟩
  refine r σ H y ρ fu _ _ o hw fun d fu1 v1 H1 y1 h1 g1 n1 r1 => ?_
  obtain ⟨l, hl, h1⟩ := h1
  cases d
  all_goals try (cases hl; done)
  · cases hl
    cases r1 with
    | tup z1 z2 => exact ⟨_, _, rfl, .inr ⟨sqT_same g1.sub z1, z _ _ _ _ _ h1 g1 n1 (pres_enumT z1 z2)⟩⟩
  · cases hl
    cases r1 with
    | lst z1 z2 => exact ⟨_, _, rfl, .inl ⟨.inl (.inl (g1.sub _ _ z1)), z _ _ _ _ _ h1 g1 n1 (pres_enum z1 z2)⟩⟩
def zipOf : D → D → Option (List D)
  | .lst l, .lst m => some (zipD l m)
  | .tup l, .tup m => some (zipD l m)
  | _, _ => none
def iZP (wa wb : WE) : WA := fun ρ fu P => wa ρ fu fun d fu1 => wb ρ fu1 fun e fu2 => IsS (zipOf d e) fun l => P l fu2
theorem wi_zip {ι : Type} {F : ι → Cx} {P : Program} {w : World} {mg : Str → Option Value} {base : Heap} {k : Nat} {e e2 : Expr} {wa wb : WE} {p pos tpos : Pos} {elts : List Expr} {kk : Nat} (C : Cxs F P w K mg base k) (hm : mg "zip" = none) (h : WX F K e wa) (h2 : WX F K e2 wb)
    (hg : ∀ i, Gl (F i) "zip" := by intro _; rfl) (hs : ∀ i, starEach [e, e2] (F i).env = (false, eval e (F i).env) :: starEach [e2] (F i).env := by intro _; rfl) (hs' : ∀ i, starEach [e2] (F i).env = (false, eval e2 (F i).env) :: starEach [] (F i).env := by intro _; rfl)
    (hpl : ∀ i, (backTo pos (starEach [e2] (F i).env)).any (·.1) = false := by intro _; rfl) : WI F K (.Tuple elts kk tpos) (.Call (.Name "zip" p) [e, e2] [] pos) (iZP wa wb) := by
  obtain ⟨t, q, r⟩ := h.ex
  obtain ⟨t2, q2, r2⟩ := h2.ex
  refine ⟨RZ.iZipA K (tCons t (tCons t2 tNil)), fun i => by rw [← C.K i]; exact RZ.pi_zipA (hg i) (by rw [C.mg i]; exact hm) (pa_cons (q i) (pa_cons (q2 i) pa_nil (hs' i)) (hs i)) (hs i) (hpl i), fun σ H y ρ fu P R o hw z => ?_⟩
  refine r σ H y ρ fu _ _ o hw fun d fu1 v1 H1 y1 h1 g1 n1 r1 => ?_
  refine r2 σ H1 y1 ρ fu1 _ _ (o.next n1 g1) h1 fun d2 fu2 v2 H2 y2 h2 g2 n2 r2 => ?_
  have r1' := r1.mono n2.x
  obtain ⟨l, hl, h2⟩ := h2
  cases d <;> cases d2
  all_goals try (cases hl; done)
  · cases hl
    cases r1' with
    | tup z1 z2 =>
    cases r2 with
    | tup z3 z4 => exact ⟨_, _, _, _, rfl, .inr ⟨sqT_same g2.sub z1, sqT_same g2.sub z3, z _ _ _ _ _ h2 g2 (n1.trans n2) (pres_zipT z1 z2 z3 z4)⟩⟩
  · cases hl
    cases r1' with
    | lst z1 z2 =>
    cases r2 with
    | lst z3 z4 => exact ⟨_, _, _, _, rfl, .inl ⟨.inl (.inl (g2.sub _ _ z1)), .inl (.inl (g2.sub _ _ z3)), z _ _ _ _ _ h2 g2 (n1.trans n2) (pres_zip z1 z2 z3 z4)⟩⟩
@[simp] theorem e_en {wa : WE} {ρ : List Sl} {fu : Fu} {T : List D → Fu → Prop} : iEN wa ρ fu T = wa ρ fu fun d fu' => IsS (seqOf d) fun l => T (enumD 0 l) fu' := rfl
@[simp] theorem e_zp {wa wb : WE} {ρ : List Sl} {fu : Fu} {T : List D → Fu → Prop} : iZP wa wb ρ fu T = wa ρ fu fun d fu1 => wb ρ fu1 fun e fu2 => IsS (zipOf d e) fun l => T l fu2 := rfl
end
end Z
namespace Z
open PySem PySem.Spec L2
section
variable {ι : Type} {F : ι → Cx} {P : Program} {w : World} {K : PySem.W.Frag} {mg : Str → Option Value} {base : Heap} {k : Nat} {a b e : Expr} {wa wb : WE} {pos : Pos}
def dNeg : D → Option D
  | .int i => some (.int (-i))
  | _ => none
theorem dNeg_eq : (fun d : D => match d with | .int i => some (.int (-i)) | _ => none) = dNeg := by
  funext d
  cases d <;> rfl
theorem wx_NEG (ha : WX F K a wa) : WX F K (.UnaryOp .USub a pos) (wUn dNeg wa) := by
  have := wx_neg (pos := pos) ha
  rw [← dNeg_eq]
  exact this
end
end Z
namespace Z
open PySem PySem.Spec L2

/-! ## shapes of data -/
inductive Ty where
  | non | src | bot
  | bl (o : Option Bool)
  | int (lo hi : Int)
  | word (w : List Nat)
  | str (lo hi : Nat) (cs : List (Nat × Nat))
  | tup (ts : List Ty)
  | tupN (t : Ty) (lo hi : Nat)
  | lst (t : Ty) (lo hi : Nat)
  | any (k m : Nat)
  | or (a b : Ty)
  | sem (k : Nat)
/-- signs within ranges; (1, 0) stands for all -/
def inR : List (Nat × Nat) → Nat → Bool
  | [], _ => false
  | (a, b) :: r, c => (Nat.blt b a || (Nat.ble a c && Nat.ble c b)) || inR r c
/-! weights -/
mutual
def okD : D → Bool
  | .non => true
  | .bl _ => true
  | .int i => decide (i.natAbs < 10 ^ 60)
  | .str s => s.cps.toList.all fun c => Nat.blt c 1114112
  | .tup l => okL l
  | .lst l => okL l
  | .dic l => okK l
  | .src => false
  | .scr => false
def okL : List D → Bool
  | [] => true
  | d :: l => okD d && okL l
def okK : List (Str × D) → Bool
  | [] => true
  | (s, d) :: l => (s.cps.toList.all fun c => Nat.blt c 1114112) && okD d && okK l
end
mutual
def dpt : D → Nat
  | .tup l => dptL l + 1
  | .lst l => dptL l + 1
  | .dic l => dptK l + 1
  | _ => 0
def dptL : List D → Nat
  | [] => 0
  | d :: l => max (dpt d) (dptL l)
def dptK : List (Str × D) → Nat
  | [] => 0
  | (_, d) :: l => max (dpt d) (dptK l)
end
mutual
def wgt : D → Nat
  | .non => 4
  | .bl _ => 5
  | .int _ => 70
  | .str s => 10 * s.length + 2
  | .tup l => wgtL l + 3
  | .lst l => wgtL l + 3
  | .dic l => wgtK l + 3
  | _ => 0
def wgtL : List D → Nat
  | [] => 0
  | d :: l => wgt d + 2 + wgtL l
def wgtK : List (Str × D) → Nat
  | [] => 0
  | (s, d) :: l => 10 * s.length + 2 + 2 + wgt d + 2 + wgtK l
end
/-- named predicates, each with a shape -/
structure Sem where
  Pr : Nat → D → Prop
  sh : Nat → Option Ty
mutual
def Has (M : Sem) : Ty → D → Prop
  | .non, d => d = .non
  | .src, d => d = .src
  | .bot, _ => False
  | .bl o, d => ∃ b, d = .bl b ∧ ∀ c, o = some c → b = c
  | .int lo hi, d => ∃ i, d = .int i ∧ lo ≤ i ∧ i ≤ hi
  | .word w, d => d = .str (S w)
  | .str lo hi cs, d => ∃ l, d = .str (S l) ∧ lo ≤ l.length ∧ l.length ≤ hi ∧ ∀ c ∈ l, inR cs c = true
  | .tup ts, d => ∃ l, d = .tup l ∧ HasL M ts l
  | .tupN t lo hi, d => ∃ l, d = .tup l ∧ lo ≤ l.length ∧ l.length ≤ hi ∧ ∀ x ∈ l, Has M t x
  | .lst t lo hi, d => ∃ l, d = .lst l ∧ lo ≤ l.length ∧ l.length ≤ hi ∧ ∀ x ∈ l, Has M t x
  | .any k m, d => okD d = true ∧ dpt d ≤ k ∧ wgt d ≤ m
  | .or a b, d => Has M a d ∨ Has M b d
  | .sem k, d => M.Pr k d
def HasL (M : Sem) : List Ty → List D → Prop
  | [], l => l = []
  | t :: ts, l => ∃ x r, l = x :: r ∧ Has M t x ∧ HasL M ts r
end

/-! ## which shape is within which -/
def rIn (r : List (Nat × Nat)) (p : Nat × Nat) : Bool := r.any fun q => Nat.blt q.2 q.1 || (Nat.ble q.1 p.1 && Nat.ble p.2 q.2 && Nat.ble p.1 p.2)
def rSub (a b : List (Nat × Nat)) : Bool := a.all (rIn b)
def rUni : Bool → List (Nat × Nat) → Bool := fun _ a => a.all fun p => Nat.blt p.2 1114112 && Nat.ble p.1 p.2
mutual
/-- depth and weight at most -/
def dw : Ty → Option (Nat × Nat)
  | .non => some (0, 4)
  | .src => none
  | .bot => some (0, 0)
  | .bl _ => some (0, 5)
  | .int lo hi => if decide (lo.natAbs < 10 ^ 60) && decide (hi.natAbs < 10 ^ 60) then some (0, 70) else none
  | .word w => if w.all (fun c => Nat.blt c 1114112) then some (0, 10 * w.length + 2) else none
  | .str _ hi cs => if rUni true cs then some (0, 10 * hi + 2) else none
  | .tup ts => match dwL ts with
    | some (k, m) => some (k + 1, m + 3)
    | none => none
  | .tupN t _ hi => if Nat.beq hi 0 then some (1, 3) else match dw t with
    | some (k, m) => some (k + 1, hi * (m + 2) + 3)
    | none => none
  | .lst t _ hi => if Nat.beq hi 0 then some (1, 3) else match dw t with
    | some (k, m) => some (k + 1, hi * (m + 2) + 3)
    | none => none
  | .any k m => some (k, m)
  | .or a b => match dw a, dw b with
    | some (k, m), some (k', m') => some (max k k', max m m')
    | _, _ => none
  | .sem _ => none
def dwL : List Ty → Option (Nat × Nat)
  | [] => some (0, 0)
  | t :: ts => match dw t, dwL ts with
    | some (k, m), some (k', m') => some (max k k', m + 2 + m')
    | _, _ => none
end
def bSub : Option Bool → Option Bool → Bool
  | _, none => true
  | some a, some b => a == b
  | none, some _ => false
def subL (r : Ty → Ty → Bool) : List Ty → List Ty → Bool
  | [], [] => true
  | t :: ts, u :: us => r t u && subL r ts us
  | _, _ => false
def subB (r : Ty → Ty → Bool) (a b : Ty) : Bool := match a with
  | .non => match b with | .non => true | _ => false
  | .src => match b with | .src => true | _ => false
  | .bl o => match b with | .bl p => bSub o p | _ => false
  | .int x y => match b with | .int z w => decide (z ≤ x) && decide (y ≤ w) | _ => false
  | .word w => match b with
    | .word v => w == v
    | .str lo hi cs => Nat.ble lo w.length && Nat.ble w.length hi && w.all (inR cs)
    | _ => false
  | .str lo hi cs => match b with | .str lo' hi' cs' => Nat.ble lo' lo && Nat.ble hi hi' && (rSub cs cs' || Nat.beq hi 0) | _ => false
  | .tup ts => match b with
    | .tup us => subL r ts us
    | .tupN t lo hi => Nat.ble lo ts.length && Nat.ble ts.length hi && ts.all fun u => r u t
    | _ => false
  | .tupN t lo hi => match b with | .tupN t' lo' hi' => Nat.ble lo' lo && Nat.ble hi hi' && (Nat.beq hi 0 || r t t') | _ => false
  | .lst t lo hi => match b with | .lst t' lo' hi' => Nat.ble lo' lo && Nat.ble hi hi' && (Nat.beq hi 0 || r t t') | _ => false
  | .sem k => match b with | .sem l => Nat.beq k l | _ => false
  | _ => false
def subR (r : Ty → Ty → Bool) (a b : Ty) : Bool := match b with
  | .or x y => r a x || r a y
  | .any k m => match dw a with
    | some (k', m') => Nat.ble k' k && Nat.ble m' m
    | none => false
  | _ => subB r a b
def subS (r : Ty → Ty → Bool) (a b : Ty) : Bool := match a with
  | .bot => true
  | .or x y => r x b && r y b
  | _ => subR r a b
def sub : Nat → Ty → Ty → Bool
  | 0, _, _ => false
  | n + 1, a, b => subS (sub n) a b

/-! ### soundness -/
theorem rIn_ok {r : List (Nat × Nat)} {p : Nat × Nat} {c : Nat} (h : rIn r p = true) (h1 : inR [p] c = true) : inR r c = true := by
  obtain ⟨a, b⟩ := p
  simp only [inR, Bool.or_false, Bool.or_eq_true, Bool.and_eq_true, Nat.ble_eq, Nat.blt_eq] at h1
  induction r with
  | nil => simp [rIn] at h
  | cons q r ih =>
    obtain ⟨x, y⟩ := q
    simp only [rIn, List.any_cons, Bool.or_eq_true, Bool.and_eq_true, Nat.ble_eq, Nat.blt_eq] at h
    simp only [inR, Bool.or_eq_true, Bool.and_eq_true, Nat.ble_eq, Nat.blt_eq]
    rcases h with (h | h) | h
    · exact .inl (.inl h)
    · exact .inl (.inr ⟨by omega, by omega⟩)
    · exact .inr (ih h)
theorem inR_cons {p : Nat × Nat} {r : List (Nat × Nat)} {c : Nat} : inR (p :: r) c = (inR [p] c || inR r c) := by
  obtain ⟨x, y⟩ := p
  simp [inR]
theorem rSub_ok {a b : List (Nat × Nat)} {c : Nat} (h : rSub a b = true) (hc : inR a c = true) : inR b c = true := by
  induction a with
  | nil => simp [inR] at hc
  | cons p a ih =>
    simp only [rSub, List.all_cons, Bool.and_eq_true] at h
    rw [inR_cons, Bool.or_eq_true] at hc
    rcases hc with hc | hc
    · exact rIn_ok h.1 hc
    · exact ih (by simpa [rSub] using h.2) hc
theorem rUni_ok {a : List (Nat × Nat)} {c : Nat} (h : rUni true a = true) (hc : inR a c = true) : c < 1114112 := by
  induction a with
  | nil => simp [inR] at hc
  | cons p a ih =>
    obtain ⟨x, y⟩ := p
    simp only [rUni, List.all_cons, Bool.and_eq_true, Nat.blt_eq, Nat.ble_eq] at h
    simp only [inR, Bool.or_eq_true, Bool.and_eq_true, Nat.ble_eq, Nat.blt_eq] at hc
    rcases hc with (hc | hc) | hc
    · omega
    · omega
    · exact ih (by simpa [rUni] using h.2) hc
theorem okL_of {l : List D} (h : ∀ x ∈ l, okD x = true) : okL l = true := by
  induction l with
  | nil => rfl
  | cons a l ih => unfold okL; rw [h a (by simp), ih fun x hx => h x (by simp [hx])]; rfl
theorem dptL_of {l : List D} {k : Nat} (h : ∀ x ∈ l, dpt x ≤ k) : dptL l ≤ k := by
  induction l with
  | nil => exact Nat.zero_le _
  | cons a l ih => unfold dptL; exact Nat.max_le.mpr ⟨h a (by simp), ih fun x hx => h x (by simp [hx])⟩
theorem wgtL_of {l : List D} {m : Nat} (h : ∀ x ∈ l, wgt x ≤ m) : wgtL l ≤ l.length * (m + 2) := by
  induction l with
  | nil => exact Nat.zero_le _
  | cons a l ih =>
    unfold wgtL
    have h1 := h a (by simp)
    have h2 := ih fun x hx => h x (by simp [hx])
    rw [List.length_cons, Nat.add_mul]
    omega
theorem many_ok {l : List D} {lo hi k m : Nat} (h1 : lo ≤ l.length) (h2 : l.length ≤ hi) (h : ∀ x ∈ l, okD x = true ∧ dpt x ≤ k ∧ wgt x ≤ m) : okL l = true ∧ dptL l + 1 ≤ k + 1 ∧ wgtL l + 3 ≤ hi * (m + 2) + 3 := by
  refine ⟨okL_of fun x hx => (h x hx).1, Nat.succ_le_succ (dptL_of fun x hx => (h x hx).2.1), ?_⟩
  have := wgtL_of fun x hx => (h x hx).2.2
  have h3 := Nat.mul_le_mul_right (m + 2) h2
  omega
theorem many_nil {l : List D} {hi : Nat} (h2 : l.length ≤ hi) (h : Nat.beq hi 0 = true) : l = [] := by
  have := Nat.eq_of_beq_eq_true h
  subst this
  exact List.length_eq_zero_iff.mp (by omega)
section
variable {M : Sem}
mutual
theorem dw_ok : ∀ {t : Ty} {d : D} {k m : Nat}, Has M t d → dw t = some (k, m) → okD d = true ∧ dpt d ≤ k ∧ wgt d ≤ m
  | .non, d, k, m, h, e => by
    unfold Has at h; subst h
    cases e; exact ⟨rfl, Nat.le_refl _, Nat.le_refl _⟩
  | .src, d, k, m, h, e => by cases e
  | .bot, d, k, m, h, e => by unfold Has at h; cases h
  | .bl o, d, k, m, h, e => by
    unfold Has at h
    obtain ⟨b, rfl, _⟩ := h
    cases e; exact ⟨rfl, Nat.le_refl _, Nat.le_refl _⟩
  | .int lo hi, d, k, m, h, e => by
    unfold Has at h
    obtain ⟨i, rfl, h1, h2⟩ := h
    unfold dw at e
    split at e
    · rename_i hc
      cases e
      simp only [Bool.and_eq_true, decide_eq_true_eq] at hc
      refine ⟨?_, Nat.le_refl _, Nat.le_refl _⟩
      unfold okD
      rw [decide_eq_true_eq]
      omega
    · cases e
  | .word w, d, k, m, h, e => by
    unfold Has at h
    subst h
    unfold dw at e
    split at e
    · rename_i hc
      cases e
      refine ⟨?_, Nat.le_refl _, ?_⟩
      · unfold okD S; simpa using hc
      · unfold wgt; rw [S_len]; exact Nat.le_refl _
    · cases e
  | .str lo hi cs, d, k, m, h, e => by
    unfold Has at h
    obtain ⟨l, rfl, h1, h2, h3⟩ := h
    unfold dw at e
    split at e
    · rename_i hc
      cases e
      refine ⟨?_, Nat.le_refl _, ?_⟩
      · unfold okD S
        rw [List.all_eq_true]
        intro c hcc
        rw [Nat.blt_eq]
        exact rUni_ok hc (h3 c (by simpa using hcc))
      · unfold wgt; rw [S_len]; omega
    · cases e
  | .tup ts, d, k, m, h, e => by
    unfold Has at h
    obtain ⟨l, rfl, h⟩ := h
    unfold dw at e
    split at e
    · rename_i k' m' hq
      cases e
      obtain ⟨a, b, c⟩ := dwL_ok h hq
      exact ⟨by unfold okD; exact a, by unfold dpt; omega, by unfold wgt; omega⟩
    · cases e
  | .tupN t lo hi, d, k, m, h, e => by
    unfold Has at h
    obtain ⟨l, rfl, h1, h2, h3⟩ := h
    unfold dw at e
    split at e
    · rename_i hz
      cases e
      cases many_nil h2 hz
      exact ⟨rfl, by decide, by decide⟩
    · split at e
      · rename_i k' m' hq
        cases e
        obtain ⟨a, b, c⟩ := many_ok h1 h2 fun x hx => dw_ok (h3 x hx) hq
        exact ⟨by unfold okD; exact a, by unfold dpt; exact b, by unfold wgt; exact c⟩
      · cases e
  | .lst t lo hi, d, k, m, h, e => by
    unfold Has at h
    obtain ⟨l, rfl, h1, h2, h3⟩ := h
    unfold dw at e
    split at e
    · rename_i hz
      cases e
      cases many_nil h2 hz
      exact ⟨rfl, by decide, by decide⟩
    · split at e
      · rename_i k' m' hq
        cases e
        obtain ⟨a, b, c⟩ := many_ok h1 h2 fun x hx => dw_ok (h3 x hx) hq
        exact ⟨by unfold okD; exact a, by unfold dpt; exact b, by unfold wgt; exact c⟩
      · cases e
  | .any k' m', d, k, m, h, e => by
    unfold Has at h
    cases e
    exact h
  | .or a b, d, k, m, h, e => by
    unfold Has at h
    unfold dw at e
    split at e
    · rename_i k1 m1 k2 m2 e1 e2
      cases e
      rcases h with h | h
      · obtain ⟨x, y, z⟩ := dw_ok h e1
        exact ⟨x, by omega, by omega⟩
      · obtain ⟨x, y, z⟩ := dw_ok h e2
        exact ⟨x, by omega, by omega⟩
    · cases e
  | .sem _, d, k, m, h, e => by cases e
theorem dwL_ok : ∀ {ts : List Ty} {l : List D} {k m : Nat}, HasL M ts l → dwL ts = some (k, m) → okL l = true ∧ dptL l ≤ k ∧ wgtL l ≤ m
  | [], l, k, m, h, e => by
    unfold HasL at h
    subst h
    cases e
    exact ⟨rfl, Nat.le_refl _, Nat.le_refl _⟩
  | t :: ts, l, k, m, h, e => by
    unfold HasL at h
    obtain ⟨x, r, rfl, h1, h2⟩ := h
    unfold dwL at e
    split at e
    · rename_i k1 m1 k2 m2 e1 e2
      cases e
      obtain ⟨a1, b1, c1⟩ := dw_ok h1 e1
      obtain ⟨a2, b2, c2⟩ := dwL_ok h2 e2
      exact ⟨by unfold okL; rw [a1, a2]; rfl, by unfold dptL; omega, by unfold wgtL; omega⟩
    · cases e
end
theorem hasL_len : ∀ {ts : List Ty} {l : List D}, HasL M ts l → l.length = ts.length
  | [], l, h => by unfold HasL at h; subst h; rfl
  | t :: ts, l, h => by
    unfold HasL at h
    obtain ⟨x, r, rfl, h1, h2⟩ := h
    rw [List.length_cons, List.length_cons, hasL_len h2]
theorem hasL_mem : ∀ {ts : List Ty} {l : List D} {x : D}, HasL M ts l → x ∈ l → ∃ t ∈ ts, Has M t x
  | [], l, x, h, hx => by unfold HasL at h; subst h; cases hx
  | t :: ts, l, x, h, hx => by
    unfold HasL at h
    obtain ⟨y, r, rfl, h1, h2⟩ := h
    rcases List.mem_cons.mp hx with rfl | hx
    · exact ⟨t, List.mem_cons_self, h1⟩
    · obtain ⟨u, hu, z⟩ := hasL_mem h2 hx
      exact ⟨u, List.mem_cons_of_mem _ hu, z⟩
theorem subL_ok {r : Ty → Ty → Bool} (hr : ∀ a b d, r a b = true → Has M a d → Has M b d) : ∀ {ts us : List Ty} {l : List D}, subL r ts us = true → HasL M ts l → HasL M us l
  | [], [], l, _, h => h
  | t :: ts, u :: us, l, e, h => by
    unfold subL at e
    rw [Bool.and_eq_true] at e
    unfold HasL at h ⊢
    obtain ⟨x, q, rfl, h1, h2⟩ := h
    exact ⟨x, q, rfl, hr _ _ _ e.1 h1, subL_ok hr e.2 h2⟩
  | [], _ :: _, _, e, _ => by cases e
  | _ :: _, [], _, e, _ => by cases e
theorem many_sub {r : Ty → Ty → Bool} (hr : ∀ a b d, r a b = true → Has M a d → Has M b d) {t t' : Ty} {lo hi lo' hi' : Nat} {l : List D} (e : (Nat.ble lo' lo && Nat.ble hi hi' && (Nat.beq hi 0 || r t t')) = true)
    (h1 : lo ≤ l.length) (h2 : l.length ≤ hi) (h3 : ∀ x ∈ l, Has M t x) : lo' ≤ l.length ∧ l.length ≤ hi' ∧ ∀ x ∈ l, Has M t' x := by
  simp only [Bool.and_eq_true, Bool.or_eq_true, Nat.ble_eq] at e
  obtain ⟨⟨e1, e2⟩, e3⟩ := e
  refine ⟨by omega, by omega, fun x hx => ?_⟩
  rcases e3 with e3 | e3
  · cases many_nil h2 e3
    cases hx
  · exact hr _ _ _ e3 (h3 x hx)
theorem subB_ok {r : Ty → Ty → Bool} (hr : ∀ a b d, r a b = true → Has M a d → Has M b d) {a b : Ty} {d : D} (e : subB r a b = true) (h : Has M a d) : Has M b d := by
  unfold subB at e
  split at e
  · split at e
    · exact h
    · cases e
  · split at e
    · exact h
    · cases e
  · split at e
    · unfold Has at h ⊢
      obtain ⟨x, rfl, hx⟩ := h
      refine ⟨x, rfl, fun c hc => ?_⟩
      subst hc
      unfold bSub at e
      split at e
      · rename_i q; cases q
      · rename_i q; cases q; have := hx _ rfl; subst this; simpa using e
      · cases e
    · cases e
  · split at e
    · unfold Has at h ⊢
      obtain ⟨x, rfl, hx, hy⟩ := h
      simp only [Bool.and_eq_true, decide_eq_true_eq] at e
      exact ⟨x, rfl, by omega, by omega⟩
    · cases e
  · split at e
    · have := eq_of_beq e; subst this; exact h
    · unfold Has at h ⊢
      subst h
      simp only [Bool.and_eq_true, Nat.ble_eq] at e
      exact ⟨_, rfl, e.1.1, e.1.2, fun c hc => List.all_eq_true.mp e.2 c hc⟩
    · cases e
  · split at e
    · unfold Has at h ⊢
      obtain ⟨l, rfl, h1, h2, h3⟩ := h
      simp only [Bool.and_eq_true, Bool.or_eq_true, Nat.ble_eq] at e
      refine ⟨l, rfl, by omega, by omega, fun c hc => ?_⟩
      rcases e.2 with q | q
      · exact rSub_ok q (h3 c hc)
      · have := Nat.eq_of_beq_eq_true q
        have : l = [] := List.length_eq_zero_iff.mp (by omega)
        subst this; cases hc
    · cases e
  · split at e
    · unfold Has at h ⊢
      obtain ⟨l, rfl, h⟩ := h
      exact ⟨l, rfl, subL_ok hr e h⟩
    · unfold Has at h ⊢
      obtain ⟨l, rfl, h⟩ := h
      simp only [Bool.and_eq_true, Nat.ble_eq] at e
      have := hasL_len h
      refine ⟨l, rfl, by omega, by omega, fun x hx => ?_⟩
      obtain ⟨t, ht, q⟩ := hasL_mem h hx
      exact hr _ _ _ (List.all_eq_true.mp e.2 t ht) q
    · cases e
  · split at e
    · unfold Has at h ⊢
      obtain ⟨l, rfl, h1, h2, h3⟩ := h
      exact ⟨l, rfl, many_sub hr e h1 h2 h3⟩
    · cases e
  · split at e
    · unfold Has at h ⊢
      obtain ⟨l, rfl, h1, h2, h3⟩ := h
      exact ⟨l, rfl, many_sub hr e h1 h2 h3⟩
    · cases e
  · split at e
    · have := Nat.eq_of_beq_eq_true e
      subst this; exact h
    · cases e
  · cases e
theorem subR_ok {r : Ty → Ty → Bool} (hr : ∀ a b d, r a b = true → Has M a d → Has M b d) {a b : Ty} {d : D} (e : subR r a b = true) (h : Has M a d) : Has M b d := by
  unfold subR at e
  split at e
  · rw [Bool.or_eq_true] at e
    unfold Has
    exact e.imp (fun e => hr _ _ _ e h) fun e => hr _ _ _ e h
  · split at e
    · rename_i q
      obtain ⟨x, y, z⟩ := dw_ok h q
      simp only [Bool.and_eq_true, Nat.ble_eq] at e
      unfold Has
      exact ⟨x, by omega, by omega⟩
    · cases e
  · exact subB_ok hr e h
theorem subS_ok {r : Ty → Ty → Bool} (hr : ∀ a b d, r a b = true → Has M a d → Has M b d) {a b : Ty} {d : D} (e : subS r a b = true) (h : Has M a d) : Has M b d := by
  unfold subS at e
  split at e
  · unfold Has at h; cases h
  · rw [Bool.and_eq_true] at e
    unfold Has at h
    exact h.elim (hr _ _ _ e.1) (hr _ _ _ e.2)
  · exact subR_ok hr e h
theorem sub_ok : ∀ {n : Nat} {a b : Ty} {d : D}, sub n a b = true → Has M a d → Has M b d
  | 0, _, _, _, e, _ => by cases e
  | n + 1, a, b, d, e, h => subS_ok (fun _ _ _ => sub_ok) e h
end
/-- the nesting that is looked at -/
abbrev lvl : Nat := 40
def Sb (a b : Ty) : Bool := sub lvl a b
theorem Sb_ok {M : Sem} {a b : Ty} {d : D} (e : Sb a b = true) (h : Has M a d) : Has M b d := sub_ok e h
def SbL (a b : List Ty) : Bool := subL Sb a b
theorem SbL_ok {M : Sem} {a b : List Ty} {d : List D} (e : SbL a b = true) (h : HasL M a d) : HasL M b d := subL_ok (fun _ _ _ => Sb_ok) e h

/-! ## joins: a guess, then looked at -/
def alts : Ty → List Ty
  | .or a b => alts a ++ alts b
  | .bot => []
  | t => [t]
def ofAlts : List Ty → Ty
  | [] => .bot
  | [t] => t
  | t :: ts => .or t (ofAlts ts)
def rMin (w : List Nat) : Nat := w.foldl min 1114111
def rMax (w : List Nat) : Nat := w.foldl max 0
def rgAdd : List (Nat × Nat) → List (Nat × Nat) → List (Nat × Nat)
  | [], b => b
  | p :: a, b => if rIn b p then rgAdd a b else p :: rgAdd a b
def wR (w : List Nat) : List (Nat × Nat) := w.foldl (fun r c => if inR r c then r else (c, c) :: r) []
/-- two of a kind put together (a guess) -/
def meet1 (j : Ty → Ty → Ty) (a b : Ty) : Option Ty := match a with
  | .non => match b with | .non => some .non | _ => none
  | .src => match b with | .src => some .src | _ => none
  | .bl _ => match b with | .bl _ => some (.bl none) | _ => none
  | .int x y => match b with | .int z w => some (.int (min x z) (max y w)) | _ => none
  | .word w => match b with
    | .word v => some (.str (min w.length v.length) (max w.length v.length) (rgAdd (wR w) (wR v)))
    | .str lo hi cs => some (.str (min w.length lo) (max w.length hi) (rgAdd (wR w) cs))
    | _ => none
  | .str lo hi cs => match b with
    | .word w => some (.str (min w.length lo) (max w.length hi) (rgAdd (wR w) cs))
    | .str lo' hi' cs' => some (.str (min lo lo') (max hi hi') (rgAdd cs cs'))
    | _ => none
  | .tup ts => match b with
    | .tup us => if Nat.beq ts.length us.length then some (.tup (List.zipWith j ts us)) else some (.tupN (us.foldl j (ts.foldl j .bot)) (min ts.length us.length) (max ts.length us.length))
    | .tupN t lo hi => some (.tupN (ts.foldl j t) (min ts.length lo) (max ts.length hi))
    | _ => none
  | .tupN t lo hi => match b with
    | .tup ts => some (.tupN (ts.foldl j t) (min ts.length lo) (max ts.length hi))
    | .tupN t' lo' hi' => some (.tupN (j t t') (min lo lo') (max hi hi'))
    | _ => none
  | .lst t lo hi => match b with | .lst t' lo' hi' => some (.lst (j t t') (min lo lo') (max hi hi')) | _ => none
  | .any k m => match b with | .any k' m' => some (.any (max k k') (max m m')) | _ => none
  | _ => none
def insAlt (j : Ty → Ty → Ty) (t : Ty) : List Ty → List Ty
  | [] => [t]
  | u :: us => if Sb t u then u :: us else match meet1 j u t with
    | some v => v :: us
    | none => u :: insAlt j t us
/-- too many kinds: anything -/
def crowd (l : List Ty) : Ty := if Nat.blt l.length 5 then ofAlts l else match dw (ofAlts l) with
  | some (k, m) => .any k m
  | none => ofAlts l
def guess : Nat → Ty → Ty → Ty
  | 0, a, b => .or a b
  | n + 1, a, b => crowd ((alts b).foldl (fun l t => insAlt (guess n) t l) (alts a))
def join (a b : Ty) : Ty := if Sb b a then a else if Sb a b then b else
  let r := guess 12 a b
  if Sb a r && Sb b r then r else .or a b
theorem join_l {M : Sem} {a b : Ty} {d : D} (h : Has M a d) : Has M (join a b) d := by
  unfold join
  split
  · exact h
  · split
    · rename_i e; exact Sb_ok e h
    · simp only []
      split
      · rename_i e; rw [Bool.and_eq_true] at e; exact Sb_ok e.1 h
      · unfold Has; exact .inl h
theorem join_r {M : Sem} {a b : Ty} {d : D} (h : Has M b d) : Has M (join a b) d := by
  unfold join
  split
  · rename_i e; exact Sb_ok e h
  · split
    · exact h
    · simp only []
      split
      · rename_i e; rw [Bool.and_eq_true] at e; exact Sb_ok e.2 h
      · unfold Has; exact .inr h
def joins (ts : List Ty) : Ty := ts.foldl join .bot
theorem joins_acc {M : Sem} : ∀ {ts : List Ty} {a : Ty} {d : D}, (Has M a d ∨ ∃ t ∈ ts, Has M t d) → Has M (ts.foldl join a) d
  | [], a, d, h => by
    rcases h with h | ⟨t, ht, _⟩
    · exact h
    · cases ht
  | t :: ts, a, d, h => by
    rw [List.foldl_cons]
    refine joins_acc ?_
    rcases h with h | ⟨u, hu, h⟩
    · exact .inl (join_l h)
    · rcases List.mem_cons.mp hu with rfl | hu
      · exact .inl (join_r h)
      · exact .inr ⟨u, hu, h⟩
theorem joins_ok {M : Sem} {ts : List Ty} {t : Ty} {d : D} (ht : t ∈ ts) (h : Has M t d) : Has M (joins ts) d := joins_acc (.inr ⟨t, ht, h⟩)
theorem alts_ok {M : Sem} {d : D} : ∀ {t : Ty}, Has M t d → ∃ u ∈ alts t, Has M u d
  | .or a b, h => by
    unfold Has at h
    unfold alts
    rcases h with h | h
    · obtain ⟨u, hu, q⟩ := alts_ok h
      exact ⟨u, List.mem_append_left _ hu, q⟩
    · obtain ⟨u, hu, q⟩ := alts_ok h
      exact ⟨u, List.mem_append_right _ hu, q⟩
  | .bot, h => by unfold Has at h; cases h
  | .non, h => ⟨_, by unfold alts; exact List.mem_singleton.mpr rfl, h⟩
  | .src, h => ⟨_, by unfold alts; exact List.mem_singleton.mpr rfl, h⟩
  | .bl _, h => ⟨_, by unfold alts; exact List.mem_singleton.mpr rfl, h⟩
  | .int _ _, h => ⟨_, by unfold alts; exact List.mem_singleton.mpr rfl, h⟩
  | .word _, h => ⟨_, by unfold alts; exact List.mem_singleton.mpr rfl, h⟩
  | .str _ _ _, h => ⟨_, by unfold alts; exact List.mem_singleton.mpr rfl, h⟩
  | .tup _, h => ⟨_, by unfold alts; exact List.mem_singleton.mpr rfl, h⟩
  | .tupN _ _ _, h => ⟨_, by unfold alts; exact List.mem_singleton.mpr rfl, h⟩
  | .lst _ _ _, h => ⟨_, by unfold alts; exact List.mem_singleton.mpr rfl, h⟩
  | .any _ _, h => ⟨_, by unfold alts; exact List.mem_singleton.mpr rfl, h⟩
  | .sem _, h => ⟨_, by unfold alts; exact List.mem_singleton.mpr rfl, h⟩

/-! ## shown text of data -/
end Z
namespace Z
open PySem PySem.Spec L2

/-! ## data within bounds can be shown and compared -/
theorem int_short {i : Int} (h : i.natAbs < 10 ^ 60) : (PyData.shown (.int i)).length ≤ 61 := by
  have e := int_text_length_le10 (k := 60) (by decide) h
  show (Str.ofString (toString i)).length ≤ 61
  rw [ofString_length]; exact e
theorem str_lt {s : Str} (h : (s.cps.toList.all fun c => Nat.blt c 1114112) = true) : ∀ c ∈ s.cps.toList, c < 16 ^ 8 := fun c hc => by
  have := List.all_eq_true.mp h c hc
  rw [Nat.blt_eq] at this
  omega
mutual
theorem okD_dat : ∀ d : D, okD d = true → dat d = true
  | .non, _ => rfl
  | .bl _, _ => rfl
  | .int _, _ => rfl
  | .str _, _ => rfl
  | .tup l, h => by unfold okD at h; unfold dat; exact okL_dat l h
  | .lst l, h => by unfold okD at h; unfold dat; exact okL_dat l h
  | .dic l, h => by unfold okD at h; unfold dat; exact okK_dat l h
  | .src, h => by unfold okD at h; cases h
  | .scr, h => by unfold okD at h; cases h
theorem okL_dat : ∀ l : List D, okL l = true → datL l = true
  | [], _ => rfl
  | d :: l, h => by
    unfold okL at h
    rw [Bool.and_eq_true] at h
    unfold datL
    rw [okD_dat d h.1, okL_dat l h.2]; rfl
theorem okK_dat : ∀ l : List (Str × D), okK l = true → datK l = true
  | [], _ => rfl
  | (s, d) :: l, h => by
    unfold okK at h
    rw [Bool.and_eq_true, Bool.and_eq_true] at h
    unfold datK
    rw [okD_dat d h.1.2, okK_dat l h.2]; rfl
end
mutual
theorem okD_shw : ∀ d : D, okD d = true → PyData.showable (py d) = true ∧ PyData.depth (py d) ≤ dpt d ∧ (PyData.shown (py d)).length ≤ wgt d
  | .non, _ => by
    refine ⟨by unfold py PyData.showable; rfl, by unfold py PyData.depth; exact Nat.zero_le _, ?_⟩
    unfold py PyData.shown wgt; decide +kernel
  | .bl b, _ => by
    refine ⟨by unfold py PyData.showable; rfl, by unfold py PyData.depth; exact Nat.zero_le _, ?_⟩
    unfold py PyData.shown wgt; cases b <;> decide +kernel
  | .int i, h => by
    unfold okD at h
    rw [decide_eq_true_eq] at h
    refine ⟨?_, by unfold py PyData.depth; exact Nat.zero_le _, ?_⟩
    · unfold py PyData.showable
      rw [decide_eq_true_eq]
      by_cases h0 : i.natAbs = 0
      · rw [h0]; decide
      · rw [Nat.log2_lt h0]
        exact Nat.lt_trans h (by decide +kernel)
    · unfold py wgt
      have := int_short h
      omega
  | .str s, h => by
    unfold okD at h
    refine ⟨by unfold py PyData.showable; rfl, by unfold py PyData.depth; exact Nat.zero_le _, ?_⟩
    unfold py PyData.shown wgt
    exact StrLaws.reprText_len s (str_lt h)
  | .tup l, h => by
    unfold okD at h
    obtain ⟨a, b, c⟩ := okL_shw l h
    refine ⟨by unfold py PyData.showable; exact a, by unfold py PyData.depth dpt; omega, ?_⟩
    unfold py PyData.shown wgt
    have := tupleText_len_le (PyData.shownAll (pyL l))
    rw [PyData.shownAll_length] at this
    omega
  | .lst l, h => by
    unfold okD at h
    obtain ⟨a, b, c⟩ := okL_shw l h
    refine ⟨by unfold py PyData.showable; exact a, by unfold py PyData.depth dpt; omega, ?_⟩
    unfold py PyData.shown wgt
    have := listText_len_le (PyData.shownAll (pyL l))
    rw [PyData.shownAll_length] at this
    omega
  | .dic l, h => by
    unfold okD at h
    obtain ⟨a, b, c⟩ := okK_shw l h
    refine ⟨by unfold py PyData.showable; exact a, by unfold py PyData.depth dpt; omega, ?_⟩
    unfold py PyData.shown wgt
    have := dictText_len_le (PyData.shownKv (pyK l))
    rw [PyData.shownKv_length] at this
    omega
  | .src, h => by unfold okD at h; cases h
  | .scr, h => by unfold okD at h; cases h
theorem okL_shw : ∀ l : List D, okL l = true → PyData.showableAll (pyL l) = true ∧ PyData.depthAll (pyL l) ≤ dptL l ∧ ((PyData.shownAll (pyL l)).map (·.length)).sum + 2 * (pyL l).length ≤ wgtL l
  | [], _ => by unfold pyL PyData.showableAll PyData.depthAll PyData.shownAll dptL wgtL; exact ⟨rfl, Nat.le_refl _, Nat.le_refl _⟩
  | d :: l, h => by
    unfold okL at h
    rw [Bool.and_eq_true] at h
    obtain ⟨a1, b1, c1⟩ := okD_shw d h.1
    obtain ⟨a2, b2, c2⟩ := okL_shw l h.2
    unfold pyL PyData.showableAll PyData.depthAll PyData.shownAll dptL wgtL
    refine ⟨by rw [a1, a2]; rfl, by omega, ?_⟩
    rw [List.map_cons, List.sum_cons, List.length_cons]
    omega
theorem okK_shw : ∀ l : List (Str × D), okK l = true → PyData.showableKv (pyK l) = true ∧ PyData.depthKv (pyK l) ≤ dptK l ∧ ((PyData.shownKv (pyK l)).map (·.length)).sum + 2 * (pyK l).length ≤ wgtK l
  | [], _ => by unfold pyK PyData.showableKv PyData.depthKv PyData.shownKv dptK wgtK; exact ⟨rfl, Nat.le_refl _, Nat.le_refl _⟩
  | (s, d) :: l, h => by
    unfold okK at h
    rw [Bool.and_eq_true, Bool.and_eq_true] at h
    obtain ⟨a1, b1, c1⟩ := okD_shw d h.1.2
    obtain ⟨a2, b2, c2⟩ := okK_shw l h.2
    unfold pyK PyData.showableKv PyData.depthKv PyData.shownKv dptK wgtK
    have e0 : PyData.depth (.str s) = 0 := by unfold PyData.depth; rfl
    refine ⟨by rw [a1, a2]; unfold PyData.showable; rfl, by rw [e0]; omega, ?_⟩
    rw [List.map_cons, List.sum_cons, List.length_cons]
    have e1 : (PyData.shown (.str s)).length ≤ 10 * s.length + 2 := by
      unfold PyData.shown
      exact StrLaws.reprText_len s (str_lt h.1.1)
    have e2 : (PyData.shown (.str s) ++ ": " ++ PyData.shown (py d)).length = (PyData.shown (.str s)).length + 2 + (PyData.shown (py d)).length := by
      rw [strLen_append, strLen_append]; rfl
    rw [e2]
    omega
end
theorem rep_of {d : D} (h : okD d = true) (h1 : dpt d ≤ 64) (h2 : wgt d ≤ 16777216) : repOk d = true := by
  obtain ⟨a, b, c⟩ := okD_shw d h
  unfold repOk
  rw [okD_dat d h, a]
  simp only [Bool.true_and, Bool.and_eq_true, decide_eq_true_eq]
  exact ⟨Nat.le_trans b h1, Nat.le_trans c h2⟩
mutual
theorem okD_lay : ∀ d : D, okD d = true → plain d = true → PyData.canLay0 (py d) = true
  | .non, _, _ => by unfold py PyData.canLay0; rfl
  | .bl _, _, _ => by unfold py PyData.canLay0; rfl
  | .int _, _, _ => by unfold py PyData.canLay0; rfl
  | .str s, h, _ => by
    unfold okD at h
    unfold py PyData.canLay0 PyData.strOk
    rw [← Array.all_toList, List.all_eq_true]
    intro c hc
    have := List.all_eq_true.mp h c hc
    rw [Nat.blt_eq] at this
    exact decide_eq_true this
  | .tup l, h, p => by unfold okD at h; unfold plain at p; unfold py PyData.canLay0; exact okL_lay l h p
  | .lst l, h, p => by unfold okD at h; unfold plain at p; unfold py PyData.canLay0; exact okL_lay l h p
  | .dic l, h, p => by unfold plain at p; cases p
  | .src, h, _ => by unfold okD at h; cases h
  | .scr, h, _ => by unfold okD at h; cases h
theorem okL_lay : ∀ l : List D, okL l = true → plainL l = true → PyData.canLayAll0 (pyL l) = true
  | [], _, _ => by unfold pyL PyData.canLayAll0; rfl
  | d :: l, h, p => by
    unfold okL at h
    unfold plainL at p
    rw [Bool.and_eq_true] at h p
    unfold pyL PyData.canLayAll0
    rw [okD_lay d h.1 p.1, okL_lay l h.2 p.2]; rfl
end
theorem shaped_of {d : D} (h : okD d = true) (p : plain d = true) (h1 : dpt d ≤ 64) : SeqAt.shaped (py d) = true := by
  unfold SeqAt.shaped
  rw [okD_lay d h p, Bool.true_and, decide_eq_true_eq]
  exact Nat.le_trans (okD_shw d h).2.1 h1
theorem eqOk_of {a b : D} (ha : okD a = true) (pa : plain a = true) (h1 : dpt a ≤ 64) (hb : okD b = true) (pb : plain b = true) (h2 : dpt b ≤ 64) : eqOk a b = true := by
  unfold eqOk
  rw [pa, pb, shaped_of ha pa h1, shaped_of hb pb h2]
  exact Bool.or_true _

/-! ## states -/
inductive ASl where
  | top
  | va (t : Ty)
  | ow (t : Ty) (lo hi : Nat)
abbrev AEnv := List ASl
section
variable (M : Sem)
def HasS : ASl → Sl → Prop
  | .top, _ => True
  | .va t, s => ∃ d, s = .va d ∧ Has M t d
  | .ow t lo hi, s => ∃ ds, s = .ow ds ∧ lo ≤ ds.length ∧ ds.length ≤ hi ∧ ∀ x ∈ ds, Has M t x
def EnvOk : AEnv → List Sl → Prop
  | [], ρ => ρ = []
  | a :: e, ρ => ∃ s r, ρ = s :: r ∧ HasS M a s ∧ EnvOk e r
end
section
variable {M : Sem}
theorem env_get : ∀ {e : AEnv} {ρ : List Sl} {i : Nat} {a : ASl}, EnvOk M e ρ → e[i]? = some a → ∃ s, ρ[i]? = some s ∧ HasS M a s
  | [], _, _, _, _, h => by simp at h
  | b :: e, ρ, 0, a, h, k => by
    unfold EnvOk at h
    obtain ⟨s, r, rfl, h1, h2⟩ := h
    cases k
    exact ⟨s, rfl, h1⟩
  | b :: e, ρ, i + 1, a, h, k => by
    unfold EnvOk at h
    obtain ⟨s, r, rfl, h1, h2⟩ := h
    obtain ⟨z, z1, z2⟩ := env_get (i := i) h2 (by simpa using k)
    exact ⟨z, by simpa using z1, z2⟩
theorem env_set : ∀ {e : AEnv} {ρ : List Sl} {i : Nat} {a : ASl} {s : Sl}, EnvOk M e ρ → HasS M a s → EnvOk M (e.set i a) (ρ.set i s)
  | [], ρ, _, _, _, h, _ => by unfold EnvOk at h; subst h; exact rfl
  | b :: e, ρ, 0, a, s, h, k => by
    unfold EnvOk at h
    obtain ⟨z, r, rfl, h1, h2⟩ := h
    exact ⟨s, r, rfl, k, h2⟩
  | b :: e, ρ, i + 1, a, s, h, k => by
    unfold EnvOk at h
    obtain ⟨z, r, rfl, h1, h2⟩ := h
    exact ⟨z, _, rfl, h1, env_set h2 k⟩
/-- a better guess of one slot -/
theorem env_ref : ∀ {e : AEnv} {ρ : List Sl} {i : Nat} {a : ASl} {s : Sl}, EnvOk M e ρ → ρ[i]? = some s → HasS M a s → EnvOk M (e.set i a) ρ
  | [], ρ, _, _, _, h, _, _ => by unfold EnvOk at h; subst h; exact rfl
  | b :: e, ρ, 0, a, s, h, hk, k => by
    unfold EnvOk at h
    obtain ⟨z, r, rfl, h1, h2⟩ := h
    cases hk
    exact ⟨s, r, rfl, k, h2⟩
  | b :: e, ρ, i + 1, a, s, h, hk, k => by
    unfold EnvOk at h
    obtain ⟨z, r, rfl, h1, h2⟩ := h
    exact ⟨z, r, rfl, h1, env_ref h2 (by simpa using hk) k⟩
theorem env_map {f : ASl → ASl} {g : Sl → Sl} (h : ∀ a s, HasS M a s → HasS M (f a) (g s)) : ∀ {e : AEnv} {ρ : List Sl}, EnvOk M e ρ → EnvOk M (e.map f) (ρ.map g)
  | [], ρ, k => by unfold EnvOk at k; subst k; exact rfl
  | b :: e, ρ, k => by
    unfold EnvOk at k
    obtain ⟨z, r, rfl, h1, h2⟩ := k
    exact ⟨g z, r.map g, rfl, h _ _ h1, env_map h h2⟩
end
def slSub : ASl → ASl → Bool
  | _, .top => true
  | .va a, .va b => Sb a b
  | .ow a lo hi, .ow b lo' hi' => Nat.ble lo' lo && Nat.ble hi hi' && (Nat.beq hi 0 || Sb a b)
  | _, _ => false
def slJoin : ASl → ASl → ASl
  | .va a, .va b => .va (join a b)
  | .ow a lo hi, .ow b lo' hi' => .ow (join a b) (min lo lo') (max hi hi')
  | _, _ => .top
theorem slSub_ok {M : Sem} {a b : ASl} {s : Sl} (e : slSub a b = true) (h : HasS M a s) : HasS M b s := by
  cases b
  case top => trivial
  case va b =>
    cases a <;> try (cases e; done)
    obtain ⟨d, rfl, h⟩ := h
    exact ⟨d, rfl, Sb_ok e h⟩
  case ow b lo' hi' =>
    cases a <;> try (cases e; done)
    obtain ⟨d, rfl, h1, h2, h3⟩ := h
    exact ⟨d, rfl, many_sub (fun _ _ _ => Sb_ok) e h1 h2 h3⟩
theorem slJoin_l {M : Sem} {a b : ASl} {s : Sl} (h : HasS M a s) : HasS M (slJoin a b) s := by
  cases a <;> cases b <;> try (exact trivial)
  · obtain ⟨d, rfl, h⟩ := h
    exact ⟨d, rfl, join_l h⟩
  · obtain ⟨d, rfl, h1, h2, h3⟩ := h
    exact ⟨d, rfl, by omega, by omega, fun x hx => join_l (h3 x hx)⟩
theorem slJoin_r {M : Sem} {a b : ASl} {s : Sl} (h : HasS M b s) : HasS M (slJoin a b) s := by
  cases a <;> cases b <;> try (exact trivial)
  · obtain ⟨d, rfl, h⟩ := h
    exact ⟨d, rfl, join_r h⟩
  · obtain ⟨d, rfl, h1, h2, h3⟩ := h
    exact ⟨d, rfl, by omega, by omega, fun x hx => join_r (h3 x hx)⟩
def envSub : AEnv → AEnv → Bool
  | [], [] => true
  | a :: e, b :: f => slSub a b && envSub e f
  | _, _ => false
def envJoin : AEnv → AEnv → AEnv
  | a :: e, b :: f => slJoin a b :: envJoin e f
  | _, _ => []
section
variable {M : Sem}
theorem envSub_ok : ∀ {e f : AEnv} {ρ : List Sl}, envSub e f = true → EnvOk M e ρ → EnvOk M f ρ
  | [], [], _, _, h => h
  | a :: e, b :: f, ρ, k, h => by
    unfold envSub at k
    rw [Bool.and_eq_true] at k
    unfold EnvOk at h ⊢
    obtain ⟨s, r, rfl, h1, h2⟩ := h
    exact ⟨s, r, rfl, slSub_ok k.1 h1, envSub_ok k.2 h2⟩
  | [], _ :: _, _, k, _ => by cases k
  | _ :: _, [], _, k, _ => by cases k
theorem envJoin_l : ∀ {e f : AEnv} {ρ : List Sl}, e.length = f.length → EnvOk M e ρ → EnvOk M (envJoin e f) ρ
  | [], [], _, _, h => h
  | a :: e, b :: f, ρ, k, h => by
    unfold EnvOk at h
    obtain ⟨s, r, rfl, h1, h2⟩ := h
    exact ⟨s, r, rfl, slJoin_l h1, envJoin_l (by simpa using k) h2⟩
  | [], _ :: _, _, k, _ => by cases k
  | _ :: _, [], _, k, _ => by cases k
theorem envJoin_r : ∀ {e f : AEnv} {ρ : List Sl}, e.length = f.length → EnvOk M f ρ → EnvOk M (envJoin e f) ρ
  | [], [], _, _, h => h
  | a :: e, b :: f, ρ, k, h => by
    unfold EnvOk at h
    obtain ⟨s, r, rfl, h1, h2⟩ := h
    exact ⟨s, r, rfl, slJoin_r h1, envJoin_r (by simpa using k) h2⟩
  | [], _ :: _, _, k, _ => by cases k
  | _ :: _, [], _, k, _ => by cases k
theorem env_len : ∀ {e : AEnv} {ρ : List Sl}, EnvOk M e ρ → ρ.length = e.length
  | [], ρ, h => by unfold EnvOk at h; subst h; rfl
  | a :: e, ρ, h => by
    unfold EnvOk at h
    obtain ⟨s, r, rfl, h1, h2⟩ := h
    rw [List.length_cons, List.length_cons, env_len h2]
end
/-- joins of what may not be -/
def oJoin {α : Type} (j : α → α → α) : Option α → Option α → Option α
  | some a, some b => some (j a b)
  | some a, none => some a
  | none, b => b
def OEnv (M : Sem) (o : Option AEnv) (ρ : List Sl) : Prop := ∃ e, o = some e ∧ EnvOk M e ρ
def OTy (M : Sem) (o : Option Ty) (d : D) : Prop := ∃ t, o = some t ∧ Has M t d
theorem oenv_l {M : Sem} {a b : Option AEnv} {ρ : List Sl} (h : OEnv M a ρ) (hl : ∀ e f, a = some e → b = some f → e.length = f.length) : OEnv M (oJoin envJoin a b) ρ := by
  obtain ⟨e, rfl, h⟩ := h
  cases b with
  | none => exact ⟨e, rfl, h⟩
  | some f => exact ⟨_, rfl, envJoin_l (hl _ _ rfl rfl) h⟩
theorem oenv_r {M : Sem} {a b : Option AEnv} {ρ : List Sl} (h : OEnv M b ρ) (hl : ∀ e f, a = some e → b = some f → e.length = f.length) : OEnv M (oJoin envJoin a b) ρ := by
  obtain ⟨e, rfl, h⟩ := h
  cases a with
  | none => exact ⟨e, rfl, h⟩
  | some f => exact ⟨_, rfl, envJoin_r (hl _ _ rfl rfl) h⟩
theorem oty_l {M : Sem} {a b : Option Ty} {d : D} (h : OTy M a d) : OTy M (oJoin join a b) d := by
  obtain ⟨e, rfl, h⟩ := h
  cases b with
  | none => exact ⟨e, rfl, h⟩
  | some f => exact ⟨_, rfl, join_l h⟩
theorem oty_r {M : Sem} {a b : Option Ty} {d : D} (h : OTy M b d) : OTy M (oJoin join a b) d := by
  obtain ⟨e, rfl, h⟩ := h
  cases a with
  | none => exact ⟨e, rfl, h⟩
  | some f => exact ⟨_, rfl, join_r h⟩

/-! ## draws used -/
def Fr (c : Nat) (f f' : Fu) : Prop := match f, f' with
  | none, none => True
  | some n, some n' => n ≤ n' + c
  | _, _ => False
def En (c : Nat) (f : Fu) : Prop := c = 0 ∨ ∃ n, f = some n ∧ c ≤ n
theorem Fr.refl {c : Nat} {f : Fu} : Fr c f f := by
  cases f with
  | none => trivial
  | some n => show n ≤ n + c; omega
theorem Fr.trans {a b : Nat} {f g h : Fu} (x : Fr a f g) (y : Fr b g h) : Fr (a + b) f h := by
  cases f <;> cases g <;> cases h <;> first | trivial | (cases x; done) | (cases y; done) | skip
  unfold Fr at x y ⊢
  simp only [] at x y ⊢
  omega
theorem Fr.mono {a b : Nat} {f g : Fu} (x : Fr a f g) (h : a ≤ b) : Fr b f g := by
  cases f <;> cases g <;> first | trivial | (cases x; done) | skip
  unfold Fr at x ⊢
  simp only [] at x ⊢
  omega
theorem En.mono {a b : Nat} {f : Fu} (x : En b f) (h : a ≤ b) : En a f := by
  rcases x with x | ⟨n, e, x⟩
  · exact .inl (by omega)
  · exact .inr ⟨n, e, by omega⟩
theorem En.next {a b : Nat} {f g : Fu} (x : En (a + b) f) (y : Fr a f g) : En b g := by
  rcases x with x | ⟨n, rfl, x⟩
  · exact .inl (by omega)
  · cases g with
    | none => cases y
    | some m =>
      have : n ≤ m + a := y
      exact .inr ⟨m, rfl, by omega⟩
end Z
namespace Z
open PySem PySem.Spec L2

/-! ## readings by shapes -/
abbrev AE := AEnv → Option (Ty × Nat)
abbrev AA := AEnv → Option (List Ty × Nat)
abbrev AM := AEnv → Option (Ty × Nat × Nat × Nat)
abbrev AT := AEnv → Option (Option AEnv × Option AEnv × Nat)
class AbE (M : Sem) (w : WE) (f : outParam AE) : Prop where
  ok : ∀ {env : AEnv} {ρ : List Sl} {fu : Fu} {P : KD} {T : Ty} {c : Nat}, EnvOk M env ρ → f env = some (T, c) → En c fu → (∀ d fu', Has M T d → Fr c fu fu' → P d fu') → w ρ fu P
class AbA (M : Sem) (w : WA) (f : outParam AA) : Prop where
  ok : ∀ {env : AEnv} {ρ : List Sl} {fu : Fu} {P : List D → Fu → Prop} {T : List Ty} {c : Nat}, EnvOk M env ρ → f env = some (T, c) → En c fu → (∀ d fu', HasL M T d → Fr c fu fu' → P d fu') → w ρ fu P
class AbM (M : Sem) (w : WA) (f : outParam AM) : Prop where
  ok : ∀ {env : AEnv} {ρ : List Sl} {fu : Fu} {P : List D → Fu → Prop} {T : Ty} {lo hi c : Nat}, EnvOk M env ρ → f env = some (T, lo, hi, c) → En c fu → (∀ d fu', lo ≤ d.length → d.length ≤ hi → (∀ x ∈ d, Has M T x) → Fr c fu fu' → P d fu') → w ρ fu P
class AbT (M : Sem) (w : WT) (f : outParam AT) : Prop where
  ok : ∀ {env : AEnv} {ρ : List Sl} {fu : Fu} {R : Bool → Fu → Prop} {et ef : Option AEnv} {c : Nat}, EnvOk M env ρ → f env = some (et, ef, c) → En c fu → (∀ b fu', (b = true → OEnv M et ρ) → (b = false → OEnv M ef ρ) → Fr c fu fu' → R b fu') → w ρ fu R
class AbG (M : Sem) (g : WG) (f : outParam (Ty → AEnv → Option AEnv)) : Prop where
  ok : ∀ {env env' : AEnv} {ρ : List Sl} {Q : List Sl → Prop} {T : Ty} {d : D}, EnvOk M env ρ → Has M T d → f T env = some env' → (∀ ρ', EnvOk M env' ρ' → Q ρ') → g d ρ Q
class AbGl (M : Sem) (g : WGl) (f : outParam (List Ty → AEnv → Option AEnv)) : Prop where
  ok : ∀ {env env' : AEnv} {ρ : List Sl} {Q : List Sl → Prop} {T : List Ty} {d : List D}, EnvOk M env ρ → HasL M T d → f T env = some env' → (∀ ρ', EnvOk M env' ρ' → Q ρ') → g d ρ Q
class AbR (M : Sem) (w : WR) (f : outParam (AEnv → Option (ASl × Nat))) : Prop where
  ok : ∀ {env : AEnv} {ρ : List Sl} {fu : Fu} {P : Sl → Fu → Prop} {T : ASl} {c : Nat}, EnvOk M env ρ → f env = some (T, c) → En c fu → (∀ d fu', HasS M T d → Fr c fu fu' → P d fu') → w ρ fu P
class AbX (M : Sem) (w : WO) (f : outParam (AEnv → Option (Option (Int × Int) × Nat))) : Prop where
  ok : ∀ {env : AEnv} {ρ : List Sl} {fu : Fu} {P : Option Int → Fu → Prop} {T : Option (Int × Int)} {c : Nat}, EnvOk M env ρ → f env = some (T, c) → En c fu → (∀ d fu', (match T, d with | none, none => True | some (lo, hi), some i => lo ≤ i ∧ i ≤ hi | _, _ => False) → Fr c fu fu' → P d fu') → w ρ fu P
/-- operations -/
class AbO (M : Sem) (f : D → D → Option D) (g : outParam (Ty → Ty → Option Ty)) : Prop where
  ok : ∀ {a b T : Ty} {x y : D}, Has M a x → Has M b y → g a b = some T → ∃ d, f x y = some d ∧ Has M T d
class AbU (M : Sem) (f : D → Option D) (g : outParam (Ty → Option Ty)) : Prop where
  ok : ∀ {a T : Ty} {x : D}, Has M a x → g a = some T → ∃ d, f x = some d ∧ Has M T d
class AbC (M : Sem) (f : List D → Option D) (g : outParam (List Ty → Option Ty)) : Prop where
  ok : ∀ {a : List Ty} {T : Ty} {x : List D}, HasL M a x → g a = some T → ∃ d, f x = some d ∧ Has M T d
class AbF (M : Sem) (f : WF) (g : outParam (List Ty → Option (Ty × Nat))) : Prop where
  ok : ∀ {a : List Ty} {T : Ty} {c : Nat} {x : List D} {fu : Fu} {Q : KD}, HasL M a x → g a = some (T, c) → En c fu → (∀ d fu', Has M T d → Fr c fu fu' → Q d fu') → f x fu Q
structure Rs where
  nx : Option AEnv
  rt : Option Ty
  bk : Option AEnv
  ct : Option AEnv
  c : Nat
abbrev AW := AEnv → Option Rs
structure DOk (M : Sem) (B : DEnds) (fu : Fu) (r : Rs) : Prop where
  nx : ∀ ρ' fu', OEnv M r.nx ρ' → Fr r.c fu fu' → B.nx ρ' fu'
  rt : ∀ d fu', OTy M r.rt d → Fr r.c fu fu' → B.rt d fu'
  bk : ∀ ρ' fu', OEnv M r.bk ρ' → Fr r.c fu fu' → B.bk ρ' fu'
  ct : ∀ ρ' fu', OEnv M r.ct ρ' → Fr r.c fu fu' → B.ct ρ' fu'
class AbW (M : Sem) (w : WS) (f : outParam AW) : Prop where
  ok : ∀ {env : AEnv} {ρ : List Sl} {fu : Fu} {B : DEnds} {r : Rs}, EnvOk M env ρ → f env = some r → En r.c fu → DOk M B fu r → w B ρ fu

theorem ite_none {α : Type} {c : Prop} [Decidable c] {a : Option α} {b : α} (h : (if c then a else none) = some b) : c ∧ a = some b := by
  by_cases hc : c
  · rw [if_pos hc] at h
    exact ⟨hc, h⟩
  · rw [if_neg hc] at h
    cases h
/-- joins of ways; they are looked at as long as they are -/
def jE : Option AEnv → Option AEnv → Option (Option AEnv)
  | some a, some b => if Nat.beq a.length b.length then some (some (envJoin a b)) else none
  | some a, none => some (some a)
  | none, b => some b
theorem jE_l {M : Sem} {a b c : Option AEnv} {ρ : List Sl} (h : jE a b = some c) (k : OEnv M a ρ) : OEnv M c ρ := by
  obtain ⟨e, rfl, k⟩ := k
  cases b with
  | none => cases h; exact ⟨e, rfl, k⟩
  | some f =>
    unfold jE at h
    simp only [] at h
    split at h
    · rename_i q
      cases h
      exact ⟨_, rfl, envJoin_l (Nat.eq_of_beq_eq_true q) k⟩
    · cases h
theorem jE_r {M : Sem} {a b c : Option AEnv} {ρ : List Sl} (h : jE a b = some c) (k : OEnv M b ρ) : OEnv M c ρ := by
  obtain ⟨e, rfl, k⟩ := k
  cases a with
  | none => cases h; exact ⟨e, rfl, k⟩
  | some f =>
    unfold jE at h
    simp only [] at h
    split at h
    · rename_i q
      cases h
      exact ⟨_, rfl, envJoin_r (Nat.eq_of_beq_eq_true q) k⟩
    · cases h

section
variable {M : Sem} {wa wb wc we : WE} {u u' : WT} {v vk : WA} {fa fb fc : AE} {fv fk : AA} {ft ft' : AT}
/-! ### expressions -/
def aVar (i : Nat) : AE := fun env => match env[i]? with
  | some (.va t) => some (t, 0)
  | _ => none
instance (i : Nat) : AbE M (wVar i) (aVar i) := ⟨fun {env ρ fu P T c} h e n k => by
  unfold aVar at e
  split at e
  · rename_i t q
    cases e
    obtain ⟨s, h1, d, rfl, h2⟩ := env_get h q
    exact ⟨d, h1, k d fu h2 Fr.refl⟩
  · cases e⟩
def tyOfC : D → Option Ty
  | .non => some .non
  | .bl b => some (.bl (some b))
  | .int i => some (.int i i)
  | .str s => some (.word s.cps.toList)
  | .tup [] => some (.tup [])
  | .dic [] => some (.any 1 3)
  | _ => none
theorem tyOfC_ok {d : D} {t : Ty} (h : tyOfC d = some t) : Has M t d := by
  unfold tyOfC at h
  split at h <;> cases h
  · unfold Has; rfl
  · unfold Has; exact ⟨_, rfl, fun c e => by cases e; rfl⟩
  · unfold Has; exact ⟨_, rfl, Int.le_refl _, Int.le_refl _⟩
  · unfold Has; rw [S_eta]
  · unfold Has; exact ⟨[], rfl, by unfold HasL; rfl⟩
  · unfold Has; exact ⟨rfl, by decide, by decide⟩
def aC (d : D) : AE := fun _ => (tyOfC d).map fun t => (t, 0)
instance (d : D) : AbE M (wC d) (aC d) := ⟨fun {env ρ fu P T c} h e n k => by
  obtain ⟨t, h1, h2⟩ := Option.map_eq_some_iff.mp e
  cases h2
  exact k d fu (tyOfC_ok h1) Fr.refl⟩
def aOp (g : Ty → Ty → Option Ty) (fa fb : AE) : AE := fun env => (fa env).bind fun p => (fb env).bind fun q => (g p.1 q.1).map fun t => (t, p.2 + q.2)
instance (f : D → D → Option D) (g : Ty → Ty → Option Ty) [ho : AbO M f g] [ha : AbE M wa fa] [hb : AbE M wb fb] : AbE M (wOp f wa wb) (aOp g fa fb) := ⟨fun {env ρ fu P T c} h e n k => by
  obtain ⟨⟨t1, c1⟩, e1, e⟩ := Option.bind_eq_some_iff.mp e
  obtain ⟨⟨t2, c2⟩, e2, e⟩ := Option.bind_eq_some_iff.mp e
  obtain ⟨t, e3, e4⟩ := Option.map_eq_some_iff.mp e
  cases e4
  refine ha.ok h e1 (n.mono (Nat.le_add_right _ _)) fun p fu1 h1 r1 => ?_
  refine hb.ok h e2 (n.next r1) fun q fu2 h2 r2 => ?_
  obtain ⟨d, hd, ht⟩ := ho.ok h1 h2 e3
  exact ⟨d, hd, k d fu2 ht (r1.trans r2)⟩⟩
def aUn (g : Ty → Option Ty) (fa : AE) : AE := fun env => (fa env).bind fun p => (g p.1).map fun t => (t, p.2)
instance (f : D → Option D) (g : Ty → Option Ty) [ho : AbU M f g] [ha : AbE M wa fa] : AbE M (wUn f wa) (aUn g fa) := ⟨fun {env ρ fu P T c} h e n k => by
  obtain ⟨⟨t1, c1⟩, e1, e⟩ := Option.bind_eq_some_iff.mp e
  obtain ⟨t, e3, e4⟩ := Option.map_eq_some_iff.mp e
  cases e4
  refine ha.ok h e1 n fun p fu1 h1 r1 => ?_
  obtain ⟨d, hd, ht⟩ := ho.ok h1 e3
  exact ⟨d, hd, k d fu1 ht r1⟩⟩
/-- is it a text by its shape? -/
def isTx : Ty → Bool
  | .word _ => true
  | .str _ _ _ => true
  | .or a b => isTx a && isTx b
  | .bot => true
  | _ => false
theorem isTx_ok {d : D} : ∀ {t : Ty}, Has M t d → isTx t = true → ∃ s, d = .str s
  | .word _, h, _ => by unfold Has at h; exact ⟨_, h⟩
  | .str _ _ _, h, _ => by unfold Has at h; obtain ⟨l, e, _⟩ := h; exact ⟨_, e⟩
  | .or a b, h, e => by
    unfold Has at h
    unfold isTx at e
    rw [Bool.and_eq_true] at e
    exact h.elim (fun h => isTx_ok h e.1) fun h => isTx_ok h e.2
  | .bot, h, _ => by unfold Has at h; cases h
def aM1 (g : Ty → Ty → Option Ty) (fa fb : AE) : AE := fun env => (fa env).bind fun p => if isTx p.1 then (fb env).bind fun q => (g p.1 q.1).map fun t => (t, p.2 + q.2) else none
instance (f : D → D → Option D) (g : Ty → Ty → Option Ty) [ho : AbO M f g] [ha : AbE M wa fa] [hb : AbE M wb fb] : AbE M (wM1 f wa wb) (aM1 g fa fb) := ⟨fun {env ρ fu P T c} h e n k => by
  obtain ⟨⟨t1, c1⟩, e1, e⟩ := Option.bind_eq_some_iff.mp e
  obtain ⟨hx, e⟩ := ite_none e
  obtain ⟨⟨t2, c2⟩, e2, e⟩ := Option.bind_eq_some_iff.mp e
  obtain ⟨t, e3, e4⟩ := Option.map_eq_some_iff.mp e
  cases e4
  refine ha.ok h e1 (n.mono (Nat.le_add_right _ _)) fun p fu1 h1 r1 => ⟨isTx_ok h1 hx, ?_⟩
  refine hb.ok h e2 (n.next r1) fun q fu2 h2 r2 => ?_
  obtain ⟨d, hd, ht⟩ := ho.ok h1 h2 e3
  exact ⟨d, hd, k d fu2 ht (r1.trans r2)⟩⟩
def aM0 (g : Ty → Option Ty) (fa : AE) : AE := fun env => (fa env).bind fun p => if isTx p.1 then (g p.1).map fun t => (t, p.2) else none
instance (f : D → Option D) (g : Ty → Option Ty) [ho : AbU M f g] [ha : AbE M wa fa] : AbE M (wM0 f wa) (aM0 g fa) := ⟨fun {env ρ fu P T c} h e n k => by
  obtain ⟨⟨t1, c1⟩, e1, e⟩ := Option.bind_eq_some_iff.mp e
  obtain ⟨hx, e⟩ := ite_none e
  obtain ⟨t, e3, e4⟩ := Option.map_eq_some_iff.mp e
  cases e4
  refine ha.ok h e1 n fun p fu1 h1 r1 => ⟨isTx_ok h1 hx, ?_⟩
  obtain ⟨d, hd, ht⟩ := ho.ok h1 e3
  exact ⟨d, hd, k d fu1 ht r1⟩⟩
def aNil : AA := fun _ => some ([], 0)
instance : AbA M wNil aNil := ⟨fun {env ρ fu P T c} h e n k => by
  cases e
  exact k [] fu (by unfold HasL; rfl) Fr.refl⟩
def aCons (fa : AE) (fv : AA) : AA := fun env => (fa env).bind fun p => (fv env).map fun q => (p.1 :: q.1, p.2 + q.2)
instance [ha : AbE M wa fa] [hv : AbA M v fv] : AbA M (wCons wa v) (aCons fa fv) := ⟨fun {env ρ fu P T c} h e n k => by
  obtain ⟨⟨t1, c1⟩, e1, e⟩ := Option.bind_eq_some_iff.mp e
  obtain ⟨⟨t2, c2⟩, e2, e4⟩ := Option.map_eq_some_iff.mp e
  cases e4
  refine ha.ok h e1 (n.mono (Nat.le_add_right _ _)) fun p fu1 h1 r1 => ?_
  refine hv.ok h e2 (n.next r1) fun q fu2 h2 r2 => ?_
  exact k _ fu2 (by unfold HasL; exact ⟨_, _, rfl, h1, h2⟩) (r1.trans r2)⟩
def aCl (g : List Ty → Option Ty) (fv : AA) : AE := fun env => (fv env).bind fun p => (g p.1).map fun t => (t, p.2)
instance (f : List D → Option D) (g : List Ty → Option Ty) [ho : AbC M f g] [ha : AbA M v fv] : AbE M (wCl f v) (aCl g fv) := ⟨fun {env ρ fu P T c} h e n k => by
  obtain ⟨⟨t1, c1⟩, e1, e⟩ := Option.bind_eq_some_iff.mp e
  obtain ⟨t, e3, e4⟩ := Option.map_eq_some_iff.mp e
  cases e4
  refine ha.ok h e1 n fun p fu1 h1 r1 => ?_
  obtain ⟨d, hd, ht⟩ := ho.ok h1 e3
  exact ⟨d, hd, k d fu1 ht r1⟩⟩
def aTup (fv : AA) : AE := fun env => (fv env).bind fun p => if Nat.ble p.1.length 100000 then some (.tup p.1, p.2) else none
theorem size_of {n : Nat} (h : Nat.ble n 100000 = true) : n ≤ sizeLine := size_pos (Nat.le_trans (Nat.le_of_ble_eq_true h) (by decide))
instance [ha : AbA M v fv] : AbE M (wTup v) (aTup fv) := ⟨fun {env ρ fu P T c} h e n k => by
  obtain ⟨⟨t1, c1⟩, e1, e⟩ := Option.bind_eq_some_iff.mp e
  obtain ⟨hx, e⟩ := ite_none e
  cases e
  refine ha.ok h e1 n fun p fu1 h1 r1 => ⟨by rw [hasL_len h1]; exact size_of hx, k _ fu1 (by unfold Has; exact ⟨_, rfl, h1⟩) r1⟩⟩
def aLst (fv : AA) : AM := fun env => (fv env).bind fun p => if Nat.ble p.1.length 100000 then some (joins p.1, p.1.length, p.1.length, p.2) else none
instance [ha : AbA M v fv] : AbM M (wLst v) (aLst fv) := ⟨fun {env ρ fu P T lo hi c} h e n k => by
  obtain ⟨⟨t1, c1⟩, e1, e⟩ := Option.bind_eq_some_iff.mp e
  obtain ⟨hx, e⟩ := ite_none e
  cases e
  refine ha.ok h e1 n fun p fu1 h1 r1 => ⟨by rw [hasL_len h1]; exact size_of hx, k _ fu1 (Nat.le_of_eq (hasL_len h1).symm) (Nat.le_of_eq (hasL_len h1)) (fun x hx => ?_) r1⟩
  obtain ⟨t, ht, z⟩ := hasL_mem h1 hx
  exact joins_ok ht z⟩
def aFz (fm : AM) : AE := fun env => (fm env).map fun p => (.lst p.1 p.2.1 p.2.2.1, p.2.2.2)
instance (fm : AM) [ha : AbM M v fm] : AbE M (wFz v) (aFz fm) := ⟨fun {env ρ fu P T c} h e n k => by
  obtain ⟨⟨t, lo, hi, c1⟩, e1, e4⟩ := Option.map_eq_some_iff.mp e
  cases e4
  exact ha.ok h e1 n fun p fu1 h1 h2 h3 r1 => k _ fu1 (by unfold Has; exact ⟨_, rfl, h1, h2, h3⟩) r1⟩
def aIf (ft : AT) (fa fb : AE) : AE := fun env => (ft env).bind fun p => match p.1, p.2.1 with
  | some e, some f => (fa e).bind fun a => (fb f).map fun b => (join a.1 b.1, p.2.2 + max a.2 b.2)
  | some e, none => (fa e).map fun a => (a.1, p.2.2 + a.2)
  | none, some f => (fb f).map fun b => (b.1, p.2.2 + b.2)
  | none, none => some (.bot, p.2.2)
instance [ht : AbT M u ft] [ha : AbE M wa fa] [hb : AbE M wb fb] : AbE M (wIf u wa wb) (aIf ft fa fb) := ⟨fun {env ρ fu P T c} h e n k => by
  obtain ⟨⟨et, ef, c1⟩, e1, e⟩ := Option.bind_eq_some_iff.mp e
  have hc : c1 ≤ c := by
    cases et <;> cases ef
    · cases e; exact Nat.le_refl _
    · obtain ⟨b, _, e4⟩ := Option.map_eq_some_iff.mp e; cases e4; exact Nat.le_add_right _ _
    · obtain ⟨b, _, e4⟩ := Option.map_eq_some_iff.mp e; cases e4; exact Nat.le_add_right _ _
    · obtain ⟨a, _, e⟩ := Option.bind_eq_some_iff.mp e
      obtain ⟨b, _, e4⟩ := Option.map_eq_some_iff.mp e; cases e4; exact Nat.le_add_right _ _
  refine ht.ok h e1 (n.mono hc) fun b fu1 ht hf r1 => ?_
  cases b with
  | true =>
    rw [if_pos rfl]
    obtain ⟨e', rfl, h'⟩ := ht rfl
    cases ef with
    | none =>
      obtain ⟨⟨t, c2⟩, e3, e4⟩ := Option.map_eq_some_iff.mp e
      cases e4
      exact ha.ok h' e3 (n.next r1) fun d fu2 h2 r2 => k d fu2 h2 (r1.trans r2)
    | some f' =>
      obtain ⟨⟨t, c2⟩, e3, e⟩ := Option.bind_eq_some_iff.mp e
      obtain ⟨⟨t', c3⟩, e5, e4⟩ := Option.map_eq_some_iff.mp e
      cases e4
      exact ha.ok h' e3 ((n.next r1).mono (Nat.le_max_left _ _)) fun d fu2 h2 r2 => k d fu2 (join_l h2) (r1.trans (r2.mono (Nat.le_max_left _ _)))
  | false =>
    rw [if_neg Bool.false_ne_true]
    obtain ⟨e', rfl, h'⟩ := hf rfl
    cases et with
    | none =>
      obtain ⟨⟨t, c2⟩, e3, e4⟩ := Option.map_eq_some_iff.mp e
      cases e4
      exact hb.ok h' e3 (n.next r1) fun d fu2 h2 r2 => k d fu2 h2 (r1.trans r2)
    | some f' =>
      obtain ⟨⟨t, c2⟩, e3, e⟩ := Option.bind_eq_some_iff.mp e
      obtain ⟨⟨t', c3⟩, e5, e4⟩ := Option.map_eq_some_iff.mp e
      cases e4
      exact hb.ok h' e5 ((n.next r1).mono (Nat.le_max_right _ _)) fun d fu2 h2 r2 => k d fu2 (join_r h2) (r1.trans (r2.mono (Nat.le_max_right _ _)))⟩

/-! ### tests -/
/-- can it be true, can it be false? -/
def bOf : Ty → Option (Bool × Bool)
  | .bl none => some (true, true)
  | .bl (some true) => some (true, false)
  | .bl (some false) => some (false, true)
  | .bot => some (false, false)
  | .or a b => match bOf a, bOf b with
    | some (x, y), some (x', y') => some (x || x', y || y')
    | _, _ => none
  | _ => none
theorem bOf_ok {d : D} : ∀ {t : Ty} {x y : Bool}, Has M t d → bOf t = some (x, y) → ∃ b, d = .bl b ∧ (b = true → x = true) ∧ (b = false → y = true)
  | .bl none, x, y, h, e => by
    unfold Has at h
    obtain ⟨b, rfl, _⟩ := h
    cases e
    exact ⟨b, rfl, fun _ => rfl, fun _ => rfl⟩
  | .bl (some true), x, y, h, e => by
    unfold Has at h
    obtain ⟨b, rfl, q⟩ := h
    cases e
    exact ⟨b, rfl, ⟨fun _ => rfl, fun z => absurd (z.symm.trans (q true rfl)) (by decide)⟩⟩
  | .bl (some false), x, y, h, e => by
    unfold Has at h
    obtain ⟨b, rfl, q⟩ := h
    cases e
    exact ⟨b, rfl, ⟨fun z => absurd (z.symm.trans (q false rfl)) (by decide), fun _ => rfl⟩⟩
  | .bot, x, y, h, e => by unfold Has at h; cases h
  | .or a b, x, y, h, e => by
    unfold Has at h
    unfold bOf at e
    split at e
    · rename_i x1 y1 x2 y2 e1 e2
      cases e
      rcases h with h | h
      · obtain ⟨b, rfl, q1, q2⟩ := bOf_ok h e1
        exact ⟨b, rfl, fun z => by rw [q1 z]; rfl, fun z => by rw [q2 z]; rfl⟩
      · obtain ⟨b, rfl, q1, q2⟩ := bOf_ok h e2
        exact ⟨b, rfl, fun z => by rw [q1 z]; exact Bool.or_true _, fun z => by rw [q2 z]; exact Bool.or_true _⟩
    · cases e
def aB (fa : AE) : AT := fun env => (fa env).bind fun p => (bOf p.1).map fun q => (if q.1 then some env else none, if q.2 then some env else none, p.2)
instance (priority := 100) abB [ha : AbE M wa fa] : AbT M (wB wa) (aB fa) := ⟨fun {env ρ fu R et ef c} h e n k => by
  obtain ⟨⟨t1, c1⟩, e1, e⟩ := Option.bind_eq_some_iff.mp e
  obtain ⟨⟨x, y⟩, e3, e4⟩ := Option.map_eq_some_iff.mp e
  cases e4
  refine ha.ok h e1 n fun p fu1 h1 r1 => ?_
  obtain ⟨b, rfl, q1, q2⟩ := bOf_ok h1 e3
  exact ⟨b, rfl, k b fu1 (fun z => by have := q1 z; subst this; exact ⟨env, rfl, h⟩) (fun z => by have := q2 z; subst this; exact ⟨env, rfl, h⟩) r1⟩⟩
def aNot (ft : AT) : AT := fun env => (ft env).map fun p => (p.2.1, p.1, p.2.2)
instance [ht : AbT M u ft] : AbT M (wNot u) (aNot ft) := ⟨fun {env ρ fu R et ef c} h e n k => by
  obtain ⟨⟨x, y, c1⟩, e1, e4⟩ := Option.map_eq_some_iff.mp e
  cases e4
  exact ht.ok h e1 n fun b fu1 h1 h2 r1 => k (!b) fu1 (fun z => h2 (by simpa using z)) (fun z => h1 (by simpa using z)) r1⟩
def aAnd (ft ft' : AT) : AT := fun env => (ft env).bind fun p => match p.1 with
  | none => some (none, p.2.1, p.2.2)
  | some e => (ft' e).bind fun q => (jE p.2.1 q.2.1).map fun f => (q.1, f, p.2.2 + q.2.2)
instance [ht : AbT M u ft] [ht' : AbT M u' ft'] : AbT M (wAnd u u') (aAnd ft ft') := ⟨fun {env ρ fu R et ef c} h e n k => by
  obtain ⟨⟨x, y, c1⟩, e1, e⟩ := Option.bind_eq_some_iff.mp e
  cases x with
  | none =>
    cases e
    refine ht.ok h e1 n fun b fu1 h1 h2 r1 => ?_
    cases b with
    | true => obtain ⟨_, z, _⟩ := h1 rfl; cases z
    | false => exact k false fu1 h1 h2 r1
  | some e' =>
    obtain ⟨⟨x', y', c2⟩, e2, e⟩ := Option.bind_eq_some_iff.mp e
    obtain ⟨f, e3, e4⟩ := Option.map_eq_some_iff.mp e
    cases e4
    refine ht.ok h e1 (n.mono (Nat.le_add_right _ _)) fun b fu1 h1 h2 r1 => ?_
    cases b with
    | false =>
      rw [if_neg Bool.false_ne_true]
      exact k false fu1 (fun z => by cases z) (fun z => jE_l e3 (h2 rfl)) (r1.mono (Nat.le_add_right _ _))
    | true =>
      rw [if_pos rfl]
      obtain ⟨e'', z, h'⟩ := h1 rfl
      cases z
      exact ht'.ok h' e2 (n.next r1) fun b2 fu2 g1 g2 r2 => k b2 fu2 g1 (fun z => jE_r e3 (g2 z)) (r1.trans r2)⟩
def aOr (ft ft' : AT) : AT := fun env => (ft env).bind fun p => match p.2.1 with
  | none => some (p.1, none, p.2.2)
  | some e => (ft' e).bind fun q => (jE p.1 q.1).map fun f => (f, q.2.1, p.2.2 + q.2.2)
instance [ht : AbT M u ft] [ht' : AbT M u' ft'] : AbT M (wOr u u') (aOr ft ft') := ⟨fun {env ρ fu R et ef c} h e n k => by
  obtain ⟨⟨x, y, c1⟩, e1, e⟩ := Option.bind_eq_some_iff.mp e
  cases y with
  | none =>
    cases e
    refine ht.ok h e1 n fun b fu1 h1 h2 r1 => ?_
    cases b with
    | false => obtain ⟨_, z, _⟩ := h2 rfl; cases z
    | true => exact k true fu1 h1 h2 r1
  | some e' =>
    obtain ⟨⟨x', y', c2⟩, e2, e⟩ := Option.bind_eq_some_iff.mp e
    obtain ⟨f, e3, e4⟩ := Option.map_eq_some_iff.mp e
    cases e4
    refine ht.ok h e1 (n.mono (Nat.le_add_right _ _)) fun b fu1 h1 h2 r1 => ?_
    cases b with
    | true =>
      rw [if_pos rfl]
      exact k true fu1 (fun z => jE_l e3 (h1 rfl)) (fun z => by cases z) (r1.mono (Nat.le_add_right _ _))
    | false =>
      rw [if_neg Bool.false_ne_true]
      obtain ⟨e'', z, h'⟩ := h2 rfl
      cases z
      exact ht'.ok h' e2 (n.next r1) fun b2 fu2 g1 g2 r2 => k b2 fu2 (fun z => jE_r e3 (g1 z)) g2 (r1.trans r2)⟩
def aYes : AT := fun env => some (some env, none, 0)
instance : AbT M wYes aYes := ⟨fun {env ρ fu R et ef c} h e n k => by
  cases e
  exact k true fu (fun _ => ⟨env, rfl, h⟩) (fun z => by cases z) Fr.refl⟩
/-- as values -/
def aAndV (fa fb : AE) : AE := fun env => (fa env).bind fun p => (bOf p.1).bind fun q => if q.1 then (fb env).map fun r => (if q.2 then join (.bl (some false)) r.1 else r.1, p.2 + r.2) else some (.bl (some false), p.2)
instance [ha : AbE M wa fa] [hb : AbE M wb fb] : AbE M (wAndV wa wb) (aAndV fa fb) := ⟨fun {env ρ fu P T c} h e n k => by
  obtain ⟨⟨t1, c1⟩, e1, e⟩ := Option.bind_eq_some_iff.mp e
  obtain ⟨⟨x, y⟩, e2, e⟩ := Option.bind_eq_some_iff.mp e
  have hff : Has M (.bl (some false)) (.bl false) := by unfold Has; exact ⟨false, rfl, fun c e => by cases e; rfl⟩
  cases x with
  | false =>
    cases e
    refine ha.ok h e1 n fun p fu1 h1 r1 => ?_
    obtain ⟨b, rfl, q1, q2⟩ := bOf_ok h1 e2
    cases b with
    | true => exact absurd (q1 rfl) Bool.false_ne_true
    | false => exact ⟨false, rfl, by rw [if_neg Bool.false_ne_true]; exact k _ fu1 hff r1⟩
  | true =>
    obtain ⟨⟨t2, c2⟩, e3, e4⟩ := Option.map_eq_some_iff.mp e
    cases e4
    refine ha.ok h e1 (n.mono (Nat.le_add_right _ _)) fun p fu1 h1 r1 => ?_
    obtain ⟨b, rfl, q1, q2⟩ := bOf_ok h1 e2
    refine ⟨b, rfl, ?_⟩
    cases b with
    | true =>
      rw [if_pos rfl]
      refine hb.ok h e3 (n.next r1) fun d fu2 h2 r2 => k d fu2 ?_ (r1.trans r2)
      dsimp only
      split
      · exact join_r h2
      · exact h2
    | false =>
      rw [if_neg Bool.false_ne_true]
      have := q2 rfl
      subst this
      exact k _ fu1 (join_l hff) (r1.mono (Nat.le_add_right _ _))⟩
def aOrV (fa fb : AE) : AE := fun env => (fa env).bind fun p => (bOf p.1).bind fun q => if q.2 then (fb env).map fun r => (if q.1 then join (.bl (some true)) r.1 else r.1, p.2 + r.2) else some (.bl (some true), p.2)
instance [ha : AbE M wa fa] [hb : AbE M wb fb] : AbE M (wOrV wa wb) (aOrV fa fb) := ⟨fun {env ρ fu P T c} h e n k => by
  obtain ⟨⟨t1, c1⟩, e1, e⟩ := Option.bind_eq_some_iff.mp e
  obtain ⟨⟨x, y⟩, e2, e⟩ := Option.bind_eq_some_iff.mp e
  have hff : Has M (.bl (some true)) (.bl true) := by unfold Has; exact ⟨true, rfl, fun c e => by cases e; rfl⟩
  cases y with
  | false =>
    cases e
    refine ha.ok h e1 n fun p fu1 h1 r1 => ?_
    obtain ⟨b, rfl, q1, q2⟩ := bOf_ok h1 e2
    cases b with
    | false => exact absurd (q2 rfl) Bool.false_ne_true
    | true => exact ⟨true, rfl, by rw [if_pos rfl]; exact k _ fu1 hff r1⟩
  | true =>
    obtain ⟨⟨t2, c2⟩, e3, e4⟩ := Option.map_eq_some_iff.mp e
    cases e4
    refine ha.ok h e1 (n.mono (Nat.le_add_right _ _)) fun p fu1 h1 r1 => ?_
    obtain ⟨b, rfl, q1, q2⟩ := bOf_ok h1 e2
    refine ⟨b, rfl, ?_⟩
    cases b with
    | false =>
      rw [if_neg Bool.false_ne_true]
      refine hb.ok h e3 (n.next r1) fun d fu2 h2 r2 => k d fu2 ?_ (r1.trans r2)
      dsimp only
      split
      · exact join_r h2
      · exact h2
    | true =>
      rw [if_pos rfl]
      have := q1 rfl
      subst this
      exact k _ fu1 (join_l hff) (r1.mono (Nat.le_add_right _ _))⟩
def notTy : Bool × Bool → Ty
  | (true, false) => .bl (some false)
  | (false, true) => .bl (some true)
  | _ => .bl none
def aNotV (fa : AE) : AE := fun env => (fa env).bind fun p => (bOf p.1).map fun q => (notTy q, p.2)
instance [ha : AbE M wa fa] : AbE M (wNotV wa) (aNotV fa) := ⟨fun {env ρ fu P T c} h e n k => by
  obtain ⟨⟨t1, c1⟩, e1, e⟩ := Option.bind_eq_some_iff.mp e
  obtain ⟨⟨x, y⟩, e3, e4⟩ := Option.map_eq_some_iff.mp e
  cases e4
  refine ha.ok h e1 n fun p fu1 h1 r1 => ?_
  obtain ⟨b, rfl, q1, q2⟩ := bOf_ok h1 e3
  refine ⟨b, rfl, k _ fu1 ?_ r1⟩
  cases x <;> cases y <;> cases b <;> simp at q1 q2 <;> unfold notTy Has <;> exact ⟨_, rfl, fun c e => by cases e <;> rfl⟩⟩
def aChain (g g' : Ty → Ty → Option Ty) (fa fb fc : AE) : AE := fun env => (fa env).bind fun p => (fb env).bind fun q => (g p.1 q.1).bind fun t => (bOf t).bind fun x => (fc env).bind fun r => (g' q.1 r.1).map fun t' => (if x.1 then (if x.2 then join (.bl (some false)) t' else t') else .bl (some false), p.2 + (q.2 + r.2))
instance (f f' : D → D → Option D) (g g' : Ty → Ty → Option Ty) [ho : AbO M f g] [ho' : AbO M f' g'] [ha : AbE M wa fa] [hb : AbE M wb fb] [hc : AbE M wc fc] : AbE M (wChain f f' wa wb wc) (aChain g g' fa fb fc) := ⟨fun {env ρ fu P T c} h e n k => by
  obtain ⟨⟨t1, c1⟩, e1, e⟩ := Option.bind_eq_some_iff.mp e
  obtain ⟨⟨t2, c2⟩, e2, e⟩ := Option.bind_eq_some_iff.mp e
  obtain ⟨t, e3, e⟩ := Option.bind_eq_some_iff.mp e
  obtain ⟨⟨x, y⟩, e4, e⟩ := Option.bind_eq_some_iff.mp e
  obtain ⟨⟨t5, c3⟩, e5, e⟩ := Option.bind_eq_some_iff.mp e
  obtain ⟨t', e6, e7⟩ := Option.map_eq_some_iff.mp e
  cases e7
  have hff : Has M (.bl (some false)) (.bl false) := by unfold Has; exact ⟨false, rfl, fun c e => by cases e; rfl⟩
  refine ha.ok h e1 (n.mono (Nat.le_add_right _ _)) fun p fu1 h1 r1 => ?_
  refine hb.ok h e2 ((n.next r1).mono (Nat.le_add_right _ _)) fun q fu2 h2 r2 => ?_
  obtain ⟨d, hd, ht⟩ := ho.ok h1 h2 e3
  obtain ⟨b, rfl, q1, q2⟩ := bOf_ok ht e4
  refine ⟨_, hd, b, rfl, ?_⟩
  cases b with
  | true =>
    rw [if_pos rfl]
    have := q1 rfl
    subst this
    refine hc.ok h e5 ((n.next r1).next r2) fun r fu3 h3 r3 => ?_
    obtain ⟨d', hd', ht'⟩ := ho'.ok h2 h3 e6
    refine ⟨d', hd', k d' fu3 ?_ (r1.trans (r2.trans r3))⟩
    dsimp only
    rw [if_pos rfl]
    split
    · exact join_r ht'
    · exact ht'
  | false =>
    rw [if_neg Bool.false_ne_true]
    have := q2 rfl
    subst this
    refine k _ fu2 ?_ (r1.trans (r2.mono (Nat.le_add_right _ _)))
    dsimp only
    split
    · rw [if_pos rfl]; exact join_l hff
    · exact hff⟩

/-! ### calls -/
def aCall (n : Nat) (g : List Ty → Option (Ty × Nat)) (fv : AA) : AE := fun env => (fv env).bind fun p => if Nat.beq p.1.length n then (g p.1).map fun t => (t.1, p.2 + t.2) else none
instance (n : Nat) (wf : WF) (g : List Ty → Option (Ty × Nat)) [hf : AbF M wf g] [ha : AbA M v fv] : AbE M (wCall n wf v) (aCall n g fv) := ⟨fun {env ρ fu P T c} h e nn k => by
  obtain ⟨⟨t1, c1⟩, e1, e⟩ := Option.bind_eq_some_iff.mp e
  obtain ⟨hx, e⟩ := ite_none e
  obtain ⟨⟨t2, c2⟩, e3, e4⟩ := Option.map_eq_some_iff.mp e
  cases e4
  refine ha.ok h e1 (nn.mono (Nat.le_add_right _ _)) fun p fu1 h1 r1 => ⟨by rw [hasL_len h1]; exact Nat.eq_of_beq_eq_true hx, ?_⟩
  exact hf.ok h1 e3 (nn.next r1) fun d fu2 h2 r2 => k d fu2 h2 (r1.trans r2)⟩
theorem hasL_get : ∀ {ts : List Ty} {l : List D} {i : Nat}, HasL M ts l → (match ts[i]?, l[i]? with | some t, some d => Has M t d | none, none => True | _, _ => False)
  | [], l, i, h => by unfold HasL at h; subst h; simp
  | t :: ts, l, 0, h => by
    unfold HasL at h
    obtain ⟨x, r, rfl, h1, h2⟩ := h
    simpa using h1
  | t :: ts, l, i + 1, h => by
    unfold HasL at h
    obtain ⟨x, r, rfl, h1, h2⟩ := h
    simpa using hasL_get (i := i) h2
theorem hasL_pick {ts : List Ty} {l : List D} (h : HasL M ts l) : ∀ perm : List Nat, HasL M (pick perm ts) (pick perm l)
  | [] => by unfold pick HasL; rfl
  | i :: perm => by
    have ih := hasL_pick h perm
    unfold Z.pick at ih ⊢
    rw [List.filterMap_cons, List.filterMap_cons]
    have := hasL_get (i := i) h
    split at this
    · rename_i t d e1 e2
      rw [e1, e2]
      unfold HasL
      exact ⟨_, _, rfl, this, ih⟩
    · rename_i e1 e2
      rw [e1, e2]
      exact ih
    · cases this
theorem hasL_app : ∀ {ts us : List Ty} {l r : List D}, HasL M ts l → HasL M us r → HasL M (ts ++ us) (l ++ r)
  | [], us, l, r, h, k => by unfold HasL at h; subst h; exact k
  | t :: ts, us, l, r, h, k => by
    unfold HasL at h
    obtain ⟨x, q, rfl, h1, h2⟩ := h
    show HasL M (t :: (ts ++ us)) (x :: (q ++ r))
    unfold HasL
    exact ⟨x, _, rfl, h1, hasL_app h2 k⟩
def aCallK (n m l : Nat) (perm : List Nat) (g : List Ty → Option (Ty × Nat)) (fv fk : AA) : AE := fun env => (fv env).bind fun p => (fk env).bind fun q =>
  if Nat.beq p.1.length m && Nat.beq q.1.length l && Nat.beq (pick perm (p.1 ++ q.1)).length n then (g (pick perm (p.1 ++ q.1))).map fun t => (t.1, p.2 + (q.2 + t.2)) else none
instance (n m l : Nat) (perm : List Nat) (wf : WF) (g : List Ty → Option (Ty × Nat)) [hf : AbF M wf g] [ha : AbA M v fv] [hk : AbA M vk fk] : AbE M (wCallK n m l perm wf v vk) (aCallK n m l perm g fv fk) := ⟨fun {env ρ fu P T c} h e nn k => by
  obtain ⟨⟨t1, c1⟩, e1, e⟩ := Option.bind_eq_some_iff.mp e
  obtain ⟨⟨t2, c2⟩, e2, e⟩ := Option.bind_eq_some_iff.mp e
  obtain ⟨hx, e⟩ := ite_none e
  obtain ⟨⟨t3, c3⟩, e3, e4⟩ := Option.map_eq_some_iff.mp e
  cases e4
  simp only [Bool.and_eq_true] at hx
  obtain ⟨⟨x1, x2⟩, x3⟩ := hx
  refine ha.ok h e1 (nn.mono (Nat.le_add_right _ _)) fun p fu1 h1 r1 => ?_
  refine hk.ok h e2 ((nn.next r1).mono (Nat.le_add_right _ _)) fun q fu2 h2 r2 => ?_
  have hp := hasL_pick (hasL_app h1 h2) perm
  refine ⟨by rw [hasL_len h1]; exact Nat.eq_of_beq_eq_true x1, by rw [hasL_len h2]; exact Nat.eq_of_beq_eq_true x2, by rw [hasL_len hp]; exact Nat.eq_of_beq_eq_true x3, ?_⟩
  exact hf.ok hp e3 ((nn.next r1).next r2) fun d fu3 h3 r3 => k d fu3 h3 (r1.trans (r2.trans r3))⟩

/-! ### what is walked -/
def seqT : Ty → Option (Ty × Nat × Nat)
  | .lst t lo hi => some (t, lo, hi)
  | .bot => some (.bot, 0, 0)
  | .or a b => match seqT a, seqT b with
    | some (t, lo, hi), some (t', lo', hi') => some (join t t', min lo lo', max hi hi')
    | _, _ => none
  | _ => none
def tupT : Ty → Option (Ty × Nat × Nat)
  | .tup ts => some (joins ts, ts.length, ts.length)
  | .tupN t lo hi => some (t, lo, hi)
  | .bot => some (.bot, 0, 0)
  | .or a b => match tupT a, tupT b with
    | some (t, lo, hi), some (t', lo', hi') => some (join t t', min lo lo', max hi hi')
    | _, _ => none
  | _ => none
theorem seqT_ok {d : D} : ∀ {t T : Ty} {lo hi : Nat}, Has M t d → seqT t = some (T, lo, hi) → ∃ l, d = .lst l ∧ lo ≤ l.length ∧ l.length ≤ hi ∧ ∀ x ∈ l, Has M T x
  | .lst t lo hi, T, lo', hi', h, e => by unfold Has at h; cases e; exact h
  | .bot, T, lo', hi', h, e => by unfold Has at h; cases h
  | .or a b, T, lo', hi', h, e => by
    unfold Has at h
    unfold seqT at e
    split at e
    · rename_i e1 e2
      cases e
      rcases h with h | h
      · obtain ⟨l, rfl, q1, q2, q3⟩ := seqT_ok h e1
        exact ⟨l, rfl, by omega, by omega, fun x hx => join_l (q3 x hx)⟩
      · obtain ⟨l, rfl, q1, q2, q3⟩ := seqT_ok h e2
        exact ⟨l, rfl, by omega, by omega, fun x hx => join_r (q3 x hx)⟩
    · cases e
theorem tupT_ok {d : D} : ∀ {t T : Ty} {lo hi : Nat}, Has M t d → tupT t = some (T, lo, hi) → ∃ l, d = .tup l ∧ lo ≤ l.length ∧ l.length ≤ hi ∧ ∀ x ∈ l, Has M T x
  | .tupN t lo hi, T, lo', hi', h, e => by unfold Has at h; cases e; exact h
  | .tup ts, T, lo', hi', h, e => by
    unfold Has at h
    cases e
    obtain ⟨l, rfl, h⟩ := h
    refine ⟨l, rfl, Nat.le_of_eq (hasL_len h).symm, Nat.le_of_eq (hasL_len h), fun x hx => ?_⟩
    obtain ⟨t, ht, z⟩ := hasL_mem h hx
    exact joins_ok ht z
  | .bot, T, lo', hi', h, e => by unfold Has at h; cases h
  | .or a b, T, lo', hi', h, e => by
    unfold Has at h
    unfold tupT at e
    split at e
    · rename_i e1 e2
      cases e
      rcases h with h | h
      · obtain ⟨l, rfl, q1, q2, q3⟩ := tupT_ok h e1
        exact ⟨l, rfl, by omega, by omega, fun x hx => join_l (q3 x hx)⟩
      · obtain ⟨l, rfl, q1, q2, q3⟩ := tupT_ok h e2
        exact ⟨l, rfl, by omega, by omega, fun x hx => join_r (q3 x hx)⟩
    · cases e
def aSeq (s : Ty → Option (Ty × Nat × Nat)) (fa : AE) : AM := fun env => (fa env).bind fun p => (s p.1).map fun q => (q.1, q.2.1, q.2.2, p.2)
instance [ha : AbE M wa fa] : AbM M (iL wa) (aSeq seqT fa) := ⟨fun {env ρ fu P T lo hi c} h e n k => by
  obtain ⟨⟨t1, c1⟩, e1, e⟩ := Option.bind_eq_some_iff.mp e
  obtain ⟨⟨t2, lo', hi'⟩, e3, e4⟩ := Option.map_eq_some_iff.mp e
  cases e4
  refine ha.ok h e1 n fun p fu1 h1 r1 => ?_
  obtain ⟨l, rfl, q1, q2, q3⟩ := seqT_ok h1 e3
  exact ⟨l, rfl, k l fu1 q1 q2 q3 r1⟩⟩
instance [ha : AbE M wa fa] : AbM M (iT wa) (aSeq tupT fa) := ⟨fun {env ρ fu P T lo hi c} h e n k => by
  obtain ⟨⟨t1, c1⟩, e1, e⟩ := Option.bind_eq_some_iff.mp e
  obtain ⟨⟨t2, lo', hi'⟩, e3, e4⟩ := Option.map_eq_some_iff.mp e
  cases e4
  refine ha.ok h e1 n fun p fu1 h1 r1 => ?_
  obtain ⟨l, rfl, q1, q2, q3⟩ := tupT_ok h1 e3
  exact ⟨l, rfl, k l fu1 q1 q2 q3 r1⟩⟩
/-- texts: length, signs -/
def txT : Ty → Option (Nat × Nat × List (Nat × Nat))
  | .word w => some (w.length, w.length, wR w)
  | .str lo hi cs => some (lo, hi, cs)
  | .bot => some (0, 0, [])
  | .or a b => match txT a, txT b with
    | some (lo, hi, cs), some (lo', hi', cs') => some (min lo lo', max hi hi', cs ++ cs')
    | _, _ => none
  | _ => none
theorem inR_app {a b : List (Nat × Nat)} {c : Nat} : inR (a ++ b) c = (inR a c || inR b c) := by
  induction a with
  | nil => simp [inR]
  | cons p a ih => obtain ⟨x, y⟩ := p; rw [List.cons_append, inR_cons, inR_cons (r := a), ih, Bool.or_assoc]
theorem wR_acc {w : List Nat} : ∀ {r : List (Nat × Nat)} {c : Nat}, (inR r c = true ∨ c ∈ w) → inR (w.foldl (fun r c => if inR r c then r else (c, c) :: r) r) c = true := by
  induction w with
  | nil => intro r c h; simpa using h
  | cons x w ih =>
    intro r c h
    rw [List.foldl_cons]
    refine ih ?_
    rcases h with h | h
    · left
      split
      · exact h
      · rw [inR_cons, h]; exact Bool.or_true _
    · rcases List.mem_cons.mp h with rfl | h
      · left
        split
        · rename_i e; exact e
        · rw [inR_cons]; simp [inR]
      · exact .inr h
theorem wR_ok {w : List Nat} {c : Nat} (h : c ∈ w) : inR (wR w) c = true := wR_acc (.inr h)
theorem txT_ok {d : D} : ∀ {t : Ty} {lo hi : Nat} {cs : List (Nat × Nat)}, Has M t d → txT t = some (lo, hi, cs) → ∃ l, d = .str (S l) ∧ lo ≤ l.length ∧ l.length ≤ hi ∧ ∀ c ∈ l, inR cs c = true
  | .word w, lo', hi', cs, h, e => by
    unfold Has at h
    cases e
    exact ⟨w, h, Nat.le_refl _, Nat.le_refl _, fun c hc => wR_ok hc⟩
  | .str lo hi cs, lo', hi', cs', h, e => by unfold Has at h; cases e; exact h
  | .bot, lo', hi', cs, h, e => by unfold Has at h; cases h
  | .or a b, lo', hi', cs, h, e => by
    unfold Has at h
    unfold txT at e
    split at e
    · rename_i e1 e2
      cases e
      rcases h with h | h
      · obtain ⟨l, rfl, q1, q2, q3⟩ := txT_ok h e1
        exact ⟨l, rfl, by omega, by omega, fun x hx => by rw [inR_app, q3 x hx]; rfl⟩
      · obtain ⟨l, rfl, q1, q2, q3⟩ := txT_ok h e2
        exact ⟨l, rfl, by omega, by omega, fun x hx => by rw [inR_app, q3 x hx]; exact Bool.or_true _⟩
    · cases e
def sgT (t : Ty) : Option (Ty × Nat × Nat) := (txT t).map fun q => (.str 1 1 q.2.2, q.1, q.2.1)
theorem signs_S (l : List Nat) : signs (S l) = l.map fun c => D.str (S [c]) := rfl
instance [ha : AbE M wa fa] : AbM M (iS wa) (aSeq sgT fa) := ⟨fun {env ρ fu P T lo hi c} h e n k => by
  obtain ⟨⟨t1, c1⟩, e1, e⟩ := Option.bind_eq_some_iff.mp e
  obtain ⟨⟨t2, lo', hi'⟩, e3, e4⟩ := Option.map_eq_some_iff.mp e
  cases e4
  obtain ⟨⟨lo2, hi2, cs⟩, e5, e6⟩ := Option.map_eq_some_iff.mp e3
  cases e6
  refine ha.ok h e1 n fun p fu1 h1 r1 => ?_
  obtain ⟨l, rfl, q1, q2, q3⟩ := txT_ok h1 e5
  refine ⟨_, rfl, ?_⟩
  rw [signs_S]
  refine k _ fu1 (by simpa using q1) (by simpa using q2) (fun x hx => ?_) r1
  obtain ⟨c, hc, rfl⟩ := List.mem_map.mp hx
  unfold Has
  exact ⟨[c], rfl, Nat.le_refl _, Nat.le_refl _, fun c' hc' => by rw [List.mem_singleton.mp hc']; exact q3 c hc⟩⟩
def inT : Ty → Option (Int × Int)
  | .int a b => some (a, b)
  | .or a b => match inT a, inT b with
    | some (x, y), some (z, w) => some (min x z, max y w)
    | _, _ => none
  | _ => none
theorem inT_ok {d : D} : ∀ {t : Ty} {a b : Int}, Has M t d → inT t = some (a, b) → ∃ i, d = .int i ∧ a ≤ i ∧ i ≤ b
  | .int x y, a, b, h, e => by unfold Has at h; cases e; exact h
  | .or x y, a, b, h, e => by
    unfold Has at h
    unfold inT at e
    split at e
    · rename_i e1 e2
      cases e
      rcases h with h | h
      · obtain ⟨i, rfl, q1, q2⟩ := inT_ok h e1
        exact ⟨i, rfl, by omega, by omega⟩
      · obtain ⟨i, rfl, q1, q2⟩ := inT_ok h e2
        exact ⟨i, rfl, by omega, by omega⟩
    · cases e
theorem rng_mem {lo hi : Int} {d : D} (h : d ∈ rng lo hi) : ∃ i, d = .int i ∧ lo ≤ i ∧ i < hi := by
  obtain ⟨n, hn⟩ := List.mem_iff_getElem?.mp h
  obtain ⟨rfl, h2⟩ := rng_get hn
  exact ⟨_, rfl, by omega, h2⟩
def aR1 (fa : AE) : AM := fun env => (fa env).bind fun p => (inT p.1).bind fun q => if decide (-(2 ^ 62) ≤ q.1) && decide (q.2 < 2 ^ 62) then some (if decide (q.2 ≤ 0) then .bot else .int 0 (q.2 - 1), q.1.toNat, q.2.toNat, p.2) else none
instance [ha : AbE M wa fa] : AbM M (iR1 wa) (aR1 fa) := ⟨fun {env ρ fu P T lo hi c} h e n k => by
  obtain ⟨⟨t1, c1⟩, e1, e⟩ := Option.bind_eq_some_iff.mp e
  obtain ⟨⟨a, b⟩, e2, e⟩ := Option.bind_eq_some_iff.mp e
  obtain ⟨hx, e⟩ := ite_none e
  cases e
  simp only [Bool.and_eq_true, decide_eq_true_eq] at hx
  refine ha.ok h e1 n fun p fu1 h1 r1 => ?_
  obtain ⟨i, rfl, q1, q2⟩ := inT_ok h1 e2
  refine ⟨i, rfl, ⟨by omega, by omega⟩, k _ fu1 (by rw [rng_len]; omega) (by rw [rng_len]; omega) (fun x hx => ?_) r1⟩
  obtain ⟨j, rfl, j1, j2⟩ := rng_mem hx
  split
  · rename_i z; rw [decide_eq_true_eq] at z; omega
  · unfold Has; exact ⟨j, rfl, by omega, by omega⟩⟩
def aR2 (fa fb : AE) : AM := fun env => (fa env).bind fun p => (fb env).bind fun r => (inT p.1).bind fun q => (inT r.1).bind fun s => if decide (-(2 ^ 62) ≤ q.1) && decide (q.2 < 2 ^ 62) && decide (-(2 ^ 62) ≤ s.1) && decide (s.2 < 2 ^ 62) then
  some (if decide (s.2 ≤ q.1) then .bot else .int q.1 (s.2 - 1), (s.1 - q.2).toNat, (s.2 - q.1).toNat, p.2 + r.2) else none
instance [ha : AbE M wa fa] [hb : AbE M wb fb] : AbM M (iR2 wa wb) (aR2 fa fb) := ⟨fun {env ρ fu P T lo hi c} h e n k => by
  obtain ⟨⟨t1, c1⟩, e1, e⟩ := Option.bind_eq_some_iff.mp e
  obtain ⟨⟨t2, c2⟩, e2, e⟩ := Option.bind_eq_some_iff.mp e
  obtain ⟨⟨a, b⟩, e3, e⟩ := Option.bind_eq_some_iff.mp e
  obtain ⟨⟨a', b'⟩, e4, e⟩ := Option.bind_eq_some_iff.mp e
  obtain ⟨hx, e⟩ := ite_none e
  cases e
  simp only [Bool.and_eq_true, decide_eq_true_eq] at hx
  refine ha.ok h e1 (n.mono (Nat.le_add_right _ _)) fun p fu1 h1 r1 => ?_
  refine hb.ok h e2 (n.next r1) fun q fu2 h2 r2 => ?_
  obtain ⟨i, rfl, q1, q2⟩ := inT_ok h1 e3
  obtain ⟨j, rfl, q3, q4⟩ := inT_ok h2 e4
  refine ⟨i, j, rfl, rfl, ⟨by omega, by omega, by omega, by omega⟩, k _ fu2 (by rw [rng_len]; omega) (by rw [rng_len]; omega) (fun x hx => ?_) (r1.trans r2)⟩
  obtain ⟨l, rfl, j1, j2⟩ := rng_mem hx
  split
  · rename_i z; rw [decide_eq_true_eq] at z; omega
  · unfold Has; exact ⟨l, rfl, by omega, by omega⟩⟩
def sqT (t : Ty) : Option (Ty × Nat × Nat) := match seqT t with
  | some x => some x
  | none => tupT t
theorem sqT_ok {d : D} {t T : Ty} {lo hi : Nat} (h : Has M t d) (e : sqT t = some (T, lo, hi)) : ∃ l, seqOf d = some l ∧ lo ≤ l.length ∧ l.length ≤ hi ∧ ∀ x ∈ l, Has M T x := by
  unfold sqT at e
  split at e
  · rename_i q
    cases e
    obtain ⟨l, rfl, q1, q2, q3⟩ := seqT_ok h q
    exact ⟨l, rfl, q1, q2, q3⟩
  · obtain ⟨l, rfl, q1, q2, q3⟩ := tupT_ok h e
    exact ⟨l, rfl, q1, q2, q3⟩
end
end Z
namespace Z
open PySem PySem.Spec L2
section
variable {M : Sem} {wa wb wc we : WE} {u u' : WT} {v vk : WA} {fa fb fc : AE} {fv fk : AA} {ft ft' : AT} {fm : AM}
/-! ### enumerate, zip -/
def aEN (fa : AE) : AM := fun env => (fa env).bind fun p => (sqT p.1).map fun q => (.tup [.int 0 (q.2.2 - 1), q.1], q.2.1, q.2.2, p.2)
theorem enum_has {T : Ty} {hi : Nat} : ∀ {l : List D} {k : Nat}, k + l.length ≤ hi → (∀ x ∈ l, Has M T x) → ∀ z ∈ enumD k l, Has M (.tup [.int 0 (hi - 1), T]) z
  | [], k, _, _, z, hz => by unfold enumD at hz; cases hz
  | x :: l, k, hk, h, z, hz => by
    unfold enumD at hz
    rw [List.length_cons] at hk
    rcases List.mem_cons.mp hz with rfl | hz
    · unfold Has HasL HasL HasL
      refine ⟨_, rfl, _, _, rfl, ?_, _, _, rfl, h x List.mem_cons_self, rfl⟩
      unfold Has
      exact ⟨_, rfl, by omega, by omega⟩
    · exact enum_has (by omega) (fun y hy => h y (List.mem_cons_of_mem _ hy)) z hz
theorem enum_len : ∀ (l : List D) (k : Nat), (enumD k l).length = l.length
  | [], _ => rfl
  | x :: l, k => by unfold enumD; rw [List.length_cons, List.length_cons, enum_len l]
instance [ha : AbE M wa fa] : AbM M (iEN wa) (aEN fa) := ⟨fun {env ρ fu P T lo hi c} h e n k => by
  obtain ⟨⟨t1, c1⟩, e1, e⟩ := Option.bind_eq_some_iff.mp e
  obtain ⟨⟨t2, lo', hi'⟩, e3, e4⟩ := Option.map_eq_some_iff.mp e
  cases e4
  refine ha.ok h e1 n fun p fu1 h1 r1 => ?_
  obtain ⟨l, hl, q1, q2, q3⟩ := sqT_ok h1 e3
  exact ⟨l, hl, k _ fu1 (by rw [enum_len]; exact q1) (by rw [enum_len]; exact q2) (enum_has (by simpa using q2) q3) r1⟩⟩
def zT (a b : Ty) : Option (Ty × Nat × Nat) := match seqT a with
  | some (t, lo, hi) => (seqT b).map fun q => (.tup [t, q.1], min lo q.2.1, min hi q.2.2)
  | none => (tupT a).bind fun p => (tupT b).map fun q => (.tup [p.1, q.1], min p.2.1 q.2.1, min p.2.2 q.2.2)
theorem zip_has {T U : Ty} : ∀ {l r : List D}, (∀ x ∈ l, Has M T x) → (∀ x ∈ r, Has M U x) → ∀ z ∈ zipD l r, Has M (.tup [T, U]) z
  | [], r, _, _, z, hz => by unfold zipD at hz; cases hz
  | x :: l, [], _, _, z, hz => by unfold zipD at hz; cases hz
  | x :: l, y :: r, h1, h2, z, hz => by
    unfold zipD at hz
    rcases List.mem_cons.mp hz with rfl | hz
    · unfold Has HasL HasL HasL
      exact ⟨_, rfl, _, _, rfl, h1 x List.mem_cons_self, _, _, rfl, h2 y List.mem_cons_self, rfl⟩
    · exact zip_has (fun y hy => h1 y (List.mem_cons_of_mem _ hy)) (fun y hy => h2 y (List.mem_cons_of_mem _ hy)) z hz
theorem zip_len : ∀ (l r : List D), (zipD l r).length = min l.length r.length
  | [], r => by unfold zipD; simp
  | x :: l, [] => by unfold zipD; simp
  | x :: l, y :: r => by unfold zipD; rw [List.length_cons, zip_len l r, List.length_cons, List.length_cons]; omega
theorem zT_ok {a b T : Ty} {lo hi : Nat} {x y : D} (h1 : Has M a x) (h2 : Has M b y) (e : zT a b = some (T, lo, hi)) : ∃ l, zipOf x y = some l ∧ lo ≤ l.length ∧ l.length ≤ hi ∧ ∀ z ∈ l, Has M T z := by
  unfold zT at e
  split at e
  · rename_i e1
    obtain ⟨⟨t', lo', hi'⟩, e2, e3⟩ := Option.map_eq_some_iff.mp e
    cases e3
    obtain ⟨l, rfl, q1, q2, q3⟩ := seqT_ok h1 e1
    obtain ⟨m, rfl, w1, w2, w3⟩ := seqT_ok h2 e2
    exact ⟨_, rfl, by rw [zip_len]; dsimp only; omega, by rw [zip_len]; dsimp only; omega, zip_has q3 w3⟩
  · obtain ⟨⟨t, lo', hi'⟩, e1, e⟩ := Option.bind_eq_some_iff.mp e
    obtain ⟨⟨t', lo2, hi2⟩, e2, e3⟩ := Option.map_eq_some_iff.mp e
    cases e3
    obtain ⟨l, rfl, q1, q2, q3⟩ := tupT_ok h1 e1
    obtain ⟨m, rfl, w1, w2, w3⟩ := tupT_ok h2 e2
    exact ⟨_, rfl, by rw [zip_len]; dsimp only; omega, by rw [zip_len]; dsimp only; omega, zip_has q3 w3⟩
def aZP (fa fb : AE) : AM := fun env => (fa env).bind fun p => (fb env).bind fun r => (zT p.1 r.1).map fun q => (q.1, q.2.1, q.2.2, p.2 + r.2)
instance [ha : AbE M wa fa] [hb : AbE M wb fb] : AbM M (iZP wa wb) (aZP fa fb) := ⟨fun {env ρ fu P T lo hi c} h e n k => by
  obtain ⟨⟨t1, c1⟩, e1, e⟩ := Option.bind_eq_some_iff.mp e
  obtain ⟨⟨t2, c2⟩, e2, e⟩ := Option.bind_eq_some_iff.mp e
  obtain ⟨⟨t3, lo', hi'⟩, e3, e4⟩ := Option.map_eq_some_iff.mp e
  cases e4
  refine ha.ok h e1 (n.mono (Nat.le_add_right _ _)) fun p fu1 h1 r1 => ?_
  refine hb.ok h e2 (n.next r1) fun q fu2 h2 r2 => ?_
  obtain ⟨l, hl, q1, q2, q3⟩ := zT_ok h1 h2 e3
  exact ⟨l, hl, k l fu2 q1 q2 q3 (r1.trans r2)⟩⟩
/-! ### comprehensions -/
def aWipe (env : AEnv) : List Nat → AEnv
  | [] => env
  | v :: vs => (aWipe env vs).set v .top
theorem wipe_ok {env : AEnv} {ρ : List Sl} (h : EnvOk M env ρ) : ∀ vs : List Nat, EnvOk M (aWipe env vs) (wipeD ρ vs)
  | [] => h
  | v :: vs => env_set (wipe_ok h vs) trivial
def aLc (fm : AM) (g : Ty → AEnv → Option AEnv) (ft : AT) (fe : AE) (vs : List Nat) : AM := fun env => (fm env).bind fun p =>
  if Nat.beq p.2.2.1 0 then some (.bot, 0, 0, p.2.2.2) else if Nat.ble p.2.2.1 100000 then
  (g p.1 (aWipe env vs)).bind fun e1 => (ft e1).bind fun q => match q.1 with
  | none => some (.bot, 0, 0, p.2.2.2 + p.2.2.1 * q.2.2)
  | some e2 => (fe e2).map fun r => (r.1, if q.2.1.isNone then p.2.1 else 0, p.2.2.1, p.2.2.2 + p.2.2.1 * (q.2.2 + r.2)) else none
theorem lc_ok {g : WG} {ga : Ty → AEnv → Option AEnv} {T U : Ty} {e0 e1 : AEnv} {ρ : List Sl} {et ef : Option AEnv} {c1 c2 hi : Nat} {P : List D → Fu → Prop} [hg : AbG M g ga] [ht : AbT M u ft] [he : AbE M we fa]
    (h0 : EnvOk M e0 ρ) (hga : ga T e0 = some e1) (hft : ft e1 = some (et, ef, c1)) (hfe : ∀ e2, et = some e2 → fa e2 = some (U, c2)) (hhi : hi ≤ 100000) :
    ∀ (ds acc : List D) (fu : Fu), (∀ x ∈ ds, Has M T x) → acc.length + ds.length ≤ hi → (∀ x ∈ acc, Has M U x) → En (ds.length * (c1 + c2)) fu →
      (∀ l fu', acc.length ≤ l.length → l.length ≤ acc.length + ds.length → (ef = none → l.length = acc.length + ds.length) → (et = none → l = acc) → (∀ x ∈ l, Has M U x) → Fr (ds.length * (c1 + c2)) fu fu' → P l fu') → lcLoop g u we ρ P ds acc fu
  | [], acc, fu, _, _, ha, _, k => k acc fu (Nat.le_refl _) (Nat.le_refl _) (fun _ => rfl) (fun _ => rfl) ha Fr.refl
  | d :: ds, acc, fu, hd, hl, ha, n, k => by
    have hmul : (d :: ds).length * (c1 + c2) = (c1 + c2) + ds.length * (c1 + c2) := by rw [List.length_cons, Nat.add_mul]; omega
    rw [hmul] at n k
    rw [List.length_cons] at hl
    refine hg.ok h0 (hd d List.mem_cons_self) hga fun ρ' h1 => ?_
    refine ht.ok h1 hft (n.mono (by omega)) fun b fu1 t1 f1 r1 => ?_
    cases b with
    | true =>
      rw [if_pos rfl]
      obtain ⟨e2, rfl, h2⟩ := t1 rfl
      refine he.ok h2 (hfe _ rfl) ((n.mono (by omega : c1 + c2 ≤ _)).next r1) fun x fu2 hx r2 => ?_
      have r12 := r1.trans r2
      refine ⟨Nat.lt_of_lt_of_le (by omega : acc.length < 100001) (by decide), lc_ok h0 hga hft hfe hhi ds _ fu2 (fun y hy => hd y (List.mem_cons_of_mem _ hy)) ?_ ?_ (n.next r12) ?_⟩
      · rw [List.length_append]; simp; omega
      · intro y hy
        rcases List.mem_append.mp hy with hy | hy
        · exact ha y hy
        · rw [List.mem_singleton.mp hy]; exact hx
      · intro l fu' q1 q2 q3 q4 q5 q6
        rw [List.length_append] at q1 q2 q3
        simp only [List.length_cons, List.length_nil] at q1 q2 q3
        exact k l fu' (by omega) (by rw [List.length_cons]; omega) (fun z => by rw [q3 z, List.length_cons]; omega) (fun z => by cases z) q5 (r12.trans q6)
    | false =>
      rw [if_neg Bool.false_ne_true]
      obtain ⟨e2, hef, _⟩ := f1 rfl
      refine lc_ok h0 hga hft hfe hhi ds acc fu1 (fun y hy => hd y (List.mem_cons_of_mem _ hy)) (by omega) ha ?_ ?_
      · have n' : En (c1 + (c2 + ds.length * (c1 + c2))) fu := n.mono (by omega)
        exact (n'.next r1).mono (by omega)
      · intro l fu' q1 q2 q3 q4 q5 q6
        exact k l fu' q1 (by rw [List.length_cons]; omega) (fun z => by rw [hef] at z; cases z) q4 q5 ((r1.trans q6).mono (by omega))
instance {wi : WA} {g : WG} {ga : Ty → AEnv → Option AEnv} {vs : List Nat} [hi : AbM M wi fm] [hg : AbG M g ga] [ht : AbT M u ft] [he : AbE M we fa] : AbM M (wLc wi g u we vs) (aLc fm ga ft fa vs) := ⟨fun {env ρ fu P T lo hi' c} h e n k => by
  obtain ⟨⟨t1, l1, h1, c0⟩, e1, e⟩ := Option.bind_eq_some_iff.mp e
  have hc : c0 ≤ c := by
    dsimp only at e
    split at e
    · cases e; exact Nat.le_refl _
    · obtain ⟨_, e⟩ := ite_none e
      obtain ⟨e2, _, e⟩ := Option.bind_eq_some_iff.mp e
      obtain ⟨⟨et, ef, c1⟩, _, e⟩ := Option.bind_eq_some_iff.mp e
      dsimp only at e
      cases et with
      | none => cases e; exact Nat.le_add_right _ _
      | some e3 => obtain ⟨b, _, e4⟩ := Option.map_eq_some_iff.mp e; cases e4; exact Nat.le_add_right _ _
  refine hi.ok h e1 (n.mono hc) fun ds fu1 q1 q2 q3 r1 => ?_
  dsimp only at e
  split at e
  · rename_i hz
    cases e
    cases many_nil q2 hz
    exact k [] fu1 (Nat.le_refl _) (Nat.le_refl _) (fun x hx => by cases hx) r1
  · obtain ⟨hb, e⟩ := ite_none e
    obtain ⟨e2, g1, e⟩ := Option.bind_eq_some_iff.mp e
    obtain ⟨⟨et, ef, c1⟩, g2, e⟩ := Option.bind_eq_some_iff.mp e
    dsimp only at e
    have hb' := Nat.le_of_ble_eq_true hb
    cases et with
    | none =>
      have hle : ds.length * (c1 + 0) ≤ h1 * c1 := Nat.mul_le_mul_right _ q2
      cases e
      refine lc_ok (U := .bot) (c2 := 0) (wipe_ok h vs) g1 g2 (fun e2 z => by cases z) hb' ds [] fu1 q3 (by simpa using q2) (fun x hx => by cases hx) ((n.next r1).mono hle) ?_
      intro l fu' w1 w2 w3 w4 w5 w6
      cases w4 rfl
      exact k [] fu' (Nat.le_refl _) (Nat.le_refl _) w5 (r1.trans (w6.mono hle))
    | some e3 =>
      obtain ⟨⟨tu, c2⟩, g3, e4⟩ := Option.map_eq_some_iff.mp e
      have hle : ds.length * (c1 + c2) ≤ h1 * (c1 + c2) := Nat.mul_le_mul_right _ q2
      cases e4
      refine lc_ok (U := tu) (c2 := c2) (wipe_ok h vs) g1 g2 (fun e2 z => by cases z; exact g3) hb' ds [] fu1 q3 (by simpa using q2) (fun x hx => by cases hx) ((n.next r1).mono hle) ?_
      intro l fu' w1 w2 w3 w4 w5 w6
      simp only [List.length_nil, Nat.zero_add] at w1 w2 w3
      refine k l fu' ?_ (by omega) w5 (r1.trans (w6.mono hle))
      split
      · rename_i hn; rw [w3 (Option.isNone_iff_eq_none.mp hn)]; exact q1
      · exact Nat.zero_le _⟩

/-! ### targets -/
def aN (i : Nat) : Ty → AEnv → Option AEnv := fun t env => some (env.set i (.va t))
instance (i : Nat) : AbG M (gN i) (aN i) := ⟨fun {env env' ρ Q T d} h ht e k => by
  cases e
  exact k _ (env_set h ⟨d, rfl, ht⟩)⟩
def aGlNil : List Ty → AEnv → Option AEnv := fun ts env => match ts with
  | [] => some env
  | _ => none
instance : AbGl M glNil aGlNil := ⟨fun {env env' ρ Q T d} h ht e k => by
  unfold aGlNil at e
  split at e
  · cases e
    unfold HasL at ht
    exact ⟨ht, k ρ h⟩
  · cases e⟩
def aGlCons (ga : Ty → AEnv → Option AEnv) (gb : List Ty → AEnv → Option AEnv) : List Ty → AEnv → Option AEnv := fun ts env => match ts with
  | t :: ts => (ga t env).bind (gb ts)
  | _ => none
instance {g : WG} {gl : WGl} {ga : Ty → AEnv → Option AEnv} {gb : List Ty → AEnv → Option AEnv} [h1 : AbG M g ga] [h2 : AbGl M gl gb] : AbGl M (glCons g gl) (aGlCons ga gb) := ⟨fun {env env' ρ Q T d} h ht e k => by
  unfold aGlCons at e
  split at e
  · obtain ⟨e1, q1, q2⟩ := Option.bind_eq_some_iff.mp e
    unfold HasL at ht
    obtain ⟨x, r, rfl, t1, t2⟩ := ht
    exact ⟨x, r, rfl, h1.ok h t1 q1 fun ρ' h' => h2.ok h' t2 q2 k⟩
  · cases e⟩
/-- a tuple of n, by place -/
def unT (n : Nat) : Ty → Option (List Ty)
  | .tup ts => if Nat.beq ts.length n then some ts else none
  | .tupN t lo hi => if Nat.beq lo n && Nat.beq hi n then some (List.replicate n t) else none
  | .bot => some (List.replicate n .bot)
  | .or a b => match unT n a, unT n b with
    | some x, some y => if Nat.beq x.length y.length then some (List.zipWith join x y) else none
    | _, _ => none
  | _ => none
theorem hasL_rep {t : Ty} : ∀ {l : List D}, (∀ x ∈ l, Has M t x) → HasL M (List.replicate l.length t) l
  | [], _ => by rw [List.length_nil, List.replicate_zero]; unfold HasL; rfl
  | x :: l, h => by
    rw [List.length_cons, List.replicate_succ]
    unfold HasL
    exact ⟨x, l, rfl, h x List.mem_cons_self, hasL_rep fun y hy => h y (List.mem_cons_of_mem _ hy)⟩
theorem hasL_zl : ∀ {a b : List Ty} {l : List D}, a.length = b.length → HasL M a l → HasL M (List.zipWith join a b) l
  | [], [], l, _, h => h
  | x :: a, y :: b, l, e, h => by
    rw [List.zipWith_cons_cons]
    unfold HasL at h ⊢
    obtain ⟨z, r, rfl, h1, h2⟩ := h
    exact ⟨z, r, rfl, join_l h1, hasL_zl (by simpa using e) h2⟩
  | [], _ :: _, _, e, _ => by cases e
  | _ :: _, [], _, e, _ => by cases e
theorem hasL_zr : ∀ {a b : List Ty} {l : List D}, a.length = b.length → HasL M b l → HasL M (List.zipWith join a b) l
  | [], [], l, _, h => h
  | x :: a, y :: b, l, e, h => by
    rw [List.zipWith_cons_cons]
    unfold HasL at h ⊢
    obtain ⟨z, r, rfl, h1, h2⟩ := h
    exact ⟨z, r, rfl, join_r h1, hasL_zr (by simpa using e) h2⟩
  | [], _ :: _, _, e, _ => by cases e
  | _ :: _, [], _, e, _ => by cases e
theorem unT_len {n : Nat} : ∀ {t : Ty} {ts : List Ty}, unT n t = some ts → ts.length = n
  | .tup ts, us, e => by
    unfold unT at e
    obtain ⟨h, e⟩ := ite_none e
    cases e
    exact Nat.eq_of_beq_eq_true h
  | .tupN t lo hi, us, e => by
    unfold unT at e
    obtain ⟨h, e⟩ := ite_none e
    cases e
    exact List.length_replicate
  | .bot, us, e => by unfold unT at e; cases e; exact List.length_replicate
  | .or a b, us, e => by
    unfold unT at e
    split at e
    · rename_i x y e1 e2
      obtain ⟨h, e⟩ := ite_none e
      cases e
      rw [List.length_zipWith, unT_len e1, unT_len e2]
      exact Nat.min_self n
    · cases e
theorem unT_ok {n : Nat} {d : D} : ∀ {t : Ty} {ts : List Ty}, Has M t d → unT n t = some ts → ∃ l, d = .tup l ∧ HasL M ts l
  | .tup ts, us, h, e => by
    unfold Has at h
    unfold unT at e
    obtain ⟨_, e⟩ := ite_none e
    cases e
    exact h
  | .tupN t lo hi, us, h, e => by
    unfold Has at h
    unfold unT at e
    obtain ⟨hx, e⟩ := ite_none e
    cases e
    rw [Bool.and_eq_true] at hx
    have x1 := Nat.eq_of_beq_eq_true hx.1
    have x2 := Nat.eq_of_beq_eq_true hx.2
    obtain ⟨l, rfl, h1, h2, h3⟩ := h
    have : n = l.length := by omega
    rw [this]
    exact ⟨l, rfl, hasL_rep h3⟩
  | .bot, us, h, e => by unfold Has at h; cases h
  | .or a b, us, h, e => by
    unfold Has at h
    unfold unT at e
    split at e
    · rename_i x y e1 e2
      obtain ⟨hx, e⟩ := ite_none e
      cases e
      have hx := Nat.eq_of_beq_eq_true hx
      rcases h with h | h
      · obtain ⟨l, rfl, q⟩ := unT_ok h e1
        exact ⟨l, rfl, hasL_zl hx q⟩
      · obtain ⟨l, rfl, q⟩ := unT_ok h e2
        exact ⟨l, rfl, hasL_zr hx q⟩
    · cases e
def aGT (n : Nat) (gb : List Ty → AEnv → Option AEnv) : Ty → AEnv → Option AEnv := fun t env => (unT n t).bind fun ts => gb ts env
instance {n : Nat} {gl : WGl} {gb : List Ty → AEnv → Option AEnv} [h2 : AbGl M gl gb] : AbG M (gT n gl) (aGT n gb) := ⟨fun {env env' ρ Q T d} h ht e k => by
  obtain ⟨ts, q1, q2⟩ := Option.bind_eq_some_iff.mp e
  obtain ⟨l, rfl, hl⟩ := unT_ok ht q1
  exact ⟨l, rfl, by rw [hasL_len hl]; exact unT_len q1, h2.ok h hl q2 k⟩⟩

/-! ### slices' bounds, slots -/
def aNo : AEnv → Option (Option (Int × Int) × Nat) := fun _ => some (none, 0)
instance : AbX M oNone aNo := ⟨fun {env ρ fu P T c} h e n k => by
  cases e
  exact k none fu trivial Fr.refl⟩
def aSo (fa : AE) : AEnv → Option (Option (Int × Int) × Nat) := fun env => (fa env).bind fun p => (inT p.1).map fun q => (some q, p.2)
instance [ha : AbE M wa fa] : AbX M (oSome wa) (aSo fa) := ⟨fun {env ρ fu P T c} h e n k => by
  obtain ⟨⟨t1, c1⟩, e1, e⟩ := Option.bind_eq_some_iff.mp e
  obtain ⟨⟨a, b⟩, e3, e4⟩ := Option.map_eq_some_iff.mp e
  cases e4
  refine ha.ok h e1 n fun p fu1 h1 r1 => ?_
  obtain ⟨i, rfl, q1, q2⟩ := inT_ok h1 e3
  exact ⟨i, rfl, k _ fu1 ⟨q1, q2⟩ r1⟩⟩
def aV (fa : AE) : AEnv → Option (ASl × Nat) := fun env => (fa env).map fun p => (.va p.1, p.2)
instance [ha : AbE M wa fa] : AbR M (wV wa) (aV fa) := ⟨fun {env ρ fu P T c} h e n k => by
  obtain ⟨⟨t1, c1⟩, e1, e4⟩ := Option.map_eq_some_iff.mp e
  cases e4
  exact ha.ok h e1 n fun p fu1 h1 r1 => k _ fu1 ⟨p, rfl, h1⟩ r1⟩
def aO (fm : AM) : AEnv → Option (ASl × Nat) := fun env => (fm env).map fun p => (.ow p.1 p.2.1 p.2.2.1, p.2.2.2)
instance [ha : AbM M v fm] : AbR M (wO v) (aO fm) := ⟨fun {env ρ fu P T c} h e n k => by
  obtain ⟨⟨t1, lo, hi, c1⟩, e1, e4⟩ := Option.map_eq_some_iff.mp e
  cases e4
  exact ha.ok h e1 n fun p fu1 h1 h2 h3 r1 => k _ fu1 ⟨p, rfl, h1, h2, h3⟩ r1⟩

/-! ### statements -/
theorem DOk.nxt {B : DEnds} {fu fu' : Fu} {r : Rs} {c : Nat} (d : DOk M B fu { r with c := c + r.c }) (x : Fr c fu fu') : DOk M B fu' r :=
  ⟨fun ρ f h q => d.nx ρ f h (x.trans q), fun ρ f h q => d.rt ρ f h (x.trans q), fun ρ f h q => d.bk ρ f h (x.trans q), fun ρ f h q => d.ct ρ f h (x.trans q)⟩
def rNx (env : AEnv) (c : Nat) : Rs := ⟨some env, none, none, none, c⟩
def rRt (t : Ty) (c : Nat) : Rs := ⟨none, some t, none, none, c⟩
def aNext : AW := fun env => some (rNx env 0)
instance : AbW M zNext aNext := ⟨fun {env ρ fu B r} h e n k => by
  cases e
  exact k.nx ρ fu ⟨env, rfl, h⟩ Fr.refl⟩
instance : AbW M zPass aNext := ⟨fun {env ρ fu B r} h e n k => by
  cases e
  exact k.nx ρ fu ⟨env, rfl, h⟩ Fr.refl⟩
def aBreak : AW := fun env => some ⟨none, none, some env, none, 0⟩
instance : AbW M zBreak aBreak := ⟨fun {env ρ fu B r} h e n k => by
  cases e
  exact k.bk ρ fu ⟨env, rfl, h⟩ Fr.refl⟩
def aCont : AW := fun env => some ⟨none, none, none, some env, 0⟩
instance : AbW M zCont aCont := ⟨fun {env ρ fu B r} h e n k => by
  cases e
  exact k.ct ρ fu ⟨env, rfl, h⟩ Fr.refl⟩
def aExpr (fa : AE) : AW := fun env => (fa env).map fun p => rNx env p.2
instance [ha : AbE M wa fa] : AbW M (zExpr wa) (aExpr fa) := ⟨fun {env ρ fu B r} h e n k => by
  obtain ⟨⟨t1, c1⟩, e1, e4⟩ := Option.map_eq_some_iff.mp e
  cases e4
  exact ha.ok h e1 n fun p fu1 h1 r1 => k.nx ρ fu1 ⟨env, rfl, h⟩ r1⟩
def aRet (fa : AE) : AW := fun env => (fa env).map fun p => rRt p.1 p.2
instance [ha : AbE M wa fa] : AbW M (zRet wa) (aRet fa) := ⟨fun {env ρ fu B r} h e n k => by
  obtain ⟨⟨t1, c1⟩, e1, e4⟩ := Option.map_eq_some_iff.mp e
  cases e4
  exact ha.ok h e1 n fun p fu1 h1 r1 => k.rt p fu1 ⟨_, rfl, h1⟩ r1⟩
def aRetN : AW := fun env => some (rRt .non 0)
instance : AbW M zRetN aRetN := ⟨fun {env ρ fu B r} h e n k => by
  cases e
  exact k.rt .non fu ⟨_, rfl, by unfold Has; rfl⟩ Fr.refl⟩
def aSet (i : Nat) (fa : AE) : AW := fun env => (fa env).map fun p => rNx (env.set i (.va p.1)) p.2
instance (i : Nat) [ha : AbE M wa fa] : AbW M (zSet i wa) (aSet i fa) := ⟨fun {env ρ fu B r} h e n k => by
  obtain ⟨⟨t1, c1⟩, e1, e4⟩ := Option.map_eq_some_iff.mp e
  cases e4
  exact ha.ok h e1 n fun p fu1 h1 r1 => k.nx _ fu1 ⟨_, rfl, env_set h ⟨p, rfl, h1⟩⟩ r1⟩
def aSetL (i : Nat) (fm : AM) : AW := fun env => (fm env).map fun p => rNx (env.set i (.ow p.1 p.2.1 p.2.2.1)) p.2.2.2
instance (i : Nat) [ha : AbM M v fm] : AbW M (zSetL i v) (aSetL i fm) := ⟨fun {env ρ fu B r} h e n k => by
  obtain ⟨⟨t1, lo, hi, c1⟩, e1, e4⟩ := Option.map_eq_some_iff.mp e
  cases e4
  exact ha.ok h e1 n fun p fu1 h1 h2 h3 r1 => k.nx _ fu1 ⟨_, rfl, env_set h ⟨p, rfl, h1, h2, h3⟩⟩ r1⟩
def aAsg (fa : AE) (g : Ty → AEnv → Option AEnv) : AW := fun env => (fa env).bind fun p => (g p.1 env).map fun e => rNx e p.2
instance {g : WG} {ga : Ty → AEnv → Option AEnv} [ha : AbE M wa fa] [hg : AbG M g ga] : AbW M (zAsg wa g) (aAsg fa ga) := ⟨fun {env ρ fu B r} h e n k => by
  obtain ⟨⟨t1, c1⟩, e1, e⟩ := Option.bind_eq_some_iff.mp e
  obtain ⟨e2, e3, e4⟩ := Option.map_eq_some_iff.mp e
  cases e4
  exact ha.ok h e1 n fun p fu1 h1 r1 => hg.ok h h1 e3 fun ρ' h' => k.nx ρ' fu1 ⟨_, rfl, h'⟩ r1⟩
def aApp (i : Nat) (fa : AE) : AW := fun env => match env[i]? with
  | some (.ow t lo hi) => (fa env).bind fun p => if Nat.ble hi 100000 then some (rNx (env.set i (.ow (join t p.1) (lo + 1) (hi + 1))) p.2) else none
  | _ => none
instance (i : Nat) [ha : AbE M wa fa] : AbW M (zApp i wa) (aApp i fa) := ⟨fun {env ρ fu B r} h e n k => by
  unfold aApp at e
  split at e
  · rename_i t lo hi q
    obtain ⟨⟨t1, c1⟩, e1, e⟩ := Option.bind_eq_some_iff.mp e
    obtain ⟨hb, e⟩ := ite_none e
    cases e
    obtain ⟨s, hs, ds0, rfl, h1, h2, h3⟩ := env_get h q
    refine ⟨ds0, hs, ha.ok h e1 n fun p fu1 hp r1 => ⟨?_, k.nx _ fu1 ⟨_, rfl, env_set h ⟨_, rfl, ?_, ?_, fun x hx => ?_⟩⟩ r1⟩⟩
    · have := Nat.le_of_ble_eq_true hb
      exact Nat.lt_of_lt_of_le (by omega : ds0.length < 100001) (by decide)
    · rw [List.length_append]; simp; omega
    · rw [List.length_append]; simp; omega
    · rcases List.mem_append.mp hx with hx | hx
      · exact join_l (h3 x hx)
      · rw [List.mem_singleton.mp hx]; exact join_r hp
  · cases e⟩
def aExt (i : Nat) (fa : AE) : AW := fun env => match env[i]? with
  | some (.ow t lo hi) => (fa env).bind fun p => (seqT p.1).bind fun q => if Nat.ble (hi + q.2.2) 100000 then some (rNx (env.set i (.ow (join t q.1) (lo + q.2.1) (hi + q.2.2))) p.2) else none
  | _ => none
instance (i : Nat) [ha : AbE M wa fa] : AbW M (zExt i wa) (aExt i fa) := ⟨fun {env ρ fu B r} h e n k => by
  unfold aExt at e
  split at e
  · rename_i t lo hi q
    obtain ⟨⟨t1, c1⟩, e1, e⟩ := Option.bind_eq_some_iff.mp e
    obtain ⟨⟨t2, lo2, hi2⟩, e2, e⟩ := Option.bind_eq_some_iff.mp e
    obtain ⟨hb, e⟩ := ite_none e
    cases e
    obtain ⟨s, hs, ds0, rfl, h1, h2, h3⟩ := env_get h q
    refine ⟨ds0, hs, ha.ok h e1 n fun p fu1 hp r1 => ?_⟩
    obtain ⟨l, rfl, w1, w2, w3⟩ := seqT_ok hp e2
    refine ⟨l, rfl, ?_, k.nx _ fu1 ⟨_, rfl, env_set h ⟨_, rfl, ?_, ?_, fun x hx => ?_⟩⟩ r1⟩
    · have := Nat.le_of_ble_eq_true hb
      exact Nat.le_trans (by dsimp only at this; omega : ds0.length + l.length ≤ 100000) (by decide)
    · rw [List.length_append]; dsimp only; omega
    · rw [List.length_append]; dsimp only; omega
    · rcases List.mem_append.mp hx with hx | hx
      · exact join_l (h3 x hx)
      · exact join_r (w3 x hx)
  · cases e⟩
def aAug (i : Nat) (g : Ty → Ty → Option Ty) (fa : AE) : AW := fun env => match env[i]? with
  | some (.va t) => (fa env).bind fun p => (g t p.1).map fun t' => rNx (env.set i (.va t')) p.2
  | _ => none
instance (i : Nat) (f : D → D → Option D) (g : Ty → Ty → Option Ty) [ho : AbO M f g] [ha : AbE M wa fa] : AbW M (zAug i f wa) (aAug i g fa) := ⟨fun {env ρ fu B r} h e n k => by
  unfold aAug at e
  split at e
  · rename_i t q
    obtain ⟨⟨t1, c1⟩, e1, e⟩ := Option.bind_eq_some_iff.mp e
    obtain ⟨t', e2, e3⟩ := Option.map_eq_some_iff.mp e
    cases e3
    obtain ⟨s, hs, d0, rfl, h1⟩ := env_get h q
    refine ⟨d0, hs, ha.ok h e1 n fun p fu1 hp r1 => ?_⟩
    obtain ⟨d, hd, ht⟩ := ho.ok h1 hp e2
    exact ⟨d, hd, k.nx _ fu1 ⟨_, rfl, env_set h ⟨_, rfl, ht⟩⟩ r1⟩
  · cases e⟩
def aPar (i j : Nat) (f1 f2 : AEnv → Option (ASl × Nat)) : AW := fun env => (f1 env).bind fun p => (f2 env).map fun q => rNx ((env.set i p.1).set j q.1) (p.2 + q.2)
instance (i j : Nat) {w1 w2 : WR} {f1 f2 : AEnv → Option (ASl × Nat)} [h1 : AbR M w1 f1] [h2 : AbR M w2 f2] : AbW M (zPar i j w1 w2) (aPar i j f1 f2) := ⟨fun {env ρ fu B r} h e n k => by
  obtain ⟨⟨t1, c1⟩, e1, e⟩ := Option.bind_eq_some_iff.mp e
  obtain ⟨⟨t2, c2⟩, e2, e3⟩ := Option.map_eq_some_iff.mp e
  cases e3
  refine h1.ok h e1 (n.mono (Nat.le_add_right _ _)) fun p fu1 hp r1 => ?_
  exact h2.ok h e2 (En.next n r1) fun q fu2 hq r2 => k.nx _ fu2 ⟨_, rfl, env_set (env_set h hp) hq⟩ (r1.trans r2)⟩
def aPar3 (i j l : Nat) (f1 f2 f3 : AEnv → Option (ASl × Nat)) : AW := fun env => (f1 env).bind fun p => (f2 env).bind fun q => (f3 env).map fun r => rNx (((env.set i p.1).set j q.1).set l r.1) (p.2 + (q.2 + r.2))
instance (i j l : Nat) {w1 w2 w3 : WR} {f1 f2 f3 : AEnv → Option (ASl × Nat)} [h1 : AbR M w1 f1] [h2 : AbR M w2 f2] [h3 : AbR M w3 f3] : AbW M (zPar3 i j l w1 w2 w3) (aPar3 i j l f1 f2 f3) := ⟨fun {env ρ fu B r} h e n k => by
  obtain ⟨⟨t1, c1⟩, e1, e⟩ := Option.bind_eq_some_iff.mp e
  obtain ⟨⟨t2, c2⟩, e2, e⟩ := Option.bind_eq_some_iff.mp e
  obtain ⟨⟨t3, c3⟩, e3, e4⟩ := Option.map_eq_some_iff.mp e
  cases e4
  refine h1.ok h e1 (n.mono (Nat.le_add_right _ _)) fun p fu1 hp r1 => ?_
  have n1 := En.next n r1
  refine h2.ok h e2 (n1.mono (Nat.le_add_right _ _)) fun q fu2 hq r2 => ?_
  exact h3.ok h e3 (En.next n1 r2) fun z fu3 hz r3 => k.nx _ fu3 ⟨_, rfl, env_set (env_set (env_set h hp) hq) hz⟩ (r1.trans (r2.trans r3))⟩
def seqR (r1 r2 : Rs) : Option Rs := (jE r1.bk r2.bk).bind fun b => (jE r1.ct r2.ct).map fun c => ⟨r2.nx, oJoin join r1.rt r2.rt, b, c, r1.c + r2.c⟩
def aSq (f1 f2 : AW) : AW := fun env => (f1 env).bind fun r1 => match r1.nx with
  | none => some r1
  | some e => (f2 e).bind (seqR r1)
instance {w w' : WS} {f1 f2 : AW} [h1 : AbW M w f1] [h2 : AbW M w' f2] : AbW M (zSeq w w') (aSq f1 f2) := ⟨fun {env ρ fu B r} h e n k => by
  obtain ⟨r1, e1, e⟩ := Option.bind_eq_some_iff.mp e
  cases hn : r1.nx with
  | none =>
    rw [hn] at e
    cases e
    refine h1.ok h e1 n ⟨fun ρ' fu' q _ => ?_, k.rt, k.bk, k.ct⟩
    obtain ⟨_, z, _⟩ := q
    rw [hn] at z; cases z
  | some e' =>
    rw [hn] at e
    obtain ⟨r2, e2, e⟩ := Option.bind_eq_some_iff.mp e
    obtain ⟨b, jb, e⟩ := Option.bind_eq_some_iff.mp e
    obtain ⟨c, jc, e4⟩ := Option.map_eq_some_iff.mp e
    cases e4
    have le : r1.c ≤ r1.c + r2.c := Nat.le_add_right _ _
    refine h1.ok h e1 (n.mono le) ⟨fun ρ' fu' q x => ?_, fun d fu' q x => k.rt d fu' (oty_l q) (x.mono le), fun ρ' fu' q x => k.bk ρ' fu' (jE_l jb q) (x.mono le), fun ρ' fu' q x => k.ct ρ' fu' (jE_l jc q) (x.mono le)⟩
    obtain ⟨z, hz, h'⟩ := q
    rw [hn] at hz
    cases hz
    exact h2.ok h' e2 (n.next x) ⟨fun ρ f q y => k.nx ρ f q (x.trans y), fun d f q y => k.rt d f (oty_r q) (x.trans y), fun ρ f q y => k.bk ρ f (jE_r jb q) (x.trans y), fun ρ f q y => k.ct ρ f (jE_r jc q) (x.trans y)⟩⟩
def altR (c : Nat) (r1 r2 : Rs) : Option Rs := (jE r1.nx r2.nx).bind fun a => (jE r1.bk r2.bk).bind fun b => (jE r1.ct r2.ct).map fun d => ⟨a, oJoin join r1.rt r2.rt, b, d, c + max r1.c r2.c⟩
def aIfS (ft : AT) (f1 f2 : AW) : AW := fun env => (ft env).bind fun p => match p.1, p.2.1 with
  | some e, some f => (f1 e).bind fun r1 => (f2 f).bind fun r2 => altR p.2.2 r1 r2
  | some e, none => (f1 e).map fun r => { r with c := p.2.2 + r.c }
  | none, some f => (f2 f).map fun r => { r with c := p.2.2 + r.c }
  | none, none => some ⟨none, none, none, none, p.2.2⟩
instance {w w' : WS} {f1 f2 : AW} [ht : AbT M u ft] [h1 : AbW M w f1] [h2 : AbW M w' f2] : AbW M (zIf u w w') (aIfS ft f1 f2) := ⟨fun {env ρ fu B r} h e n k => by
  obtain ⟨⟨et, ef, c⟩, e0, e⟩ := Option.bind_eq_some_iff.mp e
  dsimp only at e
  have hc : c ≤ r.c := by
    cases et <;> cases ef
    · cases e; exact Nat.le_refl _
    · obtain ⟨a, _, e4⟩ := Option.map_eq_some_iff.mp e; cases e4; exact Nat.le_add_right _ _
    · obtain ⟨a, _, e4⟩ := Option.map_eq_some_iff.mp e; cases e4; exact Nat.le_add_right _ _
    · obtain ⟨r1, _, e⟩ := Option.bind_eq_some_iff.mp e
      obtain ⟨r2, _, e⟩ := Option.bind_eq_some_iff.mp e
      obtain ⟨_, _, e⟩ := Option.bind_eq_some_iff.mp e
      obtain ⟨_, _, e⟩ := Option.bind_eq_some_iff.mp e
      obtain ⟨_, _, e⟩ := Option.map_eq_some_iff.mp e
      cases e; exact Nat.le_add_right _ _
  refine ht.ok h e0 (n.mono hc) fun b fu1 t1 t2 x => ?_
  cases b with
  | true =>
    rw [if_pos rfl]
    obtain ⟨e', rfl, h'⟩ := t1 rfl
    cases ef with
    | none =>
      obtain ⟨r1, q1, e4⟩ := Option.map_eq_some_iff.mp e
      cases e4
      exact h1.ok h' q1 (En.next n x) (k.nxt x)
    | some f' =>
      obtain ⟨r1, q1, e⟩ := Option.bind_eq_some_iff.mp e
      obtain ⟨r2, q2, e⟩ := Option.bind_eq_some_iff.mp e
      obtain ⟨_, j1, e⟩ := Option.bind_eq_some_iff.mp e
      obtain ⟨_, j2, e⟩ := Option.bind_eq_some_iff.mp e
      obtain ⟨_, j3, e⟩ := Option.map_eq_some_iff.mp e
      cases e
      have le : r1.c ≤ max r1.c r2.c := Nat.le_max_left _ _
      exact h1.ok h' q1 ((En.next n x).mono le) ⟨fun ρ f q y => k.nx ρ f (jE_l j1 q) (x.trans (y.mono le)), fun d f q y => k.rt d f (oty_l q) (x.trans (y.mono le)), fun ρ f q y => k.bk ρ f (jE_l j2 q) (x.trans (y.mono le)), fun ρ f q y => k.ct ρ f (jE_l j3 q) (x.trans (y.mono le))⟩
  | false =>
    rw [if_neg Bool.false_ne_true]
    obtain ⟨e', rfl, h'⟩ := t2 rfl
    cases et with
    | none =>
      obtain ⟨r1, q1, e4⟩ := Option.map_eq_some_iff.mp e
      cases e4
      exact h2.ok h' q1 (En.next n x) (k.nxt x)
    | some f' =>
      obtain ⟨r1, q1, e⟩ := Option.bind_eq_some_iff.mp e
      obtain ⟨r2, q2, e⟩ := Option.bind_eq_some_iff.mp e
      obtain ⟨_, j1, e⟩ := Option.bind_eq_some_iff.mp e
      obtain ⟨_, j2, e⟩ := Option.bind_eq_some_iff.mp e
      obtain ⟨_, j3, e⟩ := Option.map_eq_some_iff.mp e
      cases e
      have le : r2.c ≤ max r1.c r2.c := Nat.le_max_right _ _
      exact h2.ok h' q2 ((En.next n x).mono le) ⟨fun ρ f q y => k.nx ρ f (jE_r j1 q) (x.trans (y.mono le)), fun d f q y => k.rt d f (oty_r q) (x.trans (y.mono le)), fun ρ f q y => k.bk ρ f (jE_r j2 q) (x.trans (y.mono le)), fun ρ f q y => k.ct ρ f (jE_r j3 q) (x.trans (y.mono le))⟩⟩
/-! ### lists that stay; looks at lists -/
def aFrz (i : Nat) (env : AEnv) : AEnv := match env[i]? with
  | some (.ow t lo hi) => env.set i (.va (.lst t lo hi))
  | some .top => env
  | _ => env
theorem frz_ok {i : Nat} {env : AEnv} {ρ : List Sl} (h : EnvOk M env ρ) : EnvOk M (aFrz i env) (match ρ[i]? with
  | some (.ow ds) => ρ.set i (.va (.lst ds))
  | _ => ρ) := by
  unfold aFrz
  cases q : env[i]? with
  | none =>
    have : ρ[i]? = none := by
      rw [List.getElem?_eq_none_iff] at q ⊢
      rw [env_len h]; exact q
    rw [this]; exact h
  | some a =>
    obtain ⟨s, hs, ha⟩ := env_get h q
    rw [hs]
    have self : ∀ s', HasS M a s' → EnvOk M env (ρ.set i s') := fun s' hs' => by
      have h2 := env_set (i := i) h hs'
      have : env.set i a = env := by
        refine List.ext_getElem? fun j => ?_
        by_cases e : i = j
        · subst e
          rw [q, List.getElem?_set_self (List.getElem?_eq_some_iff.mp q).1]
        · rw [List.getElem?_set_ne e]
      rw [this] at h2; exact h2
    cases a with
    | top => cases s <;> first | exact h | exact self _ trivial
    | va t => obtain ⟨d, rfl, _⟩ := ha; exact h
    | ow t lo hi =>
      obtain ⟨ds, rfl, h1, h2, h3⟩ := ha
      exact env_set h ⟨_, rfl, by unfold Has; exact ⟨ds, rfl, h1, h2, h3⟩⟩
instance (i : Nat) {w : WS} {f : AW} [h1 : AbW M w f] : AbW M (zFz i w) (fun env => f (aFrz i env)) := ⟨fun {env ρ fu B r} h e n k => by
  have h' := frz_ok (i := i) h
  have := h1.ok h' e n k
  unfold zFz
  split
  · rename_i ds q; rw [q] at this; exact this
  · rename_i q
    split at this
    · rename_i ds' q'; exact absurd q' (q ds')
    · exact this⟩
def aThaw : ASl → ASl
  | .ow t lo hi => .va (.lst t lo hi)
  | a => a
theorem thaw_ok (a : ASl) (s : Sl) (h : HasS M a s) : HasS M (aThaw a) (thaw s) := by
  cases a with
  | top => trivial
  | va t => obtain ⟨d, rfl, h⟩ := h; exact ⟨d, rfl, h⟩
  | ow t lo hi =>
    obtain ⟨ds, rfl, h1, h2, h3⟩ := h
    exact ⟨_, rfl, by unfold Has; exact ⟨ds, rfl, h1, h2, h3⟩⟩
/-- of a test with lists looked at only whether it can be so is kept -/
instance [ht : AbT M u ft] : AbT M (wBorT u) (fun env => (ft (env.map aThaw)).map fun p => (if p.1.isSome then some env else none, if p.2.1.isSome then some env else none, p.2.2)) := ⟨fun {env ρ fu R et ef c} h e n k => by
  obtain ⟨⟨x, y, c1⟩, e1, e4⟩ := Option.map_eq_some_iff.mp e
  cases e4
  refine ht.ok (env_map thaw_ok h) e1 n fun b fu1 h1 h2 r1 => k b fu1 (fun z => ?_) (fun z => ?_) r1
  · obtain ⟨e', rfl, _⟩ := h1 z
    exact ⟨env, rfl, h⟩
  · obtain ⟨e', rfl, _⟩ := h2 z
    exact ⟨env, rfl, h⟩⟩

/-! ### for -/
def endR (skip : Bool) (env : AEnv) (r : Rs) : Option (Option AEnv) := jE (if skip then none else some env) r.bk
def aLoop (g : Ty → AEnv → Option AEnv) (f : AW) (T : Ty) (lo : Nat) : Nat → Nat → AEnv → Option Rs
  | 0, _, env => some (rNx env 0)
  | m + 1, k, env => (g T env).bind fun e1 => (f e1).bind fun r => (jE r.nx r.ct).bind fun nxt => (endR (Nat.blt k lo) env r).bind fun out => match nxt with
    | none => some ⟨out, r.rt, none, none, r.c⟩
    | some e2 => if envSub e2 env then (jE (some env) out).map fun out' => ⟨out', r.rt, none, none, (m + 1) * r.c⟩ else
      (aLoop g f T lo m (k + 1) e2).bind fun r2 => (jE out r2.nx).map fun o => ⟨o, oJoin join r.rt r2.rt, none, none, r.c + r2.c⟩
theorem loop_same {g : WG} {w : WS} {ga : Ty → AEnv → Option AEnv} {f : AW} {T : Ty} {env e1 : AEnv} {r : Rs} {nxt out : Option AEnv} {B : DEnds} [hg : AbG M g ga] [hw : AbW M w f] (eg : ga T env = some e1) (ef : f e1 = some r)
    (en : jE r.nx r.ct = some nxt) (hs : ∀ e2, nxt = some e2 → envSub e2 env = true) (hb : ∀ ρ, OEnv M r.bk ρ → OEnv M out ρ) (ho : ∀ ρ, EnvOk M env ρ → OEnv M out ρ) : ∀ (ds : List D) (ρ : List Sl) (fu : Fu), EnvOk M env ρ → (∀ x ∈ ds, Has M T x) → En (ds.length * r.c) fu →
      (∀ ρ' fu', OEnv M out ρ' → Fr (ds.length * r.c) fu fu' → B.nx ρ' fu') → (∀ d fu', OTy M r.rt d → Fr (ds.length * r.c) fu fu' → B.rt d fu') → zLoop g w B ds ρ fu
  | [], ρ, fu, h, _, _, k, _ => k ρ fu (ho ρ h) Fr.refl
  | d :: ds, ρ, fu, h, hd, n, k1, k2 => by
    have hmul : (d :: ds).length * r.c = r.c + ds.length * r.c := by rw [List.length_cons, Nat.add_mul]; omega
    rw [hmul] at n k1 k2
    refine hg.ok h (hd d List.mem_cons_self) eg fun ρ' h1 => ?_
    have step : ∀ ρ2 fu2, OEnv M nxt ρ2 → Fr r.c fu fu2 → zLoop g w B ds ρ2 fu2 := fun ρ2 fu2 q x => by
      obtain ⟨e2, rfl, q⟩ := q
      exact loop_same eg ef en hs hb ho ds ρ2 fu2 (envSub_ok (hs _ rfl) q) (fun y hy => hd y (List.mem_cons_of_mem _ hy)) (n.next x) (fun ρ3 fu3 z y => k1 ρ3 fu3 z (x.trans y)) fun ρ3 fu3 z y => k2 ρ3 fu3 z (x.trans y)
    exact hw.ok h1 ef (n.mono (Nat.le_add_right _ _)) ⟨fun ρ2 fu2 q x => step ρ2 fu2 (jE_l en q) x, fun d2 fu2 q x => k2 d2 fu2 q (x.mono (Nat.le_add_right _ _)), fun ρ2 fu2 q x => k1 ρ2 fu2 (hb ρ2 q) (x.mono (Nat.le_add_right _ _)), fun ρ2 fu2 q x => step ρ2 fu2 (jE_r en q) x⟩
theorem loop_ok {g : WG} {w : WS} {ga : Ty → AEnv → Option AEnv} {f : AW} {T : Ty} {lo : Nat} {B : DEnds} [hg : AbG M g ga] [hw : AbW M w f] : ∀ (m k : Nat) (env : AEnv) (ds : List D) (ρ : List Sl) (fu : Fu) (r : Rs), aLoop ga f T lo m k env = some r → EnvOk M env ρ → ds.length ≤ m → lo ≤ k + ds.length →
    (∀ x ∈ ds, Has M T x) → En r.c fu → (∀ ρ' fu', OEnv M r.nx ρ' → Fr r.c fu fu' → B.nx ρ' fu') → (∀ d fu', OTy M r.rt d → Fr r.c fu fu' → B.rt d fu') → zLoop g w B ds ρ fu
  | 0, k, env, ds, ρ, fu, r, e, h, hm, hlo, hd, n, k1, k2 => by
    cases e
    have : ds = [] := List.length_eq_zero_iff.mp (by omega)
    subst this
    exact k1 ρ fu ⟨env, rfl, h⟩ Fr.refl
  | m + 1, k, env, ds, ρ, fu, r, e, h, hm, hlo, hd, n, k1, k2 => by
    obtain ⟨e1, eg, e⟩ := Option.bind_eq_some_iff.mp e
    obtain ⟨r1, ef, e⟩ := Option.bind_eq_some_iff.mp e
    obtain ⟨nxt, en, e⟩ := Option.bind_eq_some_iff.mp e
    obtain ⟨out, eo, e⟩ := Option.bind_eq_some_iff.mp e
    have ends : ds = [] → OEnv M out ρ := fun z => by
      subst z
      have : Nat.blt k lo = false := by
        rw [Bool.eq_false_iff]
        intro q
        rw [Nat.blt_eq] at q
        simp at hlo
        omega
      unfold endR at eo
      rw [this] at eo
      exact jE_l eo ⟨env, rfl, h⟩
    have hbk : ∀ ρ, OEnv M r1.bk ρ → OEnv M out ρ := fun ρ q => jE_r eo q
    cases nxt with
    | none =>
      cases e
      cases ds with
      | nil => exact k1 ρ fu (ends rfl) Fr.refl
      | cons d ds =>
        refine hg.ok h (hd d List.mem_cons_self) eg fun ρ' h1 => ?_
        refine hw.ok h1 ef n ⟨fun ρ2 fu2 q x => ?_, k2, fun ρ2 fu2 q x => k1 ρ2 fu2 (hbk ρ2 q) x, fun ρ2 fu2 q x => ?_⟩
        · obtain ⟨_, z, _⟩ := jE_l en q; cases z
        · obtain ⟨_, z, _⟩ := jE_r en q; cases z
    | some e2 =>
      dsimp only at e
      split at e
      · rename_i hs
        obtain ⟨out', eo', e4⟩ := Option.map_eq_some_iff.mp e
        cases e4
        have le : ds.length * r1.c ≤ (m + 1) * r1.c := Nat.mul_le_mul_right _ hm
        exact loop_same (out := out') eg ef en (fun e3 z => by cases z; exact hs) (fun ρ q => jE_r eo' (hbk ρ q)) (fun ρ q => jE_l eo' ⟨env, rfl, q⟩) ds ρ fu h hd (n.mono le) (fun ρ' fu' q x => k1 ρ' fu' q (x.mono le)) (fun ρ' fu' q x => k2 ρ' fu' q (x.mono le))
      · obtain ⟨r2, e5, e⟩ := Option.bind_eq_some_iff.mp e
        obtain ⟨o, jo, e4⟩ := Option.map_eq_some_iff.mp e
        cases e4
        cases ds with
        | nil => exact k1 ρ fu (jE_l jo (ends rfl)) Fr.refl
        | cons d ds =>
          have le : r1.c ≤ r1.c + r2.c := Nat.le_add_right _ _
          rw [List.length_cons] at hm hlo
          refine hg.ok h (hd d List.mem_cons_self) eg fun ρ' h1 => ?_
          have step : ∀ ρ2 fu2, OEnv M (some e2) ρ2 → Fr r1.c fu fu2 → zLoop g w B ds ρ2 fu2 := fun ρ2 fu2 q x => by
            obtain ⟨_, z, q⟩ := q
            cases z
            exact loop_ok m (k + 1) e2 ds ρ2 fu2 r2 e5 q (by omega) (by omega) (fun y hy => hd y (List.mem_cons_of_mem _ hy)) (n.next x) (fun ρ3 fu3 z y => k1 ρ3 fu3 (jE_r jo z) (x.trans y)) fun ρ3 fu3 z y => k2 ρ3 fu3 (oty_r z) (x.trans y)
          exact hw.ok h1 ef (n.mono le) ⟨fun ρ2 fu2 q x => step ρ2 fu2 (jE_l en q) x, fun d2 fu2 q x => k2 d2 fu2 (oty_l q) (x.mono le), fun ρ2 fu2 q x => k1 ρ2 fu2 (jE_l jo (hbk ρ2 q)) (x.mono le), fun ρ2 fu2 q x => step ρ2 fu2 (jE_r en q) x⟩
def aFor (fm : AM) (g : Ty → AEnv → Option AEnv) (f : AW) : AW := fun env => (fm env).bind fun p => (aLoop g f p.1 p.2.1 p.2.2.1 0 env).map fun r => { r with c := p.2.2.2 + r.c }
instance {wi : WA} {g : WG} {w : WS} {ga : Ty → AEnv → Option AEnv} {f : AW} [hi : AbM M wi fm] [hg : AbG M g ga] [hw : AbW M w f] : AbW M (zFor wi g w) (aFor fm ga f) := ⟨fun {env ρ fu B r} h e n k => by
  obtain ⟨⟨T, lo, hi', c0⟩, e1, e⟩ := Option.bind_eq_some_iff.mp e
  obtain ⟨r1, e2, e4⟩ := Option.map_eq_some_iff.mp e
  cases e4
  refine hi.ok h e1 (n.mono (Nat.le_add_right _ _)) fun ds fu1 q1 q2 q3 x => ?_
  have k' := k.nxt x
  exact loop_ok _ 0 env ds ρ fu1 r1 e2 h q2 (by dsimp only at q1 ⊢; omega) q3 (En.next n x) k'.nx k'.rt⟩

/-! ### defs -/
def wSig (M : Sem) (as : List Ty) (T : Ty) (c : Nat) : WF := fun ds fu Q => HasL M as ds ∧ En c fu ∧ ∀ d fu', Has M T d → Fr c fu fu' → Q d fu'
def sgOf (as : List Ty) (T : Ty) (c : Nat) : List Ty → Option (Ty × Nat) := fun ts => if SbL ts as then some (T, c) else none
theorem abf_sig (as : List Ty) (T : Ty) (c : Nat) : AbF M (wSig M as T c) (sgOf as T c) := ⟨fun {a T' c' x fu Q} h e n k => by
  obtain ⟨hs, e⟩ := ite_none e
  cases e
  exact ⟨SbL_ok hs h, n, k⟩⟩
def startA (n : Nat) (as : List Ty) : AEnv := as.map .va ++ List.replicate (n - as.length) .top
def chk (f : AW) (n : Nat) (as : List Ty) (T : Ty) (c : Nat) : Bool := match f (startA n as) with
  | none => false
  | some r => r.bk.isNone && r.ct.isNone && Nat.ble r.c c && (match r.rt with | none => true | some t => Sb t T) && (match r.nx with | none => true | some _ => Sb .non T)
theorem env_tops : ∀ n : Nat, EnvOk M (List.replicate n .top) (List.replicate n .un)
  | 0 => rfl
  | n + 1 => ⟨.un, _, List.replicate_succ, trivial, env_tops n⟩
theorem env_start {n : Nat} : ∀ {as : List Ty} {ds : List D}, HasL M as ds → EnvOk M (as.map .va ++ List.replicate n .top) (ds.map .va ++ List.replicate n .un)
  | [], ds, h => by unfold HasL at h; subst h; exact env_tops n
  | a :: as, ds, h => by
    unfold HasL at h
    obtain ⟨x, r, rfl, h1, h2⟩ := h
    exact ⟨.va x, _, rfl, ⟨x, rfl, h1⟩, env_start h2⟩
theorem of_chk {w : WS} {f : AW} {N : List Str} {as : List Ty} {T : Ty} {c : Nat} [hw : AbW M w f] (h : chk f N.length as T c = true) : ∀ ds fu Q, wSig M as T c ds fu Q → wFn N w ds fu Q := fun ds fu Q hs => by
  obtain ⟨h1, n, k⟩ := hs
  unfold chk at h
  split at h
  · cases h
  · rename_i r e
    simp only [Bool.and_eq_true, Option.isNone_iff_eq_none] at h
    obtain ⟨⟨⟨⟨b1, b2⟩, b3⟩, b4⟩, b5⟩ := h
    have hc := Nat.le_of_ble_eq_true b3
    have he : EnvOk M (startA N.length as) (startD N ds) := by
      unfold startA startD
      rw [hasL_len h1]
      exact env_start h1
    refine hw.ok he e (n.mono hc) ⟨fun ρ' fu' q x => ?_, fun d fu' q x => ?_, fun ρ' fu' q x => ?_, fun ρ' fu' q x => ?_⟩
    · obtain ⟨e', z, _⟩ := q
      rw [z] at b5
      exact k .non fu' (Sb_ok b5 (by unfold Has; rfl)) (x.mono hc)
    · obtain ⟨t, z, q⟩ := q
      rw [z] at b4
      exact k d fu' (Sb_ok b4 q) (x.mono hc)
    · obtain ⟨e', z, _⟩ := q
      rw [b1] at z; cases z
    · obtain ⟨e', z, _⟩ := q
      rw [b2] at z; cases z
end
end Z
namespace Z
open PySem PySem.Spec L2

/-! ## operations on shapes -/
class SemOk (M : Sem) : Prop where
  ok : ∀ {k : Nat} {T : Ty} {d : D}, M.sh k = some T → M.Pr k d → Has M T d
def opn (M : Sem) : Ty → List Ty
  | .sem k => match M.sh k with
    | some T => alts T
    | none => [.sem k]
  | t => [t]
def altM (M : Sem) (t : Ty) : List Ty := (alts t).flatMap (opn M)
theorem altM_ok {M : Sem} [hM : SemOk M] {t : Ty} {d : D} (h : Has M t d) : ∃ u ∈ altM M t, Has M u d := by
  obtain ⟨u, hu, h⟩ := alts_ok h
  have : ∃ v ∈ opn M u, Has M v d := by
    unfold opn
    split
    · rename_i k
      split
      · rename_i T e
        unfold Has at h
        exact alts_ok (hM.ok e h)
      · exact ⟨_, List.mem_singleton.mpr rfl, h⟩
    · exact ⟨_, List.mem_singleton.mpr rfl, h⟩
  obtain ⟨v, hv, h⟩ := this
  exact ⟨v, List.mem_flatMap.mpr ⟨u, hu, hv⟩, h⟩
def allJ : List (Option Ty) → Option Ty
  | [] => some .bot
  | o :: l => match o with
    | some t => (allJ l).map fun u => join u t
    | none => none
theorem allJ_ok {M : Sem} {T : Ty} : ∀ {l : List (Option Ty)} {o : Option Ty}, allJ l = some T → o ∈ l → ∃ t, o = some t ∧ ∀ d, Has M t d → Has M T d
  | [], _, _, h => by cases h
  | p :: l, o, e, h => by
    unfold allJ at e
    cases p with
    | none => cases e
    | some t =>
      obtain ⟨u, e1, e2⟩ := Option.map_eq_some_iff.mp e
      cases e2
      rcases List.mem_cons.mp h with rfl | h
      · exact ⟨t, rfl, fun d h => join_r h⟩
      · obtain ⟨t', rfl, q⟩ := allJ_ok e1 h
        exact ⟨t', rfl, fun d h => join_l (q d h)⟩
def dst1 (M : Sem) (g : Ty → Option Ty) (a : Ty) : Option Ty := allJ ((altM M a).map g)
def dst2 (M : Sem) (g : Ty → Ty → Option Ty) (a b : Ty) : Option Ty := allJ ((altM M a).flatMap fun x => (altM M b).map fun y => g x y)
theorem abu_of {M : Sem} [SemOk M] {f : D → Option D} {g : Ty → Option Ty} (h : ∀ {a T x}, Has M a x → g a = some T → ∃ d, f x = some d ∧ Has M T d) : AbU M f (dst1 M g) := ⟨fun {a T x} h1 e => by
  obtain ⟨u, hu, h1⟩ := altM_ok h1
  obtain ⟨t, e1, q⟩ := allJ_ok e (List.mem_map.mpr ⟨u, hu, rfl⟩)
  obtain ⟨d, hd, ht⟩ := h h1 e1
  exact ⟨d, hd, q d ht⟩⟩
theorem abo_of {M : Sem} [SemOk M] {f : D → D → Option D} {g : Ty → Ty → Option Ty} (h : ∀ {a b T x y}, Has M a x → Has M b y → g a b = some T → ∃ d, f x y = some d ∧ Has M T d) : AbO M f (dst2 M g) := ⟨fun {a b T x y} h1 h2 e => by
  obtain ⟨u, hu, h1⟩ := altM_ok h1
  obtain ⟨v, hv, h2⟩ := altM_ok h2
  obtain ⟨t, e1, q⟩ := allJ_ok e (List.mem_flatMap.mpr ⟨u, hu, List.mem_map.mpr ⟨v, hv, rfl⟩⟩)
  obtain ⟨d, hd, ht⟩ := h h1 h2 e1
  exact ⟨d, hd, q d ht⟩⟩
def dstC (M : Sem) (g : Ty → Option Ty) : List Ty → Option Ty
  | [a] => dst1 M g a
  | _ => none
theorem abc_of {M : Sem} [SemOk M] {f : List D → Option D} {g : Ty → Option Ty} (h : ∀ {a T x}, Has M a x → g a = some T → ∃ d, f [x] = some d ∧ Has M T d) : AbC M f (dstC M g) := ⟨fun {a T x} h1 e => by
  unfold dstC at e
  split at e
  · unfold HasL HasL at h1
    obtain ⟨y, r, rfl, h1, rfl⟩ := h1
    exact (abu_of (f := fun x => f [x]) h).ok h1 e
  · cases e⟩
section
variable {M : Sem} [SemOk M]
theorem has_int {i lo hi : Int} (h1 : lo ≤ i) (h2 : i ≤ hi) : Has M (.int lo hi) (.int i) := by unfold Has; exact ⟨i, rfl, h1, h2⟩
theorem has_bl {b : Bool} : Has M (.bl none) (.bl b) := by unfold Has; exact ⟨b, rfl, fun c e => by cases e⟩
theorem has_tt {b : Bool} : Has M (.bl (some b)) (.bl b) := by unfold Has; exact ⟨b, rfl, fun c e => by cases e; rfl⟩
/-! ### + -/
def tAdd (a b : Ty) : Option Ty := match a with
  | .int x y => match b with | .int z w => some (.int (x + z) (y + w)) | _ => none
  | .tup ts => match b with
    | .tup us => if Nat.ble (ts.length + us.length) 100000 then some (.tup (ts ++ us)) else none
    | .tupN t lo hi => if Nat.ble (ts.length + hi) 100000 then some (.tupN (join (joins ts) t) (ts.length + lo) (ts.length + hi)) else none
    | _ => none
  | .tupN t lo hi => match tupT b with
    | some (u, lo', hi') => if Nat.ble (hi + hi') 100000 then some (.tupN (join t u) (lo + lo') (hi + hi')) else none
    | none => none
  | .lst t lo hi => match b with | .lst u lo' hi' => if Nat.ble (hi + hi') 100000 then some (.lst (join t u) (lo + lo') (hi + hi')) else none | _ => none
  | _ => match txT a with
    | some (lo, hi, cs) => match txT b with
      | some (lo', hi', cs') => if Nat.ble (hi + hi') 100000 then some (.str (lo + lo') (hi + hi') (rgAdd cs cs')) else none
      | none => none
    | none => none
theorem rgAdd_ok : ∀ {a b : List (Nat × Nat)} {c : Nat}, (inR a c = true ∨ inR b c = true) → inR (rgAdd a b) c = true
  | [], b, c, h => by
    unfold rgAdd
    rcases h with h | h
    · simp [inR] at h
    · exact h
  | p :: a, b, c, h => by
    unfold rgAdd
    rw [inR_cons, Bool.or_eq_true] at h
    split
    · rename_i hb
      refine rgAdd_ok ?_
      rcases h with (h | h) | h
      · exact .inr (rIn_ok hb h)
      · exact .inl h
      · exact .inr h
    · rw [inR_cons, Bool.or_eq_true]
      rcases h with (h | h) | h
      · exact .inl h
      · exact .inr (rgAdd_ok (.inl h))
      · exact .inr (rgAdd_ok (.inr h))
theorem size_le {n : Nat} (h : n ≤ 100000) : n ≤ sizeLine := size_pos (Nat.le_trans h (by decide))
theorem many_app {t u : Ty} {l r : List D} (h1 : ∀ x ∈ l, Has M t x) (h2 : ∀ x ∈ r, Has M u x) : ∀ x ∈ l ++ r, Has M (join t u) x := fun x hx => by
  rcases List.mem_append.mp hx with hx | hx
  · exact join_l (h1 x hx)
  · exact join_r (h2 x hx)
theorem tup_ofL {ts : List Ty} {l : List D} (h : HasL M ts l) : ∀ x ∈ l, Has M (joins ts) x := fun x hx => by
  obtain ⟨t, ht, q⟩ := hasL_mem h hx
  exact joins_ok ht q
theorem tAdd_ok {a b T : Ty} {x y : D} (h1 : Has M a x) (h2 : Has M b y) (e : tAdd a b = some T) : ∃ d, dAdd x y = some d ∧ Has M T d := by
  unfold tAdd at e
  split at e
  · split at e
    · cases e
      unfold Has at h1 h2
      obtain ⟨i, rfl, q1, q2⟩ := h1
      obtain ⟨j, rfl, q3, q4⟩ := h2
      exact ⟨_, rfl, has_int (by omega) (by omega)⟩
    · cases e
  · unfold Has at h1
    obtain ⟨l, rfl, h1⟩ := h1
    split at e
    · obtain ⟨hb, e⟩ := ite_none e
      cases e
      unfold Has at h2
      obtain ⟨r, rfl, h2⟩ := h2
      have hb := Nat.le_of_ble_eq_true hb
      exact ⟨_, if_pos (size_le (by rw [hasL_len h1, hasL_len h2]; exact hb)), by unfold Has; exact ⟨_, rfl, hasL_app h1 h2⟩⟩
    · obtain ⟨hb, e⟩ := ite_none e
      cases e
      unfold Has at h2
      obtain ⟨r, rfl, q1, q2, q3⟩ := h2
      have hb := Nat.le_of_ble_eq_true hb
      have hl := hasL_len h1
      exact ⟨_, if_pos (size_le (by omega)), by unfold Has; exact ⟨_, rfl, by rw [List.length_append]; omega, by rw [List.length_append]; omega, many_app (tup_ofL h1) q3⟩⟩
    · cases e
  · unfold Has at h1
    obtain ⟨l, rfl, q1, q2, q3⟩ := h1
    split at e
    · rename_i u lo' hi' e2
      obtain ⟨hb, e⟩ := ite_none e
      cases e
      have hb := Nat.le_of_ble_eq_true hb
      obtain ⟨r, rfl, w1, w2, w3⟩ := tupT_ok h2 e2
      exact ⟨_, if_pos (size_le (by omega)), by unfold Has; exact ⟨_, rfl, by rw [List.length_append]; omega, by rw [List.length_append]; omega, many_app q3 w3⟩⟩
    · cases e
  · unfold Has at h1
    obtain ⟨l, rfl, q1, q2, q3⟩ := h1
    split at e
    · obtain ⟨hb, e⟩ := ite_none e
      cases e
      have hb := Nat.le_of_ble_eq_true hb
      unfold Has at h2
      obtain ⟨r, rfl, w1, w2, w3⟩ := h2
      exact ⟨_, if_pos (size_le (by omega)), by unfold Has; exact ⟨_, rfl, by rw [List.length_append]; omega, by rw [List.length_append]; omega, many_app q3 w3⟩⟩
    · cases e
  · split at e
    · rename_i lo hi cs e1
      split at e
      · rename_i lo' hi' cs' e2
        obtain ⟨hb, e⟩ := ite_none e
        cases e
        have hb := Nat.le_of_ble_eq_true hb
        obtain ⟨l, rfl, q1, q2, q3⟩ := txT_ok h1 e1
        obtain ⟨r, rfl, w1, w2, w3⟩ := txT_ok h2 e2
        refine ⟨_, dAdd_S (size_le (by omega)), ?_⟩
        unfold Has
        refine ⟨_, rfl, by rw [List.length_append]; omega, by rw [List.length_append]; omega, fun c hc => ?_⟩
        rcases List.mem_append.mp hc with hc | hc
        · exact rgAdd_ok (.inl (q3 c hc))
        · exact rgAdd_ok (.inr (w3 c hc))
      · cases e
    · cases e
instance : AbO M dAdd (dst2 M tAdd) := abo_of tAdd_ok
/-! ### - * // % ** -/
def tSub (a b : Ty) : Option Ty := match a with
  | .int x y => match b with | .int z w => some (.int (x - w) (y - z)) | _ => none
  | _ => none
instance : AbO M dSub (dst2 M tSub) := abo_of fun {a b T x y} h1 h2 e => by
  unfold tSub at e
  split at e
  · split at e
    · cases e
      unfold Has at h1 h2
      obtain ⟨i, rfl, q1, q2⟩ := h1
      obtain ⟨j, rfl, q3, q4⟩ := h2
      exact ⟨.int (i - j), rfl, has_int (by omega) (by omega)⟩
    · cases e
  · cases e
def tNeg (a : Ty) : Option Ty := match a with
  | .int x y => some (.int (-y) (-x))
  | _ => none
instance : AbU M dNeg (dst1 M tNeg) := abu_of fun {a T x} h1 e => by
  unfold tNeg at e
  split at e
  · cases e
    unfold Has at h1
    obtain ⟨i, rfl, q1, q2⟩ := h1
    exact ⟨_, rfl, has_int (by omega) (by omega)⟩
  · cases e
def tMod (a b : Ty) : Option Ty := match a with
  | .int x y => match b with
    | .int z w => if decide (0 < z) then some (if decide (0 ≤ x) && decide (y < z) then .int x y else .int 0 (w - 1)) else none
    | _ => none
  | _ => none
instance : AbO M dMod (dst2 M tMod) := abo_of fun {a b T x y} h1 h2 e => by
  unfold tMod at e
  split at e
  · split at e
    · rename_i z w
      obtain ⟨hp, e⟩ := ite_none e
      cases e
      rw [decide_eq_true_eq] at hp
      unfold Has at h1 h2
      obtain ⟨i, rfl, q1, q2⟩ := h1
      obtain ⟨j, rfl, q3, q4⟩ := h2
      have hj : 0 < j := by omega
      refine ⟨.int (i % j), if_pos (decide_eq_true hj), ?_⟩
      split
      · rename_i h
        simp only [Bool.and_eq_true, decide_eq_true_eq] at h
        rw [Int.emod_eq_of_lt (by omega) (by omega)]
        exact has_int (by omega) (by omega)
      · have := Int.emod_nonneg i (show j ≠ 0 by omega)
        have := Int.emod_lt_of_pos i hj
        exact has_int (by omega) (by omega)
    · cases e
  · cases e
def tFdiv (a b : Ty) : Option Ty := match a with
  | .int x y => match b with
    | .int z w => if decide (0 < z) && decide (w < 1073741824) && decide (0 ≤ x) then some (.int (x / w) (y / z)) else none
    | _ => none
  | _ => none
instance : AbO M dFdiv (dst2 M tFdiv) := abo_of fun {a b T x y} h1 h2 e => by
  unfold tFdiv at e
  split at e
  · split at e
    · rename_i z w
      obtain ⟨hp, e⟩ := ite_none e
      cases e
      simp only [Bool.and_eq_true, decide_eq_true_eq] at hp
      unfold Has at h1 h2
      obtain ⟨i, rfl, q1, q2⟩ := h1
      obtain ⟨j, rfl, q3, q4⟩ := h2
      refine ⟨.int (i / j), if_pos (by simp only [Bool.and_eq_true, decide_eq_true_eq]; omega), has_int ?_ ?_⟩
      · refine Int.le_trans (Int.ediv_le_ediv (by omega) q1) ?_
        rw [Int.le_ediv_iff_mul_le (by omega)]
        have h5 : i / w * j ≤ i / w * w := Int.mul_le_mul_of_nonneg_left q4 (Int.ediv_nonneg (by omega) (by omega))
        have h6 := Int.ediv_mul_le i (show w ≠ 0 by omega)
        omega
      · refine Int.le_trans ?_ (Int.ediv_le_ediv (by omega) q2)
        rw [Int.le_ediv_iff_mul_le (by omega)]
        have h5 : i / j * z ≤ i / j * j := Int.mul_le_mul_of_nonneg_left q3 (Int.ediv_nonneg (by omega) (by omega))
        have h6 := Int.ediv_mul_le i (show j ≠ 0 by omega)
        omega
    · cases e
  · cases e
theorem repS_S (l : List Nat) (n : Nat) : repS (S l) n = S (List.replicate n l).flatten := by unfold repS S; simp
theorem flat_len {α : Type} (l : List α) : ∀ n : Nat, (List.replicate n l).flatten.length = n * l.length
  | 0 => by simp
  | n + 1 => by rw [List.replicate_succ, List.flatten_cons, List.length_append, flat_len l n, Nat.add_mul]; omega
theorem flat_mem {α : Type} {l : List α} {x : α} : ∀ {n : Nat}, x ∈ (List.replicate n l).flatten → x ∈ l
  | 0, h => by simp at h
  | n + 1, h => by
    rw [List.replicate_succ, List.flatten_cons] at h
    rcases List.mem_append.mp h with h | h
    · exact h
    · exact flat_mem h
def tMul (a b : Ty) : Option Ty := match b with
  | .int z w => match a with
    | .int x y => if decide (0 ≤ x) && decide (0 ≤ z) && decide (y < 2 ^ 64) then some (.int (x * z) (y * w)) else none
    | .tup ts => if decide (z = w) && decide (0 ≤ z) && decide (w ≤ 1000) && Nat.ble ts.length 1000 then some (.tup (List.replicate z.toNat ts).flatten) else if decide (0 ≤ z) && decide (w ≤ 1000) && Nat.ble ts.length 1000 then some (.tupN (joins ts) (z.toNat * ts.length) (w.toNat * ts.length)) else none
    | .tupN t lo hi => if decide (-(2 ^ 62) ≤ z) && decide (w ≤ 1000) && Nat.ble hi 1000 then some (.tupN t (z.toNat * lo) (w.toNat * hi)) else none
    | .lst t lo hi => if decide (-(2 ^ 62) ≤ z) && decide (w ≤ 1000) && Nat.ble hi 1000 then some (.lst t (z.toNat * lo) (w.toNat * hi)) else none
    | _ => match txT a with
      | some (lo, hi, cs) => if decide (-(2 ^ 62) ≤ z) && decide (w ≤ 100000) && Nat.ble hi 100 then some (.str (z.toNat * lo) (w.toNat * hi) cs) else none
      | none => none
  | _ => none
theorem rep_has {ts : List Ty} {l : List D} (h : HasL M ts l) : ∀ n : Nat, HasL M (List.replicate n ts).flatten (List.replicate n l).flatten
  | 0 => by simp only [List.replicate_zero, List.flatten_nil]; unfold HasL; rfl
  | n + 1 => by
    rw [List.replicate_succ, List.replicate_succ, List.flatten_cons, List.flatten_cons]
    exact hasL_app h (rep_has h n)
theorem tMul_ok {a b T : Ty} {x y : D} (h1 : Has M a x) (h2 : Has M b y) (e : tMul a b = some T) : ∃ d, dMUL x y = some d ∧ Has M T d := by
  unfold tMul at e
  split at e
  · rename_i z w
    unfold Has at h2
    obtain ⟨k, rfl, q3, q4⟩ := h2
    split at e
    · obtain ⟨hp, e⟩ := ite_none e
      cases e
      simp only [Bool.and_eq_true, decide_eq_true_eq] at hp
      unfold Has at h1
      obtain ⟨i, rfl, q1, q2⟩ := h1
      refine ⟨.int (i * k), if_pos ?_, has_int (Int.mul_le_mul q1 q3 (by omega) (by omega)) (Int.mul_le_mul q2 q4 (by omega) (by omega))⟩
      unfold mulOk
      simp only [Bool.or_eq_true, Bool.and_eq_true, decide_eq_true_eq]
      left; omega
    · unfold Has at h1
      obtain ⟨l, rfl, h1⟩ := h1
      have hl := hasL_len h1
      split at e
      · rename_i hp
        cases e
        simp only [Bool.and_eq_true, decide_eq_true_eq, Nat.ble_eq] at hp
        obtain rfl : k = z := by omega
        exact ⟨_, if_pos ⟨by omega, by omega, by omega⟩, by unfold Has; exact ⟨_, rfl, rep_has h1 _⟩⟩
      · obtain ⟨hp, e⟩ := ite_none e
        cases e
        simp only [Bool.and_eq_true, decide_eq_true_eq, Nat.ble_eq] at hp
        refine ⟨_, if_pos ⟨by omega, by omega, by omega⟩, ?_⟩
        unfold Has
        exact ⟨_, rfl, by rw [flat_len, hl]; exact Nat.mul_le_mul_right _ (by omega), by rw [flat_len, hl]; exact Nat.mul_le_mul_right _ (by omega), fun x hx => tup_ofL h1 x (flat_mem hx)⟩
    · obtain ⟨hp, e⟩ := ite_none e
      cases e
      simp only [Bool.and_eq_true, decide_eq_true_eq, Nat.ble_eq] at hp
      unfold Has at h1
      obtain ⟨l, rfl, q1, q2, h1⟩ := h1
      refine ⟨_, if_pos ⟨by omega, by omega, by omega⟩, ?_⟩
      unfold Has
      exact ⟨_, rfl, by rw [flat_len]; exact Nat.mul_le_mul (by omega) q1, by rw [flat_len]; exact Nat.mul_le_mul (by omega) q2, fun x hx => h1 x (flat_mem hx)⟩
    · obtain ⟨hp, e⟩ := ite_none e
      cases e
      simp only [Bool.and_eq_true, decide_eq_true_eq, Nat.ble_eq] at hp
      unfold Has at h1
      obtain ⟨l, rfl, q1, q2, h1⟩ := h1
      refine ⟨_, if_pos ⟨by omega, by omega, by omega⟩, ?_⟩
      unfold Has
      exact ⟨_, rfl, by rw [flat_len]; exact Nat.mul_le_mul (by omega) q1, by rw [flat_len]; exact Nat.mul_le_mul (by omega) q2, fun x hx => h1 x (flat_mem hx)⟩
    · split at e
      · rename_i lo hi cs et
        obtain ⟨hp, e⟩ := ite_none e
        cases e
        simp only [Bool.and_eq_true, decide_eq_true_eq, Nat.ble_eq] at hp
        obtain ⟨l, rfl, q1, q2, h1⟩ := txT_ok h1 et
        refine ⟨.str (repS (S l) k.toNat), if_pos ⟨by omega, by omega, by rw [S_len]; omega⟩, ?_⟩
        rw [repS_S]
        unfold Has
        exact ⟨_, rfl, by rw [flat_len]; exact Nat.mul_le_mul (by omega) q1, by rw [flat_len]; exact Nat.mul_le_mul (by omega) q2, fun x hx => h1 x (flat_mem hx)⟩
      · cases e
  · cases e
instance : AbO M dMUL (dst2 M tMul) := abo_of tMul_ok
instance : AbO M dMul (dst2 M fun a b => match a, b with | .int _ _, .int _ _ => tMul a b | _, _ => none) := abo_of fun {a b T x y} h1 h2 e => by
  split at e
  · obtain ⟨d, hd, ht⟩ := tMul_ok h1 h2 e
    unfold Has at h1 h2
    obtain ⟨i, rfl, _⟩ := h1
    obtain ⟨j, rfl, _⟩ := h2
    exact ⟨d, hd, ht⟩
  · cases e
def tPow (a b : Ty) : Option Ty := match a with
  | .int x y => match b with
    | .int z w => if decide (x = y) && decide (z = w) && decide (0 ≤ z) && decide (z ≤ 1000000) && decide (x.natAbs < 2 ^ 64) then some (.int (x ^ z.toNat) (x ^ z.toNat)) else none
    | _ => none
  | _ => none
instance : AbO M dPow (dst2 M tPow) := abo_of fun {a b T x y} h1 h2 e => by
  unfold tPow at e
  split at e
  · split at e
    · rename_i x0 y0 _ z w
      obtain ⟨hp, e⟩ := ite_none e
      cases e
      simp only [Bool.and_eq_true, decide_eq_true_eq] at hp
      unfold Has at h1 h2
      obtain ⟨i, rfl, q1, q2⟩ := h1
      obtain ⟨j, rfl, q3, q4⟩ := h2
      obtain rfl : i = x0 := by omega
      obtain rfl : j = z := by omega
      exact ⟨_, if_pos (by simp only [Bool.and_eq_true, decide_eq_true_eq]; exact ⟨⟨hp.1.1.2, hp.1.2⟩, hp.2⟩), has_int (Int.le_refl _) (Int.le_refl _)⟩
    · cases e
  · cases e
/-! ### subscripts, slices -/
def tIx (a b : Ty) : Option Ty := match b with
  | .int z w => match a with
    | .tup ts => if decide (z = w) then atI ts z else if decide (-(ts.length : Int) ≤ z) && decide (w < ts.length) then some (joins ts) else none
    | .tupN t lo hi => if decide (-(lo : Int) ≤ z) && decide (w < lo) then some t else none
    | .lst t lo hi => if decide (-(lo : Int) ≤ z) && decide (w < lo) then some t else none
    | _ => match txT a with
      | some (lo, hi, cs) => if decide (-(lo : Int) ≤ z) && decide (w < lo) && Nat.ble hi 1000000 then some (.str 1 1 cs) else none
      | none => none
  | _ => none
theorem atI_in {α : Type} {l : List α} {i : Int} (h0 : -(l.length : Int) ≤ i) (h : i < l.length) : ∃ a, a ∈ l ∧ atI l i = some a := by
  have : ∃ j, ixN l.length i = some j ∧ j < l.length := by
    unfold ixN
    split
    · exact ⟨_, rfl, by omega⟩
    · exact ⟨_, rfl, by omega⟩
  obtain ⟨j, hj, hl⟩ := this
  refine ⟨l[j], List.getElem_mem hl, ?_⟩
  unfold atI
  rw [hj]
  exact List.getElem?_eq_getElem hl
theorem atI_has {ts : List Ty} {l : List D} {i : Int} {t : Ty} (h : HasL M ts l) (e : atI ts i = some t) : ∃ d, atI l i = some d ∧ Has M t d := by
  unfold atI at e ⊢
  rw [hasL_len h]
  obtain ⟨j, hj, e⟩ := Option.bind_eq_some_iff.mp e
  rw [hj]
  have := hasL_get (i := j) h
  rw [e] at this
  cases hd : l[j]? with
  | none => rw [hd] at this; cases this
  | some d => rw [hd] at this; exact ⟨d, hd, this⟩
theorem tIx_ok {a b T : Ty} {x y : D} (h1 : Has M a x) (h2 : Has M b y) (e : tIx a b = some T) : ∃ d, dIx x y = some d ∧ Has M T d := by
  unfold tIx at e
  split at e
  · rename_i z w
    unfold Has at h2
    obtain ⟨k, rfl, q3, q4⟩ := h2
    split at e
    · unfold Has at h1
      obtain ⟨l, rfl, h1⟩ := h1
      split at e
      · rename_i hz
        rw [decide_eq_true_eq] at hz
        obtain rfl : k = z := by omega
        exact atI_has h1 e
      · obtain ⟨hp, e⟩ := ite_none e
        cases e
        simp only [Bool.and_eq_true, decide_eq_true_eq] at hp
        have hl := hasL_len h1
        obtain ⟨d, hd, e⟩ := atI_in (l := l) (i := k) (by omega) (by omega)
        exact ⟨d, e, tup_ofL h1 d hd⟩
    · obtain ⟨hp, e⟩ := ite_none e
      cases e
      simp only [Bool.and_eq_true, decide_eq_true_eq] at hp
      unfold Has at h1
      obtain ⟨l, rfl, q1, q2, h1⟩ := h1
      obtain ⟨d, hd, e⟩ := atI_in (l := l) (i := k) (by omega) (by omega)
      exact ⟨d, e, h1 d hd⟩
    · obtain ⟨hp, e⟩ := ite_none e
      cases e
      simp only [Bool.and_eq_true, decide_eq_true_eq] at hp
      unfold Has at h1
      obtain ⟨l, rfl, q1, q2, h1⟩ := h1
      obtain ⟨d, hd, e⟩ := atI_in (l := l) (i := k) (by omega) (by omega)
      exact ⟨d, e, h1 d hd⟩
    · split at e
      · rename_i lo hi cs et
        obtain ⟨hp, e⟩ := ite_none e
        cases e
        simp only [Bool.and_eq_true, decide_eq_true_eq, Nat.ble_eq] at hp
        obtain ⟨l, rfl, q1, q2, h1⟩ := txT_ok h1 et
        obtain ⟨c, hc, e⟩ := atI_in (l := l) (i := k) (by omega) (by omega)
        refine ⟨.str (S [c]), ?_, by unfold Has; exact ⟨[c], rfl, Nat.le_refl _, Nat.le_refl _, fun c' hc' => by rw [List.mem_singleton.mp hc']; exact h1 c hc⟩⟩
        show (if (S l).length ≤ sizeLine then (atI (S l).cps.toList k).map fun c => D.str ⟨#[c]⟩ else none) = _
        rw [if_pos (size_pos (by rw [S_len]; omega)), show (S l).cps.toList = l from by simp, e]
        rfl
      · cases e
  · cases e
instance : AbO M dIx (dst2 M tIx) := abo_of tIx_ok
/-- how long a slice is -/
def slLen (lo hi : Nat) (a b : Option (Int × Int)) : Nat × Nat := match a, b with
  | none, none => (lo, hi)
  | none, some (x, y) => if decide (0 ≤ x) then (min lo x.toNat, min hi y.toNat) else if decide (y < 0) then (lo - x.natAbs, hi - y.natAbs) else (0, hi)
  | some (x, y), none => if decide (0 ≤ x) then (lo - y.toNat, hi - x.toNat) else (0, hi)
  | some (x, y), some (z, w) => if decide (0 ≤ x) && decide (0 ≤ z) then (min lo z.toNat - y.toNat, min hi w.toNat - x.toNat) else (0, hi)
def inX (o : Option (Int × Int)) (i : Option Int) : Prop := match o, i with
  | none, none => True
  | some (lo, hi), some i => lo ≤ i ∧ i ≤ hi
  | _, _ => False
theorem cut_len {α : Type} (l : List α) (a b : Option Int) : (cutG l a b).length = HT.sIx l.length l.length b - HT.sIx l.length 0 a := by
  unfold cutG
  rw [List.length_take, List.length_drop]
  have := HT.sIx_le l.length l.length (Nat.le_refl _) b
  omega
theorem cut_mem {α : Type} {l : List α} {a b : Option Int} {x : α} (h : x ∈ cutG l a b) : x ∈ l := by
  unfold cutG at h
  exact List.mem_of_mem_drop (List.mem_of_mem_take h)
theorem slLen_ok {lo hi n : Nat} {a b : Option (Int × Int)} {i j : Option Int} (h1 : lo ≤ n) (h2 : n ≤ hi) (ha : inX a i) (hb : inX b j) : (slLen lo hi a b).1 ≤ HT.sIx n n j - HT.sIx n 0 i ∧ HT.sIx n n j - HT.sIx n 0 i ≤ (slLen lo hi a b).2 := by
  have hj := HT.sIx_le n n (Nat.le_refl _) j
  unfold slLen
  cases a with
  | none =>
    cases i with
    | some _ => cases ha
    | none =>
      rw [HT.sIx_none]
      cases b with
      | none =>
        cases j with
        | some _ => cases hb
        | none => rw [HT.sIx_none]; dsimp only; omega
      | some p =>
        obtain ⟨x, y⟩ := p
        cases j with
        | none => cases hb
        | some j =>
          obtain ⟨q1, q2⟩ : x ≤ j ∧ j ≤ y := hb
          dsimp only
          split
          · rename_i h
            rw [decide_eq_true_eq] at h
            have e : HT.sIx n n (some j) = min j.toNat n := by unfold HT.sIx; dsimp only; rw [if_neg (by omega)]
            rw [e]
            dsimp only
            omega
          · split
            · rename_i h
              rw [decide_eq_true_eq] at h
              have e : HT.sIx n n (some j) = (j + (n : Int)).toNat := by unfold HT.sIx; dsimp only; rw [if_pos (by omega)]
              rw [e]
              dsimp only
              omega
            · dsimp only; omega
  | some p =>
    obtain ⟨x, y⟩ := p
    cases i with
    | none => cases ha
    | some i =>
      obtain ⟨q1, q2⟩ : x ≤ i ∧ i ≤ y := ha
      have ei : 0 ≤ x → HT.sIx n 0 (some i) = min i.toNat n := fun h => by unfold HT.sIx; dsimp only; rw [if_neg (by omega)]
      cases b with
      | none =>
        cases j with
        | some _ => cases hb
        | none =>
          rw [HT.sIx_none]
          dsimp only
          split
          · rename_i h
            rw [decide_eq_true_eq] at h
            rw [ei h]
            dsimp only
            omega
          · dsimp only; omega
      | some p =>
        obtain ⟨z, w⟩ := p
        cases j with
        | none => cases hb
        | some j =>
          obtain ⟨q3, q4⟩ : z ≤ j ∧ j ≤ w := hb
          dsimp only
          split
          · rename_i h
            simp only [Bool.and_eq_true, decide_eq_true_eq] at h
            have e : HT.sIx n n (some j) = min j.toNat n := by unfold HT.sIx; dsimp only; rw [if_neg (by omega)]
            rw [ei h.1, e]
            dsimp only
            omega
          · dsimp only; omega
/-- a bound that is known -/
def fixX : Option (Int × Int) → Option (Option Int)
  | none => some none
  | some (x, y) => if decide (x = y) then some (some x) else none
theorem fixX_ok {o : Option (Int × Int)} {i r : Option Int} (h : inX o i) (e : fixX o = some r) : i = r := by
  cases o with
  | none => cases i with
    | none => cases e; rfl
    | some _ => cases h
  | some p =>
    obtain ⟨x, y⟩ := p
    cases i with
    | none => cases h
    | some i =>
      obtain ⟨q1, q2⟩ : x ≤ i ∧ i ≤ y := h
      unfold fixX at e
      obtain ⟨hp, e⟩ := ite_none e
      cases e
      rw [decide_eq_true_eq] at hp
      rw [show i = x by omega]
theorem hasL_drop : ∀ {ts : List Ty} {l : List D} (n : Nat), HasL M ts l → HasL M (ts.drop n) (l.drop n)
  | ts, l, 0, h => h
  | [], l, n + 1, h => by unfold HasL at h; subst h; simp only [List.drop_nil]; unfold HasL; rfl
  | t :: ts, l, n + 1, h => by
    unfold HasL at h
    obtain ⟨x, r, rfl, h1, h2⟩ := h
    exact hasL_drop n h2
theorem hasL_take : ∀ {ts : List Ty} {l : List D} (n : Nat), HasL M ts l → HasL M (ts.take n) (l.take n)
  | ts, l, 0, h => by simp only [List.take_zero]; unfold HasL; rfl
  | [], l, n + 1, h => by unfold HasL at h; subst h; simp only [List.take_nil]; unfold HasL; rfl
  | t :: ts, l, n + 1, h => by
    unfold HasL at h
    obtain ⟨x, r, rfl, h1, h2⟩ := h
    rw [List.take_succ_cons, List.take_succ_cons]
    unfold HasL
    exact ⟨x, _, rfl, h1, hasL_take n h2⟩
def tSl (a : Ty) (x y : Option (Int × Int)) : Option Ty := match a with
  | .lst t lo hi => some (.lst t (slLen lo hi x y).1 (slLen lo hi x y).2)
  | .tupN t lo hi => some (.tupN t (slLen lo hi x y).1 (slLen lo hi x y).2)
  | .tup ts => match fixX x, fixX y with
    | some i, some j => some (.tup (cutG ts i j))
    | _, _ => some (.tupN (joins ts) (slLen ts.length ts.length x y).1 (slLen ts.length ts.length x y).2)
  | _ => match txT a with
    | some (lo, hi, cs) => if Nat.ble hi 1000000 then some (.str (slLen lo hi x y).1 (slLen lo hi x y).2 cs) else none
    | none => none
theorem tSl_ok {a T : Ty} {d : D} {x y : Option (Int × Int)} {i j : Option Int} (h1 : Has M a d) (hi : inX x i) (hj : inX y j) (e : tSl a x y = some T) : ∃ r, dSl d i j = some r ∧ Has M T r := by
  unfold tSl at e
  split at e
  · cases e
    unfold Has at h1
    obtain ⟨l, rfl, q1, q2, h1⟩ := h1
    have := slLen_ok q1 q2 hi hj
    exact ⟨_, rfl, by unfold Has; exact ⟨_, rfl, by rw [cut_len]; exact this.1, by rw [cut_len]; exact this.2, fun z hz => h1 z (cut_mem hz)⟩⟩
  · cases e
    unfold Has at h1
    obtain ⟨l, rfl, q1, q2, h1⟩ := h1
    have := slLen_ok q1 q2 hi hj
    exact ⟨_, rfl, by unfold Has; exact ⟨_, rfl, by rw [cut_len]; exact this.1, by rw [cut_len]; exact this.2, fun z hz => h1 z (cut_mem hz)⟩⟩
  · unfold Has at h1
    obtain ⟨l, rfl, h1⟩ := h1
    have hl := hasL_len h1
    split at e
    · rename_i e1 e2
      cases e
      cases fixX_ok hi e1
      cases fixX_ok hj e2
      refine ⟨_, rfl, ?_⟩
      unfold Has
      refine ⟨_, rfl, ?_⟩
      unfold cutG
      rw [hl]
      exact hasL_take _ (hasL_drop _ h1)
    · cases e
      have := slLen_ok (Nat.le_of_eq hl.symm) (Nat.le_of_eq hl) hi hj
      exact ⟨_, rfl, by unfold Has; exact ⟨_, rfl, by rw [cut_len]; exact this.1, by rw [cut_len]; exact this.2, fun z hz => tup_ofL h1 z (cut_mem hz)⟩⟩
  · split at e
    · rename_i lo hi' cs et
      obtain ⟨hp, e⟩ := ite_none e
      cases e
      have hp := Nat.le_of_ble_eq_true hp
      obtain ⟨l, rfl, q1, q2, h1⟩ := txT_ok h1 et
      have := slLen_ok q1 q2 hi hj
      have ec : cutS (S l) i j = S (cutG l i j) := by unfold cutS cutG; rw [S_len]
      refine ⟨.str (cutS (S l) i j), if_pos (size_pos (by rw [S_len]; omega)), ?_⟩
      rw [ec]
      unfold Has
      exact ⟨_, rfl, by rw [cut_len]; exact this.1, by rw [cut_len]; exact this.2, fun z hz => h1 z (cut_mem hz)⟩
    · cases e
def aSl (M : Sem) (fa : AE) (fl fh : AEnv → Option (Option (Int × Int) × Nat)) : AE := fun env => (fa env).bind fun p => (fl env).bind fun l => (fh env).bind fun h => (dst1 M (fun t => tSl t l.1 h.1) p.1).map fun t => (t, p.2 + (l.2 + h.2))
instance {wa : WE} {wl wh : WO} {fa : AE} {fl fh : AEnv → Option (Option (Int × Int) × Nat)} [ha : AbE M wa fa] [hl : AbX M wl fl] [hh : AbX M wh fh] : AbE M (wSl wa wl wh) (aSl M fa fl fh) := ⟨fun {env ρ fu P T c} h e n k => by
  obtain ⟨⟨t1, c1⟩, e1, e⟩ := Option.bind_eq_some_iff.mp e
  obtain ⟨⟨l, c2⟩, e2, e⟩ := Option.bind_eq_some_iff.mp e
  obtain ⟨⟨h', c3⟩, e3, e⟩ := Option.bind_eq_some_iff.mp e
  obtain ⟨t, e4, e5⟩ := Option.map_eq_some_iff.mp e
  cases e5
  refine ha.ok h e1 (n.mono (Nat.le_add_right _ _)) fun p fu1 h1 r1 => ?_
  have n1 := En.next n r1
  refine hl.ok h e2 (n1.mono (Nat.le_add_right _ _)) fun i fu2 h2 r2 => ?_
  refine hh.ok h e3 (En.next n1 r2) fun j fu3 h3 r3 => ?_
  obtain ⟨d, hd, ht⟩ := (abu_of (f := fun d => dSl d i j) (fun q w => tSl_ok q h2 h3 w)).ok h1 e4
  exact ⟨d, hd, k d fu3 ht (r1.trans (r2.trans r3))⟩⟩
def tREV (a : Ty) : Option Ty := match a with
  | .lst t lo hi => some (.lst t lo hi)
  | .tupN t lo hi => some (.tupN t lo hi)
  | .tup ts => some (.tupN (joins ts) ts.length ts.length)
  | _ => none
instance : AbU M dREV (dst1 M tREV) := abu_of fun {a T x} h1 e => by
  unfold tREV at e
  split at e
  · cases e
    unfold Has at h1
    obtain ⟨l, rfl, q1, q2, h1⟩ := h1
    exact ⟨_, rfl, by unfold Has; exact ⟨_, rfl, by rw [List.length_reverse]; exact q1, by rw [List.length_reverse]; exact q2, fun z hz => h1 z (List.mem_reverse.mp hz)⟩⟩
  · cases e
    unfold Has at h1
    obtain ⟨l, rfl, q1, q2, h1⟩ := h1
    exact ⟨_, rfl, by unfold Has; exact ⟨_, rfl, by rw [List.length_reverse]; exact q1, by rw [List.length_reverse]; exact q2, fun z hz => h1 z (List.mem_reverse.mp hz)⟩⟩
  · cases e
    unfold Has at h1
    obtain ⟨l, rfl, h1⟩ := h1
    have hl := hasL_len h1
    exact ⟨_, rfl, by unfold Has; exact ⟨_, rfl, by rw [List.length_reverse]; omega, by rw [List.length_reverse]; omega, fun z hz => tup_ofL h1 z (List.mem_reverse.mp hz)⟩⟩
  · cases e
end
end Z
namespace Z
open PySem PySem.Spec L2
section
variable {M : Sem} [SemOk M]
/-! ### ==, != -/
mutual
/-- no dict within -/
def plT : Ty → Bool
  | .non => true
  | .bl _ => true
  | .int _ _ => true
  | .word _ => true
  | .str _ _ _ => true
  | .tup ts => plTL ts
  | .tupN t _ hi => Nat.beq hi 0 || plT t
  | .lst t _ hi => Nat.beq hi 0 || plT t
  | .or a b => plT a && plT b
  | .bot => true
  | _ => false
def plTL : List Ty → Bool
  | [] => true
  | t :: ts => plT t && plTL ts
end
theorem plainL_of {l : List D} (h : ∀ x ∈ l, plain x = true) : plainL l = true := by
  induction l with
  | nil => rfl
  | cons a l ih => unfold plainL; rw [h a List.mem_cons_self, ih fun x hx => h x (List.mem_cons_of_mem _ hx)]; rfl
mutual
theorem plT_ok : ∀ {t : Ty} {d : D}, Has M t d → plT t = true → plain d = true
  | .non, d, h, e => by unfold Has at h; subst h; rfl
  | .bl _, d, h, e => by unfold Has at h; obtain ⟨b, rfl, _⟩ := h; rfl
  | .int _ _, d, h, e => by unfold Has at h; obtain ⟨b, rfl, _⟩ := h; rfl
  | .word _, d, h, e => by unfold Has at h; subst h; rfl
  | .str _ _ _, d, h, e => by unfold Has at h; obtain ⟨b, rfl, _⟩ := h; rfl
  | .tup ts, d, h, e => by
    unfold Has at h
    obtain ⟨l, rfl, h⟩ := h
    unfold plT at e
    unfold plain
    exact plTL_ok h e
  | .tupN t lo hi, d, h, e => by
    unfold Has at h
    obtain ⟨l, rfl, h1, h2, h⟩ := h
    unfold plT at e
    rw [Bool.or_eq_true] at e
    unfold plain
    rcases e with e | e
    · cases many_nil h2 e; rfl
    · exact plainL_of fun x hx => plT_ok (h x hx) e
  | .lst t lo hi, d, h, e => by
    unfold Has at h
    obtain ⟨l, rfl, h1, h2, h⟩ := h
    unfold plT at e
    rw [Bool.or_eq_true] at e
    unfold plain
    rcases e with e | e
    · cases many_nil h2 e; rfl
    · exact plainL_of fun x hx => plT_ok (h x hx) e
  | .or a b, d, h, e => by
    unfold Has at h
    unfold plT at e
    rw [Bool.and_eq_true] at e
    exact h.elim (fun h => plT_ok h e.1) fun h => plT_ok h e.2
  | .bot, d, h, e => by unfold Has at h; cases h
  | .src, d, h, e => by unfold plT at e; cases e
  | .any _ _, d, h, e => by unfold plT at e; cases e
  | .sem _, d, h, e => by unfold plT at e; cases e
theorem plTL_ok : ∀ {ts : List Ty} {l : List D}, HasL M ts l → plTL ts = true → plainL l = true
  | [], l, h, e => by unfold HasL at h; subst h; rfl
  | t :: ts, l, h, e => by
    unfold HasL at h
    obtain ⟨x, r, rfl, h1, h2⟩ := h
    unfold plTL at e
    rw [Bool.and_eq_true] at e
    unfold plainL
    rw [plT_ok h1 e.1, plTL_ok h2 e.2]; rfl
end
/-- can be compared as plain data -/
def cmpT (t : Ty) : Bool := plT t && (match dw t with | some (k, _) => Nat.ble k 64 | none => false)
theorem cmpT_ok {a b : Ty} {x y : D} (h1 : Has M a x) (h2 : Has M b y) (ea : cmpT a = true) (eb : cmpT b = true) : eqOk x y = true := by
  unfold cmpT at ea eb
  rw [Bool.and_eq_true] at ea eb
  have za := ea.2
  have zb := eb.2
  split at za
  · rename_i q1
    split at zb
    · rename_i q2
      obtain ⟨o1, d1, _⟩ := dw_ok h1 q1
      obtain ⟨o2, d2, _⟩ := dw_ok h2 q2
      exact eqOk_of o1 (plT_ok h1 ea.1) (Nat.le_trans d1 (Nat.le_of_ble_eq_true za)) o2 (plT_ok h2 eb.1) (Nat.le_trans d2 (Nat.le_of_ble_eq_true zb))
    · cases zb
  · cases za
/-- what is known of == -/
def eqK (a b : Ty) : Option Bool := match a with
  | .int x y => match b with
    | .int z w => if decide (y < z) || decide (w < x) then some false else if decide (x = y) && decide (x = z) && decide (x = w) then some true else none
    | _ => none
  | .word v => match b with
    | .word w => some (v == w)
    | .str lo hi cs => if Nat.blt v.length lo || Nat.blt hi v.length || !v.all (inR cs) then some false else none
    | .non => some false
    | _ => none
  | .str lo hi cs => match b with
    | .word v => if Nat.blt v.length lo || Nat.blt hi v.length || !v.all (inR cs) then some false else none
    | .str lo' hi' _ => if Nat.blt hi lo' || Nat.blt hi' lo then some false else none
    | .non => some false
    | _ => none
  | .non => match b with
    | .non => some true
    | .word _ => some false
    | .str _ _ _ => some false
    | _ => none
  | .lst _ lo hi => match b with
    | .lst _ lo' hi' => if Nat.beq hi 0 && Nat.beq hi' 0 then some true else if Nat.blt hi lo' || Nat.blt hi' lo then some false else none
    | _ => none
  | .bl (some x) => match b with | .bl (some y) => some (x == y) | _ => none
  | _ => none
theorem eqvL_len : ∀ {l r : List D}, PyData.eqvAll (pyL l) (pyL r) = true → l.length = r.length
  | [], [], _ => rfl
  | x :: l, y :: r, h => by
    unfold pyL PyData.eqvAll at h
    rw [Bool.and_eq_true] at h
    rw [List.length_cons, List.length_cons, eqvL_len h.2]
  | [], y :: r, h => by unfold pyL PyData.eqvAll at h; cases h
  | x :: l, [], h => by unfold pyL PyData.eqvAll at h; cases h
theorem ne_len {l : List Nat} {v : List Nat} {cs : List (Nat × Nat)} {lo hi : Nat} (q1 : lo ≤ l.length) (q2 : l.length ≤ hi) (q3 : ∀ c ∈ l, inR cs c = true) (e : (Nat.blt v.length lo || Nat.blt hi v.length || !v.all (inR cs)) = true) : v ≠ l := fun z => by
  subst z
  simp only [Bool.or_eq_true, Nat.blt_eq, Bool.not_eq_true'] at e
  rcases e with (e | e) | e
  · omega
  · omega
  · rw [List.all_eq_false] at e
    obtain ⟨c, hc, e⟩ := e
    exact e (q3 c hc)
theorem deq_strN (s : Str) : deq (.str s) .non = false := by simp [deq, py, PyData.eqv]
theorem deq_Nstr (s : Str) : deq .non (.str s) = false := by simp [deq, py, PyData.eqv]
theorem eqK_ok {a b : Ty} {x y : D} {r : Bool} (h1 : Has M a x) (h2 : Has M b y) (e : eqK a b = some r) : deq x y = r := by
  unfold eqK at e
  split at e
  · split at e
    · unfold Has at h1 h2
      obtain ⟨i, rfl, q1, q2⟩ := h1
      obtain ⟨j, rfl, q3, q4⟩ := h2
      rw [deq_int]
      split at e
      · rename_i h
        cases e
        simp only [Bool.or_eq_true, decide_eq_true_eq] at h
        exact decide_eq_false (by omega)
      · obtain ⟨h, e⟩ := ite_none e
        cases e
        simp only [Bool.and_eq_true, decide_eq_true_eq] at h
        exact decide_eq_true (by omega)
    · cases e
  · split at e
    · cases e
      unfold Has at h1 h2
      subst h1; subst h2
      rw [deq_str]
      rw [Bool.eq_iff_iff, decide_eq_true_eq, S_inj, beq_iff_eq]
    · obtain ⟨h, e⟩ := ite_none e
      cases e
      unfold Has at h1 h2
      subst h1
      obtain ⟨l, rfl, q1, q2, q3⟩ := h2
      rw [deq_str]
      exact decide_eq_false fun z => ne_len q1 q2 q3 h (S_inj.mp z)
    · cases e
      unfold Has at h1 h2
      subst h1; subst h2
      exact deq_strN _
    · cases e
  · split at e
    · obtain ⟨h, e⟩ := ite_none e
      cases e
      unfold Has at h1 h2
      subst h2
      obtain ⟨l, rfl, q1, q2, q3⟩ := h1
      rw [deq_str]
      exact decide_eq_false fun z => ne_len q1 q2 q3 h (S_inj.mp z).symm
    · obtain ⟨h, e⟩ := ite_none e
      cases e
      unfold Has at h1 h2
      obtain ⟨l, rfl, q1, q2, q3⟩ := h1
      obtain ⟨l', rfl, q4, q5, q6⟩ := h2
      rw [deq_str]
      simp only [Bool.or_eq_true, Nat.blt_eq] at h
      refine decide_eq_false fun z => ?_
      have := congrArg List.length (S_inj.mp z)
      omega
    · cases e
      unfold Has at h1 h2
      subst h2
      obtain ⟨l, rfl, q1, q2, q3⟩ := h1
      exact deq_strN _
    · cases e
  · split at e
    · cases e
      unfold Has at h1 h2
      subst h1; subst h2
      simp [deq, py, PyData.eqv]
    · cases e
      unfold Has at h1 h2
      subst h1; subst h2
      exact deq_Nstr _
    · cases e
      unfold Has at h1 h2
      subst h1
      obtain ⟨l, rfl, _⟩ := h2
      exact deq_Nstr _
    · cases e
  · split at e
    · unfold Has at h1 h2
      obtain ⟨l, rfl, q1, q2, q3⟩ := h1
      obtain ⟨r', rfl, q4, q5, q6⟩ := h2
      split at e
      · rename_i h
        cases e
        rw [Bool.and_eq_true] at h
        cases many_nil q2 h.1
        cases many_nil q5 h.2
        simp [deq, py, PyData.eqv, pyL, PyData.eqvAll]
      · obtain ⟨h, e⟩ := ite_none e
        cases e
        simp only [Bool.or_eq_true, Nat.blt_eq] at h
        rw [Bool.eq_false_iff]
        intro z
        unfold deq py PyData.eqv at z
        have := eqvL_len z
        omega
    · cases e
  · split at e
    · cases e
      unfold Has at h1 h2
      obtain ⟨i, rfl, q1⟩ := h1
      obtain ⟨j, rfl, q2⟩ := h2
      rw [deq_bl, q1 _ rfl, q2 _ rfl]
    · cases e
  · cases e
/-- the empty tuple -/
def isT0 : Ty → Bool
  | .tup [] => true
  | _ => false
theorem isT0_ok {t : Ty} {d : D} (h : Has M t d) (e : isT0 t = true) : d = .tup [] := by
  unfold isT0 at e
  split at e
  · unfold Has HasL at h
    obtain ⟨l, rfl, rfl⟩ := h; rfl
  · cases e
def tEqu (a b : Ty) : Option Ty := if cmpT a && cmpT b then some (.bl (eqK a b)) else none
theorem tEqu_ok {a b T : Ty} {x y : D} (h1 : Has M a x) (h2 : Has M b y) (e : tEqu a b = some T) : ∃ r, dEq x y = some (.bl r) ∧ dNe x y = some (.bl (!r)) ∧ Has M T (.bl r) := by
  obtain ⟨hc, e⟩ := ite_none e
  cases e
  rw [Bool.and_eq_true] at hc
  have hk := cmpT_ok h1 h2 hc.1 hc.2
  refine ⟨deq x y, if_pos hk, if_pos hk, ?_⟩
  unfold Has
  exact ⟨_, rfl, fun c hc' => eqK_ok h1 h2 hc'⟩
theorem dEQ_of {x y d : D} (h : dEq x y = some d) : dEQ x y = some d := by
  unfold dEQ
  split
  · rename_i l
    obtain ⟨_, rfl⟩ := ite_some h
    rw [← Option.some_inj] at *
    congr 1
    unfold deq
    cases l with
    | nil => simp [py, pyL, PyData.eqv, PyData.eqvAll]
    | cons a l => simp [py, pyL, PyData.eqv, PyData.eqvAll]
  · rename_i a s _
    split
    · rename_i hr
      obtain ⟨_, rfl⟩ := ite_some h
      congr 2
      cases x <;> first | (cases hr; done) | simp [deq, py, PyData.eqv]
    · exact h
  · exact h
theorem dNE_of {x y d : D} (h : dNe x y = some d) : dNE x y = some d := by
  unfold dNE
  split
  · rename_i l
    obtain ⟨_, rfl⟩ := ite_some h
    congr 2
    unfold deq
    cases l with
    | nil => simp [py, pyL, PyData.eqv, PyData.eqvAll]
    | cons a l => simp [py, pyL, PyData.eqv, PyData.eqvAll]
  · exact h
def emT (lo hi : Nat) : Option Bool := if Nat.beq hi 0 then some true else if Nat.blt 0 lo then some false else none
theorem emT_ok {l : List D} {lo hi : Nat} {r : Bool} (h1 : lo ≤ l.length) (h2 : l.length ≤ hi) (e : emT lo hi = some r) : l.isEmpty = r := by
  unfold emT at e
  split at e
  · rename_i h
    cases e
    cases many_nil h2 h; rfl
  · obtain ⟨h, e⟩ := ite_none e
    cases e
    rw [Nat.blt_eq] at h
    cases l with
    | nil => simp at h1; omega
    | cons _ _ => rfl
def tEQ (a b : Ty) : Option Ty := match tEqu a b with
  | some t => some t
  | none => if isT0 b then (tupT a).map fun p => .bl (emT p.2.1 p.2.2) else if isTx b && (dw a).isSome then some (.bl none) else none
instance : AbO M dEQ (dst2 M tEQ) := abo_of fun {a b T x y} h1 h2 e => by
  unfold tEQ at e
  split at e
  · rename_i q
    cases e
    obtain ⟨r, e1, _, e2⟩ := tEqu_ok h1 h2 q
    exact ⟨_, dEQ_of e1, e2⟩
  · split at e
    · rename_i h
      cases isT0_ok h2 h
      obtain ⟨⟨t, lo, hi⟩, e1, e2⟩ := Option.map_eq_some_iff.mp e
      cases e2
      obtain ⟨l, rfl, q1, q2, _⟩ := tupT_ok h1 e1
      refine ⟨.bl l.isEmpty, rfl, ?_⟩
      unfold Has
      exact ⟨_, rfl, fun c hc => emT_ok q1 q2 hc⟩
    · obtain ⟨h, e⟩ := ite_none e
      cases e
      rw [Bool.and_eq_true, Option.isSome_iff_exists] at h
      obtain ⟨ht, ⟨k, m⟩, hd⟩ := h
      obtain ⟨s, rfl⟩ := isTx_ok h2 ht
      obtain ⟨o, _⟩ := dw_ok h1 hd
      exact ⟨_, dEQ_str (okD_dat _ o), has_bl⟩
def tNE (a b : Ty) : Option Ty := if cmpT a && cmpT b then some (.bl ((eqK a b).map not)) else if isT0 b then (tupT a).map fun p => .bl ((emT p.2.1 p.2.2).map not) else none
instance : AbO M dNE (dst2 M tNE) := abo_of fun {a b T x y} h1 h2 e => by
  unfold tNE at e
  split at e
  · rename_i hc
    cases e
    rw [Bool.and_eq_true] at hc
    refine ⟨_, dNE_of (if_pos (cmpT_ok h1 h2 hc.1 hc.2)), ?_⟩
    unfold Has
    refine ⟨_, rfl, fun c hc' => ?_⟩
    obtain ⟨r, e1, e2⟩ := Option.map_eq_some_iff.mp hc'
    rw [eqK_ok h1 h2 e1, e2]
  · obtain ⟨h, e⟩ := ite_none e
    cases isT0_ok h2 h
    obtain ⟨⟨t, lo, hi⟩, e1, e2⟩ := Option.map_eq_some_iff.mp e
    cases e2
    obtain ⟨l, rfl, q1, q2, _⟩ := tupT_ok h1 e1
    refine ⟨.bl (!l.isEmpty), rfl, ?_⟩
    unfold Has
    refine ⟨_, rfl, fun c hc' => ?_⟩
    obtain ⟨r, e1, e2⟩ := Option.map_eq_some_iff.mp hc'
    rw [emT_ok q1 q2 e1, e2]
/-! ### order -/
def ordT (f : Int → Int → Bool) (a b : Ty) : Option Ty := match a with
  | .int x y => match b with
    | .int z w => some (.bl (if f x w == f y z && f x z == f y w && f x z == f x w then some (f x z) else none))
    | _ => none
  | _ => if isTx a && isTx b then some (.bl none) else none
theorem ord_ok {f : Int → Int → Bool} {F : D → D → Option D} {g : Str → Str → Bool} (hi : ∀ i j, F (.int i) (.int j) = some (.bl (f i j))) (hs : ∀ i j, F (.str i) (.str j) = some (.bl (g i j)))
    (hm : ∀ i i' j j', i ≤ i' → j' ≤ j → (f i' j' = true → f i j = true) ∨ (f i j = true → f i' j' = true)) {a b T : Ty} {x y : D}
    (hf : ∀ x y z w i j, x ≤ i → i ≤ y → z ≤ j → j ≤ w → (f x w == f y z && f x z == f y w && f x z == f x w) = true → f i j = f x z) (h1 : Has M a x) (h2 : Has M b y) (e : ordT f a b = some T) : ∃ d, F x y = some d ∧ Has M T d := by
  unfold ordT at e
  split at e
  · split at e
    · cases e
      unfold Has at h1 h2
      obtain ⟨i, rfl, q1, q2⟩ := h1
      obtain ⟨j, rfl, q3, q4⟩ := h2
      refine ⟨_, hi i j, ?_⟩
      unfold Has
      refine ⟨_, rfl, fun c hc => ?_⟩
      obtain ⟨h, e⟩ := ite_none hc
      cases e
      exact hf _ _ _ _ _ _ q1 q2 q3 q4 h
    · cases e
  · obtain ⟨h, e⟩ := ite_none e
    cases e
    rw [Bool.and_eq_true] at h
    obtain ⟨s, rfl⟩ := isTx_ok h1 h.1
    obtain ⟨t, rfl⟩ := isTx_ok h2 h.2
    exact ⟨_, hs s t, has_bl⟩
theorem dec_ord {P : Int → Int → Prop} [∀ i j, Decidable (P i j)] (hp : ∀ x y z w i j, x ≤ i → i ≤ y → z ≤ j → j ≤ w → (P x w ↔ P y z) → (P x z ↔ P y w) → (P x z ↔ P x w) → (P i j ↔ P x z)) :
    ∀ x y z w i j, x ≤ i → i ≤ y → z ≤ j → j ≤ w → (decide (P x w) == decide (P y z) && decide (P x z) == decide (P y w) && decide (P x z) == decide (P x w)) = true → decide (P i j) = decide (P x z) := fun x y z w i j h1 h2 h3 h4 h => by
  simp only [Bool.and_eq_true, beq_iff_eq, decide_eq_decide] at h
  exact decide_eq_decide.mpr (hp x y z w i j h1 h2 h3 h4 h.1.1 h.1.2 h.2)
instance : AbO M dLt (dst2 M (ordT fun i j => decide (i < j))) := abo_of (ord_ok (F := dLt) (g := sLt) (fun _ _ => rfl) (fun _ _ => rfl) (fun i i' j j' h1 h2 => by simp only [decide_eq_true_eq]; omega) (dec_ord (P := fun i j => i < j) (by intros; omega)))
instance : AbO M dLe (dst2 M (ordT fun i j => decide (i ≤ j))) := abo_of (ord_ok (F := dLe) (g := fun a b => !sLt b a) (fun _ _ => rfl) (fun _ _ => rfl) (fun i i' j j' h1 h2 => by simp only [decide_eq_true_eq]; omega) (dec_ord (P := fun i j => i ≤ j) (by intros; omega)))
instance : AbO M dGt (dst2 M (ordT fun i j => decide (j < i))) := abo_of (ord_ok (F := dGt) (g := fun a b => sLt b a) (fun _ _ => rfl) (fun _ _ => rfl) (fun i i' j j' h1 h2 => by simp only [decide_eq_true_eq]; omega) (dec_ord (P := fun i j => j < i) (by intros; omega)))
instance : AbO M dGe (dst2 M (ordT fun i j => decide (j ≤ i))) := abo_of (ord_ok (F := dGe) (g := fun a b => !sLt a b) (fun _ _ => rfl) (fun _ _ => rfl) (fun i i' j j' h1 h2 => by simp only [decide_eq_true_eq]; omega) (dec_ord (P := fun i j => j ≤ i) (by intros; omega)))
/-! ### in a text -/
def tInS (a b : Ty) : Option Ty := match txT a with
  | some (lo, hi, _) => if Nat.beq lo 1 && Nat.beq hi 1 && isTx b then some (.bl none) else none
  | none => none
theorem tInS_ok {a b T : Ty} {x y : D} (h1 : Has M a x) (h2 : Has M b y) (e : tInS a b = some T) : ∃ r, dInS x y = some (.bl r) ∧ dNinS x y = some (.bl (!r)) ∧ T = .bl none := by
  unfold tInS at e
  split at e
  · rename_i et
    obtain ⟨h, e⟩ := ite_none e
    cases e
    simp only [Bool.and_eq_true] at h
    obtain ⟨l, rfl, q1, q2, _⟩ := txT_ok h1 et
    obtain ⟨s, rfl⟩ := isTx_ok h2 h.2
    have e1 := Nat.eq_of_beq_eq_true h.1.1
    have e2 := Nat.eq_of_beq_eq_true h.1.2
    obtain ⟨c, rfl⟩ := List.length_eq_one_iff.mp (show l.length = 1 by omega)
    exact ⟨decide (c ∈ s.cps.toList), rfl, rfl, rfl⟩
  · cases e
instance : AbO M dInS (dst2 M tInS) := abo_of fun h1 h2 e => by
  obtain ⟨r, e1, _, rfl⟩ := tInS_ok h1 h2 e
  exact ⟨_, e1, has_bl⟩
instance : AbO M dNinS (dst2 M tInS) := abo_of fun h1 h2 e => by
  obtain ⟨r, _, e1, rfl⟩ := tInS_ok h1 h2 e
  exact ⟨_, e1, has_bl⟩
/-! ### is None -/
def tIsN (y n : Bool) (a b : Ty) : Option Ty := match b with
  | .non => match a with
    | .non => some (.bl (some y))
    | .bl _ => some (.bl (some n))
    | .int _ _ => some (.bl (some n))
    | .word _ => some (.bl (some n))
    | .str _ _ _ => some (.bl (some n))
    | .tup _ => some (.bl (some n))
    | .tupN _ _ _ => some (.bl (some n))
    | .lst _ _ _ => some (.bl (some n))
    | .any _ _ => some (.bl none)
    | _ => none
  | _ => none
theorem tIsN_ok {f : D → D → Option D} {u v : Bool} (hy : f .non .non = some (.bl u)) (hn : ∀ p, p ≠ .non → f p .non = some (.bl v)) {a b T : Ty} {x y : D} (h1 : Has M a x) (h2 : Has M b y) (e : tIsN u v a b = some T) : ∃ d, f x y = some d ∧ Has M T d := by
  unfold tIsN at e
  split at e
  · unfold Has at h2
    subst h2
    split at e <;> cases e
    · unfold Has at h1; subst h1; exact ⟨_, hy, has_tt⟩
    · unfold Has at h1; obtain ⟨b, rfl, _⟩ := h1; exact ⟨_, hn _ (by intro z; cases z), has_tt⟩
    · unfold Has at h1; obtain ⟨b, rfl, _⟩ := h1; exact ⟨_, hn _ (by intro z; cases z), has_tt⟩
    · unfold Has at h1; subst h1; exact ⟨_, hn _ (by intro z; cases z), has_tt⟩
    · unfold Has at h1; obtain ⟨b, rfl, _⟩ := h1; exact ⟨_, hn _ (by intro z; cases z), has_tt⟩
    · unfold Has at h1; obtain ⟨b, rfl, _⟩ := h1; exact ⟨_, hn _ (by intro z; cases z), has_tt⟩
    · unfold Has at h1; obtain ⟨b, rfl, _⟩ := h1; exact ⟨_, hn _ (by intro z; cases z), has_tt⟩
    · unfold Has at h1; obtain ⟨b, rfl, _⟩ := h1; exact ⟨_, hn _ (by intro z; cases z), has_tt⟩
    · by_cases z : x = .non
      · subst z; exact ⟨_, hy, has_bl⟩
      · exact ⟨_, hn x z, has_bl⟩
  · cases e
instance : AbO M dIsN (dst2 M (tIsN true false)) := abo_of (tIsN_ok rfl fun p h => by cases p <;> first | rfl | exact absurd rfl h)
instance : AbO M dNotN (dst2 M (tIsN false true)) := abo_of (tIsN_ok rfl fun p h => by cases p <;> first | rfl | exact absurd rfl h)
/-! ### built-ins -/
def tLen (a : Ty) : Option Ty := match a with
  | .lst _ lo hi => some (.int lo hi)
  | .tupN _ lo hi => some (.int lo hi)
  | .tup ts => some (.int ts.length ts.length)
  | _ => match txT a with
    | some (lo, hi, _) => if Nat.ble hi 1000000 then some (.int lo hi) else none
    | none => none
instance : AbC M dLen (dstC M tLen) := abc_of fun {a T x} h e => by
  unfold tLen at e
  split at e
  · cases e; unfold Has at h; obtain ⟨l, rfl, q1, q2, _⟩ := h; exact ⟨_, rfl, has_int (by omega) (by omega)⟩
  · cases e; unfold Has at h; obtain ⟨l, rfl, q1, q2, _⟩ := h; exact ⟨_, rfl, has_int (by omega) (by omega)⟩
  · cases e; unfold Has at h; obtain ⟨l, rfl, h⟩ := h; have := hasL_len h; exact ⟨_, rfl, has_int (by omega) (by omega)⟩
  · split at e
    · rename_i et
      obtain ⟨hb, e⟩ := ite_none e
      cases e
      have hb := Nat.le_of_ble_eq_true hb
      obtain ⟨l, rfl, q1, q2, _⟩ := txT_ok h et
      exact ⟨.int (S l).length, if_pos (size_pos (by rw [S_len]; omega)), has_int (by rw [S_len]; omega) (by rw [S_len]; omega)⟩
    · cases e
def tTup (a : Ty) : Option Ty := match a with
  | .lst t lo hi => some (.tupN t lo hi)
  | .tupN t lo hi => some (.tupN t lo hi)
  | .tup ts => some (.tup ts)
  | _ => none
instance : AbC M dTuple (dstC M tTup) := abc_of fun {a T x} h e => by
  unfold tTup at e
  split at e
  · cases e; unfold Has at h; obtain ⟨l, rfl, q⟩ := h; exact ⟨_, rfl, by unfold Has; exact ⟨l, rfl, q⟩⟩
  · cases e; unfold Has at h; obtain ⟨l, rfl, q⟩ := h; exact ⟨_, rfl, by unfold Has; exact ⟨l, rfl, q⟩⟩
  · cases e; unfold Has at h; obtain ⟨l, rfl, q⟩ := h; exact ⟨_, rfl, by unfold Has; exact ⟨l, rfl, q⟩⟩
  · cases e
def tLst (a : Ty) : Option Ty := match a with
  | .lst t lo hi => some (.lst t lo hi)
  | .tupN t lo hi => some (.lst t lo hi)
  | .tup ts => some (.lst (joins ts) ts.length ts.length)
  | _ => none
instance : AbC M dList (dstC M tLst) := abc_of fun {a T x} h e => by
  unfold tLst at e
  split at e
  · cases e; unfold Has at h; obtain ⟨l, rfl, q⟩ := h; exact ⟨_, rfl, by unfold Has; exact ⟨l, rfl, q⟩⟩
  · cases e; unfold Has at h; obtain ⟨l, rfl, q⟩ := h; exact ⟨_, rfl, by unfold Has; exact ⟨l, rfl, q⟩⟩
  · cases e; unfold Has at h; obtain ⟨l, rfl, q⟩ := h; have hl := hasL_len q; exact ⟨_, rfl, by unfold Has; exact ⟨l, rfl, by omega, by omega, tup_ofL q⟩⟩
  · cases e
theorem any_text (s : Str) (h : s.length ≤ 16777216) : Has M (.str 0 16777216 [(1, 0)]) (.str s) := by
  obtain ⟨l, rfl⟩ := S_of s
  unfold Has
  rw [S_len] at h
  exact ⟨l, rfl, Nat.zero_le _, h, fun c _ => rfl⟩
def tRep (a : Ty) : Option Ty := match dw a with
  | some (k, m) => if Nat.ble k 64 && Nat.ble m 16777216 then some (.str 0 16777216 [(1, 0)]) else none
  | none => none
instance : AbC M dRep (dstC M tRep) := abc_of fun {a T x} h e => by
  unfold tRep at e
  split at e
  · rename_i q
    obtain ⟨hb, e⟩ := ite_none e
    cases e
    rw [Bool.and_eq_true, Nat.ble_eq, Nat.ble_eq] at hb
    obtain ⟨o, d, w⟩ := dw_ok h q
    refine ⟨_, dRep_ok (rep_of o (Nat.le_trans d hb.1) (Nat.le_trans w hb.2)), any_text _ ?_⟩
    exact Nat.le_trans (okD_shw x o).2.2 (Nat.le_trans w hb.2)
  · cases e
theorem strs_has {l : List D} {lo hi : Nat} {cs : List (Nat × Nat)} {t : Ty} (e : txT t = some (lo, hi, cs)) (h : ∀ x ∈ l, Has M t x) : ∃ ls : List (List Nat), l = ls.map (fun x => D.str (S x)) ∧ ∀ x ∈ ls, lo ≤ x.length ∧ x.length ≤ hi ∧ ∀ c ∈ x, inR cs c = true := by
  induction l with
  | nil => exact ⟨[], rfl, fun x hx => by cases hx⟩
  | cons d l ih =>
    obtain ⟨ls, rfl, q⟩ := ih fun x hx => h x (List.mem_cons_of_mem _ hx)
    obtain ⟨z, rfl, w⟩ := txT_ok (h d List.mem_cons_self) e
    refine ⟨z :: ls, rfl, fun x hx => ?_⟩
    rcases List.mem_cons.mp hx with rfl | hx
    · exact w
    · exact q x hx
theorem jn_len (sep : List Nat) {lo hi : Nat} : ∀ {ls : List (List Nat)}, (∀ x ∈ ls, lo ≤ x.length ∧ x.length ≤ hi) → ls.length * lo ≤ (jn sep ls).length ∧ (jn sep ls).length ≤ ls.length * (hi + sep.length)
  | [], _ => by simp [jn]
  | [a], h => by
    have := h a List.mem_cons_self
    simp [jn]
    omega
  | a :: b :: ls, h => by
    have h1 := h a List.mem_cons_self
    have h2 := jn_len sep (ls := b :: ls) fun x hx => h x (List.mem_cons_of_mem _ hx)
    have e : (jn sep (a :: b :: ls)).length = a.length + sep.length + (jn sep (b :: ls)).length := by
      show (a ++ sep ++ jn sep (b :: ls)).length = _
      rw [List.length_append, List.length_append]
    rw [e]
    have e2 : ∀ n, (a :: b :: ls).length * n = n + (b :: ls).length * n := fun n => by rw [List.length_cons, Nat.add_mul]; omega
    rw [e2, e2]
    omega
theorem jn_mem {sep : List Nat} {c : Nat} : ∀ {ls : List (List Nat)}, c ∈ jn sep ls → c ∈ sep ∨ ∃ x ∈ ls, c ∈ x
  | [], h => by simp [jn] at h
  | [a], h => by simp [jn] at h; exact .inr ⟨a, List.mem_cons_self, h⟩
  | a :: b :: ls, h => by
    have h' : c ∈ a ++ sep ++ jn sep (b :: ls) := h
    rcases List.mem_append.mp h' with h | h
    · rcases List.mem_append.mp h with h | h
      · exact .inr ⟨a, List.mem_cons_self, h⟩
      · exact .inl h
    · rcases jn_mem h with h | ⟨x, hx, h⟩
      · exact .inl h
      · exact .inr ⟨x, List.mem_cons_of_mem _ hx, h⟩
theorem sum_le {ls : List (List Nat)} {hi : Nat} (h : ∀ x ∈ ls, x.length ≤ hi) : (ls.map (·.length)).sum ≤ ls.length * hi := by
  induction ls with
  | nil => simp
  | cons a l ih =>
    rw [List.map_cons, List.sum_cons, List.length_cons, Nat.add_mul]
    have := ih fun x hx => h x (List.mem_cons_of_mem _ hx)
    have := h a List.mem_cons_self
    omega
def tJoin (a b : Ty) : Option Ty := match txT a with
  | some (_, s2, cs) => match sqT b with
    | some (t, lo, hi) => if Nat.beq hi 0 then some (.word []) else match txT t with
      | some (l, h, cs') => if Nat.ble (hi * (h + s2)) 100000 then some (.str (lo * l) (hi * (h + s2)) (if Nat.beq s2 0 then cs' else cs ++ cs')) else none
      | none => none
    | none => none
  | none => none
theorem dJoin_seq {s : List Nat} {d : D} {ls : List (List Nat)} (h : seqOf d = some (ls.map fun x => .str (S x))) (hz : (ls.map (·.length)).sum + ls.length * s.length ≤ 16777216) : dJoin (.str (S s)) d = some (.str (S (jn s ls))) := by
  have := dJoin_S s ls hz
  cases d <;> first | (cases h; done) | skip
  · cases h; exact this
  · cases h; exact this
theorem tJoin_ok {a b T : Ty} {x y : D} (h1 : Has M a x) (h2 : Has M b y) (e : tJoin a b = some T) : ∃ d, dJoin x y = some d ∧ Has M T d := by
  unfold tJoin at e
  split at e
  · rename_i e1
    obtain ⟨s, rfl, _, w2, w3⟩ := txT_ok h1 e1
    split at e
    · rename_i e2
      obtain ⟨l, hl, q1, q2, q3⟩ := sqT_ok h2 e2
      split at e
      · rename_i hz
        cases e
        cases many_nil q2 hz
        refine ⟨_, dJoin_seq (ls := []) (by simpa using hl) (by simp), ?_⟩
        unfold Has
        rfl
      · split at e
        · rename_i e3
          obtain ⟨hb, e⟩ := ite_none e
          cases e
          have hb := Nat.le_of_ble_eq_true hb
          obtain ⟨ls, rfl, hls⟩ := strs_has e3 q3
          rw [List.length_map] at q1 q2
          have z1 := sum_le fun x hx => (hls x hx).2.1
          have z2 : ls.length * _ ≤ _ := Nat.mul_le_mul_left ls.length w2
          have z3 := jn_len s fun x hx => ⟨(hls x hx).1, (hls x hx).2.1⟩
          have z5 := Nat.le_trans (Nat.mul_le_mul_right _ q2) hb
          rw [Nat.mul_add] at z5
          refine ⟨_, dJoin_seq hl (by omega), ?_⟩
          unfold Has
          refine ⟨_, rfl, Nat.le_trans (Nat.mul_le_mul_right _ q1) z3.1, Nat.le_trans z3.2 (Nat.mul_le_mul q2 (Nat.add_le_add_left w2 _)), fun c hc => ?_⟩
          rcases jn_mem hc with hc | ⟨x, hx, hc⟩
          · split
            · rename_i hz
              have := Nat.eq_of_beq_eq_true hz
              have : s = [] := List.length_eq_zero_iff.mp (by omega)
              subst this
              cases hc
            · rw [inR_app, w3 c hc]; rfl
          · split
            · exact (hls x hx).2.2 c hc
            · rw [inR_app, (hls x hx).2.2 c hc]; exact Bool.or_true _
        · cases e
    · cases e
  · cases e
instance : AbO M dJoin (dst2 M tJoin) := abo_of tJoin_ok
/-- the names of the types it can be -/
def nmT : Ty → Option (List String)
  | .non => some ["NoneType"]
  | .bl _ => some ["bool"]
  | .int _ _ => some ["int"]
  | .word _ => some ["str"]
  | .str _ _ _ => some ["str"]
  | .tup _ => some ["tuple"]
  | .tupN _ _ _ => some ["tuple"]
  | .lst _ _ _ => some ["list"]
  | .any _ _ => some ["NoneType", "bool", "int", "str", "tuple", "list", "dict"]
  | _ => none
theorem nmT_ok {t : Ty} {d : D} {l : List String} (h : Has M t d) (e : nmT t = some l) : ∃ s ∈ l, tyOf d = some s := by
  unfold nmT at e
  split at e <;> cases e
  · unfold Has at h; subst h; exact ⟨_, List.mem_singleton.mpr rfl, rfl⟩
  · unfold Has at h; obtain ⟨b, rfl, _⟩ := h; exact ⟨_, List.mem_singleton.mpr rfl, rfl⟩
  · unfold Has at h; obtain ⟨b, rfl, _⟩ := h; exact ⟨_, List.mem_singleton.mpr rfl, rfl⟩
  · unfold Has at h; subst h; exact ⟨_, List.mem_singleton.mpr rfl, rfl⟩
  · unfold Has at h; obtain ⟨b, rfl, _⟩ := h; exact ⟨_, List.mem_singleton.mpr rfl, rfl⟩
  · unfold Has at h; obtain ⟨b, rfl, _⟩ := h; exact ⟨_, List.mem_singleton.mpr rfl, rfl⟩
  · unfold Has at h; obtain ⟨b, rfl, _⟩ := h; exact ⟨_, List.mem_singleton.mpr rfl, rfl⟩
  · unfold Has at h; obtain ⟨b, rfl, _⟩ := h; exact ⟨_, List.mem_singleton.mpr rfl, rfl⟩
  · unfold Has at h
    have := h.1
    cases d <;> first | (unfold okD at this; cases this; done) | exact ⟨_, by simp, rfl⟩
/-- of these some, all or none -/
def kitL (T : String) : List String → Option (Bool × Bool)
  | [] => some (false, false)
  | s :: l => match kitB s T, kitL T l with
    | some r, some (x, y) => some (x || r, y || !r)
    | _, _ => none
theorem kitL_ok {T s : String} : ∀ {l : List String} {x y : Bool}, s ∈ l → kitL T l = some (x, y) → ∃ r, kitB s T = some r ∧ (r = true → x = true) ∧ (r = false → y = true)
  | [], _, _, h, _ => by cases h
  | u :: l, x, y, h, e => by
    unfold kitL at e
    split at e
    · rename_i r x' y' e1 e2
      cases e
      rcases List.mem_cons.mp h with rfl | h
      · exact ⟨r, e1, fun z => by rw [z]; exact Bool.or_true _, fun z => by rw [z]; exact Bool.or_true _⟩
      · obtain ⟨r', q1, q2, q3⟩ := kitL_ok h e2
        exact ⟨r', q1, fun z => by rw [q2 z]; rfl, fun z => by rw [q3 z]; rfl⟩
    · cases e
def bT : Bool × Bool → Ty
  | (true, false) => .bl (some true)
  | (false, true) => .bl (some false)
  | _ => .bl none
def tIsi (T : String) (a : Ty) : Option Ty := match nmT a with
  | some l => (kitL T l).map bT
  | none => none
instance (T : String) : AbC M (dIsi T) (dstC M (tIsi T)) := abc_of fun {a U x} h e => by
  unfold tIsi at e
  split at e
  · rename_i l q
    obtain ⟨⟨x', y'⟩, e1, e2⟩ := Option.map_eq_some_iff.mp e
    cases e2
    obtain ⟨s, hs, ht⟩ := nmT_ok h q
    obtain ⟨r, q1, q2, q3⟩ := kitL_ok hs e1
    refine ⟨.bl r, ?_, ?_⟩
    · show ((tyOf x).bind fun s => (kitB s T).map D.bl) = _
      rw [ht]
      show (kitB s T).map D.bl = _
      rw [q1]
      rfl
    · unfold bT
      split
      · rename_i z; cases z
        have : r = true := by cases r <;> first | rfl | exact absurd (q3 rfl) (by decide)
        subst this; exact has_tt
      · rename_i z; cases z
        have : r = false := by cases r <;> first | rfl | exact absurd (q2 rfl) (by decide)
        subst this; exact has_tt
      · exact has_bl
  · cases e
theorem bls_has {t : Ty} {x y : Bool} (e : bOf t = some (x, y)) : ∀ {l : List D}, (∀ d ∈ l, Has M t d) → ∃ bs : List Bool, bls l = some bs ∧ bs.length = l.length ∧ ∀ b ∈ bs, (b = true → x = true) ∧ (b = false → y = true)
  | [], _ => ⟨[], rfl, rfl, fun b hb => by cases hb⟩
  | d :: l, h => by
    obtain ⟨bs, h1, h2, h3⟩ := bls_has e (l := l) fun z hz => h z (List.mem_cons_of_mem _ hz)
    obtain ⟨b, rfl, q1, q2⟩ := bOf_ok (h d List.mem_cons_self) e
    refine ⟨b :: bs, by unfold bls; rw [h1]; rfl, by simp [h2], fun z hz => ?_⟩
    rcases List.mem_cons.mp hz with rfl | hz
    · exact ⟨q1, q2⟩
    · exact h3 z hz
def tAll (a : Ty) : Option Ty := match a with
  | .lst t lo hi => if Nat.beq hi 0 then some (.bl (some true)) else match bOf t with
    | some (x, y) => some (.bl (if y then (if x then none else if Nat.blt 0 lo then some false else none) else some true))
    | none => none
  | _ => none
instance : AbC M dAll (dstC M tAll) := abc_of fun {a T x} h e => by
  unfold tAll at e
  split at e
  · unfold Has at h
    obtain ⟨l, rfl, q1, q2, q3⟩ := h
    split at e
    · rename_i hz
      cases e
      cases many_nil q2 hz
      exact ⟨_, rfl, has_tt⟩
    · split at e
      · rename_i x y eb
        cases e
        obtain ⟨bs, h1, h2, h3⟩ := bls_has eb q3
        refine ⟨.bl (bs.all id), by show (bls l).map _ = _; rw [h1]; rfl, ?_⟩
        split
        · split
          · exact has_bl
          · split
            · rename_i hx _ hlo
              rw [Nat.blt_eq] at hlo
              have : bs.all id = false := by
                cases bs with
                | nil => simp at h2; omega
                | cons b bs =>
                  have := (h3 b List.mem_cons_self).1
                  cases b with
                  | true => exact absurd (this rfl) ‹_›
                  | false => rfl
              rw [this]; exact has_tt
            · exact has_bl
        · rename_i hy
          have : bs.all id = true := by
            rw [List.all_eq_true]
            intro b hb
            cases b with
            | true => rfl
            | false => exact absurd ((h3 false hb).2 rfl) hy
          rw [this]; exact has_tt
      · cases e
  · cases e
def tAny (a : Ty) : Option Ty := match a with
  | .lst t lo hi => if Nat.beq hi 0 then some (.bl (some false)) else match bOf t with
    | some (x, y) => some (.bl (if x then none else some false))
    | none => none
  | _ => none
instance : AbC M dAny (dstC M tAny) := abc_of fun {a T x} h e => by
  unfold tAny at e
  split at e
  · unfold Has at h
    obtain ⟨l, rfl, q1, q2, q3⟩ := h
    split at e
    · rename_i hz
      cases e
      cases many_nil q2 hz
      exact ⟨_, rfl, has_tt⟩
    · split at e
      · rename_i x y eb
        cases e
        obtain ⟨bs, h1, h2, h3⟩ := bls_has eb q3
        refine ⟨.bl (bs.any id), by show (bls l).map _ = _; rw [h1]; rfl, ?_⟩
        split
        · exact has_bl
        · rename_i hx
          have : bs.any id = false := by
            rw [List.any_eq_false]
            intro b hb
            cases b with
            | false => decide
            | true => exact absurd ((h3 true hb).1 rfl) hx
          rw [this]; exact has_tt
      · cases e
  · cases e
def tInt (a : Ty) : Option Ty := match a with
  | .int x y => some (.int x y)
  | .bl (some b) => some (.int (if b then 1 else 0) (if b then 1 else 0))
  | .bl none => some (.int 0 1)
  | _ => none
instance : AbC M dInt (dstC M tInt) := abc_of fun {a T x} h e => by
  unfold tInt at e
  split at e <;> cases e
  · unfold Has at h; obtain ⟨i, rfl, q1, q2⟩ := h; exact ⟨_, rfl, has_int q1 q2⟩
  · unfold Has at h; obtain ⟨i, rfl, q1⟩ := h; rw [q1 _ rfl]; exact ⟨_, rfl, has_int (Int.le_refl _) (Int.le_refl _)⟩
  · unfold Has at h; obtain ⟨i, rfl, q1⟩ := h; exact ⟨.int (if i then 1 else 0), rfl, by cases i <;> exact has_int (by decide) (by decide)⟩
/-! ### upper, lower of plain signs -/
theorem placed_one {x : Str} {f : Nat → Nat → List Nat} {g : Nat → Nat} (h : ∀ (i c : Nat), x.cps[i]? = some c → f i c = [g c]) : placed x f = x.cps.map g := by
  unfold placed
  have e : (x.cps.mapIdx fun i c => (f i c).toArray) = x.cps.map fun c => #[g c] := by
    apply Array.ext
    · simp
    · intro i h1 h2
      rw [Array.getElem_mapIdx, Array.getElem_map]
      rw [h i _ (Array.getElem?_eq_getElem (by simpa using h1))]
  rw [e]
  apply Array.ext'
  rw [Array.toList_flatten, Array.toList_map, List.map_map, Array.toList_map]
  show (List.map (fun c => [g c]) x.cps.toList).flatten = _
  induction x.cps.toList with
  | nil => rfl
  | cons a l ih => rw [List.map_cons, List.flatten_cons, ih]; rfl
theorem upper_asc : ∀ c, c < 128 → Unicode.upperOf c = [if 97 ≤ c ∧ c ≤ 122 then c - 32 else c] := by decide +kernel
theorem lower_asc : ∀ c, c < 128 → Unicode.lowerOf c = [if 65 ≤ c ∧ c ≤ 90 then c + 32 else c] := by decide +kernel
def upC (c : Nat) : Nat := if 97 ≤ c ∧ c ≤ 122 then c - 32 else c
def loC (c : Nat) : Nat := if 65 ≤ c ∧ c ≤ 90 then c + 32 else c
theorem upper_S {l : List Nat} (h : ∀ c ∈ l, c < 128) : Txt.upper (S l) = S (l.map upC) := by
  unfold Txt.upper
  rw [placed_one (g := upC) fun i c e => upper_asc c (h c (by
    have := Array.mem_of_getElem? e
    simpa using this))]
  simp [S]
theorem lower_S {l : List Nat} (h : ∀ c ∈ l, c < 128) : Txt.lower (S l) = S (l.map loC) := by
  unfold Txt.lower
  rw [placed_one (g := loC) fun i c e => by
    have hc := h c (by
      have := Array.mem_of_getElem? e
      simpa using this)
    unfold Unicode.lowerAt
    rw [e]
    dsimp only
    have : (c == 0x3A3) = false := by rw [beq_eq_false_iff_ne]; omega
    rw [this, Bool.false_and, if_neg Bool.false_ne_true]
    exact lower_asc c hc]
  simp [S]
def ascT (a : Ty) : Option (Nat × Nat) := match txT a with
  | some (lo, hi, cs) => if rSub cs [(0, 127)] && Nat.ble hi 1000000 then some (lo, hi) else none
  | none => none
theorem ascT_ok {a : Ty} {d : D} {lo hi : Nat} (h : Has M a d) (e : ascT a = some (lo, hi)) : ∃ l, d = .str (S l) ∧ lo ≤ l.length ∧ l.length ≤ hi ∧ hi ≤ 1000000 ∧ ∀ c ∈ l, c < 128 := by
  unfold ascT at e
  split at e
  · rename_i q
    obtain ⟨hb, e⟩ := ite_none e
    cases e
    rw [Bool.and_eq_true] at hb
    obtain ⟨l, rfl, q1, q2, q3⟩ := txT_ok h q
    refine ⟨l, rfl, q1, q2, Nat.le_of_ble_eq_true hb.2, fun c hc => ?_⟩
    have := rSub_ok hb.1 (q3 c hc)
    simp [inR, Nat.blt_eq] at this
    omega
  · cases e
def tCase (a : Ty) : Option Ty := (ascT a).map fun p => .str p.1 p.2 [(0, 127)]
instance : AbU M dUpper (dst1 M tCase) := abu_of fun {a T x} h e => by
  obtain ⟨⟨lo, hi⟩, e1, e2⟩ := Option.map_eq_some_iff.mp e
  cases e2
  obtain ⟨l, rfl, q1, q2, q3, q4⟩ := ascT_ok h e1
  refine ⟨.str (Txt.upper (S l)), if_pos (by rw [S_len]; omega), ?_⟩
  rw [upper_S q4]
  unfold Has
  refine ⟨_, rfl, by rw [List.length_map]; exact q1, by rw [List.length_map]; exact q2, fun c hc => ?_⟩
  obtain ⟨c', hc', rfl⟩ := List.mem_map.mp hc
  have := q4 c' hc'
  simp only [inR, upC, Bool.or_false, Bool.or_eq_true, Bool.and_eq_true, Nat.ble_eq, Nat.blt_eq]
  split <;> omega
instance : AbU M dLower (dst1 M tCase) := abu_of fun {a T x} h e => by
  obtain ⟨⟨lo, hi⟩, e1, e2⟩ := Option.map_eq_some_iff.mp e
  cases e2
  obtain ⟨l, rfl, q1, q2, q3, q4⟩ := ascT_ok h e1
  refine ⟨.str (Txt.lower (S l)), if_pos (by rw [S_len]; omega), ?_⟩
  rw [lower_S q4]
  unfold Has
  refine ⟨_, rfl, by rw [List.length_map]; exact q1, by rw [List.length_map]; exact q2, fun c hc => ?_⟩
  obtain ⟨c', hc', rfl⟩ := List.mem_map.mp hc
  have := q4 c' hc'
  simp only [inR, loC, Bool.or_false, Bool.or_eq_true, Bool.and_eq_true, Nat.ble_eq, Nat.blt_eq]
  split <;> omega
/-! ### dicts -/
def aDic1 (x : Str) (fa : AE) : AE := fun env => (fa env).bind fun p => if (x.cps.toList.all fun c => Nat.blt c 1114112) then (dw p.1).map fun q => (.any (q.1 + 1) (10 * x.length + 2 + 2 + q.2 + 2 + 3), p.2) else none
instance (x : Str) {wa : WE} {fa : AE} [ha : AbE M wa fa] : AbE M (wDic1 x wa) (aDic1 x fa) := ⟨fun {env ρ fu P T c} h e n k => by
  obtain ⟨⟨t1, c1⟩, e1, e⟩ := Option.bind_eq_some_iff.mp e
  obtain ⟨hx, e⟩ := ite_none e
  obtain ⟨⟨d', m⟩, e3, e4⟩ := Option.map_eq_some_iff.mp e
  cases e4
  refine ha.ok h e1 n fun p fu1 h1 r1 => k _ fu1 ?_ r1
  obtain ⟨o, d, w⟩ := dw_ok h1 e3
  unfold Has
  refine ⟨?_, ?_, ?_⟩
  · unfold okD okK okK; rw [hx, o]; rfl
  · unfold dpt dptK dptK; omega
  · unfold wgt wgtK wgtK; omega⟩
end
/-! ### what a test tells of a name -/
def isNonT : Ty → Bool
  | .non => true
  | _ => false
/-- without None; None alone -/
def noNon (t : Ty) : Ty := ofAlts ((alts t).filter fun u => !isNonT u)
theorem ofAlts_ok {M : Sem} {d : D} : ∀ {l : List Ty} {t : Ty}, t ∈ l → Has M t d → Has M (ofAlts l) d
  | [], t, h, _ => by cases h
  | [u], t, h, k => by rw [List.mem_singleton] at h; subst h; exact k
  | u :: v :: l, t, h, k => by
    unfold ofAlts Has
    rcases List.mem_cons.mp h with rfl | h
    · exact .inl k
    · exact .inr (ofAlts_ok h k)
theorem noNon_ok {M : Sem} {t : Ty} {d : D} (h : Has M t d) (hd : d ≠ .non) : Has M (noNon t) d := by
  obtain ⟨u, hu, q⟩ := alts_ok h
  refine ofAlts_ok (List.mem_filter.mpr ⟨hu, ?_⟩) q
  cases e : isNonT u with
  | false => rfl
  | true =>
    unfold isNonT at e
    split at e
    · unfold Has at q; exact absurd q hd
    · cases e
/-- a test of a name's being None -/
def aNonV (i : Nat) (y : Bool) : AT := fun env => match env[i]? with
  | some (.va t) => let a := if (alts t).any fun u => match u with | .non => true | .any _ _ => true | .sem _ => true | _ => false then some (env.set i (.va .non)) else none
    let b := if (alts t).all isNonT then none else some (env.set i (.va (noNon t)))
    if y then some (a, b, 0) else some (b, a, 0)
  | _ => none
theorem no_or {a b : Ty} : ∀ (t : Ty), Ty.or a b ∉ alts t
  | .or x y => by unfold alts; intro w; rcases List.mem_append.mp w with w | w; exact no_or x w; exact no_or y w
  | .bot => by unfold alts; simp
  | .non => by unfold alts; simp
  | .src => by unfold alts; simp
  | .bl _ => by unfold alts; simp
  | .int _ _ => by unfold alts; simp
  | .word _ => by unfold alts; simp
  | .str _ _ _ => by unfold alts; simp
  | .tup _ => by unfold alts; simp
  | .tupN _ _ _ => by unfold alts; simp
  | .lst _ _ _ => by unfold alts; simp
  | .any _ _ => by unfold alts; simp
  | .sem _ => by unfold alts; simp
theorem nonV_ok {M : Sem} {i : Nat} {t : Ty} {d : D} {env : AEnv} {ρ : List Sl} (h : EnvOk M env ρ) (hd : ρ[i]? = some (.va d)) (ht : Has M t d) :
    (d = .non → OEnv M (if (alts t).any fun u => match u with | .non => true | .any _ _ => true | .sem _ => true | _ => false then some (env.set i (.va .non)) else none) ρ) ∧ (d ≠ .non → OEnv M (if (alts t).all isNonT then none else some (env.set i (.va (noNon t)))) ρ) := by
  obtain ⟨u, hu, q⟩ := alts_ok ht
  refine ⟨fun z => ?_, fun z => ?_⟩
  · subst z
    have : ((alts t).any fun u => match u with | .non => true | .any _ _ => true | .sem _ => true | _ => false) = true := by
      refine List.any_eq_true.mpr ⟨u, hu, ?_⟩
      cases u <;> first | rfl | skip
      all_goals (unfold Has at q; first | (cases q; done) | (obtain ⟨_, q, _⟩ := q; cases q; done) | skip)
      rename_i a b
      exfalso
      exact no_or t hu
    rw [if_pos this]
    exact ⟨_, rfl, env_ref h hd ⟨.non, rfl, by unfold Has; rfl⟩⟩
  · have : ¬ ((alts t).all isNonT = true) := fun w => by
      have := List.all_eq_true.mp w u hu
      unfold isNonT at this
      split at this
      · unfold Has at q; exact z q
      · cases this
    rw [if_neg this]
    exact ⟨_, rfl, env_ref h hd ⟨d, rfl, noNon_ok ht z⟩⟩
theorem dIsN_eq {d : D} {r : D} (h : dIsN d .non = some r) : r = .bl true ∧ d = .non ∨ r = .bl false ∧ d ≠ .non := by
  cases d <;> cases h <;> first | exact .inl ⟨rfl, rfl⟩ | exact .inr ⟨rfl, by intro z; cases z⟩
instance (priority := 2000) {M : Sem} (i : Nat) : AbT M (wB (wOp dIsN (wVar i) (wC .non))) (aNonV i true) := ⟨fun {env ρ fu R et ef c} h e n k => by
  unfold aNonV at e
  split at e
  · rename_i t q
    cases e
    obtain ⟨s, h1, d, rfl, h2⟩ := env_get h q
    obtain ⟨w1, w2⟩ := nonV_ok h h1 h2
    by_cases z : d = .non
    · subst z
      exact ⟨_, h1, .bl true, rfl, true, rfl, k true fu (fun _ => w1 rfl) (fun w => by cases w) Fr.refl⟩
    · have : dIsN d .non = some (.bl false) := by cases d <;> first | rfl | exact absurd rfl z
      exact ⟨_, h1, .bl false, this, false, rfl, k false fu (fun w => by cases w) (fun _ => w2 z) Fr.refl⟩
  · cases e⟩
instance (priority := 2000) {M : Sem} (i : Nat) : AbT M (wB (wOp dNotN (wVar i) (wC .non))) (aNonV i false) := ⟨fun {env ρ fu R et ef c} h e n k => by
  unfold aNonV at e
  split at e
  · rename_i t q
    cases e
    obtain ⟨s, h1, d, rfl, h2⟩ := env_get h q
    obtain ⟨w1, w2⟩ := nonV_ok h h1 h2
    by_cases z : d = .non
    · subst z
      exact ⟨_, h1, .bl false, rfl, false, rfl, k false fu (fun w => by cases w) (fun _ => w1 rfl) Fr.refl⟩
    · have : dNotN d .non = some (.bl true) := by cases d <;> first | rfl | exact absurd rfl z
      exact ⟨_, h1, .bl true, this, true, rfl, k true fu (fun _ => w2 z) (fun w => by cases w) Fr.refl⟩
  · cases e⟩
end Z
namespace Z
open PySem PySem.Spec L2
def wSource : WF := fun ds fu Q => ds = [.scr] ∧ fu = none ∧ Q .src (some (2 ^ 60))
def wDraw : WF := fun ds fu Q => ∃ (m : Int) (n : Nat), ds = [.src, .int m] ∧ 0 < m ∧ m < 1073741824 ∧ fu = some (n + 1) ∧ ∀ k : Int, 0 ≤ k → k < m → Q (.int k) (some n)
def sgDraw : List Ty → Option (Ty × Nat)
  | [.src, .int a b] => if decide (0 < a) && decide (b < 1073741824) then some (.int 0 (b - 1), 1) else none
  | _ => none
theorem en1 {fu : Fu} (h : En 1 fu) : ∃ n, fu = some (n + 1) := by
  rcases h with h | ⟨n, rfl, h⟩
  · cases h
  · exact ⟨n - 1, by congr 1; omega⟩
section
variable {M : Sem}
instance : AbF M wDraw sgDraw := ⟨fun {a T c x fu Q} h e n k => by
  unfold sgDraw at e
  split at e
  · rename_i p q
    obtain ⟨hb, e⟩ := ite_none e
    cases e
    simp only [Bool.and_eq_true, decide_eq_true_eq] at hb
    unfold HasL HasL HasL at h
    obtain ⟨x1, r1, rfl, h1, x2, r2, rfl, h2, rfl⟩ := h
    unfold Has at h1 h2
    subst h1
    obtain ⟨m, rfl, m1, m2⟩ := h2
    obtain ⟨n', rfl⟩ := en1 n
    exact ⟨m, n', rfl, by omega, by omega, rfl, fun j j0 j1 => k _ _ (by unfold Has; exact ⟨j, rfl, j0, by omega⟩) (by show n' + 1 ≤ n' + 1; omega)⟩
  · cases e⟩
/-- the items of a list, a tuple, a text -/
def itT (t : Ty) : Option (Ty × Nat × Nat) := match sqT t with
  | some x => some x
  | none => sgT t
theorem itT_ok {t T : Ty} {d : D} {lo hi : Nat} (h : Has M t d) (e : itT t = some (T, lo, hi)) : hi ≤ 100000 → ∃ l, items d = some l ∧ lo ≤ l.length ∧ l.length ≤ hi ∧ ∀ x ∈ l, Has M T x := fun hb => by
  unfold itT at e
  split at e
  · rename_i q
    cases e
    obtain ⟨l, hl, r⟩ := sqT_ok h q
    refine ⟨l, ?_, r⟩
    cases d <;> first | (cases hl; done) | exact hl
  · obtain ⟨⟨lo2, hi2, cs⟩, e5, e6⟩ := Option.map_eq_some_iff.mp e
    cases e6
    obtain ⟨l, rfl, q1, q2, q3⟩ := txT_ok h e5
    refine ⟨signs (S l), ?_, by rw [signs_S]; simpa using q1, by rw [signs_S]; simpa using q2, fun x hx => ?_⟩
    · show (if (S l).length ≤ sizeLine then some (signs (S l)) else none) = _
      rw [if_pos (size_pos (by rw [S_len]; dsimp only at q2 hb; omega))]
    · rw [signs_S] at hx
      obtain ⟨c, hc, rfl⟩ := List.mem_map.mp hx
      unfold Has
      exact ⟨[c], rfl, Nat.le_refl _, Nat.le_refl _, fun c' hc' => by rw [List.mem_singleton.mp hc']; exact q3 c hc⟩
def tPick (t : Ty) : Option Ty := match itT t with
  | some (T, lo, hi) => if Nat.blt 0 lo && Nat.ble hi 100000 then some T else none
  | none => none
def sgPick (M : Sem) : List Ty → Option (Ty × Nat)
  | [.src, t] => (dst1 M tPick t).map fun u => (u, 1)
  | _ => none
instance [SemOk M] : AbF M wPick (sgPick M) := ⟨fun {a T c x fu Q} h e n k => by
  unfold sgPick at e
  split at e
  · rename_i t
    obtain ⟨u, e1, e2⟩ := Option.map_eq_some_iff.mp e
    cases e2
    unfold HasL HasL HasL at h
    obtain ⟨x1, r1, rfl, h1, x2, r2, rfl, h2, rfl⟩ := h
    unfold Has at h1
    subst h1
    obtain ⟨v, hv, h2⟩ := altM_ok h2
    obtain ⟨w, e3, hw⟩ := allJ_ok e1 (List.mem_map.mpr ⟨v, hv, rfl⟩)
    unfold tPick at e3
    split at e3
    · rename_i q
      obtain ⟨hb, e3⟩ := ite_none e3
      cases e3
      rw [Bool.and_eq_true, Nat.blt_eq, Nat.ble_eq] at hb
      obtain ⟨l, hl, q1, q2, q3⟩ := itT_ok h2 q hb.2
      obtain ⟨n', rfl⟩ := en1 n
      exact ⟨x2, l, n', rfl, hl, fun z => by subst z; simp at q1; omega, by omega, rfl, fun d hd => k d (some n') (hw d (q3 d hd)) (by show n' + 1 ≤ n' + 1; omega)⟩
    · cases e3
  · cases e⟩
end
/-- xs[e % len(xs)] -/
def aIxM (M : Sem) (i : Nat) (fe : AE) : AE := fun env => match env[i]? with
  | some (.va t) => (fe env).bind fun p => if (inT p.1).isSome then (dst1 M tPick t).map fun u => (u, p.2) else none
  | _ => none
theorem items_at {d : D} {l : List D} {i : Int} (h : items d = some l) (h0 : 0 ≤ i) (h1 : i < l.length) : ∃ a, a ∈ l ∧ dIx d (.int i) = some a := by
  obtain ⟨a, ha, _, e⟩ := items_ix h h0 h1
  exact ⟨a, ha, e⟩
instance (priority := 2000) ixm {M : Sem} [SemOk M] (i : Nat) {we : WE} {fe : AE} [ha : AbE M we fe] : AbE M (wOp dIx (wVar i) (wOp dMod we (wCl dLen (wCons (wVar i) wNil)))) (aIxM M i fe) := ⟨fun {env ρ fu P T c} h e n k => by
  unfold aIxM at e
  split at e
  · rename_i t q
    obtain ⟨⟨t1, c1⟩, e1, e⟩ := Option.bind_eq_some_iff.mp e
    obtain ⟨hi, e⟩ := ite_none e
    obtain ⟨u, e2, e3⟩ := Option.map_eq_some_iff.mp e
    cases e3
    obtain ⟨s, hs, d, rfl, hd⟩ := env_get h q
    obtain ⟨⟨lo, hi⟩, hq⟩ := Option.isSome_iff_exists.mp hi
    obtain ⟨v, hv, hd'⟩ := altM_ok hd
    obtain ⟨w, e3, hw⟩ := allJ_ok e2 (List.mem_map.mpr ⟨v, hv, rfl⟩)
    unfold tPick at e3
    split at e3
    · rename_i q'
      obtain ⟨hb, e3⟩ := ite_none e3
      cases e3
      rw [Bool.and_eq_true, Nat.blt_eq, Nat.ble_eq] at hb
      obtain ⟨l, hl, q1, q2, q3⟩ := itT_ok hd' q' hb.2
      refine ⟨d, hs, ha.ok h e1 n fun p fu1 h1 r1 => ?_⟩
      obtain ⟨j, rfl, j1, j2⟩ := inT_ok h1 hq
      have hpos : (0 : Int) < (l.length : Int) := by omega
      refine ⟨d, hs, _, items_len hl, .int (j % l.length), if_pos (decide_eq_true hpos), ?_⟩
      obtain ⟨a, ha, hx⟩ := items_at hl (Int.emod_nonneg j (by omega)) (Int.emod_lt_of_pos j hpos)
      exact ⟨a, hx, k a fu1 (hw a (q3 a ha)) r1⟩
    · cases e3
  · cases e⟩
/-- no predicates -/
def M0 : Sem := ⟨fun _ _ => False, fun _ => none⟩
instance : SemOk M0 := ⟨fun h _ => by cases h⟩
end Z
namespace Z
open PySem PySem.Spec L2
/-! ## parts of data within bounds -/
theorem okL_mem {l : List D} {x : D} (h : okL l = true) (hx : x ∈ l) : okD x = true := by
  induction l with
  | nil => cases hx
  | cons a l ih =>
    unfold okL at h
    rw [Bool.and_eq_true] at h
    rcases List.mem_cons.mp hx with rfl | hx
    · exact h.1
    · exact ih h.2 hx
theorem wgtL_mem {l : List D} {x : D} (hx : x ∈ l) : wgt x + 2 ≤ wgtL l := by
  induction l with
  | nil => cases hx
  | cons a l ih =>
    unfold wgtL
    rcases List.mem_cons.mp hx with rfl | hx
    · omega
    · have := ih hx; omega
theorem wgtL_len (l : List D) : 2 * l.length ≤ wgtL l := by
  induction l with
  | nil => exact Nat.zero_le _
  | cons a l ih => unfold wgtL; rw [List.length_cons]; omega
theorem dptL_mem {l : List D} {x : D} (hx : x ∈ l) : dpt x ≤ dptL l := by
  induction l with
  | nil => cases hx
  | cons a l ih =>
    unfold dptL
    rcases List.mem_cons.mp hx with rfl | hx
    · omega
    · have := ih hx; omega
/-- within bounds -/
structure In (x : D) (k m : Nat) : Prop where
  o : okD x = true
  d : dpt x ≤ k
  w : wgt x ≤ m
theorem In.of {M : Sem} {t : Ty} {d : D} {k m k' m' : Nat} (h : Has M t d) (e : dw t = some (k', m')) (h1 : k' ≤ k) (h2 : m' ≤ m) : In d k m := by
  obtain ⟨a, b, c⟩ := dw_ok h e
  exact ⟨a, by omega, by omega⟩
theorem In.tup {l : List D} {k m : Nat} (h : In (.tup l) k m) : ∀ x ∈ l, In x k m := fun x hx => by
  have h1 := h.o
  have h2 := h.d
  have h3 := h.w
  unfold okD at h1
  unfold dpt at h2
  unfold wgt at h3
  have := wgtL_mem hx
  have := dptL_mem hx
  exact ⟨okL_mem h1 hx, by omega, by omega⟩
theorem In.lst {l : List D} {k m : Nat} (h : In (.lst l) k m) : ∀ x ∈ l, In x k m := fun x hx => by
  have h1 := h.o
  have h2 := h.d
  have h3 := h.w
  unfold okD at h1
  unfold dpt at h2
  unfold wgt at h3
  have := wgtL_mem hx
  have := dptL_mem hx
  exact ⟨okL_mem h1 hx, by omega, by omega⟩
theorem In.tup_len {l : List D} {k m : Nat} (h : In (.tup l) k m) : 2 * l.length ≤ m := by
  have h3 := h.w
  unfold wgt at h3
  have := wgtL_len l
  omega
theorem In.lst_len {l : List D} {k m : Nat} (h : In (.lst l) k m) : 2 * l.length ≤ m := by
  have h3 := h.w
  unfold wgt at h3
  have := wgtL_len l
  omega
theorem In.str_len {s : List Nat} {k m : Nat} (h : In (.str (S s)) k m) : 10 * s.length ≤ m := by
  have h3 := h.w
  unfold wgt at h3
  rw [S_len] at h3
  omega
theorem In.dat {d : D} {k m : Nat} (h : In d k m) : dat d = true := okD_dat d h.o
theorem In.rep {d : D} {k m : Nat} (h : In d k m) (h1 : k ≤ 64) (h2 : m ≤ 16777216) : dRep [d] = some (.str (PyData.shown (py d))) := dRep_ok (rep_of h.o (by have := h.d; omega) (by have := h.w; omega))
theorem okD_S {l : List Nat} : okD (.str (S l)) = l.all fun c => Nat.blt c 1114112 := by unfold okD S; simp
/-- == [] of data -/
theorem eq_nil {l : List D} {k m : Nat} (h : ∀ x ∈ l, In x k m) (hp : ∀ x ∈ l, plain x = true) (hk : k < 64) : dEQ (.lst l) (.lst []) = some (.bl l.isEmpty) := by
  have e : eqOk (.lst l) (.lst []) = true := eqOk_of (by unfold okD; exact okL_of fun x hx => (h x hx).o) (by unfold plain; exact plainL_of hp) (by unfold dpt; have := dptL_of fun x hx => (h x hx).d; omega) rfl rfl (by decide)
  have : deq (.lst l) (.lst []) = l.isEmpty := by
    unfold deq
    cases l <;> simp [py, pyL, PyData.eqv, PyData.eqvAll]
  rw [dEQ_of (by unfold dEq; rw [if_pos e]), this]
theorem dInS_1 (c : Nat) (s : List Nat) : dInS (.str (S [c])) (.str (S s)) = some (.bl (decide (c ∈ s))) := rfl
theorem dNinS_1 (c : Nat) (s : List Nat) : dNinS (.str (S [c])) (.str (S s)) = some (.bl (!decide (c ∈ s))) := rfl
theorem dAll_bls (l : List Bool) : dAll [.lst (l.map .bl)] = some (.bl (l.all id)) := by
  show (bls _).map _ = _
  rw [bls_map]; rfl
theorem dAny_bls (l : List Bool) : dAny [.lst (l.map .bl)] = some (.bl (l.any id)) := by
  show (bls _).map _ = _
  rw [bls_map]; rfl
theorem dLen_S (l : List Nat) (h : l.length ≤ 16777216) : dLen [.str (S l)] = some (.int l.length) := by
  show (if (S l).length ≤ sizeLine then some (D.int (S l).length) else none) = _
  rw [S_len, if_pos (show l.length ≤ sizeLine from h)]
/-- a comprehension without a test, read by a plain function -/
theorem lc_map {g : WG} {we : WE} {ρ : List Sl} {fu : Fu} {T : List D → Fu → Prop} {ds : List D} (h : D → D) (hs : ∀ d ∈ ds, ∀ (k : D → Fu → Prop), k (h d) fu → g d ρ fun ρ' => we ρ' fu k)
    (hl : ds.length ≤ 10000000) (hn : T (ds.map h) fu) : lcLoop g wYes we ρ T ds [] fu := by
  refine lc_plain (fun _ => true) h (fun d hd k1 k0 hk => ?_) (size_pos (by simpa using hl)) (by rw [List.filter_eq_self.mpr fun _ _ => rfl]; exact hn)
  have := hs d hd k1 (by simpa using hk)
  simpa using this
/-- .. with a test, each kept as it is -/
theorem lc_filter {g : WG} {u : WT} {we : WE} {ρ : List Sl} {fu : Fu} {T : List D → Fu → Prop} {ds : List D} (p : D → Bool) (h : D → D) (hs : ∀ d ∈ ds, ∀ (k1 : D → Fu → Prop) (k0 : Fu → Prop), (if p d = true then k1 (h d) fu else k0 fu) → g d ρ fun ρ' => u ρ' fu fun k fu1 => if k = true then we ρ' fu1 k1 else k0 fu1)
    (hl : ds.length ≤ 10000000) (hn : T ((ds.filter p).map h) fu) : lcLoop g u we ρ T ds [] fu := lc_plain p h hs (size_pos (by simpa using hl)) (by simpa using hn)
theorem atI_last {α : Type} {l : List α} (h : l ≠ []) : atI l (-1) = some (l.getLast h) := by
  have hl : 0 < l.length := List.length_pos_iff.mpr h
  unfold atI ixN
  rw [if_neg (by decide), if_pos (by omega)]
  have e : ((-1 : Int) + (l.length : Int)).toNat = l.length - 1 := by omega
  rw [e, List.getLast_eq_getElem]
  exact List.getElem?_eq_getElem (by omega)
theorem ix_last {l : List D} (h : l ≠ []) : dIx (.tup l) (.int (-1)) = some (l.getLast h) := atI_last h
theorem cut_init {α : Type} (l : List α) : cutG l none (some (-1)) = l.dropLast := by
  unfold cutG
  rw [HT.sIx_none]
  have : HT.sIx l.length l.length (some (-1)) = l.length - 1 := by unfold HT.sIx; dsimp only; rw [if_pos (by decide)]; omega
  rw [this, List.drop_zero, Nat.sub_zero, List.dropLast_eq_take]
theorem sl_init (l : List D) : dSl (.tup l) none (some (-1)) = some (.tup l.dropLast) := by
  show some (D.tup (cutG l none (some (-1)))) = _
  rw [cut_init]
theorem enum_get : ∀ {l : List D} {k i : Nat} {z : D}, (enumD k l)[i]? = some z → ∃ d, l[i]? = some d ∧ z = .tup [.int ((k + i : Nat) : Int), d]
  | [], k, i, z, h => by unfold enumD at h; simp at h
  | d :: l, k, 0, z, h => by
    unfold enumD at h
    cases h
    exact ⟨d, rfl, rfl⟩
  | d :: l, k, i + 1, z, h => by
    unfold enumD at h
    obtain ⟨e, h1, h2⟩ := enum_get (l := l) (k := k + 1) (i := i) (by simpa using h)
    exact ⟨e, by simpa using h1, by rw [h2]; congr 4; omega⟩
/-- a look that is right at all data within bounds -/
def sgAny (k m : Nat) (T : Ty) : List Ty → Option (Ty × Nat)
  | [t] => match dw t with
    | some (k', m') => if Nat.ble k' k && Nat.ble m' m then some (T, 0) else none
    | none => none
  | _ => none
theorem abf_any {M : Sem} {wf : WF} {k m : Nat} {T : Ty} (h : ∀ d fu Q, In d k m → (∀ x, Has M T x → Q x fu) → wf [d] fu Q) : AbF M wf (sgAny k m T) := ⟨fun {a U c x fu Q} h1 e n kk => by
  unfold sgAny at e
  split at e
  · split at e
    · rename_i q
      obtain ⟨hb, e⟩ := ite_none e
      cases e
      rw [Bool.and_eq_true, Nat.ble_eq, Nat.ble_eq] at hb
      unfold HasL HasL at h1
      obtain ⟨y, r, rfl, h1, rfl⟩ := h1
      exact h y fu Q (In.of h1 q hb.1 hb.2) fun x hx => kk x fu hx Fr.refl
    · cases e
  · cases e⟩
/-- the law itself: first its source, then shapes alone -/
def chkLaw (f : AW) (i n : Nat) : Bool := match f ((List.replicate n .top).set i (.va .src)) with
  | none => false
  | some r => r.nx.isNone && r.bk.isNone && r.ct.isNone && Nat.ble r.c 1152921504606846976 && (match r.rt with | none => true | some t => Sb t (.bl (some true)))
theorem of_law {M : Sem} {w : WS} {f : AW} {N : List Str} {i m : Nat} {wf : WF} [hw : AbW M w f] (hs : ∀ ds fu Q, wSource ds fu Q → wf ds fu Q) (hm : m = 1) (hN : N.length ≠ 0) (h : chkLaw f i N.length = true) :
    ∀ ds fu Q, (ds = [D.scr] ∧ fu = none ∧ ∀ fu', Q (.bl true) fu') → wFn N (zSeq (zSet i (wCall m wf (wCons (wVar 0) wNil))) w) ds fu Q := by
  rintro ds fu Q ⟨rfl, rfl, hQ⟩
  subst hm
  unfold chkLaw at h
  split at h
  · cases h
  · rename_i r e
    simp only [Bool.and_eq_true, Option.isNone_iff_eq_none] at h
    obtain ⟨⟨⟨⟨b0, b1⟩, b2⟩, b3⟩, b4⟩ := h
    have hc := Nat.le_of_ble_eq_true b3
    refine ⟨.scr, rfl, rfl, hs _ _ _ ⟨rfl, rfl, ?_⟩⟩
    have h0 : EnvOk M (List.replicate N.length .top) (startD N [.scr]) := by
      have : startD N [.scr] = .va .scr :: List.replicate (N.length - 1) .un := rfl
      rw [this]
      obtain ⟨n, hn⟩ : ∃ n, N.length = n + 1 := ⟨N.length - 1, by omega⟩
      rw [hn, List.replicate_succ]
      exact ⟨_, _, rfl, trivial, env_tops n⟩
    have he : EnvOk M ((List.replicate N.length .top).set i (.va .src)) ((startD N [.scr]).set i (.va .src)) := env_set h0 ⟨_, rfl, by unfold Has; rfl⟩
    refine hw.ok he e (.inr ⟨_, rfl, hc⟩) ⟨fun ρ' fu' q x => ?_, fun d fu' q x => ?_, fun ρ' fu' q x => ?_, fun ρ' fu' q x => ?_⟩
    · obtain ⟨_, z, _⟩ := q
      rw [b0] at z; cases z
    · obtain ⟨t, z, q⟩ := q
      rw [z] at b4
      have := Sb_ok b4 q
      unfold Has at this
      obtain ⟨b, rfl, q2⟩ := this
      rw [q2 true rfl]
      exact hQ fu'
    · obtain ⟨_, z, _⟩ := q
      rw [b1] at z; cases z
    · obtain ⟨_, z, _⟩ := q
      rw [b2] at z; cases z
theorem dNeg_int (i : Int) : dNeg (.int i) = some (.int (-i)) := rfl
end Z
namespace W
open PySem PySem.Spec L2 Z
open PyProof.Rows (envOfC)
def topS (i : Nat) : Stmt := PySem.Challenge.pw_sureslips_k01_names_kinds_values.main.body.getD i (.Pass ⟨0, 0, 0, 0⟩)
section
variable {P : Program} {w : World} {K : PySem.W.Frag} {mg : Str → Option Value} {base : Heap}
/-! ### the source -/
theorem src_made {y : Gh} {H H2 : Hp} {Pd : KD} {Q : VK} {c r : Addr} {ms : List Int} {t : Int} (q : ∀ d fu' v H' y', Pd d fu' → GOk y' H' fu' → Nx y H y' H' → Rp K y' v d → Q v H') (go : GOk y H none) (s2 : Sub H H2)
    (nc : H2 c = none) (nr : (upd H2 c (.lst ((ms.map V.int).reverse))) r = none) (hP : Pd D.src (some (2 ^ 60))) (hlen : ms.length ≤ 63) (h1 : 0 ≤ t) (h2 : t < 2 ^ 40) :
    Q (.ref r) (upd (upd H2 c (.lst ((ms.map V.int).reverse))) r (.lst [.ref c, .int t, .int 0])) := by
  have ne : c ≠ r := fun e => by rw [← e, upd_same] at nr; cases nr
  have hc0 : H c = none := by
    cases e : H c with
    | none => rfl
    | some u => rw [s2 c u e] at nc; cases nc
  have nr2 : H2 r = none := by rw [upd_ne ne.symm] at nr; exact nr
  have hr0 : H r = none := by
    cases e : H r with
    | none => rfl
    | some u => rw [s2 r u e] at nr2; cases nr2
  have hs : Sub H (upd (upd H2 c (.lst ((ms.map V.int).reverse))) r (.lst [.ref c, .int t, .int 0])) := s2.trans fun b u e => by
    rw [upd_ne (ne_of_none e nr2), upd_ne (ne_of_none e nc)]
    exact e
  have gn : ∀ b, H b = none → y.g b = none := fun b hb => by
    cases e : y.g b with
    | none => rfl
    | some u => rw [go.sub b u e] at hb; cases hb
  have ys : y.s = none := go.src
  refine q .src (some (2 ^ 60)) _ _ ⟨y.g, some (r, c)⟩ hP ⟨go.sub.trans hs, ?_⟩ ⟨⟨Sub.refl _, fun p hp => ?_⟩, fun b u e _ => hs b u e, fun b hb => ?_, fun _ _ h => h, fun p hp => ?_⟩ (.src rfl)
  · refine ⟨r, c, rfl, gn r hr0, gn c hc0, ne.symm, ms.reverse, t, 0, upd_same, ?_, by rw [List.length_reverse]; exact hlen, h1, h2, Int.le_refl 0, by simp⟩
    rw [upd_ne ne, upd_same, List.map_reverse]
  · rw [ys] at hp; cases hp
  · cases e : H b with
    | none => exact absurd e hb
    | some u => rw [hs b u e]; simp
  · cases hp
    exact .inr ⟨hr0, hc0⟩
theorem sc12 : FnScope ["_law_script", "_law_cells", "_law_stirred", "_law_cell"] ["_law_script"] (defScope (topS 12)) := ⟨rfl, rfl, rfl, by decide +kernel, rfl, by decide +kernel, by decide +kernel⟩
theorem ok12 {f : Addr} {fd : FuncData} (Fn : Fun K "_law_source" "_law_source" (topS 12) f fd) (ml : mg "list" = none) : FnG P w K mg base 1 f fd ["_law_script"] wSource := by
  refine FnG.ofH Fn sc12 fun cdv A outer s H vs ds y fu Pd Q hr hgd hl go rp hw q => ?_
  obtain ⟨rfl, rfl, hP⟩ := hw
  cases rp with
  | cons r1 r2 =>
  cases r2
  cases r1 with
  | scr hS hn =>
  rename_i a ns
  have hS' : SqL K H a (ns.map V.int) := sqL_same go.sub hS
  refine ⟨_, pss_cons (ps_par (i := 1) (j := 2) rfl sc12.nd rfl rfl (by decide) rfl rfl (pa_cons (pe_callTy call_list_of (by rfl) ml (by decide +kernel) (pa_cons (pe_slice sl_list (pv 0) po_none (po_some pe_int)) pa_nil)) (pa_cons pe_int pa_nil)) (by rfl))
    (pss_cons (ps_for PassesOwn.never rfl (pi_list (pv 1)) (pg_name (i := 3) sc12.nd rfl (.inl rfl)) (pss_one (ps_set (i := 2) sc12.nd rfl (.inl rfl) (pe_op op_mod (pe_op op_add (pe_op op_add (pe_op op_mul (pv 2) pe_int) (pe_op op_mod (pv 3) pe_int)) pe_int) pe_int))))
    (pss_one (ps_ret (pe_lst (pa_cons (pe_revL (pv 1)) (pa_cons (pv 2) (pa_cons pe_int pa_nil))))))), ?_⟩
  refine ⟨.ref a, rfl, 63, rfl, a, _, rfl, hS', fun p np => ⟨p, _, rfl, .inl (.inl (.inl upd_same)), fun l nl => ⟨_, _, rfl, ?_⟩⟩⟩
  obtain ⟨ms, hms, hlen⟩ : ∃ ms : List Int, cutV (ns.map V.int) none (some 63) = ms.map V.int ∧ ms.length ≤ 63 := by
    refine ⟨(ns.drop (HT.sIx ns.length 0 none)).take (HT.sIx ns.length ns.length (some 63) - HT.sIx ns.length 0 none), ?_, ?_⟩
    · unfold cutV
      rw [List.length_map, List.map_take, List.map_drop]
    · rw [List.length_take, List.length_drop]
      omega
  rw [hms] at nl ⊢
  have s1 : Sub H (upd H p (.lst (ms.map V.int))) := fun b u e => by rw [upd_ne (ne_of_none e np)]; exact e
  have s2 : Sub H (upd (upd H p (.lst (ms.map V.int))) l (.lst (ms.map V.int))) := s1.trans fun b u e => by rw [upd_ne (ne_of_none e nl)]; exact e
  generalize hH2 : upd (upd H p (.lst (ms.map V.int))) l (.lst (ms.map V.int)) = H2 at s2 ⊢
  have hl2 : H2 l = some (.lst (ms.map V.int)) := by rw [← hH2]; exact upd_same
  refine ⟨.ref l, rfl, l, rfl, ⟨_, .inl (.inl hl2)⟩, for_list (xs := ms.map V.int) (fun i σ H' => H' = H2 ∧ ∃ (t : Int) (z : Option V), σ = [some (.ref a), some (.ref l), some (.int t), z] ∧ 0 ≤ t ∧ t < 2 ^ 40) ⟨rfl, 71011, none, rfl, by decide, by decide⟩
    (fun i σ H' _ h => by obtain ⟨rfl, _⟩ := h; exact .inl (.inl hl2)) (fun i x σ H' hx h => ?_) (fun σ H' h => ?_)⟩
  · obtain ⟨rfl, t, z, rfl, h1, h2⟩ := h
    rw [List.getElem?_map] at hx
    obtain ⟨n, _, rfl⟩ := Option.map_eq_some_iff.mp hx
    refine ⟨.int t, rfl, t, 48271, rfl, rfl, .inl ⟨by omega, by omega⟩, .int n, rfl, n, 2147483563, rfl, rfl, (show (0 : Int) < 2147483563 by decide), _, _, rfl, rfl, _, _, rfl, rfl, _, _, rfl, rfl, (show (0 : Int) < 2147483629 by decide), rfl, _, _, rfl, ?_, ?_⟩
    · exact Int.emod_nonneg _ (by decide)
    · exact Int.lt_trans (Int.emod_lt_of_pos _ (by decide)) (by decide)
  · obtain ⟨rfl, t, z, rfl, h1, h2⟩ := h
    refine ⟨.ref l, rfl, l, _, rfl, .inl (.inl hl2), fun c nc => ⟨.int t, rfl, (show 3 ≤ sizeLine by decide), fun r nr => ?_⟩⟩
    exact src_made q go s2 nc nr hP hlen h1 h2
end
end W
namespace W
open PySem PySem.Spec L2 Z
open PyProof.Rows (envOfC)
theorem draw_done {K : PySem.W.Frag} {y : Gh} {H H' : Hp} {Pd : KD} {Q : VK} {a c : Addr} {n : Nat} {k m : Int} (q : ∀ d fu' v H' y', Pd d fu' → GOk y' H' fu' → Nx y H y' H' → Rp K y' v d → Q v H') (go : GOk y H (some (n + 1)))
    (hs : y.s = some (a, c)) (hP : ∀ k : Int, 0 ≤ k → k < m → Pd (.int k) (some n)) (h1 : 0 ≤ k) (h2 : k < m) (hk : ∀ b u, H b = some u → b ≠ a → b ≠ c → H' b = some u) (hi : SrcIn a c H' n) : Q (.int k) H' := by
  obtain ⟨a', c', e1, e2, e3, e4⟩ := go.src
  rw [hs] at e1
  cases e1
  refine q (.int k) (some n) _ H' y (hP k h1 h2) ⟨fun b u e => ?_, ⟨a, c, hs, e2, e3, hi⟩⟩ ⟨Gx.refl y, fun b u e nb => ?_, fun b hb => ?_, fun _ _ h => h, fun _ h => .inl h⟩ (.int k)
  · refine hk b u (go.sub b u e) ?_ ?_
    · intro z; rw [z, e2] at e; cases e
    · intro z; rw [z, e3] at e; cases e
  · obtain ⟨n1, n2⟩ := nb _ hs
    exact hk b u e n1 n2
  · obtain ⟨_, ns, t, z, i1, i2, _⟩ := hi
    by_cases ba : b = a
    · rw [ba, i1]; simp
    · by_cases bc : b = c
      · rw [bc, i2]; simp
      · cases e : H b with
        | none => exact absurd e hb
        | some u => rw [hk b u e ba bc]; simp
theorem ints_shaped (ns : List Int) : SeqAt.shaped (.list (ns.map PyData.int)) = true := by
  have h1 : PyData.canLayAll0 (ns.map PyData.int) = true := by
    induction ns with
    | nil => rfl
    | cons n ns ih => rw [List.map_cons]; unfold PyData.canLayAll0 PyData.canLay0; exact ih
  have h2 : PyData.depthAll (ns.map PyData.int) = 0 := by
    induction ns with
    | nil => rfl
    | cons n ns ih =>
      rw [List.map_cons]
      unfold PyData.depthAll
      have : PyData.canLayAll0 (ns.map PyData.int) = true := by
        rw [List.map_cons] at h1
        unfold PyData.canLayAll0 PyData.canLay0 at h1
        exact h1
      rw [ih this]
      rfl
  unfold SeqAt.shaped PyData.canLay0 PyData.depth
  rw [h1, h2]
  rfl
theorem ints_dp {K : PySem.W.Frag} {H : Hp} : ∀ ns : List Int, DpAll K H (ns.map V.int) (ns.map PyData.int)
  | [] => .nil
  | n :: ns => .cons (.int n) (ints_dp ns)
theorem ints_nil (ns : List Int) : PyData.eqv (.list (ns.map PyData.int)) (.list []) = ns.isEmpty := by
  cases ns <;> simp [PyData.eqv, PyData.eqvAll]
theorem at2 {x y z : V} : atI [x, y, z] 2 = some z := rfl
theorem at1 {x y z : V} : atI [x, y, z] 1 = some y := rfl
theorem at0 {x y z : V} : atI [x, y, z] 0 = some x := rfl
section
variable {P : Program} {w : World} {K : PySem.W.Frag} {mg : Str → Option Value} {base : Heap}
theorem sc13 : FnScope ["_law_source_here", "_law_many", "_law_turn", "_law_number", "_law_cell"] ["_law_source_here", "_law_many"] (defScope (topS 13)) := ⟨rfl, rfl, rfl, by decide +kernel, rfl, by decide +kernel, by decide +kernel⟩
theorem ok13 {f : Addr} {fd : FuncData} (Fn : Fun K "_law_draw" "_law_draw" (topS 13) f fd) : FnG P w K mg base 1 f fd ["_law_source_here", "_law_many"] wDraw := by
  refine FnG.ofH Fn sc13 fun cdv A outer s H vs ds y fu Pd Q hr hgd hl go rp hw q => ?_
  obtain ⟨m, n, rfl, m0, m1, rfl, hP⟩ := hw
  cases rp with
  | cons r1 r2 =>
  cases r2 with
  | cons r2 r3 =>
  cases r3
  cases r2
  cases r1 with
  | src hs =>
  rename_i a c
  obtain ⟨a', c', e1, e2, e3, hne, ns, t, z, ha, hc, hns, t0, t1, z0, z1⟩ := go.src
  rw [hs] at e1
  cases e1
  refine ⟨_, pss_cons (ps_asg (pe_op op_add (pe_ix ix_list (pv 0) pe_int (fun _ _ => rfl)) pe_int) (pg_sub (pv 0) pe_int set_list))
    (pss_cons (ps_par (i := 2) (j := 3) rfl sc13.nd rfl rfl (by decide) rfl rfl (pa_cons (pe_ix ix_list (pv 0) pe_int (fun _ _ => rfl)) (pa_cons (pe_ix ix_list (pv 0) pe_int (fun _ _ => rfl)) pa_nil)) (by rfl))
    (pss_cons (ps_if (pt_cmpR (op_neD hr.units) (pe_ix ix_list (pv 0) pe_int (fun _ _ => rfl)) (pe_lst pa_nil) (nomark _))
      (pss_cons (ps_set (i := 4) sc13.nd rfl (.inl rfl) (pe_bm0 PySem.F.plainAttrs_list PySem.F.slot_list_pop PySem.F.type_list_pop mt_pop (pe_ix ix_list (pv 0) pe_int (fun _ _ => rfl))))
      (pss_cons (ps_if (pt_cmpR op_ge (pv 4) (pe_op op_pow pe_int pe_int) (nomark _))
        (pss_cons (ps_expr (pe_bm PySem.F.plainAttrs_list PySem.F.slot_list_append PySem.F.type_list_append mt_append (pe_ix ix_list (pv 0) pe_int (fun _ _ => rfl)) (pa_cons (pe_op op_fdiv (pv 4) (pv 1)) pa_nil)))
        (pss_one (ps_ret (pe_op op_mod (pv 4) (pv 1))))) pss_nil)
      (pss_one (ps_set (i := 3) sc13.nd rfl (.inl rfl) (pe_op op_add (pv 3) (pv 4)))))) pss_nil)
    (pss_cons (ps_set (i := 3) sc13.nd rfl (.inl rfl) (pe_op op_mod (pe_op op_mul (pe_op op_add (pe_op op_add (pe_op op_mod (pv 3) pe_int) pe_int) (pe_op op_mul (pe_op op_mul pe_int (pv 2)) (pv 2))) pe_int) pe_int))
    (pss_cons (ps_set (i := 3) sc13.nd rfl (.inl rfl) (pe_op op_mod (pe_op op_add (pe_op op_add (pe_op op_mul (pv 3) (pv 3)) (pe_op op_mul pe_int (pv 2))) pe_int) pe_int))
    (pss_one (ps_ret (pe_op op_mod (pe_op op_fdiv (pe_op op_mod (pe_op op_mul (pv 3) pe_int) pe_int) pe_int) (pv 1)))))))), ?_⟩
  have at2' : ∀ {x y z : V}, ixN [x, y, z].length 2 = some 2 := rfl
  refine ⟨.ref a, rfl, a, _, 2, _, rfl, rfl, .inl (.inl ha), at2, z, 1, rfl, rfl, .ref a, rfl, a, _, 2, 2, rfl, rfl, ha, at2', ?_⟩
  have ha1 : (upd H a (.lst [.ref c, .int t, .int (z + 1)])) a = some (.lst [.ref c, .int t, .int (z + 1)]) := upd_same
  have hc1 : (upd H a (.lst [.ref c, .int t, .int (z + 1)])) c = some (.lst (ns.map V.int)) := by rw [upd_ne hne.symm]; exact hc
  have hk1 : ∀ b u, H b = some u → b ≠ a → b ≠ c → (upd H a (.lst [.ref c, .int t, .int (z + 1)])) b = some u := fun b u e n1 _ => by rw [upd_ne n1]; exact e
  show tSeq _ _ _ _ (upd H a (.lst [.ref c, .int t, .int (z + 1)]))
  generalize upd H a (.lst [.ref c, .int t, .int (z + 1)]) = H1 at ha1 hc1 hk1 ⊢
  have ix0 : SqL K H1 a [.ref c, .int t, .int (z + 1)] := .inl (.inl ha1)
  refine ⟨.ref a, rfl, a, _, 2, _, rfl, rfl, ix0, at2, .ref a, rfl, a, _, 1, _, rfl, rfl, ix0, at1, _, _, rfl, ?_⟩
  refine ⟨.ref a, rfl, a, _, 0, _, rfl, rfl, ix0, at0, Nat.zero_le _, fun p np => ?_⟩
  have npa : a ≠ p := ne_of_none ha1 np
  have npc : c ≠ p := ne_of_none hc1 np
  have ha2 : (upd H1 p (.lst [])) a = some (.lst [.ref c, .int t, .int (z + 1)]) := by rw [upd_ne npa]; exact ha1
  have hc2 : (upd H1 p (.lst [])) c = some (.lst (ns.map V.int)) := by rw [upd_ne npc]; exact hc1
  have hp2 : (upd H1 p (.lst [])) p = some (.lst []) := upd_same
  have hk2 : ∀ b u, H b = some u → b ≠ a → b ≠ c → (upd H1 p (.lst [])) b = some u := fun b u e n1 n2 => by
    have e1 := hk1 b u e n1 n2
    rw [upd_ne (ne_of_none e1 np)]
    exact e1
  generalize upd H1 p (.lst []) = H2 at ha2 hc2 hp2 hk2 ⊢
  have ix2 : SqL K H2 a [.ref c, .int t, .int (z + 1)] := .inl (.inl ha2)
  have mix : ∀ (num : Int) (σ4 : Option V) (Hx : Hp), Hx a = some (.lst [.ref c, .int t, .int (z + 1)]) → (∃ ms : List Int, Hx c = some (.lst (ms.map V.int)) ∧ ms.length ≤ 63) → (∀ b u, H b = some u → b ≠ a → b ≠ c → Hx b = some u) →
      tSeq (tAsg (tOp (rI (fun _ j => 0 < j) fun i j => .int (i % j)) (tOp (rI CMul fun i j => .int (i * j)) (tOp (rI0 fun i j => .int (i + j)) (tOp (rI0 fun i j => .int (i + j)) (tOp (rI (fun _ j => 0 < j) fun i j => .int (i % j)) (tVar 3) (tC (.int 2147483563))) (tC (.int 29))) (tOp (rI CMul fun i j => .int (i * j)) (tOp (rI CMul fun i j => .int (i * j)) (tC (.int 50021)) (tVar 2)) (tVar 2))) (tC (.int 48271))) (tC (.int 2147483647))) (gName 3)) (tSeq (tAsg (tOp (rI (fun _ j => 0 < j) fun i j => .int (i % j)) (tOp (rI0 fun i j => .int (i + j)) (tOp (rI0 fun i j => .int (i + j)) (tOp (rI CMul fun i j => .int (i * j)) (tVar 3) (tVar 3)) (tOp (rI CMul fun i j => .int (i * j)) (tC (.int 62089)) (tVar 2))) (tC (.int 3))) (tC (.int 2147483587))) (gName 3)) (tRet (tOp (rI (fun _ j => 0 < j) fun i j => .int (i % j)) (tOp (rI CDiv fun i j => .int (i / j)) (tOp (rI (fun _ j => 0 < j) fun i j => .int (i % j)) (tOp (rI CMul fun i j => .int (i * j)) (tVar 3) (tC (.int 39373))) (tC (.int 2147483629))) (tC (.int 64))) (tVar 1)))) { nx := fun _ H' => Q .non H', rt := Q } [some (.ref a), some (.int m), some (.int (z + 1)), some (.int num), σ4] Hx := by
    intro num σ4 Hx xa ⟨ms, xc, xl⟩ xk
    have fin : ∀ n2 : Int, 0 ≤ n2 → n2 < 2147483587 → (tRet (tOp (rI (fun _ j => 0 < j) fun i j => .int (i % j)) (tOp (rI CDiv fun i j => .int (i / j)) (tOp (rI (fun _ j => 0 < j) fun i j => .int (i % j)) (tOp (rI CMul fun i j => .int (i * j)) (tVar 3) (tC (.int 39373))) (tC (.int 2147483629))) (tC (.int 64))) (tVar 1))) { nx := fun _ H' => Q .non H', rt := Q } [some (.ref a), some (.int m), some (.int (z + 1)), some (.int n2), σ4] Hx := fun n2 b1 b2 => by
      refine ⟨.int n2, rfl, n2, 39373, rfl, rfl, .inl ⟨by omega, by omega⟩, _, 2147483629, rfl, rfl, (show (0 : Int) < 2147483629 by decide), _, 64, rfl, rfl, ⟨by decide, by decide⟩, .int m, rfl, _, m, rfl, rfl, m0, ?_⟩
      exact draw_done q go hs hP (Int.emod_nonneg _ (by omega)) (Int.emod_lt_of_pos _ m0) xk ⟨hne, ms, t, z + 1, xa, xc, xl, t0, t1, by omega, by omega⟩
    have mid : ∀ n1 : Int, 0 ≤ n1 → n1 < 2147483647 → (tSeq (tAsg (tOp (rI (fun _ j => 0 < j) fun i j => .int (i % j)) (tOp (rI0 fun i j => .int (i + j)) (tOp (rI0 fun i j => .int (i + j)) (tOp (rI CMul fun i j => .int (i * j)) (tVar 3) (tVar 3)) (tOp (rI CMul fun i j => .int (i * j)) (tC (.int 62089)) (tVar 2))) (tC (.int 3))) (tC (.int 2147483587))) (gName 3)) (tRet (tOp (rI (fun _ j => 0 < j) fun i j => .int (i % j)) (tOp (rI CDiv fun i j => .int (i / j)) (tOp (rI (fun _ j => 0 < j) fun i j => .int (i % j)) (tOp (rI CMul fun i j => .int (i * j)) (tVar 3) (tC (.int 39373))) (tC (.int 2147483629))) (tC (.int 64))) (tVar 1)))) { nx := fun _ H' => Q .non H', rt := Q } [some (.ref a), some (.int m), some (.int (z + 1)), some (.int n1), σ4] Hx := fun n1 b1 b2 =>
      ⟨.int n1, rfl, .int n1, rfl, n1, n1, rfl, rfl, .inl ⟨by omega, by omega⟩, .int (z + 1), rfl, 62089, z + 1, rfl, rfl, .inl (by decide), _, _, rfl, rfl, _, 3, rfl, rfl, _, 2147483587, rfl, rfl, (show (0 : Int) < 2147483587 by decide), fin _ (Int.emod_nonneg _ (by decide)) (Int.emod_lt_of_pos _ (by decide))⟩
    exact ⟨.int num, rfl, num, 2147483563, rfl, rfl, (show (0 : Int) < 2147483563 by decide), _, 29, rfl, rfl, .int (z + 1), rfl, 50021, z + 1, rfl, rfl, .inl (by decide), .int (z + 1), rfl, _, z + 1, rfl, rfl, .inr ⟨by omega, by omega⟩,
      _, _, rfl, rfl, _, 48271, rfl, rfl, .inr (by decide), _, 2147483647, rfl, rfl, (show (0 : Int) < 2147483647 by decide), mid _ (Int.emod_nonneg _ (by decide)) (Int.emod_lt_of_pos _ (by decide))⟩
  refine ⟨.list (ns.map .int), .list [], .lst (.inl (.inl hc2)) (ints_dp ns), .lst (.inl (.inl hp2)) .nil, ints_shaped ns, rfl, ⟨_, rfl, ?_⟩⟩
  rw [ints_nil]
  cases ns with
  | nil => exact iteF (mix t none H2 ha2 ⟨[], hc2, Nat.zero_le _⟩ hk2)
  | cons n0 ns =>
    refine iteT ?_
    obtain ⟨ms, cl, hcat, hml⟩ : ∃ (ms : List Int) (cl : Int), n0 :: ns = ms ++ [cl] ∧ ms.length ≤ 62 := by
      refine ⟨(n0 :: ns).dropLast, (n0 :: ns).getLast (by simp), (List.dropLast_concat_getLast _).symm, ?_⟩
      rw [List.length_dropLast]
      simp only [List.length_cons] at hns ⊢
      omega
    rw [hcat, List.map_append] at hc2
    refine ⟨.ref a, rfl, a, _, 0, _, rfl, rfl, ix2, at0, .inl ⟨rfl, _, .inl (.inl hc2)⟩, c, _, .int cl, rfl, rfl, hc2, by simp, ?_⟩
    have hdl : (ms.map V.int ++ [cl].map V.int).dropLast = ms.map V.int := by
      show (ms.map V.int ++ [V.int cl]).dropLast = _
      rw [List.dropLast_concat]
    rw [hdl]
    have ha3 : (upd H2 c (.lst (ms.map V.int))) a = some (.lst [.ref c, .int t, .int (z + 1)]) := by rw [upd_ne hne]; exact ha2
    have hc3 : (upd H2 c (.lst (ms.map V.int))) c = some (.lst (ms.map V.int)) := upd_same
    have hk3 : ∀ b u, H b = some u → b ≠ a → b ≠ c → (upd H2 c (.lst (ms.map V.int))) b = some u := fun b u e n1 n2 => by rw [upd_ne n2]; exact hk2 b u e n1 n2
    generalize upd H2 c (.lst (ms.map V.int)) = H3 at ha3 hc3 hk3 ⊢
    have ix3 : SqL K H3 a [.ref c, .int t, .int (z + 1)] := .inl (.inl ha3)
    refine ⟨.int cl, rfl, 10, 18, rfl, rfl, ⟨by decide, by decide, by decide⟩, cl, _, rfl, rfl, _, rfl, ite2 (fun _ => ?_) (fun _ => ?_)⟩
    · refine ⟨.ref a, rfl, a, _, 0, _, rfl, rfl, ix3, at0, .inl ⟨rfl, _, .inl (.inl hc3)⟩, .int cl, rfl, .int m, rfl, cl, m, rfl, rfl, ⟨m0, m1⟩, c, _, _, rfl, rfl, hc3, ?_, ?_⟩
      · rw [List.length_map]
        exact Nat.lt_of_le_of_lt hml (by decide)
      · refine ⟨.int cl, rfl, .int m, rfl, cl, m, rfl, rfl, m0, ?_⟩
        refine draw_done q go hs hP (Int.emod_nonneg _ (by omega)) (Int.emod_lt_of_pos _ m0) (fun b u e n1 n2 => by rw [upd_ne n2]; exact hk3 b u e n1 n2) ⟨hne, ms ++ [cl / m], t, z + 1, by rw [upd_ne hne]; exact ha3, by rw [upd_same, List.map_append]; rfl, by rw [List.length_append]; simp; omega, t0, t1, by omega, by omega⟩
    · refine ⟨.int t, rfl, .int cl, rfl, t, cl, rfl, rfl, ?_⟩
      exact mix (t + cl) (some (.int cl)) H3 ha3 ⟨ms, hc3, by omega⟩ hk3
end
end W
set_option synthInstance.maxSize 1000000
set_option synthInstance.maxHeartbeats 0
set_option maxHeartbeats 0
namespace W
open PySem PySem.Spec L2 Z
open PyProof.Rows (envOfC)
abbrev MM : Sem := M0
def spec__law_source : WF := wSource
def spec__law_draw : WF := wDraw
def spec__law_pick : WF := wPick
instance : AbF MM spec__law_draw sgDraw := inferInstanceAs (AbF MM wDraw sgDraw)
instance : AbF MM spec__law_pick (sgPick MM) := inferInstanceAs (AbF MM wPick (sgPick MM))
abbrev tLab : Ty := .str 1 8 [(97, 122)]
abbrev tNm : Ty := .str 1 8 [(97, 122), (42, 42)]
abbrev tWord : Ty := .str 1 13 [(65, 90), (97, 122), (48, 57)]
/-- all of its signs are among these, and there is one -/
def madeOf (d : D) (sg : List Nat) : Bool := match d with
  | .str s => !s.cps.toList.isEmpty && s.cps.toList.all fun c => decide (c ∈ sg)
  | _ => false
def az : List Nat := [97, 98, 99, 100, 101, 102, 103, 104, 105, 106, 107, 108, 109, 110, 111, 112, 113, 114, 115, 116, 117, 118, 119, 120, 121, 122]
def AZ : List Nat := [65, 66, 67, 68, 69, 70, 71, 72, 73, 74, 75, 76, 77, 78, 79, 80, 81, 82, 83, 84, 85, 86, 87, 88, 89, 90]
def dg : List Nat := [48, 49, 50, 51, 52, 53, 54, 55, 56, 57]
theorem az_S : ("abcdefghijklmnopqrstuvwxyz" : Str) = S az := by decide
theorem AZ_S : ("ABCDEFGHIJKLMNOPQRSTUVWXYZ" : Str) = S AZ := by decide
theorem dg_S : ("0123456789" : Str) = S dg := by decide
theorem azd_S : ("abcdefghijklmnopqrstuvwxyz0123456789" : Str) = S (az ++ dg) := by decide
theorem star_S : ("*" : Str) = S [42] := by decide
theorem emp_S : ("" : Str) = S [] := by decide
def isStar (d : D) : Bool := isS_ d (S [42])
def lenS : D → Nat
  | .str s => s.cps.toList.length
  | _ => 0
def isName : D → Bool
  | .tup l => (if l.getLast?.any isStar then l.dropLast else l).all fun x => madeOf x az
  | _ => false
def isKind (d : D) : Bool := madeOf d AZ && Nat.ble (lenS d) 8
def isVal (d : D) : Bool := madeOf d (az ++ dg) && Nat.ble (lenS d) 12
abbrev Fit (d : D) : Prop := In d 60 3000000
def spec_is_made_of : WF := fun ds fu Q => ∃ (d : D) (sg : List Nat), ds = [d, .str (S sg)] ∧ Fit d ∧ Q (.bl (madeOf d sg)) fu
def spec_is_name : WF := fun ds fu Q => ∃ d, ds = [d] ∧ Fit d ∧ Q (.bl (isName d)) fu
def spec_is_kind : WF := fun ds fu Q => ∃ d, ds = [d] ∧ Fit d ∧ Q (.bl (isKind d)) fu
def spec_is_value : WF := fun ds fu Q => ∃ d, ds = [d] ∧ Fit d ∧ Q (.bl (isVal d)) fu
def spec__law_is_made : WF := fun ds fu Q => ∃ (d : D) (sg : List Nat) (m : Nat), ds = [d, .str (S sg), .int m] ∧ Fit d ∧ Q (.bl (madeOf d sg && Nat.ble (lenS d) m)) fu
def spec__law_is_name : WF := spec_is_name
def spec__law_is_kind : WF := spec_is_kind
def spec__law_is_value : WF := spec_is_value
def spec__law_right : WF := fun ds fu Q => ∃ d, ds = [d] ∧ Fit d ∧ Q (.bl true) fu
def spec_law : WF := fun ds fu Q => ds = [.scr] ∧ fu = none ∧ ∀ fu', Q (.bl true) fu'
theorem madeOf_str {s : Str} {sg : List Nat} : madeOf (.str s) sg = (!s.cps.toList.isEmpty && s.cps.toList.all fun c => decide (c ∈ sg)) := rfl
/-- as the law looks at a label -/
def okAt (n i : Nat) (d : D) : Bool := (isStar d && decide (i + 1 = n)) || madeOf d az
theorem star_not {d : D} (h : isStar d = true) : madeOf d az = false := by
  cases d <;> first | (cases h; done) | skip
  unfold isStar isS_ at h
  simp only [decide_eq_true_eq] at h
  subst h
  decide
theorem name_at (l : List D) : isName (.tup l) = true ↔ ∀ i d, l[i]? = some d → okAt l.length i d = true := by
  unfold isName
  constructor
  · intro h i d hd
    have hi := (List.getElem?_eq_some_iff.mp hd).1
    unfold okAt
    dsimp only at h
    split at h
    · rename_i hs
      by_cases e : i + 1 = l.length
      · have : l.getLast? = some d := by rw [List.getLast?_eq_getElem?]; rw [show l.length - 1 = i by omega]; exact hd
        rw [this] at hs
        have hs' : isStar d = true := hs
        rw [hs']; simp [e]
      · rw [Bool.or_eq_true]; right
        refine List.all_eq_true.mp h d ?_
        rw [List.mem_iff_getElem?]
        refine ⟨i, ?_⟩
        rw [List.getElem?_dropLast]
        rw [if_pos (by omega)]; exact hd
    · rw [Bool.or_eq_true]; right
      exact List.all_eq_true.mp h d (List.mem_of_getElem? hd)
  · intro h
    dsimp only
    split
    · rename_i hs
      rw [List.all_eq_true]
      intro d hd
      obtain ⟨i, hi⟩ := List.mem_iff_getElem?.mp hd
      rw [List.getElem?_dropLast] at hi
      split at hi
      · rename_i hlt
        have := h i d hi
        unfold okAt at this
        rw [show decide (i + 1 = l.length) = false from decide_eq_false (by omega)] at this
        simpa using this
      · cases hi
    · rename_i hs
      rw [List.all_eq_true]
      intro d hd
      obtain ⟨i, hi⟩ := List.mem_iff_getElem?.mp hd
      have := h i d hi
      unfold okAt at this
      rw [Bool.or_eq_true] at this
      rcases this with this | this
      · rw [Bool.and_eq_true, decide_eq_true_eq] at this
        exfalso
        apply hs
        have e : l.getLast? = some d := by rw [List.getLast?_eq_getElem?]; rw [show l.length - 1 = i by omega]; exact hi
        rw [e]
        exact this.1
      · exact this
theorem len_short {d : D} (h : Fit d) : Nat.ble (lenS d) 1000000 = true := by
  rw [Nat.ble_eq]
  cases d <;> try exact Nat.zero_le _
  rename_i s
  obtain ⟨l, rfl⟩ := S_of s
  have := h.str_len
  simp [lenS]; omega
instance : AbF MM spec__law_right (sgAny 60 3000000 (.bl (some true))) := abf_any fun d fu Q hi hk => ⟨d, rfl, hi, hk _ has_tt⟩
def spec__law_labels : WF := wSig MM [.src, .int 6 6] (.lst tLab 6 6) 2
instance : AbF MM spec__law_labels (sgOf [.src, .int 6 6] (.lst tLab 6 6) 2) := abf_sig _ _ _
def spec__law_apex : WF := wSig MM [.src, .lst tLab 6 6] (.tupN tLab 0 2) 3
instance : AbF MM spec__law_apex (sgOf [.src, .lst tLab 6 6] (.tupN tLab 0 2) 3) := abf_sig _ _ _
def spec__law_name : WF := wSig MM [.src, .tupN tLab 0 2, .lst tLab 6 6, .int 3 3] (.tupN tNm 0 6) 5
instance : AbF MM spec__law_name (sgOf [.src, .tupN tLab 0 2, .lst tLab 6 6, .int 3 3] (.tupN tNm 0 6) 5) := abf_sig _ _ _
def spec__law_odd : WF := wSig MM [.src] (.any 40 30000) 60
instance : AbF MM spec__law_odd (sgOf [.src] (.any 40 30000) 60) := abf_sig _ _ _
def spec__law_bent_name : WF := wSig MM [.src, .tupN tNm 0 7] (.any 45 500000) 70
instance : AbF MM spec__law_bent_name (sgOf [.src, .tupN tNm 0 7] (.any 45 500000) 70) := abf_sig _ _ _
def spec__law_bent_word : WF := wSig MM [.src, tWord] (.any 2 1000) 5
instance : AbF MM spec__law_bent_word (sgOf [.src, tWord] (.any 2 1000) 5) := abf_sig _ _ _
def spec__law_words : WF := wSig MM [.src] (.lst tWord 2 2) 10
instance : AbF MM spec__law_words (sgOf [.src] (.lst tWord 2 2) 10) := abf_sig _ _ _
section
variable {P : Program} {w : World} {K : PySem.W.Frag} {mg : Str → Option Value} {base : Heap}
theorem sc7 : FnScope ["thing", "signs", "sign"] ["thing", "signs"] (defScope (topS 7)) := ⟨rfl, rfl, rfl, by decide +kernel, rfl, by decide +kernel, by decide +kernel⟩
theorem ok7 {f : Addr} {fd : FuncData} (Fn : Fun K "is_made_of" "is_made_of" (topS 7) f fd)
    (b_all : mg "all" = none)
    (b_isinstance : mg "isinstance" = none)
    (b_str : mg "str" = none) : FnG P w K mg base 1 f fd ["thing", "signs"] spec_is_made_of := by
  have G := FnG.of (P := P) (w := w) (K := K) (mg := mg) (base := base) (k := 0) Fn sc7 fun cdv A outer s H hr hgd =>
    have C : Cxs (U1 (cxB P w K mg base ["thing", "signs", "sign"] "is_made_of" (defScope (topS 7)) f cdv A outer s H)) P w K mg base 0 := ⟨fun _ => rfl, fun _ => rfl, fun _ => rfl, fun _ => rfl, fun _ => rfl, fun _ => rfl, fun _ => hr, fun _ => hgd⟩
    (zs_one (zt_ret (wx_and (wx_isi (T := "str") C b_isinstance b_str (by decide +kernel) (wvar 0)) (wx_and (wx_NE C (wvar 0) wx_str) (wx_one (wx_all C b_all (WLs.x (wl_lc (fun _ => rfl) (fun _ => sc7.nd) (wi_str (wvar 0)) (fun _ => (blkOk_by (N := ["thing", "signs", "sign"]) (sc := defScope (topS 7)) (own := [("sign", 2)]) (by first | decide +kernel | (with_unfolding_all rfl)))) (gvar 2 (fun _ => pg_name (i := 2) sc7.nd rfl (.inl rfl))) wf_nil (wx_inS (wvar 2) (wvar 1))))))))))
  refine G.as ?_
  clear G
  rintro ds fu Q ⟨d, sg, rfl, hf, hQ⟩
  refine z_fn fun B hn hr => ?_
  rw [← hr] at hQ
  simp [startD, dIsi_str hf.dat]
  cases d with
  | str s =>
    obtain ⟨l, rfl⟩ := S_of s
    have hl := hf.str_len
    simp [isStrD, dNE_str, emp_S, S_inj]
    by_cases h0 : l = []
    · subst h0
      simpa [madeOf] using hQ
    · simp [h0, signs_S]
      refine lc_map (fun z => match z with | .str c => .bl (c.cps.toList.all fun n => decide (n ∈ sg)) | _ => .non) ?_ (by simp; omega) ?_
      · intro d hd k hk
        obtain ⟨c, hc, rfl⟩ := List.mem_map.mp hd
        simp [dInS_1]
        simpa using hk
      · have e : (l.map fun c => D.str (S [c])).map (fun z => match z with | .str c => D.bl (c.cps.toList.all fun n => decide (n ∈ sg)) | _ => .non) = (l.map fun c => decide (c ∈ sg)).map .bl := by
          simp [List.map_map]
        rw [e, dAll_bls]
        refine isS_of rfl ?_
        have : madeOf (.str (S l)) sg = ((l.map fun c => decide (c ∈ sg)).all id) := by
          simp [madeOf, h0, List.all_map]
        rw [← this]
        exact hQ
  | _ => simpa [isStrD, madeOf] using hQ
theorem sc8 : FnScope ["thing", "labels", "label"] ["thing"] (defScope (topS 8)) := ⟨rfl, rfl, rfl, by decide +kernel, rfl, by decide +kernel, by decide +kernel⟩
theorem ok8 {f : Addr} {fd : FuncData} (Fn : Fun K "is_name" "is_name" (topS 8) f fd)
    {f_is_made_of : Addr} {d_is_made_of : FuncData} (D_is_made_of : Dn P w K mg base 1 "is_made_of" f_is_made_of d_is_made_of ["thing", "signs"] spec_is_made_of)
    (b_isinstance : mg "isinstance" = none)
    (b_tuple : mg "tuple" = none)
    (b_all : mg "all" = none)
    {t_STAR : Tok} (g_STAR : mg "STAR" = some (.str "*" t_STAR))
    {t_LETTERS : Tok} (g_LETTERS : mg "LETTERS" = some (.str "abcdefghijklmnopqrstuvwxyz" t_LETTERS)) : FnG P w K mg base 2 f fd ["thing"] spec_is_name := by
  have G := FnG.of (P := P) (w := w) (K := K) (mg := mg) (base := base) (k := 1) Fn sc8 fun cdv A outer s H hr hgd =>
    have C : Cxs (U1 (cxB P w K mg base ["thing", "labels", "label"] "is_name" (defScope (topS 8)) f cdv A outer s H)) P w K mg base 1 := ⟨fun _ => rfl, fun _ => rfl, fun _ => rfl, fun _ => rfl, fun _ => rfl, fun _ => rfl, fun _ => hr, fun _ => hgd⟩
    (zs_cons (zt_if (wt_not (wt_val (wx_isi (T := "tuple") C b_isinstance b_tuple (by decide +kernel) (wvar 0))))
       (zs_one (zt_ret wx_bl))
       zs_nil)
       (zs_cons (zt_set (i := 1) sc8.nd rfl (.inl rfl) (wx_if (WWs.t (ww_and (wt_NE C (wvar 0) (wx_tup wa_nil)) (ww_and1 (wt_EQ C (wx_ix C (wvar 0) (wx_NEG wx_int)) (wgs C g_STAR))))) (wx_slice C (wvar 0) wo_none (wo_some (wx_NEG wx_int))) (wvar 0)))
       (zs_one (zt_ret (wx_all C b_all (WLs.x (wl_lc (fun _ => rfl) (fun _ => sc8.nd) (wi_tup C.K (wvar 1)) (fun _ => (blkOk_by (N := ["thing", "labels", "label"]) (sc := defScope (topS 8)) (own := [("label", 2)]) (by first | decide +kernel | (with_unfolding_all rfl)))) (gvar 2 (fun _ => pg_name (i := 2) sc8.nd rfl (.inl rfl))) wf_nil (wx_call (C.blk _) D_is_made_of (wvar 2) (wa_cons (wgs (C.blk _) g_LETTERS) wa_nil)))))))))
  refine G.as ?_
  clear G
  rintro ds fu Q ⟨d, rfl, hf, hQ⟩
  refine z_fn fun B hn hr => ?_
  rw [← hr] at hQ
  refine zq fun k hk => ?_
  simp [startD, dIsi_tup hf.dat]
  cases d with
  | tup l =>
    simp [isTupD]
    subst hk
    have hl := hf.tup_len
    refine zq fun k hk => ?_
    simp [dNE_tup0]
    have fin : ∀ q : List D, (∀ x ∈ q, x ∈ l) → q.length ≤ l.length → isName (.tup l) = q.all (fun x => madeOf x az) → k [.va (.tup l), .va (.tup q), .un] fu := by
      intro q hq hlq e
      subst hk
      simp
      refine lc_map (fun z => .bl (madeOf z az)) ?_ (by omega) ?_
      · intro d hd k hk
        simp [az_S]
        exact ⟨d, az, rfl, hf.tup d (hq d hd), hk⟩
      · have : (q.map fun z => D.bl (madeOf z az)) = (q.map fun z => madeOf z az).map .bl := by simp
        rw [this, dAll_bls, List.all_map]
        refine isS_of rfl ?_
        rw [e] at hQ
        exact hQ
    split
    · rename_i h0
      subst h0
      exact fin [] (fun x hx => hx) (Nat.le_refl _) rfl
    · rename_i h0
      simp [dNeg_int, ix_last h0, star_S]
      rw [dEQ_str (hf.tup _ (List.getLast_mem h0)).dat]
      have hg : l.getLast? = some (l.getLast h0) := List.getLast?_eq_some_getLast h0
      simp [sl_init]
      split
      · rename_i hs
        refine fin l.dropLast (fun x hx => List.dropLast_subset _ hx) (by simp) ?_
        simp [isName, hg, isStar, hs]
      · rename_i hs
        refine fin l (fun x hx => hx) (Nat.le_refl _) ?_
        simp [isName, hg, isStar, hs]
  | _ => simpa [isTupD, isName] using hQ
theorem sc9 : FnScope ["thing"] ["thing"] (defScope (topS 9)) := ⟨rfl, rfl, rfl, by decide +kernel, rfl, by decide +kernel, by decide +kernel⟩
theorem ok9 {f : Addr} {fd : FuncData} (Fn : Fun K "is_kind" "is_kind" (topS 9) f fd)
    {f_is_made_of : Addr} {d_is_made_of : FuncData} (D_is_made_of : Dn P w K mg base 1 "is_made_of" f_is_made_of d_is_made_of ["thing", "signs"] spec_is_made_of)
    (b_len : mg "len" = none)
    {t_MOST_KIND : Tok} (g_MOST_KIND : mg "MOST_KIND" = some (.int 8 t_MOST_KIND))
    {t_CAPITALS : Tok} (g_CAPITALS : mg "CAPITALS" = some (.str "ABCDEFGHIJKLMNOPQRSTUVWXYZ" t_CAPITALS)) : FnG P w K mg base 2 f fd ["thing"] spec_is_kind := by
  have G := FnG.of (P := P) (w := w) (K := K) (mg := mg) (base := base) (k := 1) Fn sc9 fun cdv A outer s H hr hgd =>
    have C : Cxs (U1 (cxB P w K mg base ["thing"] "is_kind" (defScope (topS 9)) f cdv A outer s H)) P w K mg base 1 := ⟨fun _ => rfl, fun _ => rfl, fun _ => rfl, fun _ => rfl, fun _ => rfl, fun _ => rfl, fun _ => hr, fun _ => hgd⟩
    (zs_one (zt_ret (wx_and (wx_call C D_is_made_of (wvar 0) (wa_cons (wgs C g_CAPITALS) wa_nil)) (wx_one (wx_le C (wx_len C b_len (wvar 0)) (wgi C g_MOST_KIND))))))
  refine G.as ?_
  clear G
  rintro ds fu Q ⟨d, rfl, hf, hQ⟩
  refine z_fn fun B hn hr => ?_
  rw [← hr] at hQ
  simp [startD, AZ_S]
  refine ⟨d, AZ, rfl, hf, ?_⟩
  cases hm : madeOf d AZ with
  | false => simpa [isKind, hm] using hQ
  | true =>
    cases d with
    | str s =>
      obtain ⟨l, rfl⟩ := S_of s
      have hl := hf.str_len
      simp [dLen_S l (by omega), dLe]
      have e : isKind (.str (S l)) = decide ((l.length : Int) ≤ 8) := by
        unfold isKind
        rw [hm]
        simp [lenS]
        rw [Bool.eq_iff_iff, Nat.ble_eq, decide_eq_true_eq]
        omega
      rw [← e]
      exact hQ
    | _ => cases hm
theorem sc10 : FnScope ["thing"] ["thing"] (defScope (topS 10)) := ⟨rfl, rfl, rfl, by decide +kernel, rfl, by decide +kernel, by decide +kernel⟩
theorem ok10 {f : Addr} {fd : FuncData} (Fn : Fun K "is_value" "is_value" (topS 10) f fd)
    {f_is_made_of : Addr} {d_is_made_of : FuncData} (D_is_made_of : Dn P w K mg base 1 "is_made_of" f_is_made_of d_is_made_of ["thing", "signs"] spec_is_made_of)
    (b_len : mg "len" = none)
    {t_MOST_VALUE : Tok} (g_MOST_VALUE : mg "MOST_VALUE" = some (.int 12 t_MOST_VALUE))
    {t_LETTERS : Tok} (g_LETTERS : mg "LETTERS" = some (.str "abcdefghijklmnopqrstuvwxyz" t_LETTERS))
    {t_DIGITS : Tok} (g_DIGITS : mg "DIGITS" = some (.str "0123456789" t_DIGITS)) : FnG P w K mg base 2 f fd ["thing"] spec_is_value := by
  have G := FnG.of (P := P) (w := w) (K := K) (mg := mg) (base := base) (k := 1) Fn sc10 fun cdv A outer s H hr hgd =>
    have C : Cxs (U1 (cxB P w K mg base ["thing"] "is_value" (defScope (topS 10)) f cdv A outer s H)) P w K mg base 1 := ⟨fun _ => rfl, fun _ => rfl, fun _ => rfl, fun _ => rfl, fun _ => rfl, fun _ => rfl, fun _ => hr, fun _ => hgd⟩
    (zs_one (zt_ret (wx_and (wx_call C D_is_made_of (wvar 0) (wa_cons (wx_add C (wgs C g_LETTERS) (wgs C g_DIGITS)) wa_nil)) (wx_one (wx_le C (wx_len C b_len (wvar 0)) (wgi C g_MOST_VALUE))))))
  refine G.as ?_
  clear G
  rintro ds fu Q ⟨d, rfl, hf, hQ⟩
  refine z_fn fun B hn hr => ?_
  rw [← hr] at hQ
  simp [startD, az_S, dg_S, dAdd_S (show az.length + dg.length ≤ sizeLine from size_pos (by decide))]
  refine ⟨d, (az ++ dg), rfl, hf, ?_⟩
  cases hm : madeOf d (az ++ dg) with
  | false => simpa [isVal, hm] using hQ
  | true =>
    cases d with
    | str s =>
      obtain ⟨l, rfl⟩ := S_of s
      have hl := hf.str_len
      simp [dLen_S l (by omega), dLe]
      have e : isVal (.str (S l)) = decide ((l.length : Int) ≤ 12) := by
        unfold isVal
        rw [hm]
        simp [lenS]
        rw [Bool.eq_iff_iff, Nat.ble_eq, decide_eq_true_eq]
        omega
      rw [← e]
      exact hQ
    | _ => cases hm
theorem sc14 : FnScope ["_law_source_here", "_law_items"] ["_law_source_here", "_law_items"] (defScope (topS 14)) := ⟨rfl, rfl, rfl, by decide +kernel, rfl, by decide +kernel, by decide +kernel⟩
theorem ok14 {f : Addr} {fd : FuncData} (Fn : Fun K "_law_pick" "_law_pick" (topS 14) f fd)
    {f__law_draw : Addr} {d__law_draw : FuncData} (D__law_draw : Dn P w K mg base 1 "_law_draw" f__law_draw d__law_draw ["_law_source_here", "_law_many"] spec__law_draw)
    (b_len : mg "len" = none) : FnG P w K mg base 2 f fd ["_law_source_here", "_law_items"] spec__law_pick := by
  have G := FnG.of (P := P) (w := w) (K := K) (mg := mg) (base := base) (k := 1) Fn sc14 fun cdv A outer s H hr hgd =>
    have C : Cxs (U1 (cxB P w K mg base ["_law_source_here", "_law_items"] "_law_pick" (defScope (topS 14)) f cdv A outer s H)) P w K mg base 1 := ⟨fun _ => rfl, fun _ => rfl, fun _ => rfl, fun _ => rfl, fun _ => rfl, fun _ => rfl, fun _ => hr, fun _ => hgd⟩
    (zs_one (zt_ret (wx_ix C (wvar 1) (wx_call C D__law_draw (wvar 0) (wa_cons (wx_len C b_len (wvar 1)) wa_nil)))))
  refine G.as ?_
  clear G
  rintro ds fu Q ⟨x, l, n, rfl, hi, h0, h1, rfl, hQ⟩
  refine z_fn fun B hn hr => ?_
  rw [← hr] at hQ
  have hl : 0 < l.length := List.length_pos_iff.mpr h0
  simp [startD, items_len hi]
  refine ⟨l.length, n, rfl, by omega, by omega, rfl, fun k k0 k1 => ?_⟩
  obtain ⟨a, ha, _, e⟩ := items_ix hi k0 k1
  exact isS_of e (hQ a ha)
theorem sc15 : FnScope ["_law_source_here", "_law_many", "_law_letters", "_law_way", "_law_first", "_law_base", "_law_found", "_law_k", "_law_letter"] ["_law_source_here", "_law_many"] (defScope (topS 15)) := ⟨rfl, rfl, rfl, by decide +kernel, rfl, by decide +kernel, by decide +kernel⟩
theorem ok15 {f : Addr} {fd : FuncData} (Fn : Fun K "_law_labels" "_law_labels" (topS 15) f fd)
    {f__law_draw : Addr} {d__law_draw : FuncData} (D__law_draw : Dn P w K mg base 1 "_law_draw" f__law_draw d__law_draw ["_law_source_here", "_law_many"] spec__law_draw)
    (b_range : mg "range" = none) : FnG P w K mg base 2 f fd ["_law_source_here", "_law_many"] spec__law_labels := by
  have G := FnG.of (P := P) (w := w) (K := K) (mg := mg) (base := base) (k := 1) Fn sc15 fun cdv A outer s H hr hgd =>
    have C : Cxs (U1 (cxB P w K mg base ["_law_source_here", "_law_many", "_law_letters", "_law_way", "_law_first", "_law_base", "_law_found", "_law_k", "_law_letter"] "_law_labels" (defScope (topS 15)) f cdv A outer s H)) P w K mg base 1 := ⟨fun _ => rfl, fun _ => rfl, fun _ => rfl, fun _ => rfl, fun _ => rfl, fun _ => rfl, fun _ => hr, fun _ => hgd⟩
    (zs_cons (zt_set (i := 2) sc15.nd rfl (.inr rfl) wx_str)
       (zs_cons (zt_asg (wx_tup (wa_cons (wx_call C D__law_draw (wvar 0) (wa_cons wx_int wa_nil)) (wa_cons (wx_call C D__law_draw (wvar 0) (wa_cons wx_int wa_nil)) wa_nil))) (wg_tup (n := 2) C.K C.calm (wgs_cons (gvar 3 (fun _ => pg_name (i := 3) sc15.nd rfl (.inl rfl))) (wgs_cons (gvar 4 (fun _ => pg_name (i := 4) sc15.nd rfl (.inr rfl))) wgs_nil))))
       (zs_cons (zt_set (i := 5) sc15.nd rfl (.inl rfl) (wx_join C wx_str (WLs.x (wl_lc (fun _ => rfl) (fun _ => sc15.nd) (wr1 C b_range wx_int) (fun _ => (blkOk_by (N := ["_law_source_here", "_law_many", "_law_letters", "_law_way", "_law_first", "_law_base", "_law_found", "_law_k", "_law_letter"]) (sc := defScope (topS 15)) (own := [("_law_k", 7)]) (by first | decide +kernel | (with_unfolding_all rfl)))) (gvar 7 (fun _ => pg_name (i := 7) sc15.nd rfl (.inl rfl))) wf_nil (wx_ix (C.blk _) (wvar 2) (wx_mod (C.blk _) (wx_add (C.blk _) (wvar 4) (wx_MUL (C.blk _) (wx_MUL (C.blk _) wx_int (wvar 7)) (wvar 7))) wx_int))))))
       (zs_cons (zt_setL (i := 6) sc15.nd rfl (.inl rfl) (wl_lst wa_nil))
       (zs_cons (zt_for PassesOwn.never rfl (wr1 C b_range (wvar 1)) (gvar 7 (fun _ => pg_name (i := 7) sc15.nd rfl (.inl rfl)))
       (zs_cons (zt_set (i := 8) sc15.nd rfl (.inl rfl) (wx_ix C (wvar 2) (wx_mod C (wx_add C (wvar 4) (wx_MUL C wx_int (wvar 7))) wx_int)))
       (zs_one (zt_append (i := 6) (pv 6) (wx_ix C (WLs.x (wl_lst (wa_cons (wvar 8) (wa_cons (wx_add C (wx_slice C (wvar 5) wo_none (wo_some wx_int)) (wvar 8)) (wa_cons (wx_slice C (wvar 5) wo_none (wo_some (wx_add C wx_int (wvar 7)))) (wa_cons (wx_add C (wx_add C (wx_slice C (wvar 5) wo_none (wo_some wx_int)) (wvar 8)) (wx_slice C (wvar 5) (wo_some wx_int) (wo_some wx_int))) wa_nil)))))) (wvar 3))))))
       (zs_one (zt_freeze 6 (zt_ret (wvar 6)))))))))
  refine G.as ?_
  clear G
  exact of_chk (by decide +kernel)
theorem sc16 : FnScope ["_law_source_here", "_law_labels_here", "_law_k"] ["_law_source_here", "_law_labels_here"] (defScope (topS 16)) := ⟨rfl, rfl, rfl, by decide +kernel, rfl, by decide +kernel, by decide +kernel⟩
theorem ok16 {f : Addr} {fd : FuncData} (Fn : Fun K "_law_apex" "_law_apex" (topS 16) f fd)
    {f__law_draw : Addr} {d__law_draw : FuncData} (D__law_draw : Dn P w K mg base 1 "_law_draw" f__law_draw d__law_draw ["_law_source_here", "_law_many"] spec__law_draw)
    {f__law_pick : Addr} {d__law_pick : FuncData} (D__law_pick : Dn P w K mg base 2 "_law_pick" f__law_pick d__law_pick ["_law_source_here", "_law_items"] spec__law_pick)
    (b_tuple : mg "tuple" = none)
    (b_range : mg "range" = none) : FnG P w K mg base 3 f fd ["_law_source_here", "_law_labels_here"] spec__law_apex := by
  have G := FnG.of (P := P) (w := w) (K := K) (mg := mg) (base := base) (k := 2) Fn sc16 fun cdv A outer s H hr hgd =>
    have C : Cxs (U1 (cxB P w K mg base ["_law_source_here", "_law_labels_here", "_law_k"] "_law_apex" (defScope (topS 16)) f cdv A outer s H)) P w K mg base 2 := ⟨fun _ => rfl, fun _ => rfl, fun _ => rfl, fun _ => rfl, fun _ => rfl, fun _ => rfl, fun _ => hr, fun _ => hgd⟩
    (zs_one (zt_ret (wx_tuple C b_tuple (WLs.x (wl_lc (fun _ => rfl) (fun _ => sc16.nd) (wr1 C b_range (wx_call C D__law_draw (wvar 0) (wa_cons wx_int wa_nil))) (fun _ => (blkOk_by (N := ["_law_source_here", "_law_labels_here", "_law_k"]) (sc := defScope (topS 16)) (own := [("_law_k", 2)]) (by first | decide +kernel | (with_unfolding_all rfl)))) (gvar 2 (fun _ => pg_name (i := 2) sc16.nd rfl (.inl rfl))) wf_nil (wx_call (C.blk _) D__law_pick (wvar 0) (wa_cons (wvar 1) wa_nil)))))))
  refine G.as ?_
  clear G
  exact of_chk (by decide +kernel)
theorem sc17 : FnScope ["_law_source_here", "_law_top", "_law_labels_here", "_law_deep", "_law_path", "_law_k"] ["_law_source_here", "_law_top", "_law_labels_here", "_law_deep"] (defScope (topS 17)) := ⟨rfl, rfl, rfl, by decide +kernel, rfl, by decide +kernel, by decide +kernel⟩
theorem ok17 {f : Addr} {fd : FuncData} (Fn : Fun K "_law_name" "_law_name" (topS 17) f fd)
    {f__law_draw : Addr} {d__law_draw : FuncData} (D__law_draw : Dn P w K mg base 1 "_law_draw" f__law_draw d__law_draw ["_law_source_here", "_law_many"] spec__law_draw)
    {f__law_pick : Addr} {d__law_pick : FuncData} (D__law_pick : Dn P w K mg base 2 "_law_pick" f__law_pick d__law_pick ["_law_source_here", "_law_items"] spec__law_pick)
    (b_tuple : mg "tuple" = none)
    (b_range : mg "range" = none)
    (b_int : mg "int" = none) : FnG P w K mg base 3 f fd ["_law_source_here", "_law_top", "_law_labels_here", "_law_deep"] spec__law_name := by
  have G := FnG.of (P := P) (w := w) (K := K) (mg := mg) (base := base) (k := 2) Fn sc17 fun cdv A outer s H hr hgd =>
    have C : Cxs (U1 (cxB P w K mg base ["_law_source_here", "_law_top", "_law_labels_here", "_law_deep", "_law_path", "_law_k"] "_law_name" (defScope (topS 17)) f cdv A outer s H)) P w K mg base 2 := ⟨fun _ => rfl, fun _ => rfl, fun _ => rfl, fun _ => rfl, fun _ => rfl, fun _ => rfl, fun _ => hr, fun _ => hgd⟩
    (zs_cons (zt_set (i := 4) sc17.nd rfl (.inl rfl) (wx_add C (wvar 1) (wx_tuple C b_tuple (WLs.x (wl_lc (fun _ => rfl) (fun _ => sc17.nd) (wr1 C b_range (wx_call C D__law_draw (wvar 0) (wa_cons (wx_add C (wvar 3) wx_int) wa_nil))) (fun _ => (blkOk_by (N := ["_law_source_here", "_law_top", "_law_labels_here", "_law_deep", "_law_path", "_law_k"]) (sc := defScope (topS 17)) (own := [("_law_k", 5)]) (by first | decide +kernel | (with_unfolding_all rfl)))) (gvar 5 (fun _ => pg_name (i := 5) sc17.nd rfl (.inl rfl))) wf_nil (wx_call (C.blk _) D__law_pick (wvar 0) (wa_cons (wvar 2) wa_nil)))))))
       (zs_one (zt_ret (wx_add C (wvar 4) (wx_MUL C (wx_tup (wa_cons wx_str wa_nil)) (wx_toint C b_int (wx_EQ C (wx_call C D__law_draw (wvar 0) (wa_cons wx_int wa_nil)) wx_int)))))))
  refine G.as ?_
  clear G
  exact of_chk (by decide +kernel)
theorem sc18 : FnScope ["_law_it", "_law_signs", "_law_most", "_law_sign"] ["_law_it", "_law_signs", "_law_most"] (defScope (topS 18)) := ⟨rfl, rfl, rfl, by decide +kernel, rfl, by decide +kernel, by decide +kernel⟩
theorem ok18 {f : Addr} {fd : FuncData} (Fn : Fun K "_law_is_made" "_law_is_made" (topS 18) f fd)
    (b_len : mg "len" = none)
    (b_isinstance : mg "isinstance" = none)
    (b_str : mg "str" = none) : FnG P w K mg base 1 f fd ["_law_it", "_law_signs", "_law_most"] spec__law_is_made := by
  have G := FnG.of (P := P) (w := w) (K := K) (mg := mg) (base := base) (k := 0) Fn sc18 fun cdv A outer s H hr hgd =>
    have C : Cxs (U1 (cxB P w K mg base ["_law_it", "_law_signs", "_law_most", "_law_sign"] "_law_is_made" (defScope (topS 18)) f cdv A outer s H)) P w K mg base 0 := ⟨fun _ => rfl, fun _ => rfl, fun _ => rfl, fun _ => rfl, fun _ => rfl, fun _ => rfl, fun _ => hr, fun _ => hgd⟩
    (zs_one (zt_ret (wx_and (wx_isi (T := "str") C b_isinstance b_str (by decide +kernel) (wvar 0)) (wx_and (wx_ltle wx_int (wx_len C b_len (wvar 0)) (wvar 2)) (wx_one (wx_EQ C (WLs.x (wl_lc (fun _ => rfl) (fun _ => sc18.nd) (wi_str (wvar 0)) (fun _ => (blkOk_by (N := ["_law_it", "_law_signs", "_law_most", "_law_sign"]) (sc := defScope (topS 18)) (own := [("_law_sign", 3)]) (by first | decide +kernel | (with_unfolding_all rfl)))) (gvar 3 (fun _ => pg_name (i := 3) sc18.nd rfl (.inl rfl))) (wf_one (wt_ninS (wvar 3) (wvar 1))) (wvar 3))) (WLs.x (wl_lst wa_nil))))))))
  refine G.as ?_
  clear G
  rintro ds fu Q ⟨d, sg, m, rfl, hf, hQ⟩
  refine z_fn fun B hn hr => ?_
  rw [← hr] at hQ
  simp [startD, dIsi_str hf.dat]
  cases d with
  | str s =>
    obtain ⟨l, rfl⟩ := S_of s
    have hl := hf.str_len
    simp [isStrD, dLen_S l (by omega), dLt, dLe]
    by_cases h0 : l = []
    · subst h0
      simpa [madeOf] using hQ
    · have h0' : 0 < l.length := List.length_pos_iff.mpr h0
      simp [h0']
      by_cases h1 : l.length ≤ m
      · have h1' : Nat.ble l.length m = true := Nat.ble_eq.mpr h1
        simp [h1, signs_S]
        refine lc_filter (fun z => match z with | .str c => !(c.cps.toList.all fun n => decide (n ∈ sg)) | _ => false) (fun z => z) ?_ (by simp; omega) ?_
        · intro d hd k1 k0 hk
          obtain ⟨c, hc, rfl⟩ := List.mem_map.mp hd
          simp [dNinS_1]
          simpa using hk
        · have hin : ∀ x ∈ ((l.map fun c => D.str (S [c])).filter (fun z => match z with | .str c => !(c.cps.toList.all fun n => decide (n ∈ sg)) | _ => false)).map fun z => z, In x 0 12 ∧ plain x = true := by
            intro x hx
            rw [List.map_id'] at hx
            obtain ⟨c, hc, rfl⟩ := List.mem_map.mp (List.mem_filter.mp hx).1
            refine ⟨⟨?_, Nat.le_refl _, ?_⟩, rfl⟩
            · have := hf.o
              rw [okD_S] at this ⊢
              simpa using List.all_eq_true.mp this c hc
            · unfold wgt; rw [S_len]; exact Nat.le_refl _
          refine isS_of (eq_nil (fun x hx => (hin x hx).1) (fun x hx => (hin x hx).2) (by decide)) ?_
          have e : (madeOf (.str (S l)) sg && Nat.ble (lenS (.str (S l))) m) = (((l.map fun c => D.str (S [c])).filter (fun z => match z with | .str c => !(c.cps.toList.all fun n => decide (n ∈ sg)) | _ => false)).map fun z => z).isEmpty := by
            rw [List.map_id', Bool.eq_iff_iff, List.isEmpty_iff, List.filter_eq_nil_iff]
            simp [madeOf, lenS, h0, h1']
          rw [← e]
          exact hQ
      · have h1' : Nat.ble l.length m = false := by rw [Bool.eq_false_iff]; intro z; exact h1 (Nat.ble_eq.mp z)
        simpa [h1, lenS, h1'] using hQ
  | _ => simpa [isStrD, madeOf] using hQ
theorem sc19 : FnScope ["_law_it", "_law_place", "_law_label", "_law_is_star"] ["_law_it"] (defScope (topS 19)) := ⟨rfl, rfl, rfl, by decide +kernel, rfl, by decide +kernel, by decide +kernel⟩
theorem ok19 {f : Addr} {fd : FuncData} (Fn : Fun K "_law_is_name" "_law_is_name" (topS 19) f fd)
    {f__law_is_made : Addr} {d__law_is_made : FuncData} (D__law_is_made : Dn P w K mg base 1 "_law_is_made" f__law_is_made d__law_is_made ["_law_it", "_law_signs", "_law_most"] spec__law_is_made)
    (b_isinstance : mg "isinstance" = none)
    (b_tuple : mg "tuple" = none)
    (b_enumerate : mg "enumerate" = none)
    (b_len : mg "len" = none)
    (b_str : mg "str" = none) : FnG P w K mg base 2 f fd ["_law_it"] spec__law_is_name := by
  have G := FnG.of (P := P) (w := w) (K := K) (mg := mg) (base := base) (k := 1) Fn sc19 fun cdv A outer s H hr hgd =>
    have C : Cxs (U1 (cxB P w K mg base ["_law_it", "_law_place", "_law_label", "_law_is_star"] "_law_is_name" (defScope (topS 19)) f cdv A outer s H)) P w K mg base 1 := ⟨fun _ => rfl, fun _ => rfl, fun _ => rfl, fun _ => rfl, fun _ => rfl, fun _ => rfl, fun _ => hr, fun _ => hgd⟩
    (zs_cons (zt_if (wt_not (wt_val (wx_isi (T := "tuple") C b_isinstance b_tuple (by decide +kernel) (wvar 0))))
       (zs_one (zt_ret wx_bl))
       zs_nil)
       (zs_cons (zt_for PassesOwn.never rfl (wi_enum C b_enumerate (wvar 0)) (wg_tup (n := 2) C.K C.calm (wgs_cons (gvar 1 (fun _ => pg_name (i := 1) sc19.nd rfl (.inl rfl))) (wgs_cons (gvar 2 (fun _ => pg_name (i := 2) sc19.nd rfl (.inl rfl))) wgs_nil)))
       (zs_cons (zt_set (i := 3) sc19.nd rfl (.inl rfl) (wx_and (wx_isi (T := "str") C b_isinstance b_str (by decide +kernel) (wvar 2)) (wx_and (wx_EQ C (wvar 2) wx_str) (wx_one (wx_EQ C (wvar 1) (wx_sub C (wx_len C b_len (wvar 0)) wx_int))))))
       (zs_one (zt_if (WWs.t (ww_and (wt_not (wt_val (wvar 3))) (ww_and1 (wt_not (wt_val (wx_call C D__law_is_made (wvar 2) (wa_cons wx_str (wa_cons (wx_pow wx_int wx_int) wa_nil))))))))
       (zs_one (zt_ret wx_bl))
       zs_nil))))
       (zs_one (zt_ret wx_bl))))
  refine G.as ?_
  clear G
  rintro ds fu Q ⟨d, rfl, hf, hQ⟩
  refine z_fn fun B hn hr => ?_
  rw [← hr] at hQ
  refine zq fun k hk => ?_
  simp [startD, dIsi_tup hf.dat]
  cases d with
  | tup l =>
    simp [isTupD]
    subst hk
    have hl := hf.tup_len
    refine zq fun k hk => ?_
    simp [seqOf]
    refine loop_inv (fun i ρ fu' => fu' = fu ∧ (∀ j d, j < i → l[j]? = some d → okAt l.length j d = true) ∧ ∃ a b c, ρ = [.va (.tup l), a, b, c]) ⟨rfl, fun j d h => absurd h (Nat.not_lt_zero j), _, _, _, rfl⟩ ?_ ?_
    · rintro i z ρ fu' k2 hi ⟨rfl, hall, a, b, c, rfl⟩ hk2
      obtain ⟨d, hd, rfl⟩ := enum_get hi
      have hfd := hf.tup d (List.mem_of_getElem? hd)
      have hil := (List.getElem?_eq_some_iff.mp hd).1
      refine ⟨_, rfl, rfl, ?_⟩
      simp
      have hp : dPow (.int 10) (.int 6) = some (.int 1000000) := rfl
      have hs : isStrD d = true ∨ (isStrD d = false ∧ isStar d = false) := by
        cases d <;> first | exact .inl rfl | exact .inr ⟨rfl, rfl⟩
      have made : ∀ (R : Bool → Prop), R (madeOf d az) → spec__law_is_made [d, .str (S az), .int 1000000] fu' (fun x fu1 => IsB x fun b => R b) := fun R hR => by
        refine ⟨d, az, 1000000, rfl, hfd, _, rfl, ?_⟩
        rw [len_short hfd, Bool.and_true]; exact hR
      have next : okAt l.length i d = true → ∀ a b c, k2 [.va (.tup l), a, b, c] fu' := fun h a b c => hk2 _ _ ⟨rfl, fun j x hj hx => by
        by_cases e : j = i
        · subst e; rw [hd] at hx; cases hx; exact h
        · exact hall j x (by omega) hx, a, b, c, rfl⟩
      have stop : okAt l.length i d = false → B.rt (.bl false) fu' := fun h => by
        have : isName (.tup l) = false := by
          rw [Bool.eq_false_iff]
          intro z
          rw [(name_at l).mp z i d hd] at h
          cases h
        rw [this] at hQ
        exact hQ
      have rest : ∀ v : D, (isStar d = false ∨ i + 1 ≠ l.length) → spec__law_is_made [d, .str (S az), .int 1000000] fu' (fun x fu1 => IsB x fun b => if b = true then k2 [.va (.tup l), .va (.int i), .va d, .va v] fu1 else B.rt (.bl false) fu1) := fun v h => by
        refine ⟨d, az, 1000000, rfl, hfd, _, rfl, ?_⟩
        rw [len_short hfd, Bool.and_true]
        have e : okAt l.length i d = madeOf d az := by
          unfold okAt
          rcases h with h | h
          · rw [h]; simp
          · simp [h]
        dsimp only
        split
        · rename_i hm; exact next (e.trans hm) _ _ _
        · rename_i hm; exact stop (e.trans (Bool.eq_false_iff.mpr hm))
      have hi1 : (decide ((i : Int) = (l.length : Int) - 1)) = decide (i + 1 = l.length) := by
        rw [decide_eq_decide]; omega
      simp [dIsi_str hfd.dat, hp, az_S, star_S, dLen, dSub, dI2, dEQ_int]
      rcases hs with hs | ⟨hs, hst⟩
      · simp [hs]
        rw [dEQ_str hfd.dat]
        simp
        cases hst : isStar d with
        | false =>
          have : isS_ d (S [42]) = false := hst
          simp [this]
          exact rest _ (.inl hst)
        | true =>
          have : isS_ d (S [42]) = true := hst
          simp [this]
          by_cases e : i + 1 = l.length
          · rw [if_pos (by omega)]
            exact next (by unfold okAt; rw [hst, e]; simp) _ _ _
          · rw [if_neg (by omega)]
            have e' : ¬ (i : Int) = (l.length : Int) - 1 := by omega
            simp only [e', decide_false]
            exact rest _ (.inr e)
      · simp [hs]
        exact rest _ (.inl hst)
    · rintro ρ fu' ⟨rfl, hall, a, b, c, rfl⟩
      subst hk
      simp
      have : isName (.tup l) = true := (name_at l).mpr fun i d hd => hall i d (by rw [enum_len]; exact (List.getElem?_eq_some_iff.mp hd).1) hd
      rw [this] at hQ
      exact hQ
  | _ => simpa [isTupD, isName] using hQ
theorem sc20 : FnScope ["_law_it"] ["_law_it"] (defScope (topS 20)) := ⟨rfl, rfl, rfl, by decide +kernel, rfl, by decide +kernel, by decide +kernel⟩
theorem ok20 {f : Addr} {fd : FuncData} (Fn : Fun K "_law_is_kind" "_law_is_kind" (topS 20) f fd)
    {f__law_is_made : Addr} {d__law_is_made : FuncData} (D__law_is_made : Dn P w K mg base 1 "_law_is_made" f__law_is_made d__law_is_made ["_law_it", "_law_signs", "_law_most"] spec__law_is_made) : FnG P w K mg base 2 f fd ["_law_it"] spec__law_is_kind := by
  have G := FnG.of (P := P) (w := w) (K := K) (mg := mg) (base := base) (k := 1) Fn sc20 fun cdv A outer s H hr hgd =>
    have C : Cxs (U1 (cxB P w K mg base ["_law_it"] "_law_is_kind" (defScope (topS 20)) f cdv A outer s H)) P w K mg base 1 := ⟨fun _ => rfl, fun _ => rfl, fun _ => rfl, fun _ => rfl, fun _ => rfl, fun _ => rfl, fun _ => hr, fun _ => hgd⟩
    (zs_one (zt_ret (wx_call C D__law_is_made (wvar 0) (wa_cons wx_str (wa_cons wx_int wa_nil)))))
  refine G.as ?_
  clear G
  rintro ds fu Q ⟨d, rfl, hf, hQ⟩
  refine z_fn fun B hn hr => ?_
  rw [← hr] at hQ
  simp [startD, AZ_S]
  exact ⟨d, AZ, 8, rfl, hf, hQ⟩
theorem sc21 : FnScope ["_law_it"] ["_law_it"] (defScope (topS 21)) := ⟨rfl, rfl, rfl, by decide +kernel, rfl, by decide +kernel, by decide +kernel⟩
theorem ok21 {f : Addr} {fd : FuncData} (Fn : Fun K "_law_is_value" "_law_is_value" (topS 21) f fd)
    {f__law_is_made : Addr} {d__law_is_made : FuncData} (D__law_is_made : Dn P w K mg base 1 "_law_is_made" f__law_is_made d__law_is_made ["_law_it", "_law_signs", "_law_most"] spec__law_is_made) : FnG P w K mg base 2 f fd ["_law_it"] spec__law_is_value := by
  have G := FnG.of (P := P) (w := w) (K := K) (mg := mg) (base := base) (k := 1) Fn sc21 fun cdv A outer s H hr hgd =>
    have C : Cxs (U1 (cxB P w K mg base ["_law_it"] "_law_is_value" (defScope (topS 21)) f cdv A outer s H)) P w K mg base 1 := ⟨fun _ => rfl, fun _ => rfl, fun _ => rfl, fun _ => rfl, fun _ => rfl, fun _ => rfl, fun _ => hr, fun _ => hgd⟩
    (zs_one (zt_ret (wx_call C D__law_is_made (wvar 0) (wa_cons wx_str (wa_cons wx_int wa_nil)))))
  refine G.as ?_
  clear G
  rintro ds fu Q ⟨d, rfl, hf, hQ⟩
  refine z_fn fun B hn hr => ?_
  rw [← hr] at hQ
  simp [startD, azd_S]
  exact ⟨d, az ++ dg, 12, rfl, hf, hQ⟩
theorem sc22 : FnScope ["_law_source_here", "_law_deep", "_law_k", "_law_some"] ["_law_source_here"] (defScope (topS 22)) := ⟨rfl, rfl, rfl, by decide +kernel, rfl, by decide +kernel, by decide +kernel⟩
theorem ok22 {f : Addr} {fd : FuncData} (Fn : Fun K "_law_odd" "_law_odd" (topS 22) f fd)
    {f__law_pick : Addr} {d__law_pick : FuncData} (D__law_pick : Dn P w K mg base 2 "_law_pick" f__law_pick d__law_pick ["_law_source_here", "_law_items"] spec__law_pick)
    {f__law_draw : Addr} {d__law_draw : FuncData} (D__law_draw : Dn P w K mg base 1 "_law_draw" f__law_draw d__law_draw ["_law_source_here", "_law_many"] spec__law_draw)
    (b_range : mg "range" = none) : FnG P w K mg base 3 f fd ["_law_source_here"] spec__law_odd := by
  have G := FnG.of (P := P) (w := w) (K := K) (mg := mg) (base := base) (k := 2) Fn sc22 fun cdv A outer s H hr hgd =>
    have C : Cxs (U1 (cxB P w K mg base ["_law_source_here", "_law_deep", "_law_k", "_law_some"] "_law_odd" (defScope (topS 22)) f cdv A outer s H)) P w K mg base 2 := ⟨fun _ => rfl, fun _ => rfl, fun _ => rfl, fun _ => rfl, fun _ => rfl, fun _ => rfl, fun _ => hr, fun _ => hgd⟩
    (zs_cons (zt_set (i := 1) sc22.nd rfl (.inl rfl) (wx_call C D__law_pick (wvar 0) (wa_cons (WLs.x (wl_lst (wa_cons wx_str (wa_cons wx_str (wa_cons wx_int wa_nil))))) wa_nil)))
       (zs_cons (zt_for PassesOwn.never rfl (wr1 C b_range (wx_call C D__law_draw (wvar 0) (wa_cons wx_int wa_nil))) (gvar 2 (fun _ => pg_name (i := 2) sc22.nd rfl (.inl rfl)))
       (zs_one (zt_set (i := 1) sc22.nd rfl (.inl rfl) (wx_ix C (WLs.x (wl_lst (wa_cons (wx_tup (wa_cons (wvar 1) wa_nil)) (wa_cons (WLs.x (wl_lst (wa_cons (wvar 1) wa_nil))) (wa_cons (wx_dic1 (wvar 1)) wa_nil))))) (wx_call C D__law_draw (wvar 0) (wa_cons wx_int wa_nil))))))
       (zs_cons (zt_set (i := 3) sc22.nd rfl (.inl rfl) (WLs.x (wl_lst (wa_cons wx_non (wa_cons wx_bl (wa_cons wx_bl (wa_cons wx_int (wa_cons wx_int (wa_cons (wx_NEG wx_int) (wa_cons (wx_pow wx_int wx_int) (wa_cons wx_str (wa_cons wx_str (wa_cons wx_str (wa_cons wx_str (wa_cons (wx_tup wa_nil) (wa_cons (WLs.x (wl_lst wa_nil)) (wa_cons wx_dic0 (wa_cons (wx_tup (wa_cons wx_str wa_nil)) (wa_cons (WLs.x (wl_lst (wa_cons wx_str wa_nil))) (wa_cons (wx_tup (wa_cons wx_str wa_nil)) wa_nil))))))))))))))))))))
       (zs_one (zt_ret (wx_call C D__law_pick (wvar 0) (wa_cons (wx_add C (wvar 3) (WLs.x (wl_lst (wa_cons (wx_MUL C wx_str wx_int) (wa_cons (wvar 1) wa_nil))))) wa_nil)))))))
  refine G.as ?_
  clear G
  exact of_chk (by decide +kernel)
theorem sc23 : FnScope ["_law_source_here", "_law_path", "_law_at", "_law_odd_here", "_law_two", "_law_some"] ["_law_source_here", "_law_path"] (defScope (topS 23)) := ⟨rfl, rfl, rfl, by decide +kernel, rfl, by decide +kernel, by decide +kernel⟩
theorem ok23 {f : Addr} {fd : FuncData} (Fn : Fun K "_law_bent_name" "_law_bent_name" (topS 23) f fd)
    {f__law_draw : Addr} {d__law_draw : FuncData} (D__law_draw : Dn P w K mg base 1 "_law_draw" f__law_draw d__law_draw ["_law_source_here", "_law_many"] spec__law_draw)
    {f__law_pick : Addr} {d__law_pick : FuncData} (D__law_pick : Dn P w K mg base 2 "_law_pick" f__law_pick d__law_pick ["_law_source_here", "_law_items"] spec__law_pick)
    {f__law_odd : Addr} {d__law_odd : FuncData} (D__law_odd : Dn P w K mg base 3 "_law_odd" f__law_odd d__law_odd ["_law_source_here"] spec__law_odd)
    (b_len : mg "len" = none)
    (b_list : mg "list" = none) : FnG P w K mg base 4 f fd ["_law_source_here", "_law_path"] spec__law_bent_name := by
  have G := FnG.of (P := P) (w := w) (K := K) (mg := mg) (base := base) (k := 3) Fn sc23 fun cdv A outer s H hr hgd =>
    have C : Cxs (U1 (cxB P w K mg base ["_law_source_here", "_law_path", "_law_at", "_law_odd_here", "_law_two", "_law_some"] "_law_bent_name" (defScope (topS 23)) f cdv A outer s H)) P w K mg base 3 := ⟨fun _ => rfl, fun _ => rfl, fun _ => rfl, fun _ => rfl, fun _ => rfl, fun _ => rfl, fun _ => hr, fun _ => hgd⟩
    (zs_cons (zt_set (i := 2) sc23.nd rfl (.inl rfl) (wx_call C D__law_draw (wvar 0) (wa_cons (wx_add C (wx_len C b_len (wvar 1)) wx_int) wa_nil)))
       (zs_cons (zt_set (i := 3) sc23.nd rfl (.inl rfl) (WLs.x (wl_lst (wa_cons wx_str (wa_cons wx_str (wa_cons wx_str (wa_cons wx_str (wa_cons wx_str (wa_cons wx_str (wa_cons wx_str (wa_cons wx_str (wa_cons (wx_MUL C wx_str wx_int) (wa_cons wx_int (wa_cons wx_non (wa_cons (wx_tup (wa_cons wx_str wa_nil)) (wa_cons (WLs.x (wl_lst (wa_cons wx_str wa_nil))) (wa_cons wx_bl (wa_cons wx_str wa_nil))))))))))))))))))
       (zs_cons (zt_set (i := 4) sc23.nd rfl (.inl rfl) (wx_call C D__law_pick (wvar 0) (wa_cons (wx_add C (wvar 3) (WLs.x (wl_lst (wa_cons (wx_call C D__law_odd (wvar 0) wa_nil) wa_nil)))) wa_nil)))
       (zs_cons (zt_set (i := 5) sc23.nd rfl (.inl rfl) (WLs.x (wl_lst (wa_cons (wx_add C (wx_add C (wx_slice C (wvar 1) wo_none (wo_some (wvar 2))) (wx_tup (wa_cons (wvar 4) wa_nil))) (wx_slice C (wvar 1) (wo_some (wvar 2)) wo_none)) (wa_cons (wx_add C (wx_add C (wx_slice C (wvar 1) wo_none (wo_some (wvar 2))) (wx_tup (wa_cons (wvar 4) wa_nil))) (wx_slice C (wvar 1) (wo_some (wx_add C (wvar 2) wx_int)) wo_none)) (wa_cons (wx_list C b_list (wvar 1)) (wa_cons (wx_REV C (wvar 1)) (wa_cons (wx_tup (wa_cons (wvar 1) wa_nil)) wa_nil))))))))
       (zs_one (zt_ret (wx_call C D__law_pick (wvar 0) (wa_cons (wx_add C (wvar 5) (WLs.x (wl_lst (wa_cons (wx_join C wx_str (wvar 1)) (wa_cons (wx_add C (wvar 1) (wx_tup (wa_cons wx_str wa_nil))) wa_nil))))) wa_nil))))))))
  refine G.as ?_
  clear G
  exact of_chk (by decide +kernel)
theorem sc24 : FnScope ["_law_source_here", "_law_word", "_law_signs", "_law_at", "_law_sign", "_law_some"] ["_law_source_here", "_law_word"] (defScope (topS 24)) := ⟨rfl, rfl, rfl, by decide +kernel, rfl, by decide +kernel, by decide +kernel⟩
theorem ok24 {f : Addr} {fd : FuncData} (Fn : Fun K "_law_bent_word" "_law_bent_word" (topS 24) f fd)
    {f__law_draw : Addr} {d__law_draw : FuncData} (D__law_draw : Dn P w K mg base 1 "_law_draw" f__law_draw d__law_draw ["_law_source_here", "_law_many"] spec__law_draw)
    {f__law_pick : Addr} {d__law_pick : FuncData} (D__law_pick : Dn P w K mg base 2 "_law_pick" f__law_pick d__law_pick ["_law_source_here", "_law_items"] spec__law_pick)
    (b_len : mg "len" = none) : FnG P w K mg base 3 f fd ["_law_source_here", "_law_word"] spec__law_bent_word := by
  have G := FnG.of (P := P) (w := w) (K := K) (mg := mg) (base := base) (k := 2) Fn sc24 fun cdv A outer s H hr hgd =>
    have C : Cxs (U1 (cxB P w K mg base ["_law_source_here", "_law_word", "_law_signs", "_law_at", "_law_sign", "_law_some"] "_law_bent_word" (defScope (topS 24)) f cdv A outer s H)) P w K mg base 2 := ⟨fun _ => rfl, fun _ => rfl, fun _ => rfl, fun _ => rfl, fun _ => rfl, fun _ => rfl, fun _ => hr, fun _ => hgd⟩
    (zs_cons (zt_set (i := 2) sc24.nd rfl (.inl rfl) wx_str)
       (zs_cons (zt_par (i := 3) (j := 4) rfl sc24.nd rfl rfl (by decide) rfl rfl (WX.r (wx_call C D__law_draw (wvar 0) (wa_cons (wx_add C (wx_len C b_len (wvar 1)) wx_int) wa_nil))) (WX.r (wx_call C D__law_pick (wvar 0) (wa_cons (wvar 2) wa_nil))) (by rfl))
       (zs_cons (zt_set (i := 5) sc24.nd rfl (.inl rfl) (WLs.x (wl_lst (wa_cons (wx_add C (wx_add C (wx_slice C (wvar 1) wo_none (wo_some (wvar 3))) (wvar 4)) (wx_slice C (wvar 1) (wo_some (wvar 3)) wo_none)) (wa_cons (wx_add C (wx_add C (wx_slice C (wvar 1) wo_none (wo_some (wvar 3))) (wvar 4)) (wx_slice C (wvar 1) (wo_some (wx_add C (wvar 3) wx_int)) wo_none)) (wa_cons (wx_add C (wx_slice C (wvar 1) wo_none (wo_some (wvar 3))) (wx_slice C (wvar 1) (wo_some (wx_add C (wvar 3) wx_int)) wo_none)) (wa_cons (wx_MUL C (wvar 1) wx_int) wa_nil)))))))
       (zs_one (zt_ret (wx_call C D__law_pick (wvar 0) (wa_cons (wx_add C (wvar 5) (WLs.x (wl_lst (wa_cons (wx_upper (wvar 1)) (wa_cons (wx_lower (wvar 1)) (wa_cons (wx_add C (wvar 1) (wx_slice C (wvar 1) wo_none (wo_some wx_int))) (wa_cons (wx_tup (wa_cons (wvar 1) wa_nil)) (wa_cons (WLs.x (wl_lst (wa_cons (wvar 1) wa_nil))) wa_nil)))))))) wa_nil)))))))
  refine G.as ?_
  clear G
  exact of_chk (by decide +kernel)
theorem sc25 : FnScope ["_law_source_here", "_law_signs", "_law_found", "_law_some", "_law_most", "_law_first", "_law_step", "_law_size", "_law_k"] ["_law_source_here"] (defScope (topS 25)) := ⟨rfl, rfl, rfl, by decide +kernel, rfl, by decide +kernel, by decide +kernel⟩
theorem ok25 {f : Addr} {fd : FuncData} (Fn : Fun K "_law_words" "_law_words" (topS 25) f fd)
    {f__law_draw : Addr} {d__law_draw : FuncData} (D__law_draw : Dn P w K mg base 1 "_law_draw" f__law_draw d__law_draw ["_law_source_here", "_law_many"] spec__law_draw)
    (b_zip : mg "zip" = none)
    (b_len : mg "len" = none)
    (b_range : mg "range" = none) : FnG P w K mg base 2 f fd ["_law_source_here"] spec__law_words := by
  have G := FnG.of (P := P) (w := w) (K := K) (mg := mg) (base := base) (k := 1) Fn sc25 fun cdv A outer s H hr hgd =>
    have C : Cxs (U1 (cxB P w K mg base ["_law_source_here", "_law_signs", "_law_found", "_law_some", "_law_most", "_law_first", "_law_step", "_law_size", "_law_k"] "_law_words" (defScope (topS 25)) f cdv A outer s H)) P w K mg base 1 := ⟨fun _ => rfl, fun _ => rfl, fun _ => rfl, fun _ => rfl, fun _ => rfl, fun _ => rfl, fun _ => hr, fun _ => hgd⟩
    (zs_cons (zt_set (i := 1) sc25.nd rfl (.inl rfl) (wx_tup (wa_cons wx_str (wa_cons wx_str wa_nil))))
       (zs_cons (zt_setL (i := 2) sc25.nd rfl (.inl rfl) (wl_lst wa_nil))
       (zs_cons (zt_for PassesOwn.never rfl (wi_zip C b_zip (wvar 1) (wx_tup (wa_cons wx_int (wa_cons wx_int wa_nil)))) (wg_tup (n := 2) C.K C.calm (wgs_cons (gvar 3 (fun _ => pg_name (i := 3) sc25.nd rfl (.inr rfl))) (wgs_cons (gvar 4 (fun _ => pg_name (i := 4) sc25.nd rfl (.inl rfl))) wgs_nil)))
       (zs_cons (zt_asg (wx_tup (wa_cons (wx_call C D__law_draw (wvar 0) (wa_cons (wx_len C b_len (wvar 3)) wa_nil)) (wa_cons (wx_add C wx_int (wx_MUL C wx_int (wx_call C D__law_draw (wvar 0) (wa_cons wx_int wa_nil)))) wa_nil))) (wg_tup (n := 2) C.K C.calm (wgs_cons (gvar 5 (fun _ => pg_name (i := 5) sc25.nd rfl (.inr rfl))) (wgs_cons (gvar 6 (fun _ => pg_name (i := 6) sc25.nd rfl (.inr rfl))) wgs_nil))))
       (zs_cons (zt_set (i := 7) sc25.nd rfl (.inl rfl) (wx_ix C (WLs.x (wl_lst (wa_cons wx_int (wa_cons (wvar 4) (wa_cons (wx_add C wx_int (wx_call C D__law_draw (wvar 0) (wa_cons (wvar 4) wa_nil))) (wa_cons (wx_add C (wvar 4) wx_int) wa_nil)))))) (wx_call C D__law_draw (wvar 0) (wa_cons wx_int wa_nil))))
       (zs_one (zt_append (i := 2) (pv 2) (wx_join C wx_str (WLs.x (wl_lc (fun _ => rfl) (fun _ => sc25.nd) (wr1 C b_range (wvar 7)) (fun _ => (blkOk_by (N := ["_law_source_here", "_law_signs", "_law_found", "_law_some", "_law_most", "_law_first", "_law_step", "_law_size", "_law_k"]) (sc := defScope (topS 25)) (own := [("_law_k", 8)]) (by first | decide +kernel | (with_unfolding_all rfl)))) (gvar 8 (fun _ => pg_name (i := 8) sc25.nd rfl (.inl rfl))) wf_nil (wx_ix (C.blk _) (wvar 3) (wx_mod (C.blk _) (wx_add (C.blk _) (wvar 5) (wx_MUL (C.blk _) (wvar 6) (wvar 8))) (wx_len (C.blk _) b_len (wvar 3))))))))))))
       (zs_one (zt_freeze 2 (zt_ret (wvar 2)))))))
  refine G.as ?_
  clear G
  exact of_chk (by decide +kernel)
theorem sc26 : FnScope ["_law_it", "_law_kept", "_law_due", "_law_told", "_law_by_name"] ["_law_it"] (defScope (topS 26)) := ⟨rfl, rfl, rfl, by decide +kernel, rfl, by decide +kernel, by decide +kernel⟩
theorem ok26 {f : Addr} {fd : FuncData} (Fn : Fun K "_law_right" "_law_right" (topS 26) f fd)
    {f__law_is_value : Addr} {d__law_is_value : FuncData} (D__law_is_value : Dn P w K mg base 2 "_law_is_value" f__law_is_value d__law_is_value ["_law_it"] spec__law_is_value)
    {f__law_is_kind : Addr} {d__law_is_kind : FuncData} (D__law_is_kind : Dn P w K mg base 2 "_law_is_kind" f__law_is_kind d__law_is_kind ["_law_it"] spec__law_is_kind)
    {f__law_is_name : Addr} {d__law_is_name : FuncData} (D__law_is_name : Dn P w K mg base 2 "_law_is_name" f__law_is_name d__law_is_name ["_law_it"] spec__law_is_name)
    {f_is_value : Addr} {d_is_value : FuncData} (D_is_value : Dn P w K mg base 2 "is_value" f_is_value d_is_value ["thing"] spec_is_value)
    {f_is_kind : Addr} {d_is_kind : FuncData} (D_is_kind : Dn P w K mg base 2 "is_kind" f_is_kind d_is_kind ["thing"] spec_is_kind)
    {f_is_name : Addr} {d_is_name : FuncData} (D_is_name : Dn P w K mg base 2 "is_name" f_is_name d_is_name ["thing"] spec_is_name)
    (k_is_value_0_thing : KPerm K d_is_value ["thing"] ["thing"] 0 [0])
    (k_is_kind_0_thing : KPerm K d_is_kind ["thing"] ["thing"] 0 [0])
    (k_is_name_0_thing : KPerm K d_is_name ["thing"] ["thing"] 0 [0])
    (b_repr : mg "repr" = none) : FnG P w K mg base 3 f fd ["_law_it"] spec__law_right := by
  have G := FnG.of (P := P) (w := w) (K := K) (mg := mg) (base := base) (k := 2) Fn sc26 fun cdv A outer s H hr hgd =>
    have C : Cxs (U1 (cxB P w K mg base ["_law_it", "_law_kept", "_law_due", "_law_told", "_law_by_name"] "_law_right" (defScope (topS 26)) f cdv A outer s H)) P w K mg base 2 := ⟨fun _ => rfl, fun _ => rfl, fun _ => rfl, fun _ => rfl, fun _ => rfl, fun _ => rfl, fun _ => hr, fun _ => hgd⟩
    (zs_cons (zt_par (i := 1) (j := 2) rfl sc26.nd rfl rfl (by decide) rfl rfl (WX.r (wx_rep C b_repr (wvar 0))) (WX.r (WLs.x (wl_lst (wa_cons (wx_call C D__law_is_name (wvar 0) wa_nil) (wa_cons (wx_call C D__law_is_kind (wvar 0) wa_nil) (wa_cons (wx_call C D__law_is_value (wvar 0) wa_nil) wa_nil)))))) (by rfl))
       (zs_cons (zt_set (i := 3) sc26.nd rfl (.inl rfl) (WLs.x (wl_lst (wa_cons (wx_call C D_is_name (wvar 0) wa_nil) (wa_cons (wx_call C D_is_kind (wvar 0) wa_nil) (wa_cons (wx_call C D_is_value (wvar 0) wa_nil) wa_nil))))))
       (zs_cons (zt_set (i := 4) sc26.nd rfl (.inl rfl) (WLs.x (wl_lst (wa_cons (wx_callK0 C D_is_name (wk_cons (wvar 0) wk_nil) k_is_name_0_thing) (wa_cons (wx_callK0 C D_is_kind (wk_cons (wvar 0) wk_nil) k_is_kind_0_thing) (wa_cons (wx_callK0 C D_is_value (wk_cons (wvar 0) wk_nil) k_is_value_0_thing) wa_nil))))))
       (zs_one (zt_ret (wx_and (wx_EQ C (wx_rep C b_repr (WLs.x (wl_lst (wa_cons (wvar 3) (wa_cons (wvar 4) wa_nil))))) (wx_rep C b_repr (WLs.x (wl_lst (wa_cons (wvar 2) (wa_cons (wvar 2) wa_nil)))))) (wx_one (wx_EQ C (wx_rep C b_repr (wvar 0)) (wvar 1)))))))))
  refine G.as ?_
  clear G
  rintro ds fu Q ⟨d, rfl, hf, hQ⟩
  refine z_fn fun B hn hr => ?_
  rw [← hr] at hQ
  have hrp := hf.rep (by decide) (by decide)
  refine zq fun k hk => ?_
  simp [startD]
  refine isS_of hrp ⟨d, rfl, hf, d, rfl, hf, d, rfl, hf, ?_⟩
  subst hk
  refine zq fun k hk => ?_
  simp
  refine ⟨d, rfl, hf, d, rfl, hf, d, rfl, hf, ?_⟩
  subst hk
  refine zq fun k hk => ?_
  simp
  refine ⟨rfl, d, rfl, hf, rfl, d, rfl, hf, rfl, d, rfl, hf, ?_⟩
  subst hk
  have h3 : ∃ s, dRep [.lst [.lst [.bl (isName d), .bl (isKind d), .bl (isVal d)], .lst [.bl (isName d), .bl (isKind d), .bl (isVal d)]]] = some (.str s) := ⟨_, dRep_ok (rep_of rfl (Nat.le_of_ble_eq_true rfl) (Nat.le_of_ble_eq_true rfl))⟩
  obtain ⟨s, hs⟩ := h3
  simp [hs, hrp, dEQ_strs]
  exact hQ
theorem sc27 : FnScope ["_law_script", "_law_source_here", "_law_some", "_law_turn", "_law_labels_here", "_law_path", "_law_words_here", "_law_word", "_law_it"] ["_law_script"] (defScope (topS 27)) := ⟨rfl, rfl, rfl, by decide +kernel, rfl, by decide +kernel, by decide +kernel⟩
theorem ok27 {f : Addr} {fd : FuncData} (Fn : Fun K "law" "law" (topS 27) f fd)
    {f__law_source : Addr} {d__law_source : FuncData} (D__law_source : Dn P w K mg base 1 "_law_source" f__law_source d__law_source ["_law_script"] spec__law_source)
    {f__law_labels : Addr} {d__law_labels : FuncData} (D__law_labels : Dn P w K mg base 2 "_law_labels" f__law_labels d__law_labels ["_law_source_here", "_law_many"] spec__law_labels)
    {f__law_name : Addr} {d__law_name : FuncData} (D__law_name : Dn P w K mg base 3 "_law_name" f__law_name d__law_name ["_law_source_here", "_law_top", "_law_labels_here", "_law_deep"] spec__law_name)
    {f__law_apex : Addr} {d__law_apex : FuncData} (D__law_apex : Dn P w K mg base 3 "_law_apex" f__law_apex d__law_apex ["_law_source_here", "_law_labels_here"] spec__law_apex)
    {f__law_words : Addr} {d__law_words : FuncData} (D__law_words : Dn P w K mg base 2 "_law_words" f__law_words d__law_words ["_law_source_here"] spec__law_words)
    {f__law_bent_name : Addr} {d__law_bent_name : FuncData} (D__law_bent_name : Dn P w K mg base 4 "_law_bent_name" f__law_bent_name d__law_bent_name ["_law_source_here", "_law_path"] spec__law_bent_name)
    {f__law_odd : Addr} {d__law_odd : FuncData} (D__law_odd : Dn P w K mg base 3 "_law_odd" f__law_odd d__law_odd ["_law_source_here"] spec__law_odd)
    {f__law_bent_word : Addr} {d__law_bent_word : FuncData} (D__law_bent_word : Dn P w K mg base 3 "_law_bent_word" f__law_bent_word d__law_bent_word ["_law_source_here", "_law_word"] spec__law_bent_word)
    {f__law_right : Addr} {d__law_right : FuncData} (D__law_right : Dn P w K mg base 3 "_law_right" f__law_right d__law_right ["_law_it"] spec__law_right)
    (b_range : mg "range" = none) : FnG P w K mg base 5 f fd ["_law_script"] spec_law := by
  have G := FnG.of (P := P) (w := w) (K := K) (mg := mg) (base := base) (k := 4) Fn sc27 fun cdv A outer s H hr hgd =>
    have C : Cxs (U1 (cxB P w K mg base ["_law_script", "_law_source_here", "_law_some", "_law_turn", "_law_labels_here", "_law_path", "_law_words_here", "_law_word", "_law_it"] "law" (defScope (topS 27)) f cdv A outer s H)) P w K mg base 4 := ⟨fun _ => rfl, fun _ => rfl, fun _ => rfl, fun _ => rfl, fun _ => rfl, fun _ => rfl, fun _ => hr, fun _ => hgd⟩
    (zs_cons (zt_set (i := 1) sc27.nd rfl (.inr rfl) (wx_call C D__law_source (wvar 0) wa_nil))
       (zs_cons (zt_set (i := 2) sc27.nd rfl (.inl rfl) (WLs.x (wl_lst (wa_cons (wx_tup wa_nil) (wa_cons (wx_tup (wa_cons wx_str wa_nil)) (wa_cons (wx_tup (wa_cons wx_str (wa_cons wx_str wa_nil))) (wa_cons (wx_tup (wa_cons wx_str (wa_cons wx_str (wa_cons wx_str wa_nil)))) (wa_cons (wx_tup (wa_cons (wx_MUL C wx_str wx_int) wa_nil)) (wa_cons (wx_tup (wa_cons wx_str wa_nil)) (wa_cons wx_str (wa_cons wx_str (wa_cons wx_str (wa_cons wx_str wa_nil)))))))))))))
       (zs_cons (zt_set (i := 2) sc27.nd rfl (.inl rfl) (wx_add C (wvar 2) (WLs.x (wl_lst (wa_cons (wx_MUL C wx_str wx_int) (wa_cons (wx_MUL C wx_str wx_int) (wa_cons (wx_MUL C wx_str wx_int) (wa_cons (wx_MUL C wx_str wx_int) (wa_cons (wx_MUL C wx_str wx_int) (wa_cons (wx_MUL C wx_str wx_int) (wa_cons (wx_MUL C wx_str wx_int) (wa_cons (wx_tup (wa_cons (wx_tup (wa_cons wx_str wa_nil)) wa_nil)) (wa_cons (wx_MUL C (wx_tup (wa_cons wx_str wa_nil)) wx_int) wa_nil)))))))))))))
       (zs_cons (zt_for PassesOwn.never rfl (wr1 C b_range wx_int) (gvar 3 (fun _ => pg_name (i := 3) sc27.nd rfl (.inl rfl)))
       (zs_cons (zt_set (i := 4) sc27.nd rfl (.inl rfl) (wx_call C D__law_labels (wvar 1) (wa_cons wx_int wa_nil)))
       (zs_cons (zt_set (i := 5) sc27.nd rfl (.inl rfl) (wx_call C D__law_name (wvar 1) (wa_cons (wx_call C D__law_apex (wvar 1) (wa_cons (wvar 4) wa_nil)) (wa_cons (wvar 4) (wa_cons wx_int wa_nil)))))
       (zs_cons (zt_set (i := 6) sc27.nd rfl (.inl rfl) (wx_call C D__law_words (wvar 1) wa_nil))
       (zs_cons (zt_set (i := 2) sc27.nd rfl (.inl rfl) (wx_add C (wvar 2) (WLs.x (wl_lst (wa_cons (wvar 5) (wa_cons (wx_call C D__law_bent_name (wvar 1) (wa_cons (wvar 5) wa_nil)) (wa_cons (wx_call C D__law_odd (wvar 1) wa_nil) (wa_cons (wx_call C D__law_bent_name (wvar 1) (wa_cons (wx_add C (wvar 5) (wx_tup (wa_cons wx_str wa_nil))) wa_nil)) wa_nil))))))))
       (zs_one (zt_set (i := 2) sc27.nd rfl (.inl rfl) (wx_add C (wx_add C (wvar 2) (wvar 6)) (WLs.x (wl_lc (fun _ => rfl) (fun _ => sc27.nd) (wi_list C.K (wx_add C (wvar 6) (WLs.x (wl_lst (wa_cons (wx_ix C (wvar 4) wx_int) wa_nil))))) (fun _ => (blkOk_by (N := ["_law_script", "_law_source_here", "_law_some", "_law_turn", "_law_labels_here", "_law_path", "_law_words_here", "_law_word", "_law_it"]) (sc := defScope (topS 27)) (own := [("_law_word", 7)]) (by first | decide +kernel | (with_unfolding_all rfl)))) (gvar 7 (fun _ => pg_name (i := 7) sc27.nd rfl (.inl rfl))) wf_nil (wx_call (C.blk _) D__law_bent_word (wvar 1) (wa_cons (wvar 7) wa_nil))))))))))))
       (zs_one (zt_ret (wx_EQ C (WLs.x (wl_lc (fun _ => rfl) (fun _ => sc27.nd) (wi_list C.K (wvar 2)) (fun _ => (blkOk_by (N := ["_law_script", "_law_source_here", "_law_some", "_law_turn", "_law_labels_here", "_law_path", "_law_words_here", "_law_word", "_law_it"]) (sc := defScope (topS 27)) (own := [("_law_it", 8)]) (by first | decide +kernel | (with_unfolding_all rfl)))) (gvar 8 (fun _ => pg_name (i := 8) sc27.nd rfl (.inl rfl))) (wf_one (wt_not (wt_val (wx_call (C.blk _) D__law_right (wvar 8) wa_nil)))) (wvar 8))) (WLs.x (wl_lst wa_nil)))))))))
  refine G.as ?_
  clear G
  exact of_law (M := MM) (fun _ _ _ h => h) rfl (by decide) (by decide +kernel)
end
end W
namespace W
open PySem PySem.Spec L2 Z
open PyProof.Rows (envOfC)
theorem all_mk {l : PySem.W.OpenLaw} {w : World} {K : PySem.W.Frag} {h : Heap} {mg : Str → Option Value} {fa : Addr} (X : K.In h) (G : h.Ns mainGlobals mg) (hfa : mg "law" = some (.ref fa))
    {f_is_made_of : Addr} {od7 an7 : Option Addr} {sl7 : Array (Option Value)} {oc7 kV7 dc7 pm7 cd7 ct7 : Value}
    {f_is_name : Addr} {od8 an8 : Option Addr} {sl8 : Array (Option Value)} {oc8 kV8 dc8 pm8 cd8 ct8 : Value}
    {f_is_kind : Addr} {od9 an9 : Option Addr} {sl9 : Array (Option Value)} {oc9 kV9 dc9 pm9 cd9 ct9 : Value}
    {f_is_value : Addr} {od10 an10 : Option Addr} {sl10 : Array (Option Value)} {oc10 kV10 dc10 pm10 cd10 ct10 : Value}
    {f__law_source : Addr} {od12 an12 : Option Addr} {sl12 : Array (Option Value)} {oc12 kV12 dc12 pm12 cd12 ct12 : Value}
    {f__law_draw : Addr} {od13 an13 : Option Addr} {sl13 : Array (Option Value)} {oc13 kV13 dc13 pm13 cd13 ct13 : Value}
    {f__law_pick : Addr} {od14 an14 : Option Addr} {sl14 : Array (Option Value)} {oc14 kV14 dc14 pm14 cd14 ct14 : Value}
    {f__law_labels : Addr} {od15 an15 : Option Addr} {sl15 : Array (Option Value)} {oc15 kV15 dc15 pm15 cd15 ct15 : Value}
    {f__law_apex : Addr} {od16 an16 : Option Addr} {sl16 : Array (Option Value)} {oc16 kV16 dc16 pm16 cd16 ct16 : Value}
    {f__law_name : Addr} {od17 an17 : Option Addr} {sl17 : Array (Option Value)} {oc17 kV17 dc17 pm17 cd17 ct17 : Value}
    {f__law_is_made : Addr} {od18 an18 : Option Addr} {sl18 : Array (Option Value)} {oc18 kV18 dc18 pm18 cd18 ct18 : Value}
    {f__law_is_name : Addr} {od19 an19 : Option Addr} {sl19 : Array (Option Value)} {oc19 kV19 dc19 pm19 cd19 ct19 : Value}
    {f__law_is_kind : Addr} {od20 an20 : Option Addr} {sl20 : Array (Option Value)} {oc20 kV20 dc20 pm20 cd20 ct20 : Value}
    {f__law_is_value : Addr} {od21 an21 : Option Addr} {sl21 : Array (Option Value)} {oc21 kV21 dc21 pm21 cd21 ct21 : Value}
    {f__law_odd : Addr} {od22 an22 : Option Addr} {sl22 : Array (Option Value)} {oc22 kV22 dc22 pm22 cd22 ct22 : Value}
    {f__law_bent_name : Addr} {od23 an23 : Option Addr} {sl23 : Array (Option Value)} {oc23 kV23 dc23 pm23 cd23 ct23 : Value}
    {f__law_bent_word : Addr} {od24 an24 : Option Addr} {sl24 : Array (Option Value)} {oc24 kV24 dc24 pm24 cd24 ct24 : Value}
    {f__law_words : Addr} {od25 an25 : Option Addr} {sl25 : Array (Option Value)} {oc25 kV25 dc25 pm25 cd25 ct25 : Value}
    {f__law_right : Addr} {od26 an26 : Option Addr} {sl26 : Array (Option Value)} {oc26 kV26 dc26 pm26 cd26 ct26 : Value}
    {f_law : Addr} {od27 an27 : Option Addr} {sl27 : Array (Option Value)} {oc27 kV27 dc27 pm27 cd27 ct27 : Value}
    {t_STAR : Tok}
    {t_LETTERS : Tok}
    {t_MOST_KIND : Tok}
    {t_CAPITALS : Tok}
    {t_MOST_VALUE : Tok}
    {t_DIGITS : Tok}
    (a7 : PySem.W.nsIn K mainGlobals "is_made_of" = some (some (.ref f_is_made_of)))
    (l7 : K.lookup f_is_made_of = some ⟨oc7, od7, .func (PySem.W.fnOf "is_made_of" "is_made_of" (defArgs (topS 7)) (defBody (topS 7)) (defScope (topS 7)) .none kV7 dc7 pm7 an7 cd7 ct7), sl7⟩)
    (c7 : PySem.W.codeIn K cd7 "is_made_of" = true)
    (k7 : PySem.W.keepIn K (.ref f_is_made_of) = true)
    (a8 : PySem.W.nsIn K mainGlobals "is_name" = some (some (.ref f_is_name)))
    (l8 : K.lookup f_is_name = some ⟨oc8, od8, .func (PySem.W.fnOf "is_name" "is_name" (defArgs (topS 8)) (defBody (topS 8)) (defScope (topS 8)) .none kV8 dc8 pm8 an8 cd8 ct8), sl8⟩)
    (c8 : PySem.W.codeIn K cd8 "is_name" = true)
    (k8 : PySem.W.keepIn K (.ref f_is_name) = true)
    (a9 : PySem.W.nsIn K mainGlobals "is_kind" = some (some (.ref f_is_kind)))
    (l9 : K.lookup f_is_kind = some ⟨oc9, od9, .func (PySem.W.fnOf "is_kind" "is_kind" (defArgs (topS 9)) (defBody (topS 9)) (defScope (topS 9)) .none kV9 dc9 pm9 an9 cd9 ct9), sl9⟩)
    (c9 : PySem.W.codeIn K cd9 "is_kind" = true)
    (k9 : PySem.W.keepIn K (.ref f_is_kind) = true)
    (a10 : PySem.W.nsIn K mainGlobals "is_value" = some (some (.ref f_is_value)))
    (l10 : K.lookup f_is_value = some ⟨oc10, od10, .func (PySem.W.fnOf "is_value" "is_value" (defArgs (topS 10)) (defBody (topS 10)) (defScope (topS 10)) .none kV10 dc10 pm10 an10 cd10 ct10), sl10⟩)
    (c10 : PySem.W.codeIn K cd10 "is_value" = true)
    (k10 : PySem.W.keepIn K (.ref f_is_value) = true)
    (a12 : PySem.W.nsIn K mainGlobals "_law_source" = some (some (.ref f__law_source)))
    (l12 : K.lookup f__law_source = some ⟨oc12, od12, .func (PySem.W.fnOf "_law_source" "_law_source" (defArgs (topS 12)) (defBody (topS 12)) (defScope (topS 12)) .none kV12 dc12 pm12 an12 cd12 ct12), sl12⟩)
    (c12 : PySem.W.codeIn K cd12 "_law_source" = true)
    (k12 : PySem.W.keepIn K (.ref f__law_source) = true)
    (a13 : PySem.W.nsIn K mainGlobals "_law_draw" = some (some (.ref f__law_draw)))
    (l13 : K.lookup f__law_draw = some ⟨oc13, od13, .func (PySem.W.fnOf "_law_draw" "_law_draw" (defArgs (topS 13)) (defBody (topS 13)) (defScope (topS 13)) .none kV13 dc13 pm13 an13 cd13 ct13), sl13⟩)
    (c13 : PySem.W.codeIn K cd13 "_law_draw" = true)
    (k13 : PySem.W.keepIn K (.ref f__law_draw) = true)
    (a14 : PySem.W.nsIn K mainGlobals "_law_pick" = some (some (.ref f__law_pick)))
    (l14 : K.lookup f__law_pick = some ⟨oc14, od14, .func (PySem.W.fnOf "_law_pick" "_law_pick" (defArgs (topS 14)) (defBody (topS 14)) (defScope (topS 14)) .none kV14 dc14 pm14 an14 cd14 ct14), sl14⟩)
    (c14 : PySem.W.codeIn K cd14 "_law_pick" = true)
    (k14 : PySem.W.keepIn K (.ref f__law_pick) = true)
    (a15 : PySem.W.nsIn K mainGlobals "_law_labels" = some (some (.ref f__law_labels)))
    (l15 : K.lookup f__law_labels = some ⟨oc15, od15, .func (PySem.W.fnOf "_law_labels" "_law_labels" (defArgs (topS 15)) (defBody (topS 15)) (defScope (topS 15)) .none kV15 dc15 pm15 an15 cd15 ct15), sl15⟩)
    (c15 : PySem.W.codeIn K cd15 "_law_labels" = true)
    (k15 : PySem.W.keepIn K (.ref f__law_labels) = true)
    (a16 : PySem.W.nsIn K mainGlobals "_law_apex" = some (some (.ref f__law_apex)))
    (l16 : K.lookup f__law_apex = some ⟨oc16, od16, .func (PySem.W.fnOf "_law_apex" "_law_apex" (defArgs (topS 16)) (defBody (topS 16)) (defScope (topS 16)) .none kV16 dc16 pm16 an16 cd16 ct16), sl16⟩)
    (c16 : PySem.W.codeIn K cd16 "_law_apex" = true)
    (k16 : PySem.W.keepIn K (.ref f__law_apex) = true)
    (a17 : PySem.W.nsIn K mainGlobals "_law_name" = some (some (.ref f__law_name)))
    (l17 : K.lookup f__law_name = some ⟨oc17, od17, .func (PySem.W.fnOf "_law_name" "_law_name" (defArgs (topS 17)) (defBody (topS 17)) (defScope (topS 17)) .none kV17 dc17 pm17 an17 cd17 ct17), sl17⟩)
    (c17 : PySem.W.codeIn K cd17 "_law_name" = true)
    (k17 : PySem.W.keepIn K (.ref f__law_name) = true)
    (a18 : PySem.W.nsIn K mainGlobals "_law_is_made" = some (some (.ref f__law_is_made)))
    (l18 : K.lookup f__law_is_made = some ⟨oc18, od18, .func (PySem.W.fnOf "_law_is_made" "_law_is_made" (defArgs (topS 18)) (defBody (topS 18)) (defScope (topS 18)) .none kV18 dc18 pm18 an18 cd18 ct18), sl18⟩)
    (c18 : PySem.W.codeIn K cd18 "_law_is_made" = true)
    (k18 : PySem.W.keepIn K (.ref f__law_is_made) = true)
    (a19 : PySem.W.nsIn K mainGlobals "_law_is_name" = some (some (.ref f__law_is_name)))
    (l19 : K.lookup f__law_is_name = some ⟨oc19, od19, .func (PySem.W.fnOf "_law_is_name" "_law_is_name" (defArgs (topS 19)) (defBody (topS 19)) (defScope (topS 19)) .none kV19 dc19 pm19 an19 cd19 ct19), sl19⟩)
    (c19 : PySem.W.codeIn K cd19 "_law_is_name" = true)
    (k19 : PySem.W.keepIn K (.ref f__law_is_name) = true)
    (a20 : PySem.W.nsIn K mainGlobals "_law_is_kind" = some (some (.ref f__law_is_kind)))
    (l20 : K.lookup f__law_is_kind = some ⟨oc20, od20, .func (PySem.W.fnOf "_law_is_kind" "_law_is_kind" (defArgs (topS 20)) (defBody (topS 20)) (defScope (topS 20)) .none kV20 dc20 pm20 an20 cd20 ct20), sl20⟩)
    (c20 : PySem.W.codeIn K cd20 "_law_is_kind" = true)
    (k20 : PySem.W.keepIn K (.ref f__law_is_kind) = true)
    (a21 : PySem.W.nsIn K mainGlobals "_law_is_value" = some (some (.ref f__law_is_value)))
    (l21 : K.lookup f__law_is_value = some ⟨oc21, od21, .func (PySem.W.fnOf "_law_is_value" "_law_is_value" (defArgs (topS 21)) (defBody (topS 21)) (defScope (topS 21)) .none kV21 dc21 pm21 an21 cd21 ct21), sl21⟩)
    (c21 : PySem.W.codeIn K cd21 "_law_is_value" = true)
    (k21 : PySem.W.keepIn K (.ref f__law_is_value) = true)
    (a22 : PySem.W.nsIn K mainGlobals "_law_odd" = some (some (.ref f__law_odd)))
    (l22 : K.lookup f__law_odd = some ⟨oc22, od22, .func (PySem.W.fnOf "_law_odd" "_law_odd" (defArgs (topS 22)) (defBody (topS 22)) (defScope (topS 22)) .none kV22 dc22 pm22 an22 cd22 ct22), sl22⟩)
    (c22 : PySem.W.codeIn K cd22 "_law_odd" = true)
    (k22 : PySem.W.keepIn K (.ref f__law_odd) = true)
    (a23 : PySem.W.nsIn K mainGlobals "_law_bent_name" = some (some (.ref f__law_bent_name)))
    (l23 : K.lookup f__law_bent_name = some ⟨oc23, od23, .func (PySem.W.fnOf "_law_bent_name" "_law_bent_name" (defArgs (topS 23)) (defBody (topS 23)) (defScope (topS 23)) .none kV23 dc23 pm23 an23 cd23 ct23), sl23⟩)
    (c23 : PySem.W.codeIn K cd23 "_law_bent_name" = true)
    (k23 : PySem.W.keepIn K (.ref f__law_bent_name) = true)
    (a24 : PySem.W.nsIn K mainGlobals "_law_bent_word" = some (some (.ref f__law_bent_word)))
    (l24 : K.lookup f__law_bent_word = some ⟨oc24, od24, .func (PySem.W.fnOf "_law_bent_word" "_law_bent_word" (defArgs (topS 24)) (defBody (topS 24)) (defScope (topS 24)) .none kV24 dc24 pm24 an24 cd24 ct24), sl24⟩)
    (c24 : PySem.W.codeIn K cd24 "_law_bent_word" = true)
    (k24 : PySem.W.keepIn K (.ref f__law_bent_word) = true)
    (a25 : PySem.W.nsIn K mainGlobals "_law_words" = some (some (.ref f__law_words)))
    (l25 : K.lookup f__law_words = some ⟨oc25, od25, .func (PySem.W.fnOf "_law_words" "_law_words" (defArgs (topS 25)) (defBody (topS 25)) (defScope (topS 25)) .none kV25 dc25 pm25 an25 cd25 ct25), sl25⟩)
    (c25 : PySem.W.codeIn K cd25 "_law_words" = true)
    (k25 : PySem.W.keepIn K (.ref f__law_words) = true)
    (a26 : PySem.W.nsIn K mainGlobals "_law_right" = some (some (.ref f__law_right)))
    (l26 : K.lookup f__law_right = some ⟨oc26, od26, .func (PySem.W.fnOf "_law_right" "_law_right" (defArgs (topS 26)) (defBody (topS 26)) (defScope (topS 26)) .none kV26 dc26 pm26 an26 cd26 ct26), sl26⟩)
    (c26 : PySem.W.codeIn K cd26 "_law_right" = true)
    (k26 : PySem.W.keepIn K (.ref f__law_right) = true)
    (a27 : PySem.W.nsIn K mainGlobals "law" = some (some (.ref f_law)))
    (l27 : K.lookup f_law = some ⟨oc27, od27, .func (PySem.W.fnOf "law" "law" (defArgs (topS 27)) (defBody (topS 27)) (defScope (topS 27)) .none kV27 dc27 pm27 an27 cd27 ct27), sl27⟩)
    (c27 : PySem.W.codeIn K cd27 "law" = true)
    (k27 : PySem.W.keepIn K (.ref f_law) = true)
    (z_all : PySem.W.nsIn K mainGlobals "all" = some none)
    (z_isinstance : PySem.W.nsIn K mainGlobals "isinstance" = some none)
    (z_str : PySem.W.nsIn K mainGlobals "str" = some none)
    (z_tuple : PySem.W.nsIn K mainGlobals "tuple" = some none)
    (z_len : PySem.W.nsIn K mainGlobals "len" = some none)
    (z_list : PySem.W.nsIn K mainGlobals "list" = some none)
    (z_range : PySem.W.nsIn K mainGlobals "range" = some none)
    (z_int : PySem.W.nsIn K mainGlobals "int" = some none)
    (z_enumerate : PySem.W.nsIn K mainGlobals "enumerate" = some none)
    (z_zip : PySem.W.nsIn K mainGlobals "zip" = some none)
    (z_repr : PySem.W.nsIn K mainGlobals "repr" = some none)
    (y_STAR : PySem.W.nsIn K mainGlobals "STAR" = some (some (.str "*" t_STAR)))
    (y_LETTERS : PySem.W.nsIn K mainGlobals "LETTERS" = some (some (.str "abcdefghijklmnopqrstuvwxyz" t_LETTERS)))
    (y_MOST_KIND : PySem.W.nsIn K mainGlobals "MOST_KIND" = some (some (.int 8 t_MOST_KIND)))
    (y_CAPITALS : PySem.W.nsIn K mainGlobals "CAPITALS" = some (some (.str "ABCDEFGHIJKLMNOPQRSTUVWXYZ" t_CAPITALS)))
    (y_MOST_VALUE : PySem.W.nsIn K mainGlobals "MOST_VALUE" = some (some (.int 12 t_MOST_VALUE)))
    (y_DIGITS : PySem.W.nsIn K mainGlobals "DIGITS" = some (some (.str "0123456789" t_DIGITS))) :
    ∃ fd : FuncData, (∀ (s : Shared) (u : Value), BindsTo s fd ⟨[u], []⟩ [("_law_script", u)]) ∧ ∀ base : Heap, K.In base → base.Ns mainGlobals mg → FnG l.prog w K mg base 5 fa fd ["_law_script"] spec_law := by
  have e := hfa.symm.trans (PySem.W.mg_of X G a27)
  cases e
  refine ⟨(PySem.W.fnOf "law" "law" (defArgs (topS 27)) (defBody (topS 27)) (defScope (topS 27)) .none kV27 dc27 pm27 an27 cd27 ct27), fun s u => .of_eq rfl, fun base _ _ => ?_⟩
  have F7 := fun_mk (st := topS 7) l7 c7 k7
  have D_is_made_of : Dn l.prog w K mg base 1 "is_made_of" f_is_made_of _ ["thing", "signs"] spec_is_made_of := ⟨(ok7 (P := l.prog) (w := w) (base := base) F7 (PySem.W.mg_none_of X G z_all) (PySem.W.mg_none_of X G z_isinstance) (PySem.W.mg_none_of X G z_str)), PySem.W.mg_of X G a7, k7, F7.binds (ps := ["thing", "signs"]) fun _ _ _ _ _ _ us hl => match us, hl with | [_, _], _ => rfl⟩
  have F12 := fun_mk (st := topS 12) l12 c12 k12
  have D__law_source : Dn l.prog w K mg base 1 "_law_source" f__law_source _ ["_law_script"] spec__law_source := ⟨(ok12 (P := l.prog) (w := w) (base := base) F12 (PySem.W.mg_none_of X G z_list)), PySem.W.mg_of X G a12, k12, F12.binds (ps := ["_law_script"]) fun _ _ _ _ _ _ us hl => match us, hl with | [_], _ => rfl⟩
  have F13 := fun_mk (st := topS 13) l13 c13 k13
  have D__law_draw : Dn l.prog w K mg base 1 "_law_draw" f__law_draw _ ["_law_source_here", "_law_many"] spec__law_draw := ⟨(ok13 (P := l.prog) (w := w) (base := base) F13 ), PySem.W.mg_of X G a13, k13, F13.binds (ps := ["_law_source_here", "_law_many"]) fun _ _ _ _ _ _ us hl => match us, hl with | [_, _], _ => rfl⟩
  have F18 := fun_mk (st := topS 18) l18 c18 k18
  have D__law_is_made : Dn l.prog w K mg base 1 "_law_is_made" f__law_is_made _ ["_law_it", "_law_signs", "_law_most"] spec__law_is_made := ⟨(ok18 (P := l.prog) (w := w) (base := base) F18 (PySem.W.mg_none_of X G z_len) (PySem.W.mg_none_of X G z_isinstance) (PySem.W.mg_none_of X G z_str)), PySem.W.mg_of X G a18, k18, F18.binds (ps := ["_law_it", "_law_signs", "_law_most"]) fun _ _ _ _ _ _ us hl => match us, hl with | [_, _, _], _ => rfl⟩
  have F8 := fun_mk (st := topS 8) l8 c8 k8
  have D_is_name : Dn l.prog w K mg base 2 "is_name" f_is_name _ ["thing"] spec_is_name := ⟨(ok8 (P := l.prog) (w := w) (base := base) F8 D_is_made_of (PySem.W.mg_none_of X G z_isinstance) (PySem.W.mg_none_of X G z_tuple) (PySem.W.mg_none_of X G z_all) (PySem.W.mg_of X G y_STAR) (PySem.W.mg_of X G y_LETTERS)), PySem.W.mg_of X G a8, k8, F8.binds (ps := ["thing"]) fun _ _ _ _ _ _ us hl => match us, hl with | [_], _ => rfl⟩
  have F9 := fun_mk (st := topS 9) l9 c9 k9
  have D_is_kind : Dn l.prog w K mg base 2 "is_kind" f_is_kind _ ["thing"] spec_is_kind := ⟨(ok9 (P := l.prog) (w := w) (base := base) F9 D_is_made_of (PySem.W.mg_none_of X G z_len) (PySem.W.mg_of X G y_MOST_KIND) (PySem.W.mg_of X G y_CAPITALS)), PySem.W.mg_of X G a9, k9, F9.binds (ps := ["thing"]) fun _ _ _ _ _ _ us hl => match us, hl with | [_], _ => rfl⟩
  have F10 := fun_mk (st := topS 10) l10 c10 k10
  have D_is_value : Dn l.prog w K mg base 2 "is_value" f_is_value _ ["thing"] spec_is_value := ⟨(ok10 (P := l.prog) (w := w) (base := base) F10 D_is_made_of (PySem.W.mg_none_of X G z_len) (PySem.W.mg_of X G y_MOST_VALUE) (PySem.W.mg_of X G y_LETTERS) (PySem.W.mg_of X G y_DIGITS)), PySem.W.mg_of X G a10, k10, F10.binds (ps := ["thing"]) fun _ _ _ _ _ _ us hl => match us, hl with | [_], _ => rfl⟩
  have F14 := fun_mk (st := topS 14) l14 c14 k14
  have D__law_pick : Dn l.prog w K mg base 2 "_law_pick" f__law_pick _ ["_law_source_here", "_law_items"] spec__law_pick := ⟨(ok14 (P := l.prog) (w := w) (base := base) F14 D__law_draw (PySem.W.mg_none_of X G z_len)), PySem.W.mg_of X G a14, k14, F14.binds (ps := ["_law_source_here", "_law_items"]) fun _ _ _ _ _ _ us hl => match us, hl with | [_, _], _ => rfl⟩
  have F15 := fun_mk (st := topS 15) l15 c15 k15
  have D__law_labels : Dn l.prog w K mg base 2 "_law_labels" f__law_labels _ ["_law_source_here", "_law_many"] spec__law_labels := ⟨(ok15 (P := l.prog) (w := w) (base := base) F15 D__law_draw (PySem.W.mg_none_of X G z_range)), PySem.W.mg_of X G a15, k15, F15.binds (ps := ["_law_source_here", "_law_many"]) fun _ _ _ _ _ _ us hl => match us, hl with | [_, _], _ => rfl⟩
  have F19 := fun_mk (st := topS 19) l19 c19 k19
  have D__law_is_name : Dn l.prog w K mg base 2 "_law_is_name" f__law_is_name _ ["_law_it"] spec__law_is_name := ⟨(ok19 (P := l.prog) (w := w) (base := base) F19 D__law_is_made (PySem.W.mg_none_of X G z_isinstance) (PySem.W.mg_none_of X G z_tuple) (PySem.W.mg_none_of X G z_enumerate) (PySem.W.mg_none_of X G z_len) (PySem.W.mg_none_of X G z_str)), PySem.W.mg_of X G a19, k19, F19.binds (ps := ["_law_it"]) fun _ _ _ _ _ _ us hl => match us, hl with | [_], _ => rfl⟩
  have F20 := fun_mk (st := topS 20) l20 c20 k20
  have D__law_is_kind : Dn l.prog w K mg base 2 "_law_is_kind" f__law_is_kind _ ["_law_it"] spec__law_is_kind := ⟨(ok20 (P := l.prog) (w := w) (base := base) F20 D__law_is_made), PySem.W.mg_of X G a20, k20, F20.binds (ps := ["_law_it"]) fun _ _ _ _ _ _ us hl => match us, hl with | [_], _ => rfl⟩
  have F21 := fun_mk (st := topS 21) l21 c21 k21
  have D__law_is_value : Dn l.prog w K mg base 2 "_law_is_value" f__law_is_value _ ["_law_it"] spec__law_is_value := ⟨(ok21 (P := l.prog) (w := w) (base := base) F21 D__law_is_made), PySem.W.mg_of X G a21, k21, F21.binds (ps := ["_law_it"]) fun _ _ _ _ _ _ us hl => match us, hl with | [_], _ => rfl⟩
  have F25 := fun_mk (st := topS 25) l25 c25 k25
  have D__law_words : Dn l.prog w K mg base 2 "_law_words" f__law_words _ ["_law_source_here"] spec__law_words := ⟨(ok25 (P := l.prog) (w := w) (base := base) F25 D__law_draw (PySem.W.mg_none_of X G z_zip) (PySem.W.mg_none_of X G z_len) (PySem.W.mg_none_of X G z_range)), PySem.W.mg_of X G a25, k25, F25.binds (ps := ["_law_source_here"]) fun _ _ _ _ _ _ us hl => match us, hl with | [_], _ => rfl⟩
  have F16 := fun_mk (st := topS 16) l16 c16 k16
  have D__law_apex : Dn l.prog w K mg base 3 "_law_apex" f__law_apex _ ["_law_source_here", "_law_labels_here"] spec__law_apex := ⟨(ok16 (P := l.prog) (w := w) (base := base) F16 D__law_draw D__law_pick (PySem.W.mg_none_of X G z_tuple) (PySem.W.mg_none_of X G z_range)), PySem.W.mg_of X G a16, k16, F16.binds (ps := ["_law_source_here", "_law_labels_here"]) fun _ _ _ _ _ _ us hl => match us, hl with | [_, _], _ => rfl⟩
  have F17 := fun_mk (st := topS 17) l17 c17 k17
  have D__law_name : Dn l.prog w K mg base 3 "_law_name" f__law_name _ ["_law_source_here", "_law_top", "_law_labels_here", "_law_deep"] spec__law_name := ⟨(ok17 (P := l.prog) (w := w) (base := base) F17 D__law_draw D__law_pick (PySem.W.mg_none_of X G z_tuple) (PySem.W.mg_none_of X G z_range) (PySem.W.mg_none_of X G z_int)), PySem.W.mg_of X G a17, k17, F17.binds (ps := ["_law_source_here", "_law_top", "_law_labels_here", "_law_deep"]) fun _ _ _ _ _ _ us hl => match us, hl with | [_, _, _, _], _ => rfl⟩
  have F22 := fun_mk (st := topS 22) l22 c22 k22
  have D__law_odd : Dn l.prog w K mg base 3 "_law_odd" f__law_odd _ ["_law_source_here"] spec__law_odd := ⟨(ok22 (P := l.prog) (w := w) (base := base) F22 D__law_pick D__law_draw (PySem.W.mg_none_of X G z_range)), PySem.W.mg_of X G a22, k22, F22.binds (ps := ["_law_source_here"]) fun _ _ _ _ _ _ us hl => match us, hl with | [_], _ => rfl⟩
  have F24 := fun_mk (st := topS 24) l24 c24 k24
  have D__law_bent_word : Dn l.prog w K mg base 3 "_law_bent_word" f__law_bent_word _ ["_law_source_here", "_law_word"] spec__law_bent_word := ⟨(ok24 (P := l.prog) (w := w) (base := base) F24 D__law_draw D__law_pick (PySem.W.mg_none_of X G z_len)), PySem.W.mg_of X G a24, k24, F24.binds (ps := ["_law_source_here", "_law_word"]) fun _ _ _ _ _ _ us hl => match us, hl with | [_, _], _ => rfl⟩
  have F26 := fun_mk (st := topS 26) l26 c26 k26
  have k_is_value_0_thing : KPerm K (PySem.W.fnOf "is_value" "is_value" (defArgs (topS 10)) (defBody (topS 10)) (defScope (topS 10)) .none kV10 dc10 pm10 an10 cd10 ct10) ["thing"] ["thing"] 0 [0] := fun s us ws _ hu hw => match us, hu, ws, hw with | [], _, [_], _ => .of_eq rfl
  have k_is_kind_0_thing : KPerm K (PySem.W.fnOf "is_kind" "is_kind" (defArgs (topS 9)) (defBody (topS 9)) (defScope (topS 9)) .none kV9 dc9 pm9 an9 cd9 ct9) ["thing"] ["thing"] 0 [0] := fun s us ws _ hu hw => match us, hu, ws, hw with | [], _, [_], _ => .of_eq rfl
  have k_is_name_0_thing : KPerm K (PySem.W.fnOf "is_name" "is_name" (defArgs (topS 8)) (defBody (topS 8)) (defScope (topS 8)) .none kV8 dc8 pm8 an8 cd8 ct8) ["thing"] ["thing"] 0 [0] := fun s us ws _ hu hw => match us, hu, ws, hw with | [], _, [_], _ => .of_eq rfl
  have D__law_right : Dn l.prog w K mg base 3 "_law_right" f__law_right _ ["_law_it"] spec__law_right := ⟨(ok26 (P := l.prog) (w := w) (base := base) F26 D__law_is_value D__law_is_kind D__law_is_name D_is_value D_is_kind D_is_name k_is_value_0_thing k_is_kind_0_thing k_is_name_0_thing (PySem.W.mg_none_of X G z_repr)), PySem.W.mg_of X G a26, k26, F26.binds (ps := ["_law_it"]) fun _ _ _ _ _ _ us hl => match us, hl with | [_], _ => rfl⟩
  have F23 := fun_mk (st := topS 23) l23 c23 k23
  have D__law_bent_name : Dn l.prog w K mg base 4 "_law_bent_name" f__law_bent_name _ ["_law_source_here", "_law_path"] spec__law_bent_name := ⟨(ok23 (P := l.prog) (w := w) (base := base) F23 D__law_draw D__law_pick D__law_odd (PySem.W.mg_none_of X G z_len) (PySem.W.mg_none_of X G z_list)), PySem.W.mg_of X G a23, k23, F23.binds (ps := ["_law_source_here", "_law_path"]) fun _ _ _ _ _ _ us hl => match us, hl with | [_, _], _ => rfl⟩
  have F27 := fun_mk (st := topS 27) l27 c27 k27
  exact (ok27 (P := l.prog) (w := w) (base := base) F27 D__law_source D__law_labels D__law_name D__law_apex D__law_words D__law_bent_name D__law_odd D__law_bent_word D__law_right (PySem.W.mg_none_of X G z_range))
end W
open PySem PySem.W PyProof.Rows in
set_option maxHeartbeats 0 in
theorem PySem.Challenge.cw_sureslips_k01_names_kinds_values_holds : PySem.Challenge.rw_sureslips_k01_names_kinds_values.Holds := by
  w_on; o_law; k_head; (case hw => w_witness2)
  k_fill
  refine Z.walk_g (l := PySem.Challenge.rw_sureslips_k01_names_kinds_values) (k := 5) (x := "_law_script") (wf := W.spec_law) rfl rfl ⟨rfl, by decide, by decide⟩ (fun w h Y => PySem.W.kIn_of Y) ?F ⟨rfl, rfl, fun _ => rfl⟩
  case F =>
    intro w mg fa h KX G hmg
    refine' W.all_mk KX G hmg ?a7 ?l7 ?c7 ?k7 ?a8 ?l8 ?c8 ?k8 ?a9 ?l9 ?c9 ?k9 ?a10 ?l10 ?c10 ?k10 ?a12 ?l12 ?c12 ?k12 ?a13 ?l13 ?c13 ?k13 ?a14 ?l14 ?c14 ?k14 ?a15 ?l15 ?c15 ?k15 ?a16 ?l16 ?c16 ?k16 ?a17 ?l17 ?c17 ?k17 ?a18 ?l18 ?c18 ?k18 ?a19 ?l19 ?c19 ?k19 ?a20 ?l20 ?c20 ?k20 ?a21 ?l21 ?c21 ?k21 ?a22 ?l22 ?c22 ?k22 ?a23 ?l23 ?c23 ?k23 ?a24 ?l24 ?c24 ?k24 ?a25 ?l25 ?c25 ?k25 ?a26 ?l26 ?c26 ?k26 ?a27 ?l27 ?c27 ?k27 ?z_all ?z_isinstance ?z_str ?z_tuple ?z_len ?z_list ?z_range ?z_int ?z_enumerate ?z_zip ?z_repr ?y_STAR ?y_LETTERS ?y_MOST_KIND ?y_CAPITALS ?y_MOST_VALUE ?y_DIGITS
    (case a7 => k_is); (case l7 => k_is); (case c7 => k_is); (case k7 => k_is); (case a8 => k_is); (case l8 => k_is); (case c8 => k_is); (case k8 => k_is); (case a9 => k_is); (case l9 => k_is); (case c9 => k_is); (case k9 => k_is); (case a10 => k_is); (case l10 => k_is); (case c10 => k_is); (case k10 => k_is); (case a12 => k_is); (case l12 => k_is); (case c12 => k_is); (case k12 => k_is); (case a13 => k_is); (case l13 => k_is); (case c13 => k_is); (case k13 => k_is); (case a14 => k_is); (case l14 => k_is); (case c14 => k_is); (case k14 => k_is); (case a15 => k_is); (case l15 => k_is); (case c15 => k_is); (case k15 => k_is); (case a16 => k_is); (case l16 => k_is); (case c16 => k_is); (case k16 => k_is); (case a17 => k_is); (case l17 => k_is); (case c17 => k_is); (case k17 => k_is); (case a18 => k_is); (case l18 => k_is); (case c18 => k_is); (case k18 => k_is); (case a19 => k_is); (case l19 => k_is); (case c19 => k_is); (case k19 => k_is); (case a20 => k_is); (case l20 => k_is); (case c20 => k_is); (case k20 => k_is); (case a21 => k_is); (case l21 => k_is); (case c21 => k_is); (case k21 => k_is); (case a22 => k_is); (case l22 => k_is); (case c22 => k_is); (case k22 => k_is); (case a23 => k_is); (case l23 => k_is); (case c23 => k_is); (case k23 => k_is); (case a24 => k_is); (case l24 => k_is); (case c24 => k_is); (case k24 => k_is); (case a25 => k_is); (case l25 => k_is); (case c25 => k_is); (case k25 => k_is); (case a26 => k_is); (case l26 => k_is); (case c26 => k_is); (case k26 => k_is); (case a27 => k_is); (case l27 => k_is); (case c27 => k_is); (case k27 => k_is); (case z_all => k_is); (case z_isinstance => k_is); (case z_str => k_is); (case z_tuple => k_is); (case z_len => k_is); (case z_list => k_is); (case z_range => k_is); (case z_int => k_is); (case z_enumerate => k_is); (case z_zip => k_is); (case z_repr => k_is); (case y_STAR => k_is); (case y_LETTERS => k_is); (case y_MOST_KIND => k_is); (case y_CAPITALS => k_is); (case y_MOST_VALUE => k_is); (case y_DIGITS => k_is)
