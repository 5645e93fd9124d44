import PyProof.Rows.All
import Wide.All
import OpenK.AllK
import Wide.FinOn
import HandS.ForMost
import HandS.TupAny
import HandS.TupMul
import HandS.Flow
import HandS.Wide
import HandS.Deep
import HandS.Exc
import HandS.Star
import HandS.Walk
import KE.KUnpackStar
import HandS.Style
import HandS.HeadEnd
import HandS.Head2
import HandS.HeadHook2
import HandS.Defaults
import PyProof.ReprLen
import PySem.Challenge.RW_anybase_k27_rows_of_pumps
import HandS.HeadHook1
set_option Elab.async false
set_option linter.all false
set_option maxRecDepth 100000
set_option maxHeartbeats 0
/-! DL: a layer over trees of data -/
namespace DL
open PySem PySem.Spec PyProof.Rows L2

/-! ### data: immutable things are trees, things that change are addresses -/
inductive D where
  | non | bl (b : Bool) | int (i : Int) | str (x : Str) | ty (n : String) | ref (a : Addr)
  | tup (ds : List D) | lst (ds : List D) | scr (ds : List D) | obj (C : Addr) (fs : List (Str × D))

/-- what stands in the store of things that change -/
inductive MO where
  | lst (ds : List D) | dct (kvs : List (Key × D)) | ins (C : Addr) (fs : List (Str × D)) | deck (c : Addr) (ks : List Key) | cell

abbrev Ev := Nat → Option D
abbrev Mm := Addr → Option MO
abbrev Fz := PySem.W.Frag
abbrev Sx := L2.St

def Ext (H H' : Hp) : Prop := ∀ a o, H a = some o → H' a = some o
theorem Ext.refl (H : Hp) : Ext H H := fun _ _ h => h
theorem Ext.trans {H H1 H2 : Hp} (a : Ext H H1) (b : Ext H1 H2) : Ext H H2 := fun x o h => b x o (a x o h)
theorem Ext.new {H : Hp} {p : Addr} {o : HO} (h : H p = none) : Ext H (upd H p o) := fun a u e => (upd_ne (ne_of_none e h)).trans e
theorem Ext.rd {H H' : Hp} {a : Addr} {u : HO} (e : Ext H H') (h : Rd H a u) : Rd H' a u := h.imp (e a _) fun ⟨o, q⟩ => ⟨o, e a _ q⟩
theorem Ext.sqL {K : Fz} {H H' : Hp} {a : Addr} {xs : List V} (e : Ext H H') (h : SqL K H a xs) : SqL K H' a xs := h.imp e.rd id
theorem Ext.sqT {K : Fz} {H H' : Hp} {a : Addr} {xs : List V} (e : Ext H H') (h : SqT K H a xs) : SqT K H' a xs := h.imp e.rd id

mutual
inductive Rp (K : Fz) (H : Hp) : V → D → Prop
  | non : Rp K H .non .non
  | bl (b : Bool) : Rp K H (.bl b) (.bl b)
  | int (i : Int) : Rp K H (.int i) (.int i)
  | str (x : Str) : Rp K H (.str x) (.str x)
  | ty (n : String) : Rp K H (.ty n) (.ty n)
  | ref (a : Addr) : Rp K H (.ref a) (.ref a)
  | tup {a : Addr} {vs : List V} {ds : List D} : SqT K H a vs → Rps K H vs ds → Rp K H (.ref a) (.tup ds)
  | lst {a : Addr} {vs : List V} {ds : List D} : H a = some (.lst vs) → Rps K H vs ds → Rp K H (.ref a) (.lst ds)
  | scr {a : Addr} {vs : List V} {ds : List D} : SqL K H a vs → Rps K H vs ds → Rp K H (.ref a) (.scr ds)
  | obj {a C dx : Addr} {gs : List (Str × V)} {fs : List (Str × D)} : H a = some (.ins C dx gs) → Rfs K H gs fs → Rp K H (.ref a) (.obj C fs)
inductive Rps (K : Fz) (H : Hp) : List V → List D → Prop
  | nil : Rps K H [] []
  | cons {v : V} {vs : List V} {d : D} {ds : List D} : Rp K H v d → Rps K H vs ds → Rps K H (v :: vs) (d :: ds)
inductive Rfs (K : Fz) (H : Hp) : List (Str × V) → List (Str × D) → Prop
  | nil : Rfs K H [] []
  | cons {f : Str} {v : V} {vs : List (Str × V)} {d : D} {ds : List (Str × D)} : Rp K H v d → Rfs K H vs ds → Rfs K H ((f, v) :: vs) ((f, d) :: ds)
end
inductive Rks (K : Fz) (H : Hp) {κ : Type} : List (κ × V) → List (κ × D) → Prop
  | nil : Rks K H [] []
  | cons {k : κ} {v : V} {vs : List (κ × V)} {d : D} {ds : List (κ × D)} : Rp K H v d → Rks K H vs ds → Rks K H ((k, v) :: vs) ((k, d) :: ds)

section
variable {K : Fz} {H H' : Hp}
mutual
theorem Rp.mono (e : Ext H H') : ∀ {v : V} {d : D}, Rp K H v d → Rp K H' v d
  | _, _, .non => .non
  | _, _, .bl b => .bl b
  | _, _, .int i => .int i
  | _, _, .str x => .str x
  | _, _, .ty n => .ty n
  | _, _, .ref a => .ref a
  | _, _, .tup h r => .tup (e.sqT h) (Rps.mono e r)
  | _, _, .lst h r => .lst (e _ _ h) (Rps.mono e r)
  | _, _, .scr h r => .scr (e.sqL h) (Rps.mono e r)
  | _, _, .obj h r => .obj (e _ _ h) (Rfs.mono e r)
theorem Rps.mono (e : Ext H H') : ∀ {v : List V} {d : List D}, Rps K H v d → Rps K H' v d
  | _, _, .nil => .nil
  | _, _, .cons h r => .cons (Rp.mono e h) (Rps.mono e r)
theorem Rfs.mono (e : Ext H H') : ∀ {v : List (Str × V)} {d : List (Str × D)}, Rfs K H v d → Rfs K H' v d
  | _, _, .nil => .nil
  | _, _, .cons h r => .cons (Rp.mono e h) (Rfs.mono e r)
end
theorem Rks.mono {κ : Type} (e : Ext H H') : ∀ {v : List (κ × V)} {d : List (κ × D)}, Rks K H v d → Rks K H' v d
  | _, _, .nil => .nil
  | _, _, .cons h r => .cons (h.mono e) (r.mono e)
theorem Rps.len : ∀ {vs : List V} {ds : List D}, Rps K H vs ds → vs.length = ds.length
  | _, _, .nil => rfl
  | _, _, .cons _ r => congrArg Nat.succ r.len
theorem Rps.app : ∀ {vs ws : List V} {ds es : List D}, Rps K H vs ds → Rps K H ws es → Rps K H (vs ++ ws) (ds ++ es)
  | _, _, _, _, .nil, s => s
  | _, _, _, _, .cons h r, s => .cons h (r.app s)
theorem Rps.take : ∀ {vs : List V} {ds : List D} (n : Nat), Rps K H vs ds → Rps K H (vs.take n) (ds.take n)
  | _, _, 0, _ => .nil
  | _, _, _ + 1, .nil => .nil
  | _, _, n + 1, .cons h r => .cons h (r.take n)
theorem Rps.drop : ∀ {vs : List V} {ds : List D} (n : Nat), Rps K H vs ds → Rps K H (vs.drop n) (ds.drop n)
  | _, _, 0, r => r
  | _, _, _ + 1, .nil => .nil
  | _, _, n + 1, .cons _ r => r.drop n
theorem Rps.get : ∀ {vs : List V} {ds : List D} {i : Nat} {d : D}, Rps K H vs ds → ds[i]? = some d → ∃ v, vs[i]? = some v ∧ Rp K H v d
  | _, _, _, _, .nil, h => by simp at h
  | _, _, 0, _, .cons h _, e => by
    simp at e
    subst e
    exact ⟨_, rfl, h⟩
  | _, _, i + 1, _, .cons _ r, e => by
    obtain ⟨v, h1, h2⟩ := r.get (i := i) (by simpa using e)
    exact ⟨v, by simpa using h1, h2⟩
theorem Rps.set {v : V} {d : D} (h : Rp K H v d) : ∀ {vs : List V} {ds : List D} (i : Nat), Rps K H vs ds → Rps K H (vs.set i v) (ds.set i d)
  | _, _, _, .nil => .nil
  | _, _, 0, .cons _ r => .cons h r
  | _, _, i + 1, .cons g r => .cons g (Rps.set h i r)
theorem Rps.rev : ∀ {vs : List V} {ds : List D}, Rps K H vs ds → Rps K H vs.reverse ds.reverse
  | _, _, .nil => .nil
  | _, _, .cons h r => by
    rw [List.reverse_cons, List.reverse_cons]
    exact r.rev.app (.cons h .nil)
theorem Rps.ofInts : ∀ {vs : List V} {ns : List Int}, Rps K H vs (ns.map D.int) → vs = ns.map V.int
  | _, [], .nil => rfl
  | _, n :: ns, .cons h r => by
    cases h
    rw [Rps.ofInts r]
    rfl
theorem Rps.ints : ∀ (ns : List Int), Rps K H (ns.map V.int) (ns.map D.int)
  | [] => .nil
  | n :: ns => .cons (.int n) (Rps.ints ns)
theorem Rps.ofBls : ∀ {vs : List V} {ns : List Bool}, Rps K H vs (ns.map D.bl) → vs = ns.map V.bl
  | _, [], .nil => rfl
  | _, n :: ns, .cons h r => by
    cases h
    rw [Rps.ofBls r]
    rfl
theorem Rps.rep : ∀ {vs : List V} {ds : List D} (n : Nat), Rps K H vs ds → Rps K H (List.replicate n vs).flatten (List.replicate n ds).flatten
  | _, _, 0, _ => .nil
  | _, _, n + 1, r => by
    rw [List.replicate_succ, List.replicate_succ, List.flatten_cons, List.flatten_cons]
    exact r.app (r.rep n)
theorem Rps.dropLast {vs : List V} {ds : List D} (r : Rps K H vs ds) : Rps K H vs.dropLast ds.dropLast := by
  rw [List.dropLast_eq_take, List.dropLast_eq_take, r.len]
  exact r.take _
end

/-! ### the store over the heap -/
def MRep (K : Fz) (Hf : Hp) (H : Hp) (a : Addr) : MO → Prop
  | .lst ds => ∃ vs, H a = some (.lst vs) ∧ Rps K Hf vs ds
  | .dct kvs => ∃ ws, H a = some (.dK ws) ∧ Rks K Hf ws kvs
  | .ins C fs => ∃ dx gs, H a = some (.ins C dx gs) ∧ H dx = some (.own a) ∧ Hf dx = none ∧ Rfs K Hf gs fs
  | .deck c ks => ∃ f : Key → Int, H a = some (.dK (((Sum.inr "cells" : Key), V.ref c) :: ks.map fun k => (k, V.int (f k))))
  | .cell => ∃ ns : List Int, ns.length ≤ 63 ∧ H a = some (.lst (ns.map V.int))
structure HM (K : Fz) (Hf : Hp) (M : Mm) (H : Hp) : Prop where
  sub : Ext Hf H
  mu : ∀ a mo, M a = some mo → Hf a = none ∧ MRep K Hf H a mo
def um (M : Mm) (a : Addr) (o : MO) : Mm := fun b => if b = a then some o else M b
theorem um_same {M : Mm} {a : Addr} {o : MO} : um M a o a = some o := if_pos rfl
theorem um_ne {M : Mm} {a b : Addr} {o : MO} (h : b ≠ a) : um M a o b = M b := if_neg h
theorem um_um {M : Mm} {a : Addr} {o u : MO} : um (um M a o) a u = um M a u := by
  funext b
  unfold um
  split <;> rfl
section
variable {K : Fz} {Hf H : Hp} {M : Mm} {a : Addr}
theorem HM.hit (h : HM K Hf M H) {mo : MO} (e : M a = some mo) : ∃ o, H a = some o := by
  have q := (h.mu a mo e).2
  cases mo with
  | lst ds => exact ⟨_, q.choose_spec.1⟩
  | dct kvs => exact ⟨_, q.choose_spec.1⟩
  | ins C fs =>
    obtain ⟨_, _, q, _⟩ := q
    exact ⟨_, q⟩
  | deck c ks => exact ⟨_, q.choose_spec⟩
  | cell => exact ⟨_, q.choose_spec.2⟩
theorem HM.none_of (h : HM K Hf M H) (e : H a = none) : M a = none := by
  cases q : M a with
  | none => rfl
  | some mo =>
    obtain ⟨o, z⟩ := h.hit q
    rw [e] at z
    cases z
theorem HM.fr_none (h : HM K Hf M H) (e : H a = none) : Hf a = none := by
  cases q : Hf a with
  | none => rfl
  | some o =>
    rw [h.sub a o q] at e
    cases e
/-- a new frozen thing -/
theorem HM.newF (h : HM K Hf M H) {p : Addr} {o : HO} (e : H p = none) : Ext Hf (upd Hf p o) ∧ HM K (upd Hf p o) M (upd H p o) := by
  have e1 : Ext Hf (upd Hf p o) := Ext.new (h.fr_none e)
  have ne : ∀ {b : Addr} {u : HO}, H b = some u → b ≠ p := fun hb z => by
    rw [z, e] at hb
    cases hb
  refine ⟨e1, fun b u hb => ?_, fun b mo hb => ?_⟩
  · by_cases z : b = p
    · rw [z, upd_same] at hb ⊢
      exact hb
    · rw [upd_ne z] at hb ⊢
      exact h.sub b u hb
  · obtain ⟨u, hu⟩ := h.hit hb
    obtain ⟨h1, h2⟩ := h.mu b mo hb
    refine ⟨(upd_ne (ne hu)).trans h1, ?_⟩
    cases mo with
    | lst ds =>
      obtain ⟨vs, q1, q2⟩ := h2
      exact ⟨vs, (upd_ne (ne q1)).trans q1, q2.mono e1⟩
    | dct kvs =>
      obtain ⟨vs, q1, q2⟩ := h2
      exact ⟨vs, (upd_ne (ne q1)).trans q1, q2.mono e1⟩
    | ins C fs =>
      obtain ⟨dx, gs, q1, q2, q3, q4⟩ := h2
      exact ⟨dx, gs, (upd_ne (ne q1)).trans q1, (upd_ne (ne q2)).trans q2, (upd_ne (ne q2)).trans q3, q4.mono e1⟩
    | deck c ks =>
      obtain ⟨kvs, q1⟩ := h2
      exact ⟨kvs, (upd_ne (ne q1)).trans q1⟩
    | cell =>
      obtain ⟨kvs, q0, q1⟩ := h2
      exact ⟨kvs, q0, (upd_ne (ne q1)).trans q1⟩
/-- what the store says of b stays where the object at a is another one now, a no part of b's -/
theorem MRep.keep {o : HO} {mo : MO} {b : Addr} {u : HO} (hne : b ≠ a) (ha : H a = some u) (hn : ∀ x, u ≠ .own x) (h2 : MRep K Hf H b mo) : MRep K Hf (upd H a o) b mo := by
  cases mo with
  | lst ds =>
    obtain ⟨vs, q1, q2⟩ := h2
    exact ⟨vs, (upd_ne hne).trans q1, q2⟩
  | dct kvs =>
    obtain ⟨vs, q1, q2⟩ := h2
    exact ⟨vs, (upd_ne hne).trans q1, q2⟩
  | ins C fs =>
    obtain ⟨dx, gs, q1, q2, q3, q4⟩ := h2
    refine ⟨dx, gs, (upd_ne hne).trans q1, (upd_ne fun z => ?_).trans q2, q3, q4⟩
    rw [z, ha] at q2
    exact hn _ (Option.some.inj q2)
  | deck c ks =>
    obtain ⟨kvs, q1⟩ := h2
    exact ⟨kvs, (upd_ne hne).trans q1⟩
  | cell =>
    obtain ⟨kvs, q0, q1⟩ := h2
    exact ⟨kvs, q0, (upd_ne hne).trans q1⟩
/-- a thing that changes is another one -/
theorem HM.write (h : HM K Hf M H) {o u : HO} {mo mo' : MO} (hm : M a = some mo) (ha : H a = some u) (hn : ∀ x, u ≠ .own x) (new : MRep K Hf (upd H a o) a mo') : HM K Hf (um M a mo') (upd H a o) := by
  have fa : Hf a = none := (h.mu a mo hm).1
  refine ⟨fun b w hb => ?_, fun b m hb => ?_⟩
  · have : b ≠ a := fun z => by
      rw [z, fa] at hb
      cases hb
    rw [upd_ne this]
    exact h.sub b w hb
  · by_cases z : b = a
    · subst z
      rw [um_same] at hb
      cases hb
      exact ⟨fa, new⟩
    · rw [um_ne z] at hb
      obtain ⟨h1, h2⟩ := h.mu b m hb
      exact ⟨h1, h2.keep z ha hn⟩
/-- a new thing that changes -/
theorem HM.newM (h : HM K Hf M H) {o : HO} {mo : MO} (e : H a = none) (new : MRep K Hf (upd H a o) a mo) : HM K Hf (um M a mo) (upd H a o) := by
  have fa : Hf a = none := h.fr_none e
  have ne : ∀ {b : Addr} {u : HO}, H b = some u → b ≠ a := fun hb z => by
    rw [z, e] at hb
    cases hb
  refine ⟨fun b w hb => ?_, fun b m hb => ?_⟩
  · rw [upd_ne (ne (h.sub b w hb))]
    exact h.sub b w hb
  · by_cases z : b = a
    · subst z
      rw [um_same] at hb
      cases hb
      exact ⟨fa, new⟩
    · rw [um_ne z] at hb
      obtain ⟨h1, h2⟩ := h.mu b m hb
      refine ⟨h1, ?_⟩
      cases m with
      | lst ds =>
        obtain ⟨vs, q1, q2⟩ := h2
        exact ⟨vs, (upd_ne z).trans q1, q2⟩
      | dct kvs =>
        obtain ⟨vs, q1, q2⟩ := h2
        exact ⟨vs, (upd_ne z).trans q1, q2⟩
      | ins C fs =>
        obtain ⟨dx, gs, q1, q2, q3, q4⟩ := h2
        exact ⟨dx, gs, (upd_ne z).trans q1, (upd_ne (ne q2)).trans q2, q3, q4⟩
      | deck c ks =>
        obtain ⟨kvs, q1⟩ := h2
        exact ⟨kvs, (upd_ne z).trans q1⟩
      | cell =>
        obtain ⟨kvs, q0, q1⟩ := h2
        exact ⟨kvs, q0, (upd_ne z).trans q1⟩
/-- a thing that does not change any more is forgotten by the store, or frozen -/
def dm (M : Mm) (a : Addr) : Mm := fun b => if b = a then none else M b
theorem dm_ne {b : Addr} (h : b ≠ a) : dm M a b = M b := if_neg h
theorem dm_same : dm M a a = none := if_pos rfl
theorem HM.freeze (h : HM K Hf M H) {o : HO} {mo : MO} (hm : M a = some mo) (ha : H a = some o) (hn : ∀ x, o ≠ .own x) : Ext Hf (upd Hf a o) ∧ HM K (upd Hf a o) (dm M a) H := by
  have fa : Hf a = none := (h.mu a mo hm).1
  have e1 : Ext Hf (upd Hf a o) := Ext.new fa
  refine ⟨e1, fun b w hb => ?_, fun b m hb => ?_⟩
  · by_cases z : b = a
    · rw [z, upd_same] at hb
      rw [z, ha]
      exact hb
    · rw [upd_ne z] at hb
      exact h.sub b w hb
  · have z : b ≠ a := fun z => by
      rw [z, dm_same] at hb
      cases hb
    rw [dm_ne z] at hb
    obtain ⟨h1, h2⟩ := h.mu b m hb
    refine ⟨(upd_ne z).trans h1, ?_⟩
    cases m with
    | lst ds =>
      obtain ⟨vs, q1, q2⟩ := h2
      exact ⟨vs, q1, q2.mono e1⟩
    | dct kvs =>
      obtain ⟨vs, q1, q2⟩ := h2
      exact ⟨vs, q1, q2.mono e1⟩
    | ins C fs =>
      obtain ⟨dx, gs, q1, q2, q3, q4⟩ := h2
      refine ⟨dx, gs, q1, q2, (upd_ne fun y => ?_).trans q3, q4.mono e1⟩
      rw [y, ha] at q2
      exact hn _ (Option.some.inj q2)
    | deck c ks => exact h2
    | cell => exact h2
end

/-! ### slots -/
def gt (ρ : Ev) (i : Nat) : Option D := ρ i
def st (ρ : Ev) (i : Nat) (d : Option D) : Ev := fun j => bif Nat.beq j i then d else ρ j
structure SR (K : Fz) (ρ : Ev) (M : Mm) (Hf : Hp) (σ : Sx) (H : Hp) : Prop where
  hm : HM K Hf M H
  env : ∀ i d, i < σ.length → gt ρ i = some d → ∃ v, σ[i]? = some (some v) ∧ Rp K Hf v d
theorem gt_same (ρ : Ev) (i : Nat) (d : Option D) : gt (st ρ i d) i = d := by
  show (bif Nat.beq i i then d else ρ i) = d
  rw [Nat.beq_refl]
  rfl
theorem gt_ne (ρ : Ev) (i j : Nat) (d : Option D) (h : i ≠ j) : gt (st ρ i d) j = gt ρ j := by
  show (bif Nat.beq j i then d else ρ j) = ρ j
  have : Nat.beq j i = false := by
    cases q : Nat.beq j i with
    | false => rfl
    | true => exact absurd (Nat.eq_of_beq_eq_true q).symm h
  rw [this]
  rfl
section
variable {K : Fz} {ρ : Ev} {M M' : Mm} {Hf Hf' : Hp} {σ : Sx} {H H' : Hp}
theorem SR.go (s : SR K ρ M Hf σ H) (e : Ext Hf Hf') (h : HM K Hf' M' H') : SR K ρ M' Hf' σ H' :=
  ⟨h, fun i d l q => let ⟨v, h1, h2⟩ := s.env i d l q; ⟨v, h1, h2.mono e⟩⟩
theorem SR.set (s : SR K ρ M Hf σ H) {i : Nat} {v : V} {d : D} (h : Rp K Hf v d) : SR K (st ρ i (some d)) M Hf (σ.set i (some v)) H := by
  refine ⟨s.hm, fun j d' l q => ?_⟩
  rw [List.length_set] at l
  by_cases z : i = j
  · subst z
    rw [gt_same] at q
    cases q
    exact ⟨v, by rw [List.getElem?_set_self l], h⟩
  · rw [gt_ne _ _ _ _ z] at q
    obtain ⟨v', h1, h2⟩ := s.env j d' l q
    exact ⟨v', by rw [List.getElem?_set_ne z]; exact h1, h2⟩
end
/-- what is known of slots -/
def ev (ρ : Ev) : List (Nat × D) → Ev
  | [] => ρ
  | p :: r => fun j => bif Nat.beq j p.1 then some p.2 else ev ρ r j
def Has (ρ : Ev) : List (Nat × D) → Prop
  | [] => True
  | p :: r => ρ p.1 = some p.2 ∧ Has ρ r
theorem Has.ev {ρ : Ev} : ∀ {l : List (Nat × D)}, Has ρ l → ρ = ev ρ l
  | [], _ => rfl
  | p :: r, h => by
    funext j
    show ρ j = bif Nat.beq j p.1 then some p.2 else DL.ev ρ r j
    cases q : Nat.beq j p.1 with
    | true =>
      rw [Nat.eq_of_beq_eq_true q]
      exact h.1
    | false => exact congrFun h.2.ev j
theorem Has.know {ρ : Ev} {l : List (Nat × D)} (h : Has ρ l) : ∃ ρ', ρ = DL.ev ρ' l := ⟨ρ, h.ev⟩

/-! ### wants -/
abbrev XP := Addr → List (Str × D) → Mm → Prop
abbrev DP := D → Mm → Prop
abbrev DE := Ev → Mm → DP → XP → Prop
abbrev DT := Ev → Mm → (Bool → Mm → Prop) → XP → Prop
abbrev DA := Ev → Mm → (List D → Mm → Prop) → XP → Prop
structure DEnds where
  nx : Ev → Mm → Prop
  rt : DP
  bk : Ev → Mm → Prop
  ct : Ev → Mm → Prop
  ex : Ev → XP
abbrev DS := DEnds → Ev → Mm → Prop
/-- an exception of a class at C with its own fields, as it lies -/
def XR (K : Fz) (Hf : Hp) (fs : List (Str × D)) : Option Addr → Prop
  | none => fs = []
  | some dd => ∃ gs, Hf dd = some (.xd gs) ∧ Rfs K Hf gs fs
def FinE (K : Fz) (Hf : Hp) (P : DP) (Q : VK) : Prop := ∀ x M' v Hf' H', P x M' → Ext Hf Hf' → HM K Hf' M' H' → Rp K Hf' v x → Q v H'
def FinX (K : Fz) (Hf : Hp) (σ : Sx) (PX : XP) (W : Value → Option Addr → Sx → Hp → Prop) : Prop := ∀ C fs M' dd Hf' H', PX C fs M' → Ext Hf Hf' → HM K Hf' M' H' → XR K Hf' fs dd → W (.ref C) dd σ H'
abbrev WX' := Value → Option Addr → Sx → Hp → Prop
def liE (K : Fz) (W : WX') (d : DE) : TE := fun σ H Q => ∃ ρ M Hf P PX, SR K ρ M Hf σ H ∧ d ρ M P PX ∧ FinE K Hf P Q ∧ FinX K Hf σ PX W
def liT (K : Fz) (W : WX') (d : DT) : TT := fun σ H Q => ∃ ρ M Hf P PX, SR K ρ M Hf σ H ∧ d ρ M P PX ∧ (∀ x M' Hf' H', P x M' → Ext Hf Hf' → HM K Hf' M' H' → Q x H') ∧ FinX K Hf σ PX W
def liA (K : Fz) (W : WX') (d : DA) : TA := fun σ H Q => ∃ ρ M Hf P PX, SR K ρ M Hf σ H ∧ d ρ M P PX ∧ (∀ x M' v Hf' H', P x M' → Ext Hf Hf' → HM K Hf' M' H' → Rps K Hf' v x → Q v H') ∧ FinX K Hf σ PX W
def FinS (K : Fz) (Hf : Hp) (P : Ev → Mm → Prop) (Q : Sx → Hp → Prop) : Prop := ∀ ρ' M' σ' Hf' H', P ρ' M' → Ext Hf Hf' → SR K ρ' M' Hf' σ' H' → Q σ' H'
structure FinD (K : Fz) (Hf : Hp) (W : WX') (DD : DEnds) (De : Ends) : Prop where
  nx : FinS K Hf DD.nx De.nx
  rt : FinE K Hf DD.rt De.rt
  bk : FinS K Hf DD.bk De.bk
  ct : FinS K Hf DD.ct De.ct
  ex : ∀ ρ C fs M' dd σ' Hf' H', DD.ex ρ C fs M' → Ext Hf Hf' → SR K ρ M' Hf' σ' H' → XR K Hf' fs dd → W (.ref C) dd σ' H'
def liS (K : Fz) (W : WX') (d : DS) : TS := fun De σ H => ∃ ρ M Hf DD, SR K ρ M Hf σ H ∧ d DD ρ M ∧ FinD K Hf W DD De
section
variable {K : Fz} {Hf Hf' : Hp} {W : WX'}
theorem FinE.go {P : DP} {Q : VK} (f : FinE K Hf P Q) (e : Ext Hf Hf') : FinE K Hf' P Q := fun x M' v Hf2 H' h1 h2 => f x M' v Hf2 H' h1 (e.trans h2)
theorem FinX.go {σ : Sx} {PX : XP} (f : FinX K Hf σ PX W) (e : Ext Hf Hf') : FinX K Hf' σ PX W := fun C fs M' dd Hf2 H' h1 h2 => f C fs M' dd Hf2 H' h1 (e.trans h2)
theorem FinS.go {P : Ev → Mm → Prop} {Q : Sx → Hp → Prop} (f : FinS K Hf P Q) (e : Ext Hf Hf') : FinS K Hf' P Q := fun ρ M' σ' Hf2 H' h1 h2 => f ρ M' σ' Hf2 H' h1 (e.trans h2)
theorem FinD.go {DD : DEnds} {De : Ends} (f : FinD K Hf W DD De) (e : Ext Hf Hf') : FinD K Hf' W DD De :=
  ⟨f.nx.go e, f.rt.go e, f.bk.go e, f.ct.go e, fun ρ C fs M' dd σ' Hf2 H' h1 h2 => f.ex ρ C fs M' dd σ' Hf2 H' h1 (e.trans h2)⟩
theorem FinD.x {DD : DEnds} {De : Ends} (f : FinD K Hf W DD De) {ρ : Ev} {M : Mm} {σ : Sx} {H : Hp} (s : SR K ρ M Hf σ H) : FinX K Hf σ (DD.ex ρ) W :=
  fun C fs M' dd Hf' H' h1 h2 h3 h4 => f.ex ρ C fs M' dd σ Hf' H' h1 h2 (s.go h2 h3) h4
end
theorem pe_weak {X : Cx} {e : Expr} {t t' : TE} (h : PE X e t) (w : ∀ σ H Q, t' σ H Q → t σ H Q) : PE X e t' := ⟨fun pins s σ H Q I q => h.run pins s σ H Q I (w σ H Q q)⟩
theorem pt_weak {X : Cx} {e : Expr} {t t' : TT} (h : PT X e t) (w : ∀ σ H Q, t' σ H Q → t σ H Q) : PT X e t' := ⟨fun pins s σ H Q I q => h.run pins s σ H Q I (w σ H Q q)⟩
theorem pw_weak {X : Cx} {e : Expr} {t t' : TT} (h : PW X e t) (w : ∀ σ H Q, t' σ H Q → t σ H Q) : PW X e t' := ⟨fun wh pins s σ H Q I q => h.run wh pins s σ H Q I (w σ H Q q)⟩
theorem pa_weak {X : Cx} {es : List Expr} {t t' : TA} (h : PA X es t) (w : ∀ σ H Q, t' σ H Q → t σ H Q) : PA X es t' := ⟨fun pos pins s σ H Q I q => h.run pos pins s σ H Q I (w σ H Q q)⟩
theorem ps_weak {X : Cx} {e : Stmt} {t t' : TS} (h : PS X e t) (w : ∀ D σ H, t' D σ H → t D σ H) : PS X e t' := ⟨fun pins s σ H Q I q => h.run pins s σ H Q I (w Q σ H q)⟩
theorem pss_weak {X : Cx} {e : List Stmt} {t t' : TS} (h : PSs X e t) (w : ∀ D σ H, t' D σ H → t D σ H) : PSs X e t' := ⟨fun pins s σ H Q I q => h.run pins s σ H Q I (w Q σ H q)⟩
abbrev EJ (X : Cx) (W : WX') (e : Expr) (d : DE) : Prop := PE X e (liE X.K W d)
abbrev TJ (X : Cx) (W : WX') (e : Expr) (d : DT) : Prop := PT X e (liT X.K W d)
abbrev WJ (X : Cx) (W : WX') (e : Expr) (d : DT) : Prop := PW X e (liT X.K W d)
abbrev AJ (X : Cx) (W : WX') (e : List Expr) (d : DA) : Prop := PA X e (liA X.K W d)
abbrev SJ (X : Cx) (W : WX') (e : Stmt) (d : DS) : Prop := PS X e (liS X.K W d)
abbrev BJ (X : Cx) (W : WX') (e : List Stmt) (d : DS) : Prop := PSs X e (liS X.K W d)
end DL

/-! DL: expressions -/
namespace DL
open PySem PySem.Spec PyProof.Rows L2

/-! ### names, constants -/
def dVar (i : Nat) : DE := fun ρ M P _ => match gt ρ i with
  | some d => P d M
  | none => False
def dC (d : D) : DE := fun _ M P _ => P d M
/-- a list that is not changed any more -/
def dVarF (i : Nat) : DE := fun ρ M P _ => match gt ρ i with
  | some (.ref a) => (match M a with
    | some (.lst ds) => P (.lst ds) (dm M a)
    | _ => False)
  | _ => False
section
variable {X : Cx} {W : WX'} {pos : Pos}
theorem ej_var (i : Nat) {x : Str} (hN : X.N[i]? = some x := by rfl) (hv : Vis X.env.scope x := by first | exact Or.inl rfl | exact Or.inr (Or.inl rfl) | exact Or.inr (Or.inr rfl)) (hd : (x == ("__debug__" : Str)) = false := by decide)
    (hcd : (x == ("__classdict__" : Str)) = false := by decide) : EJ X W (.Name x pos) (dVar i) := by
  refine ⟨fun pins s0 σ H Q I ⟨ρ, M, Hf, P, PX, s, d, fe, fx⟩ => (pe_var hN hv hd hcd).run pins s0 σ H Q I ?_⟩
  have hl : i < σ.length := by
    rw [I.len]
    exact (List.getElem?_eq_some_iff.mp hN).1
  unfold dVar at d
  split at d
  · rename_i y e
    obtain ⟨v, h1, h2⟩ := s.env i y hl e
    exact ⟨v, h1, fe y M v Hf H d (Ext.refl _) s.hm h2⟩
  · exact d.elim
theorem ej_varF (i : Nat) {x : Str} (hN : X.N[i]? = some x := by rfl) (hv : Vis X.env.scope x := by first | exact Or.inl rfl | exact Or.inr (Or.inl rfl) | exact Or.inr (Or.inr rfl)) (hd : (x == ("__debug__" : Str)) = false := by decide)
    (hcd : (x == ("__classdict__" : Str)) = false := by decide) : EJ X W (.Name x pos) (dVarF i) := by
  refine ⟨fun pins s0 σ H Q I ⟨ρ, M, Hf, P, PX, s, d, fe, fx⟩ => (pe_var hN hv hd hcd).run pins s0 σ H Q I ?_⟩
  have hl : i < σ.length := by
    rw [I.len]
    exact (List.getElem?_eq_some_iff.mp hN).1
  unfold dVarF at d
  split at d
  · rename_i a e
    split at d
    · rename_i ds em
      obtain ⟨v, h1, h2⟩ := s.env i _ hl e
      cases h2
      obtain ⟨_, vs, q1, q2⟩ := s.hm.mu a _ em
      obtain ⟨e1, m1⟩ := s.hm.freeze em q1 (fun x z => by cases z)
      exact ⟨_, h1, fe _ _ _ _ H d e1 m1 (.lst upd_same (q2.mono e1))⟩
    · exact d.elim
  · exact d.elim
/-- a constant -/
theorem ej_c {e : Expr} {v : V} {y : D} (h : PE X e (tC v)) (r : ∀ K H, Rp K H v y) : EJ X W e (dC y) := pe_weak h fun σ H Q ⟨ρ, M, Hf, P, PX, s, d, fe, fx⟩ => fe y M v Hf H d (Ext.refl _) s.hm (r _ _)
theorem ej_int {i j} : EJ X W (.Constant (.int i) j pos) (dC (.int i)) := ej_c pe_int fun _ _ => .int i
theorem ej_bl {b j} : EJ X W (.Constant (.bool b) j pos) (dC (.bl b)) := ej_c pe_bl fun _ _ => .bl b
theorem ej_non {j} : EJ X W (.Constant .none j pos) (dC .non) := ej_c pe_non fun _ _ => .non
theorem ej_str {x j} : EJ X W (.Constant (.str x) j pos) (dC (.str x)) := ej_c pe_str fun _ _ => .str x
theorem ej_globI {x : Str} {i : Int} {t : Tok} (hg : Gl X x) (hm : X.mg x = some (.int i t)) (hd : (x == ("__debug__" : Str)) = false := by decide) : EJ X W (.Name x pos) (dC (.int i)) := ej_c (pe_glob hg hm (v := .int i) ⟨_, rfl⟩ hd) fun _ _ => .int i
theorem ej_globS {x : Str} {i : Str} {t : Tok} (hg : Gl X x) (hm : X.mg x = some (.str i t)) (hd : (x == ("__debug__" : Str)) = false := by decide) : EJ X W (.Name x pos) (dC (.str i)) := ej_c (pe_glob hg hm (v := .str i) ⟨_, rfl⟩ hd) fun _ _ => .str i
theorem ej_globR {x : Str} {a : Addr} (hg : Gl X x) (hm : X.mg x = some (.ref a)) (hd : (x == ("__debug__" : Str)) = false := by decide) : EJ X W (.Name x pos) (dC (.ref a)) := ej_c (pe_glob hg hm (v := .ref a) rfl hd) fun _ _ => .ref a
end

/-! ### operators by values -/
abbrev RD2 := D → D → Mm → DP → Prop
def R2J (K : Fz) (r : R2) (rD : RD2) : Prop := ∀ {x y : D} {v u : V} {M : Mm} {Hf H : Hp} {P : DP} {Q : VK}, HM K Hf M H → Rp K Hf v x → Rp K Hf u y → rD x y M P → FinE K Hf P Q → r v u H Q
def dOp (r : RD2) (da db : DE) : DE := fun ρ M P PX => da ρ M (fun x M1 => db ρ M1 (fun y M2 => r x y M2 P) PX) PX
theorem opj {K : Fz} {W : WX'} {r : R2} {rD : RD2} {da db : DE} (j : R2J K r rD) : ∀ σ H Q, liE K W (dOp rD da db) σ H Q → tOp r (liE K W da) (liE K W db) σ H Q := fun σ H Q ⟨ρ, M, Hf, P, PX, s, d, fe, fx⟩ =>
  ⟨ρ, M, Hf, _, PX, s, d, fun x M1 v Hf1 H1 d1 e1 m1 r1 => ⟨ρ, M1, Hf1, _, PX, s.go e1 m1, d1, fun y M2 u Hf2 H2 d2 e2 m2 r2 => j m2 (r1.mono e2) r2 d2 (fe.go (e1.trans e2)), fx.go e1⟩, fx⟩
section
variable {X : Cx} {W : WX'} {pos : Pos} {a b : Expr} {da db : DE} {r : R2} {rD : RD2}
theorem ej_op {op : Operator} (ho : OpR X (binaryOp op) r) (j : R2J X.K r rD) (ha : EJ X W a da) (hb : EJ X W b db) : EJ X W (.BinOp a op b pos) (dOp rD da db) := pe_weak (pe_op ho ha hb) (opj j)
theorem ej_cmp {op : CmpOp} (ho : OpR X (compareOp op) r) (j : R2J X.K r rD) (ha : EJ X W a da) (hb : EJ X W b db) (hm : behindInMarks op b = false := by first | exact nobehind _ (by decide) (by decide) | rfl) : EJ X W (.Compare a [op] [b] pos) (dOp rD da db) := pe_weak (pe_cmpR ho ha hb hm) (opj j)
end
/-- one rule or another -/
theorem OpR.or {X : Cx} {f : Value → Value → Sem Value} {r r' : R2} (h : OpR X f r) (h' : OpR X f r') : OpR X f (fun x y H Q => r x y H Q ∨ r' x y H Q) := fun pins s σ H x y v u Q I r1 r2 q =>
  q.elim (h pins s σ H x y v u Q I r1 r2) (h' pins s σ H x y v u Q I r1 r2)

/-! ### ints -/
def rI2 (C : Int → Int → Prop) (g : Int → Int → D) : RD2 := fun x y M P => match x, y with
  | .int i, .int j => C i j ∧ P (g i j) M
  | _, _ => False
theorem rj_i {K : Fz} {C : Int → Int → Prop} {g : Int → Int → V} {g' : Int → Int → D} (h : ∀ H i j, Rp K H (g i j) (g' i j)) : R2J K (rI C g) (rI2 C g') := fun {x y v u M Hf H P Q} m r1 r2 d f => by
  unfold rI2 at d
  split at d
  · cases r1
    cases r2
    exact ⟨_, _, rfl, rfl, d.1, f _ _ _ _ _ d.2 (Ext.refl _) m (h _ _ _)⟩
  · exact d.elim
def rI0' (g : Int → Int → D) : RD2 := fun x y M P => match x, y with
  | .int i, .int j => P (g i j) M
  | _, _ => False
theorem rj_i0 {K : Fz} {g : Int → Int → V} {g' : Int → Int → D} (h : ∀ H i j, Rp K H (g i j) (g' i j)) : R2J K (rI0 g) (rI0' g') := fun {x y v u M Hf H P Q} m r1 r2 d f => by
  unfold rI0' at d
  split at d
  · cases r1
    cases r2
    exact ⟨_, _, rfl, rfl, f _ _ _ _ _ d (Ext.refl _) m (h _ _ _)⟩
  · exact d.elim
/-- a list's items, whether it may change or not -/
def asLs (M : Mm) : D → Option (List D)
  | .lst ds => some ds
  | .ref a => (match M a with
    | some (.lst ds) => some ds
    | _ => none)
  | _ => none
def asL (M : Mm) : D → Option (List D)
  | .scr ds => some ds
  | x => asLs M x
theorem asLs_ok {K : Fz} {M : Mm} {Hf H : Hp} {x : D} {v : V} {ds : List D} (m : HM K Hf M H) (r : Rp K Hf v x) (h : asLs M x = some ds) : ∃ a vs, v = .ref a ∧ H a = some (.lst vs) ∧ Rps K Hf vs ds := by
  unfold asLs at h
  split at h
  · cases h
    cases r with
    | lst h1 h2 => exact ⟨_, _, rfl, m.sub _ _ h1, h2⟩
  · split at h
    · rename_i e
      cases h
      cases r
      obtain ⟨_, vs, q1, q2⟩ := m.mu _ _ e
      exact ⟨_, vs, rfl, q1, q2⟩
    · cases h
  · cases h
theorem asL_ok {K : Fz} {M : Mm} {Hf H : Hp} {x : D} {v : V} {ds : List D} (m : HM K Hf M H) (r : Rp K Hf v x) (h : asL M x = some ds) : ∃ a vs, v = .ref a ∧ SqL K H a vs ∧ Rps K Hf vs ds := by
  unfold asL at h
  split at h
  · cases h
    cases r with
    | scr h1 h2 => exact ⟨_, _, rfl, m.sub.sqL h1, h2⟩
  · obtain ⟨a, vs, h1, h2, h3⟩ := asLs_ok m r h
    exact ⟨a, vs, h1, SqL.of h2, h3⟩
theorem tup_ok {K : Fz} {M : Mm} {Hf H : Hp} {v : V} {ds : List D} (m : HM K Hf M H) (r : Rp K Hf v (.tup ds)) : ∃ a vs, v = .ref a ∧ SqT K H a vs ∧ Rps K Hf vs ds := by
  cases r with
  | tup h1 h2 => exact ⟨_, _, rfl, m.sub.sqT h1, h2⟩
/-- a new thing that stays as it is: what follows -/
theorem FinE.newF {K : Fz} {M : Mm} {Hf H : Hp} {P : DP} {Q : VK} {x : D} {p : Addr} {o : HO} (f : FinE K Hf P Q) (m : HM K Hf M H) (d : P x M) (hp : H p = none) (r : ∀ H', H' p = some o → Ext Hf H' → Rp K H' (.ref p) x) : Q (.ref p) (upd H p o) :=
  let ⟨e1, m1⟩ := m.newF (o := o) hp
  f x M _ _ _ d e1 m1 (r _ upd_same e1)
/-- a + b -/
def rAdd : RD2 := fun x y M P => match x, y with
  | .int i, .int j => P (.int (i + j)) M
  | .str a, .str b => a.length + b.length ≤ sizeLine ∧ P (.str (a ++ b)) M
  | .tup a, .tup b => a.length + b.length ≤ sizeLine ∧ P (.tup (a ++ b)) M
  | x, y => (match asLs M x, asLs M y with
    | some a, some b => a.length + b.length ≤ sizeLine ∧ P (.lst (a ++ b)) M
    | _, _ => False)
theorem Rps.nil_iff {K : Fz} {H : Hp} {vs : List V} {ds : List D} (r : Rps K H vs ds) : vs = [] ↔ ds = [] := by
  cases r <;> simp
theorem op_addJ {X : Cx} : ∃ r, OpR X (binaryOp .Add) r ∧ R2J X.K r rAdd := by
  refine ⟨_, OpR.or op_add (OpR.or op_add_str (OpR.or op_catA op_cat)), fun {x y v u M Hf H P Q} m r1 r2 d f => ?_⟩
  unfold rAdd at d
  split at d
  · cases r1
    cases r2
    exact .inl ⟨_, _, rfl, rfl, f _ _ _ _ _ d (Ext.refl _) m (.int _)⟩
  · cases r1
    cases r2
    exact .inr (.inl ⟨_, _, rfl, rfl, d.1, f _ _ _ _ _ d.2 (Ext.refl _) m (.str _)⟩)
  · obtain ⟨a, vs, rfl, ha, ra⟩ := tup_ok m r1
    obtain ⟨b, ws, rfl, hb, rb⟩ := tup_ok m r2
    refine .inr (.inr (.inl ⟨a, b, vs, ws, rfl, rfl, ha, hb, by rw [ra.len, rb.len]; exact d.1, fun z => ?_, fun z z' => ?_, fun z z' p hp => ?_⟩))
    · have := ra.nil_iff.mp z
      subst this
      exact f _ _ _ _ _ d.2 (Ext.refl _) m r2
    · have := rb.nil_iff.mp z'
      subst this
      rw [List.append_nil] at d
      exact f _ _ _ _ _ d.2 (Ext.refl _) m r1
    · exact f.newF m d.2 hp fun H' h e => .tup (SqT.of h) ((ra.mono e).app (rb.mono e))
  · split at d
    · rename_i e1 e2
      obtain ⟨a, vs, rfl, ha, ra⟩ := asLs_ok m r1 e1
      obtain ⟨b, ws, rfl, hb, rb⟩ := asLs_ok m r2 e2
      exact .inr (.inr (.inr ⟨a, b, vs, ws, rfl, rfl, ha, hb, by rw [ra.len, rb.len]; exact d.1, fun p hp => f.newF m d.2 hp fun H' h e => .lst h ((ra.mono e).app (rb.mono e))⟩))
    · exact d.elim
end DL

/-! DL: tuple * int of any size; ints; comparisons -/
namespace DL
open PySem PySem.Spec PyProof.Rows L2
theorem tmul_same (l : Addr) (items : Array Value) (n : Nat) (dd : Option Addr) (sl : Array (Option Value)) (x : Int) (u : Tok) (c0 : (decide (x < -(2 ^ 63)) || decide (x ≥ 2 ^ 63)) = false) (c1 : (items.isEmpty || x == 1) = true) :
    Meets (Builtin.«tuple.__mul__» ⟨[.ref l, .int x u], []⟩) (fun _ R s => s.heap.get? l = some { cls := .type "tuple", dict := dd, data := .seq items n, slots := sl } ∧ R (.ok (.ret (Value.ref l))) s) :=
  .of_wp fun prog w A R s h => by
    obtain ⟨hp, g, d, tk, os⟩ := s
    obtain ⟨hl, h⟩ := h
    have f1 := AutoSeq1.idx_int
    wp_walk using wpAny_loadPart' hl
    repeat (first
      | (refine wpAny_ite_false (decide_eq_false (by rw [c0]; exact Bool.false_ne_true)) ?_; wp_walk using wpAny_loadPart' hl)
      | (refine wpAny_ite_true (decide_eq_true (by rw [c1])) ?_; wp_walk using wpAny_loadPart' hl))
    exact ⟨_, rfl, h⟩
theorem tmul_zero (l : Addr) (items : Array Value) (n : Nat) (dd : Option Addr) (sl : Array (Option Value)) (x : Int) (u : Tok) (c0 : (decide (x < -(2 ^ 63)) || decide (x ≥ 2 ^ 63)) = false) (c1 : (items.isEmpty || x == 1) = false) (c2 : (decide (x ≤ 0) || items.isEmpty) = true) :
    Meets (Builtin.«tuple.__mul__» ⟨[.ref l, .int x u], []⟩) (fun _ R s => s.heap.get? l = some { cls := .type "tuple", dict := dd, data := .seq items n, slots := sl } ∧
      R (.ok (.ret (Value.ref s.heap.objs.size))) { s with heap := s.heap.push { cls := Value.type "tuple", data := Data.seq #[] }, toks := s.toks }) :=
  .of_wp fun prog w A R s h => by
    obtain ⟨hp, g, d, tk, os⟩ := s
    obtain ⟨hl, h⟩ := h
    have f1 := AutoSeq1.idx_int
    wp_walk using wpAny_loadPart' hl
    repeat (first
      | (refine wpAny_ite_false (decide_eq_false (by rw [c0]; exact Bool.false_ne_true)) ?_; wp_walk using wpAny_loadPart' hl)
      | (refine wpAny_ite_false (decide_eq_false (by rw [c1]; exact Bool.false_ne_true)) ?_; wp_walk using wpAny_loadPart' hl)
      | (refine wpAny_ite_true (decide_eq_true (by rw [c2])) ?_; wp_walk using wpAny_loadPart' hl))
    exact ⟨_, rfl, h⟩
def rMulT (K : Fz) : R2 := fun x y H Q => ∃ l k xs, x = .ref l ∧ y = .int k ∧ SqT K H l xs ∧ xs.length ≤ 1000000 ∧ k ≤ 1000000 ∧ -1000000 ≤ k ∧ xs.length * k.toNat ≤ sizeLine ∧
  ((xs = [] ∨ k = 1) → Q (.ref l) H) ∧ (xs ≠ [] → k ≠ 1 → ∀ p, H p = none → Q (.ref p) (upd H p (.tup (List.replicate k.toNat xs).flatten)))
theorem op_mulT {X : Cx} : OpR X (binaryOp .Mult) (rMulT X.K) := by
  intro pins s σ H x y v u Q I rx ry h
  obtain ⟨l, k, xs, rfl, rfl, hT, hl, h1, h2, hz, q1, q2⟩ := h
  cases rx
  obtain ⟨t, rfl⟩ := ry
  obtain ⟨its, r, ⟨⟨cls, dd, data, sl⟩, ho, hc, n, hd⟩, hs⟩ := I.tuple hT
  simp only at hc hd
  subst hc hd
  have hle : its.length = xs.length := r.length.symm
  have hemp : its.toArray.isEmpty = xs.isEmpty := by
    cases r <;> simp
  have c0 : (decide (k < -(2 ^ 63)) || decide (k ≥ 2 ^ 63)) = false := by
    rw [decide_eq_false (by omega), decide_eq_false (by omega)] <;> rfl
  refine wpAny_binaryOp_repeat_ref (T := "tuple") (U := "int") (by decide) ⟨_, ho, rfl⟩ (fun s' => typeIs_int s' k t) noFill_tuple_mul F.fills_int_mul F.slot_int_rmul repeat_tuple F.slot_int_index.lookup
    (call_meets F.slot_int_rmul (typeIs_int s k t) F.entry_int_rmul (F.args_int_rmul_2 _ _) (int_rmul_tuple k t l its.toArray n dd sl) ⟨ho, rfl, ⟨_, ho, rfl⟩, ?_⟩)
  by_cases hw : xs = [] ∨ k = 1
  · have c1 : (its.toArray.isEmpty || k == 1) = true := by
      rw [hemp]
      rcases hw with z | z
      · rw [z]
        rfl
      · rw [z]
        simp
    exact call_meets F.slot_tuple_mul ⟨_, ho, rfl⟩ F.entry_tuple_mul (F.args_tuple_mul_2 _ _) (tmul_same l its.toArray n dd sl k t c0 c1) ⟨ho, .ref l, H, I, rfl, q1 hw⟩
  · have hne : xs ≠ [] := fun z => hw (.inl z)
    have hk1 : k ≠ 1 := fun z => hw (.inr z)
    have he : xs.isEmpty = false := by
      cases xs with
      | nil => exact absurd rfl hne
      | cons _ _ => rfl
    have c1 : (its.toArray.isEmpty || k == 1) = false := by
      rw [hemp, he, Bool.false_or]
      exact beq_eq_false_iff_ne.mpr hk1
    by_cases hk : k ≤ 0
    · have c2 : (decide (k ≤ 0) || its.toArray.isEmpty) = true := by
        rw [decide_eq_true hk]
        rfl
      have hn : k.toNat = 0 := by omega
      have q3 := q2 hne hk1
      rw [hn] at q3
      refine call_meets F.slot_tuple_mul ⟨_, ho, rfl⟩ F.entry_tuple_mul (F.args_tuple_mul_2 _ _) (tmul_zero l its.toArray n dd sl k t c0 c1 c2) ⟨ho, ?_⟩
      refine ⟨.ref s.heap.objs.size, _, I.laid (t' := s.toks) (o := .tup []) (fun b ob q => Heap.get?_push_of_some _ q) (Nat.le_refl _) ?_, rfl, q3 _ (I.hok.fresh (Nat.le_refl _))⟩
      exact ⟨Nat.zero_le _, [], .nil, IsTup.new _ _⟩
    · have hsz0 : its.toArray.size = xs.length := by rw [List.size_toArray, hle]
      have hk0 : ((k.toNat : Nat) : Int) = k := Int.toNat_of_nonneg (by omega)
      have hm : ((its.toArray.size : Nat) : Int) * k ≤ (sizeLine : Int) := by
        rw [hsz0, ← hk0, ← Int.natCast_mul]
        exact Int.ofNat_le.mpr hz
      have hsl := sizeLine_eq
      have flen : (List.replicate k.toNat its).flatten.length ≤ sizeLine := by
        rw [PyProof.Rows.lm_len_rep_flat, hle, Nat.mul_comm]
        exact hz
      have c2 : (decide (k ≤ 0) || its.toArray.isEmpty) = false := by
        rw [hemp, he, Bool.or_false]
        exact decide_eq_false hk
      have c4 : Builtin.Tuple.tupleTooMany (((its.toArray.size : Nat) : Int) * k) = false := by
        unfold Builtin.Tuple.tupleTooMany
        exact decide_eq_false (by omega)
      refine call_meets F.slot_tuple_mul ⟨_, ho, rfl⟩ F.entry_tuple_mul (F.args_tuple_mul_2 _ _) (tuple_mulW l its.toArray n dd sl k t c0 c1 c2 (by omega) c4 (by rw [size_rep, List.size_toArray]; exact flen)) ⟨ho, ?_⟩
      rw [size_rep]
      refine ⟨.ref s.heap.objs.size, _, I.laid (t' := s.toks) (o := .tup (List.replicate k.toNat xs).flatten) (fun b ob q => Heap.get?_push_of_some _ q) (Nat.le_refl _) ?_, rfl, q2 hne hk1 _ (I.hok.fresh (Nat.le_refl _))⟩
      exact ⟨by rw [PyProof.Rows.lm_len_rep_flat, Nat.mul_comm]; exact hz, _, r.rep k.toNat, IsTup.new _ _⟩
/-- a * b -/
def rMul : RD2 := fun x y M P => match x, y with
  | .int i, .int j => (CMul i j ∨ CMulW i j) ∧ P (.int (i * j)) M
  | .tup ds, .int k => ds.length ≤ 1000000 ∧ k ≤ 1000000 ∧ -1000000 ≤ k ∧ ds.length * k.toNat ≤ sizeLine ∧ P (.tup (List.replicate k.toNat ds).flatten) M
  | x, .int k => (match asLs M x with
    | some ds => -(2 ^ 63) ≤ k ∧ k < 2 ^ 63 ∧ ds.length * k.toNat ≤ sizeLine ∧ P (.lst (List.replicate k.toNat ds).flatten) M
    | none => False)
  | _, _ => False
theorem op_mulJ {X : Cx} : ∃ r, OpR X (binaryOp .Mult) r ∧ R2J X.K r rMul := by
  refine ⟨_, OpR.or op_mul (OpR.or op_mulW (OpR.or op_mulT op_rep)), fun {x y v u M Hf H P Q} m r1 r2 d f => ?_⟩
  unfold rMul at d
  split at d
  · cases r1
    cases r2
    obtain ⟨c, d⟩ := d
    rcases c with c | c
    · exact .inl ⟨_, _, rfl, rfl, c, f _ _ _ _ _ d (Ext.refl _) m (.int _)⟩
    · exact .inr (.inl ⟨_, _, rfl, rfl, c, f _ _ _ _ _ d (Ext.refl _) m (.int _)⟩)
  · cases r2
    obtain ⟨a, vs, rfl, ha, ra⟩ := tup_ok m r1
    obtain ⟨c1, c2, c3, c4, d⟩ := d
    refine .inr (.inr (.inl ⟨a, _, vs, rfl, rfl, ha, by rw [ra.len]; exact c1, c2, c3, by rw [ra.len]; exact c4, fun z => ?_, fun z z' p hp => ?_⟩))
    · have e : ∀ ds : List D, (ds = [] ∨ ∀ k : Nat, k = 1 → (List.replicate k ds).flatten = ds) := fun ds => .inr fun k hk => by rw [hk]; simp
      rename_i ds k
      have e2 : (List.replicate k.toNat ds).flatten = ds := by
        rcases z with z | z
        · have := ra.nil_iff.mp z
          subst this
          simp
        · rw [z]
          simp
      rw [e2] at d
      exact f _ _ _ _ _ d (Ext.refl _) m r1
    · exact f.newF m d hp fun H' h e => .tup (SqT.of h) ((ra.mono e).rep _)
  · split at d
    · rename_i e1
      cases r2
      obtain ⟨c1, c2, c3, d⟩ := d
      obtain ⟨a, vs, rfl, ha, ra⟩ := asLs_ok m r1 e1
      exact .inr (.inr (.inr ⟨a, _, vs, rfl, rfl, ha, c1, c2, by rw [ra.len]; exact c3, fun p hp => f.newF m d hp fun H' h e => .lst h ((ra.mono e).rep _)⟩))
    · exact d.elim
  · exact d.elim
theorem rj_add {X : Cx} : True := trivial
section
variable {X : Cx} {W : WX'} {pos : Pos} {a b : Expr} {da db : DE}
theorem ej_add (ha : EJ X W a da) (hb : EJ X W b db) : EJ X W (.BinOp a .Add b pos) (dOp rAdd da db) := let ⟨_, h, j⟩ := op_addJ (X := X); ej_op h j ha hb
theorem ej_mul (ha : EJ X W a da) (hb : EJ X W b db) : EJ X W (.BinOp a .Mult b pos) (dOp rMul da db) := let ⟨_, h, j⟩ := op_mulJ (X := X); ej_op h j ha hb
def rSub : RD2 := rI0' fun i j => .int (i - j)
theorem ej_sub (ha : EJ X W a da) (hb : EJ X W b db) : EJ X W (.BinOp a .Sub b pos) (dOp rSub da db) := ej_op op_sub (rj_i0 fun _ _ _ => .int _) ha hb
def rMod : RD2 := rI2 (fun _ j => j ≠ 0) fun i j => .int (i.fmod j)
theorem ej_mod (ha : EJ X W a da) (hb : EJ X W b db) : EJ X W (.BinOp a .Mod b pos) (dOp rMod da db) := ej_op op_modN (rj_i fun _ _ _ => .int _) ha hb
/-- a // b: a small divisor, or a positive one of any usual size -/
def rDiv : RD2 := rI2 (fun _ j => 0 < j ∧ j.natAbs.log2 < 9000) fun i j => .int (i / j)
theorem ej_div (ha : EJ X W a da) (hb : EJ X W b db) : EJ X W (.BinOp a .FloorDiv b pos) (dOp rDiv da db) := ej_op op_fdivW (rj_i fun _ _ _ => .int _) ha hb
def rPow : RD2 := rI2 CPow fun i j => .int (i ^ j.toNat)
theorem ej_pow (ha : EJ X W a da) (hb : EJ X W b db) : EJ X W (.BinOp a .Pow b pos) (dOp rPow da db) := ej_op op_pow (rj_i fun _ _ _ => .int _) ha hb
def rLt : RD2 := rI0' fun i j => .bl (decide (i < j))
def rLe : RD2 := rI0' fun i j => .bl (decide (i ≤ j))
def rGt : RD2 := rI0' fun i j => .bl (decide (j < i))
def rGe : RD2 := rI0' fun i j => .bl (decide (j ≤ i))
theorem ej_lt (ha : EJ X W a da) (hb : EJ X W b db) : EJ X W (.Compare a [.Lt] [b] pos) (dOp rLt da db) := ej_cmp op_lt (rj_i0 fun _ _ _ => .bl _) ha hb
theorem ej_le (ha : EJ X W a da) (hb : EJ X W b db) : EJ X W (.Compare a [.LtE] [b] pos) (dOp rLe da db) := ej_cmp op_le (rj_i0 fun _ _ _ => .bl _) ha hb
theorem ej_gt (ha : EJ X W a da) (hb : EJ X W b db) : EJ X W (.Compare a [.Gt] [b] pos) (dOp rGt da db) := ej_cmp op_gt (rj_i0 fun _ _ _ => .bl _) ha hb
theorem ej_ge (ha : EJ X W a da) (hb : EJ X W b db) : EJ X W (.Compare a [.GtE] [b] pos) (dOp rGe da db) := ej_cmp op_ge (rj_i0 fun _ _ _ => .bl _) ha hb
end

/-! ### == and != -/
mutual
def plain : D → Bool
  | .non | .bl _ | .int _ | .str _ => true
  | .tup ds | .lst ds => plains ds
  | _ => false
def plains : List D → Bool
  | [] => true
  | d :: ds => plain d && plains ds
end
mutual
def py : D → PyData
  | .non => .none
  | .bl b => .bool b
  | .int i => .int i
  | .str x => .str x
  | .tup ds => .tuple (pys ds)
  | .lst ds => .list (pys ds)
  | _ => .none
def pys : List D → List PyData
  | [] => []
  | d :: ds => py d :: pys ds
end
mutual
theorem Rp.dp {K : Fz} {H : Hp} : ∀ {v : V} {d : D}, Rp K H v d → plain d = true → Dp K H v (py d)
  | _, _, .non, _ => .non
  | _, _, .bl b, _ => .bl b
  | _, _, .int i, _ => .int i
  | _, _, .str x, _ => .str x
  | _, _, .ty _, h => by cases h
  | _, _, .ref _, h => by cases h
  | _, _, .tup h r, p => .tup h (Rps.dp r (by simpa only [plain] using p))
  | _, _, .lst h r, p => .lst (SqL.of h) (Rps.dp r (by simpa only [plain] using p))
  | _, _, .scr _ _, h => by cases h
  | _, _, .obj _ _, h => by cases h
theorem Rps.dp {K : Fz} {H : Hp} : ∀ {v : List V} {d : List D}, Rps K H v d → plains d = true → DpAll K H v (pys d)
  | _, _, .nil, _ => .nil
  | _, _, .cons h r, p => by
    simp only [plains, Bool.and_eq_true] at p
    exact .cons (Rp.dp h p.1) (Rps.dp r p.2)
end
/-- the thing itself, a list's content for a list that may change -/
def dr (M : Mm) : D → D
  | .ref a => (match M a with
    | some (.lst ds) => .lst ds
    | _ => .ref a)
  | x => x
theorem dr_ok {K : Fz} {M : Mm} {Hf H : Hp} {x : D} {v : V} (m : HM K Hf M H) (r : Rp K Hf v x) : Rp K H v (dr M x) := by
  cases r with
  | ref a =>
    show Rp K H (.ref a) (match M a with
      | some (.lst ds) => .lst ds
      | _ => .ref a)
    split
    · rename_i e
      obtain ⟨_, vs, q1, q2⟩ := m.mu _ _ e
      exact .lst q1 (q2.mono m.sub)
    · exact .ref _
  | _ =>
    unfold dr
    exact Rp.mono m.sub (by first | exact .non | exact .bl _ | exact .int _ | exact .str _ | exact .ty _ | exact .tup (by assumption) (by assumption) | exact .lst (by assumption) (by assumption) | exact .scr (by assumption) (by assumption) | exact .obj (by assumption) (by assumption))
def okD (x : D) : Prop := plain x = true ∧ SeqAt.shaped (py x) = true
@[irreducible] def seq (a b : Str) : Bool := decide (a = b)
theorem seq_eq (a b : Str) : seq a b = decide (a = b) := by
  unfold seq
  rfl
def rEqW (neg : Bool) : RD2 := fun x y M P => match x, y with
  | .int i, .int j => P (.bl (neg ^^ decide (i = j))) M
  | .str a, .str b => P (.bl (neg ^^ seq a b)) M
  | x, y => okD (dr M x) ∧ okD (dr M y) ∧ P (.bl (neg ^^ PyData.eqv (py (dr M x)) (py (dr M y)))) M
theorem rj_eq {K : Fz} : R2J K (fun x y H Q => rEq x y H Q ∨ rEqD K x y H Q) (rEqW false) := fun {x y v u M Hf H P Q} m r1 r2 d f => by
  unfold rEqW at d
  split at d
  · cases r1
    cases r2
    rename_i i j
    refine .inl ⟨rfl, f _ _ _ _ _ d (Ext.refl _) m ?_⟩
    have e : decide (V.int i = V.int j) = (false ^^ decide (i = j)) := by simp
    rw [e]
    exact .bl _
  · cases r1
    cases r2
    rename_i i j
    refine .inl ⟨rfl, f _ _ _ _ _ d (Ext.refl _) m ?_⟩
    have e : decide (V.str i = V.str j) = (false ^^ seq i j) := by simp [seq_eq]
    rw [e]
    exact .bl _
  · obtain ⟨⟨p1, s1⟩, ⟨p2, s2⟩, d⟩ := d
    rw [Bool.false_xor] at d
    exact .inr ⟨_, _, (dr_ok m r1).dp p1, (dr_ok m r2).dp p2, s1, s2, f _ _ _ _ _ d (Ext.refl _) m (.bl _)⟩
theorem rj_ne {K : Fz} : R2J K (fun x y H Q => rNe x y H Q ∨ rNeD K x y H Q) (rEqW true) := fun {x y v u M Hf H P Q} m r1 r2 d f => by
  unfold rEqW at d
  split at d
  · cases r1
    cases r2
    rename_i i j
    refine .inl ⟨rfl, f _ _ _ _ _ d (Ext.refl _) m ?_⟩
    have e : (!decide (V.int i = V.int j)) = (true ^^ decide (i = j)) := by simp
    rw [e]
    exact .bl _
  · cases r1
    cases r2
    rename_i i j
    refine .inl ⟨rfl, f _ _ _ _ _ d (Ext.refl _) m ?_⟩
    have e : (!decide (V.str i = V.str j)) = (true ^^ seq i j) := by simp [seq_eq]
    rw [e]
    exact .bl _
  · obtain ⟨⟨p1, s1⟩, ⟨p2, s2⟩, d⟩ := d
    rw [Bool.true_xor] at d
    exact .inr ⟨_, _, (dr_ok m r1).dp p1, (dr_ok m r2).dp p2, s1, s2, f _ _ _ _ _ d (Ext.refl _) m (.bl _)⟩
section
variable {X : Cx} {W : WX'} {pos : Pos} {a b : Expr} {da db : DE}
theorem ej_eq (hu : X.A.units + 64 < cLine) (ha : EJ X W a da) (hb : EJ X W b db) : EJ X W (.Compare a [.Eq] [b] pos) (dOp (rEqW false) da db) := ej_cmp (OpR.or op_eq (op_eqD hu)) rj_eq ha hb
theorem ej_ne (hu : X.A.units + 64 < cLine) (ha : EJ X W a da) (hb : EJ X W b db) : EJ X W (.Compare a [.NotEq] [b] pos) (dOp (rEqW true) da db) := ej_cmp (OpR.or op_ne (op_neD hu)) rj_ne ha hb
end
end DL

/-! DL: items, slices, displays, tests -/
namespace DL
open PySem PySem.Spec PyProof.Rows L2

/-! ### a[i] -/
def rIxD : RD2 := fun x y M P => match x, y with
  | .tup ds, .int i => (match atI ds i with
    | some d => P d M
    | none => False)
  | .str z, .int i => z.length ≤ sizeLine ∧ (match atI z.cps.toList i with
    | some c => P (.str ⟨#[c]⟩) M
    | none => False)
  | x, .int i => (match asL M x with
    | some ds => (match atI ds i with
      | some d => P d M
      | none => False)
    | none => False)
  | _, _ => False
theorem Rps.atI {K : Fz} {H : Hp} {vs : List V} {ds : List D} {i : Int} {d : D} (r : Rps K H vs ds) (h : atI ds i = some d) : ∃ v, L2.atI vs i = some v ∧ Rp K H v d := by
  unfold L2.atI at h ⊢
  rw [r.len]
  cases e : ixN ds.length i with
  | none =>
    rw [e] at h
    cases h
  | some j =>
    rw [e] at h
    obtain ⟨v, h1, h2⟩ := r.get (i := j) h
    exact ⟨v, h1, h2⟩
theorem rj_ix {K : Fz} : R2J K (rIx K) rIxD := fun {x y v u M Hf H P Q} m r1 r2 d f => by
  unfold rIxD at d
  split at d
  · split at d
    · rename_i e
      cases r2
      obtain ⟨a, vs, rfl, ha, ra⟩ := tup_ok m r1
      obtain ⟨w, h1, h2⟩ := ra.atI e
      exact .inr (.inl ⟨_, _, _, _, rfl, rfl, ha, h1, f _ _ _ _ _ d (Ext.refl _) m h2⟩)
    · exact d.elim
  · obtain ⟨hz, d⟩ := d
    split at d
    · rename_i e
      cases r1
      cases r2
      exact .inr (.inr ⟨_, _, _, rfl, rfl, hz, e, f _ _ _ _ _ d (Ext.refl _) m (.str _)⟩)
    · exact d.elim
  · split at d
    · rename_i e0
      split at d
      · rename_i e
        cases r2
        obtain ⟨a, vs, rfl, ha, ra⟩ := asL_ok m r1 e0
        obtain ⟨w, h1, h2⟩ := ra.atI e
        exact .inl ⟨_, _, _, _, rfl, rfl, ha, h1, f _ _ _ _ _ d (Ext.refl _) m h2⟩
      · exact d.elim
    · exact d.elim
  · exact d.elim
section
variable {X : Cx} {W : WX'} {pos : Pos} {a b : Expr} {da db : DE}
theorem ej_ix (ha : EJ X W a da) (hb : EJ X W b db) (hs : PlainIx b := by exact fun _ _ => rfl) : EJ X W (.Subscript a b pos) (dOp rIxD da db) := pe_weak (pe_ix ix_seq ha hb hs) (opj rj_ix)
end

/-! ### a[lo:hi] -/
abbrev DO := Ev → Mm → (Option Int → Mm → Prop) → XP → Prop
def liO (K : Fz) (W : WX') (d : DO) : TO := fun σ H Q => ∃ ρ M Hf P PX, SR K ρ M Hf σ H ∧ d ρ M P PX ∧ (∀ x M' Hf' H', P x M' → Ext Hf Hf' → HM K Hf' M' H' → Q x H') ∧ FinX K Hf σ PX W
abbrev OJ (X : Cx) (W : WX') (e : Option Expr) (d : DO) : Prop := PO X e (liO X.K W d)
theorem po_weak {X : Cx} {e : Option Expr} {t t' : TO} (h : PO X e t) (w : ∀ σ H Q, t' σ H Q → t σ H Q) : PO X e t' := ⟨fun pins s σ H Q I q => h.run pins s σ H Q I (w σ H Q q)⟩
def dNoPart : DO := fun _ M P _ => P none M
def dPart (d : DE) : DO := fun ρ M P PX => d ρ M (fun x M1 => match x with
  | .int i => P (some i) M1
  | _ => False) PX
def sx (n d : Nat) : Option Int → Nat
  | none => d
  | some (.ofNat v) => min v n
  | some (.negSucc v) => n - (v + 1)
theorem sx_eq (n d : Nat) (o : Option Int) : sx n d o = HT.sIx n d o := by
  rcases o with _ | (v | v)
  · rfl
  · exact (HT.sIx_nat n d v).symm
  · show n - (v + 1) = if (Int.negSucc v) < 0 then (Int.negSucc v + (n : Int)).toNat else min (Int.negSucc v).toNat n
    rw [if_pos (Int.negSucc_lt_zero v)]
    omega
def cutD {α : Type} (xs : List α) (lo hi : Option Int) : List α := (xs.drop (sx xs.length 0 lo)).take (sx xs.length xs.length hi - sx xs.length 0 lo)
def rSlD : D → Option Int → Option Int → Mm → DP → Prop := fun x lo hi M P => match x with
  | .tup ds => P (.tup (cutD ds lo hi)) M
  | .str z => z.length ≤ sizeLine ∧ P (.str (cutS z lo hi)) M
  | x => (match asL M x with
    | some ds => P (.lst (cutD ds lo hi)) M
    | none => False)
def dSl (da : DE) (dl dh : DO) : DE := fun ρ M P PX => da ρ M (fun x M1 => dl ρ M1 (fun l M2 => dh ρ M2 (fun u M3 => rSlD x l u M3 P) PX) PX) PX
theorem Rps.cut {K : Fz} {H : Hp} {vs : List V} {ds : List D} (lo hi : Option Int) (r : Rps K H vs ds) : Rps K H (cutV vs lo hi) (cutD ds lo hi) := by
  unfold cutV cutD
  rw [r.len, sx_eq, sx_eq]
  exact (r.drop _).take _
theorem cutD_all {α : Type} (xs : List α) (lo hi : Option Int) (h : HT.sIx xs.length 0 lo = 0 ∧ HT.sIx xs.length xs.length hi = xs.length) : cutD xs lo hi = xs := by
  unfold cutD
  rw [sx_eq, sx_eq, h.1, h.2]
  simp
section
variable {X : Cx} {W : WX'} {pos p2 : Pos} {e : Expr} {lo hi : Option Expr} {da : DE} {dl dh : DO}
theorem oj_none : OJ X W none dNoPart := po_weak po_none fun σ H Q ⟨ρ, M, Hf, P, PX, s, d, fe, fx⟩ => fe none M Hf H d (Ext.refl _) s.hm
theorem oj_some (he : EJ X W e da) : OJ X W (some e) (dPart da) := po_weak (po_some he) fun σ H Q ⟨ρ, M, Hf, P, PX, s, d, fe, fx⟩ =>
  ⟨ρ, M, Hf, _, PX, s, d, fun x M1 v Hf1 H1 d1 e1 m1 r1 => by
    dsimp only at d1
    split at d1
    · cases r1
      exact ⟨_, rfl, fe _ M1 Hf1 H1 d1 e1 m1⟩
    · exact d1.elim, fx⟩
theorem ej_sl (he : EJ X W e da) (hl : OJ X W lo dl) (hh : OJ X W hi dh) : EJ X W (.Subscript e (.Slice lo hi none p2) pos) (dSl da dl dh) :=
  pe_weak (pe_slice (SlR.or sl_tupA (SlR.or sl_str sl_list)) he hl hh) fun σ H Q ⟨ρ, M, Hf, P, PX, s, d, fe, fx⟩ =>
    ⟨ρ, M, Hf, _, PX, s, d, fun x M1 v Hf1 H1 d1 e1 m1 r1 => ⟨ρ, M1, Hf1, _, PX, s.go e1 m1, d1, fun l M2 Hf2 H2 d2 e2 m2 => ⟨ρ, M2, Hf2, _, PX, (s.go e1 m1).go e2 m2, d2, fun u M3 Hf3 H3 d3 e3 m3 => by
      have r3 := (r1.mono e2).mono e3
      have fe3 := fe.go ((e1.trans e2).trans e3)
      unfold rSlD at d3
      split at d3
      · obtain ⟨a, vs, rfl, ha, ra⟩ := tup_ok m3 r3
        refine .inl ⟨a, vs, rfl, ha, fun z => ?_, fun z p hp => ?_⟩
        · rw [ra.len] at z
          rw [cutD_all _ _ _ z] at d3
          exact fe3 _ _ _ _ _ d3 (Ext.refl _) m3 r3
        · exact fe3.newF m3 d3 hp fun H' h e => .tup (SqT.of h) ((ra.mono e).cut _ _)
      · cases r3
        exact .inr (.inl ⟨_, rfl, d3.1, fe3 _ _ _ _ _ d3.2 (Ext.refl _) m3 (.str _)⟩)
      · split at d3
        · rename_i e0
          obtain ⟨a, vs, rfl, ha, ra⟩ := asL_ok m3 r3 e0
          exact .inr (.inr ⟨a, vs, rfl, ha, fun p hp => fe3.newF m3 d3 hp fun H' h e => .lst h ((ra.mono e).cut _ _)⟩)
        · exact d3.elim, (fx.go e1).go e2⟩, fx.go e1⟩, fx⟩
end

/-! ### arguments, displays -/
theorem sub_len {K : Fz} {H : Hp} {vs : List V} {ds : List D} {n : Nat} (r : Rps K H vs ds) (h : ds.length ≤ n) : vs.length ≤ n := by rw [r.len]; exact h
def dNil : DA := fun _ M P _ => P [] M
def dCons (da : DE) (dr : DA) : DA := fun ρ M P PX => da ρ M (fun x M1 => dr ρ M1 (fun xs M2 => P (x :: xs) M2) PX) PX
def dTup (d : DA) : DE := fun ρ M P PX => d ρ M (fun xs M1 => xs.length ≤ sizeLine ∧ P (.tup xs) M1) PX
def dLst (d : DA) : DE := fun ρ M P PX => d ρ M (fun xs M1 => xs.length ≤ sizeLine ∧ P (.lst xs) M1) PX
/-- a list that is going to change -/
def dLstM (d : DA) : DE := fun ρ M P PX => d ρ M (fun xs M1 => xs.length ≤ sizeLine ∧ ∀ a, M1 a = none → P (.ref a) (um M1 a (.lst xs))) PX
theorem FinE.newM {K : Fz} {M : Mm} {Hf H : Hp} {P : DP} {Q : VK} {p : Addr} {o : HO} {mo : MO} (f : FinE K Hf P Q) (m : HM K Hf M H) (hp : H p = none) (new : MRep K Hf (upd H p o) p mo) (d : M p = none → P (.ref p) (um M p mo)) : Q (.ref p) (upd H p o) :=
  f (.ref p) _ _ _ _ (d (m.none_of hp)) (Ext.refl _) (m.newM hp new) (.ref p)
section
variable {X : Cx} {W : WX'} {pos : Pos} {e : Expr} {es : List Expr} {da : DE} {d : DA}
theorem aj_nil : AJ X W [] dNil := pa_weak pa_nil fun σ H Q ⟨ρ, M, Hf, P, PX, s, d, fe, fx⟩ => fe [] M [] Hf H d (Ext.refl _) s.hm .nil
theorem aj_cons (ha : EJ X W e da) (hr : AJ X W es d) (hs : starEach (e :: es) X.env = (false, eval e X.env) :: starEach es X.env := by rfl) : AJ X W (e :: es) (dCons da d) :=
  pa_weak (pa_cons ha hr hs) fun σ H Q ⟨ρ, M, Hf, P, PX, s, d, fe, fx⟩ => ⟨ρ, M, Hf, _, PX, s, d, fun x M1 v Hf1 H1 d1 e1 m1 r1 => ⟨ρ, M1, Hf1, _, PX, s.go e1 m1, d1, fun xs M2 vs Hf2 H2 d2 e2 m2 r2 =>
    fe _ M2 _ Hf2 H2 d2 (e1.trans e2) m2 (.cons (r1.mono e2) r2), fx.go e1⟩, fx⟩
theorem ej_tup {x1} (h : AJ X W es d) : EJ X W (.Tuple es x1 pos) (dTup d) := pe_weak (pe_tup h) fun σ H Q ⟨ρ, M, Hf, P, PX, s, d, fe, fx⟩ => ⟨ρ, M, Hf, _, PX, s, d, fun xs M1 vs Hf1 H1 d1 e1 m1 r1 =>
  ⟨sub_len r1 d1.1, fun p hp => (fe.go e1).newF m1 d1.2 hp fun H' h e => .tup (SqT.of h) (r1.mono e)⟩, fx⟩
theorem ej_lst (h : AJ X W es d) : EJ X W (.List es pos) (dLst d) := pe_weak (pe_lst h) fun σ H Q ⟨ρ, M, Hf, P, PX, s, d, fe, fx⟩ => ⟨ρ, M, Hf, _, PX, s, d, fun xs M1 vs Hf1 H1 d1 e1 m1 r1 =>
  ⟨sub_len r1 d1.1, fun p hp => (fe.go e1).newF m1 d1.2 hp fun H' h e => .lst h (r1.mono e)⟩, fx⟩
theorem ej_lstM (h : AJ X W es d) : EJ X W (.List es pos) (dLstM d) := pe_weak (pe_lst h) fun σ H Q ⟨ρ, M, Hf, P, PX, s, d, fe, fx⟩ => ⟨ρ, M, Hf, _, PX, s, d, fun xs M1 vs Hf1 H1 d1 e1 m1 r1 =>
  ⟨sub_len r1 d1.1, fun p hp => (fe.go e1).newM (mo := .lst xs) m1 hp ⟨vs, upd_same, r1⟩ (d1.2 p)⟩, fx⟩
end

/-! ### tests -/
def dTst (d : DE) : DT := fun ρ M P PX => d ρ M (fun x M1 => match x with
  | .bl b => P b M1
  | _ => False) PX
def dNot (d : DT) : DT := fun ρ M P PX => d ρ M (fun b M1 => P (!b) M1) PX
def dAnd (d e : DT) : DT := fun ρ M P PX => d ρ M (fun b M1 => match b with
  | true => e ρ M1 P PX
  | false => P false M1) PX
def dOr (d e : DT) : DT := fun ρ M P PX => d ρ M (fun b M1 => match b with
  | true => P true M1
  | false => e ρ M1 P PX) PX
def dIfE (c : DT) (d e : DE) : DE := fun ρ M P PX => c ρ M (fun b M1 => match b with
  | true => d ρ M1 P PX
  | false => e ρ M1 P PX) PX
/-- not, and, or as values -/
def dVal (d : DT) : DE := fun ρ M P PX => d ρ M (fun b M1 => P (.bl b) M1) PX
theorem tstj {K : Fz} {W : WX'} {d : DE} : ∀ σ H Q, liT K W (dTst d) σ H Q → (liE K W d) σ H fun x H' => ∃ k, x = .bl k ∧ Q k H' := fun σ H Q ⟨ρ, M, Hf, P, PX, s, d, fe, fx⟩ =>
  ⟨ρ, M, Hf, _, PX, s, d, fun x M1 v Hf1 H1 d1 e1 m1 r1 => by
    dsimp only at d1
    split at d1
    · cases r1
      exact ⟨_, rfl, fe _ M1 Hf1 H1 d1 e1 m1⟩
    · exact d1.elim, fx⟩
section
variable {X : Cx} {W : WX'} {pos : Pos} {a b c : Expr} {rest : List Expr} {da db : DE} {ta tb : DT} {r : R2} {rD : RD2}
theorem tj_cmp {op : CmpOp} (ho : OpR X (compareOp op) r) (j : R2J X.K r rD) (ha : EJ X W a da) (hb : EJ X W b db) (hm : behindInMarks op b = false := by first | exact nobehind _ (by decide) (by decide) | rfl) : TJ X W (.Compare a [op] [b] pos) (dTst (dOp rD da db)) :=
  pt_weak (pt_cmpR ho ha hb hm) fun σ H Q ⟨ρ, M, Hf, P, PX, s, d, fe, fx⟩ => opj j _ _ _ (tstj σ H Q ⟨ρ, M, Hf, P, PX, s, d, fe, fx⟩)
theorem tj_val (h : EJ X W a da) (he : ∀ whole, isTrue a X.env whole = (do let v ← whole; standAt a.pos; holding [v] (truthy v)) := by intro _; rfl) : TJ X W a (dTst da) := pt_weak (pt_val h he) tstj
theorem tj_not (h : TJ X W a ta) : TJ X W (.UnaryOp .Not a pos) (dNot ta) := pt_weak (pt_not h) fun σ H Q ⟨ρ, M, Hf, P, PX, s, d, fe, fx⟩ => ⟨ρ, M, Hf, _, PX, s, d, fun x M1 Hf1 H1 d1 e1 m1 => fe _ M1 Hf1 H1 d1 e1 m1, fx⟩
theorem wj_and1 (h : TJ X W a ta) : WJ X W (.BoolOp .And [a] pos) ta := pw_and1 h
theorem wj_or1 (h : TJ X W a ta) : WJ X W (.BoolOp .Or [a] pos) ta := pw_or1 h
theorem wj_and (ha : TJ X W a ta) (hb : WJ X W (.BoolOp .And (b :: rest) pos) tb) : WJ X W (.BoolOp .And (a :: b :: rest) pos) (dAnd ta tb) := pw_weak (pw_and ha hb) fun σ H Q ⟨ρ, M, Hf, P, PX, s, d, fe, fx⟩ =>
  ⟨ρ, M, Hf, _, PX, s, d, fun x M1 Hf1 H1 d1 e1 m1 => by
    cases x with
    | true => exact ⟨ρ, M1, Hf1, P, PX, s.go e1 m1, d1, fun y M2 Hf2 H2 d2 e2 m2 => fe y M2 Hf2 H2 d2 (e1.trans e2) m2, fx.go e1⟩
    | false => exact fe false M1 Hf1 H1 d1 e1 m1, fx⟩
theorem wj_or (ha : TJ X W a ta) (hb : WJ X W (.BoolOp .Or (b :: rest) pos) tb) : WJ X W (.BoolOp .Or (a :: b :: rest) pos) (dOr ta tb) := pw_weak (pw_or ha hb) fun σ H Q ⟨ρ, M, Hf, P, PX, s, d, fe, fx⟩ =>
  ⟨ρ, M, Hf, _, PX, s, d, fun x M1 Hf1 H1 d1 e1 m1 => by
    cases x with
    | true => exact fe true M1 Hf1 H1 d1 e1 m1
    | false => exact ⟨ρ, M1, Hf1, P, PX, s.go e1 m1, d1, fun y M2 Hf2 H2 d2 e2 m2 => fe y M2 Hf2 H2 d2 (e1.trans e2) m2, fx.go e1⟩, fx⟩
theorem tj_w (h : WJ X W a ta) : TJ X W a ta := h.pt
theorem ej_ifE (hc : TJ X W c ta) (ha : EJ X W a da) (hb : EJ X W b db) : EJ X W (.IfExp c a b pos) (dIfE ta da db) := pe_weak (pe_ifExp hc ha hb) fun σ H Q ⟨ρ, M, Hf, P, PX, s, d, fe, fx⟩ =>
  ⟨ρ, M, Hf, _, PX, s, d, fun x M1 Hf1 H1 d1 e1 m1 => by
    cases x with
    | true => exact ⟨ρ, M1, Hf1, P, PX, s.go e1 m1, d1, fe.go e1, fx.go e1⟩
    | false => exact ⟨ρ, M1, Hf1, P, PX, s.go e1 m1, d1, fe.go e1, fx.go e1⟩, fx⟩
end
/-- and, or, not as values, of bools -/
def dAndE (d e : DE) : DE := fun ρ M P PX => d ρ M (fun x M1 => match x with
  | .bl true => e ρ M1 P PX
  | .bl false => P (.bl false) M1
  | _ => False) PX
def dOrE (d e : DE) : DE := fun ρ M P PX => d ρ M (fun x M1 => match x with
  | .bl true => P (.bl true) M1
  | .bl false => e ρ M1 P PX
  | _ => False) PX
def dNotE (d : DE) : DE := fun ρ M P PX => d ρ M (fun x M1 => match x with
  | .bl b => P (.bl (!b)) M1
  | _ => False) PX
section
variable {X : Cx} {W : WX'} {pos : Pos} {a b c : Expr} {rest : List Expr} {da db : DE}
theorem ej_one {op} (h : EJ X W a da) : EJ X W (.BoolOp op [a] pos) da := pe_one h
theorem ej_and (ha : EJ X W a da) (hb : EJ X W (.BoolOp .And (b :: rest) pos) db) : EJ X W (.BoolOp .And (a :: b :: rest) pos) (dAndE da db) := pe_weak (pe_and ha hb) fun σ H Q ⟨ρ, M, Hf, P, PX, s, d, fe, fx⟩ =>
  ⟨ρ, M, Hf, _, PX, s, d, fun x M1 v Hf1 H1 d1 e1 m1 r1 => by
    dsimp only at d1
    split at d1
    · cases r1
      exact ⟨true, rfl, (if_pos rfl).mpr ⟨ρ, M1, Hf1, P, PX, s.go e1 m1, d1, fe.go e1, fx.go e1⟩⟩
    · cases r1
      exact ⟨false, rfl, (if_neg Bool.false_ne_true).mpr (fe _ _ _ _ _ d1 e1 m1 (.bl _))⟩
    · exact d1.elim, fx⟩
theorem ej_or (ha : EJ X W a da) (hb : EJ X W (.BoolOp .Or (b :: rest) pos) db) : EJ X W (.BoolOp .Or (a :: b :: rest) pos) (dOrE da db) := pe_weak (pe_or ha hb) fun σ H Q ⟨ρ, M, Hf, P, PX, s, d, fe, fx⟩ =>
  ⟨ρ, M, Hf, _, PX, s, d, fun x M1 v Hf1 H1 d1 e1 m1 r1 => by
    dsimp only at d1
    split at d1
    · cases r1
      exact ⟨true, rfl, (if_pos rfl).mpr (fe _ _ _ _ _ d1 e1 m1 (.bl _))⟩
    · cases r1
      exact ⟨false, rfl, (if_neg Bool.false_ne_true).mpr ⟨ρ, M1, Hf1, P, PX, s.go e1 m1, d1, fe.go e1, fx.go e1⟩⟩
    · exact d1.elim, fx⟩
theorem ej_not (ha : EJ X W a da) : EJ X W (.UnaryOp .Not a pos) (dNotE da) := pe_weak (pe_not ha) fun σ H Q ⟨ρ, M, Hf, P, PX, s, d, fe, fx⟩ =>
  ⟨ρ, M, Hf, _, PX, s, d, fun x M1 v Hf1 H1 d1 e1 m1 r1 => by
    dsimp only at d1
    split at d1
    · cases r1
      exact ⟨_, rfl, fe _ _ _ _ _ d1 e1 m1 (.bl _)⟩
    · exact d1.elim, fx⟩
def rUnI (g : Int → D) : D → Mm → DP → Prop := fun x M P => match x with
  | .int i => P (g i) M
  | _ => False
def dUn (r : D → Mm → DP → Prop) (da : DE) : DE := fun ρ M P PX => da ρ M (fun x M1 => r x M1 P) PX
def rNeg := rUnI fun i => .int (-i)
theorem ej_neg (ha : EJ X W a da) : EJ X W (.UnaryOp .USub a pos) (dUn rNeg da) := pe_weak (pe_un un_neg ha) fun σ H Q ⟨ρ, M, Hf, P, PX, s, d, fe, fx⟩ =>
  ⟨ρ, M, Hf, _, PX, s, d, fun x M1 v Hf1 H1 d1 e1 m1 r1 => by
    unfold rNeg rUnI at d1
    dsimp only at d1
    split at d1
    · cases r1
      exact ⟨_, rfl, fe _ _ _ _ _ d1 e1 m1 (.int _)⟩
    · exact d1.elim, fx⟩
end
end DL

/-! DL: defs and calls. G: what is known of what runs around (no repr is under way) -/
namespace DL
open PySem PySem.Spec PyProof.Rows L2
abbrev GT : Around → Prop := fun _ => True
abbrev GG : Around → Prop := fun A => A.guards = some []
structure Fn (G : Around → Prop) (P : Program) (w : World) (K : Fz) (mg : Str → Option Value) (base : Heap) (k : Nat) (f : Addr)
    (fd : FuncData) (ps : List Str) (sp : Sp) : Prop where
  len : ∀ vs H Q E, sp vs H Q E → vs.length = ps.length
  run : ∀ (A : Around) (outer : List Env) (s : Shared) (H : Hp) (args : Args) (us : List Value) (vs : List V) (Q : VK) (E : XK),
    Room k A → G A → Env0 P w K mg base A outer s H → BindsTo s fd args (ps.zip us) → Vals vs us → sp vs H Q E →
      codeAny (model P w) A (.call (.ref f) args) (CR (L2.CX P w) outer P w H s Q E) s
section
variable {G : Around → Prop} {P : Program} {w : World} {K : Fz} {mg : Str → Option Value} {base : Heap} {k j : Nat} {f : Addr} {fd : FuncData} {ps : List Str} {sp sp' : Sp}
theorem Fn.up (F : Fn G P w K mg base j f fd ps sp) (h : j ≤ k) : Fn G P w K mg base k f fd ps sp :=
  ⟨F.len, fun A outer s H args us vs Q E hr => F.run A outer s H args us vs Q E (hr.mono h)⟩
theorem Fn.imp (F : Fn G P w K mg base k f fd ps sp) (h : ∀ vs H Q E, sp' vs H Q E → sp vs H Q E) : Fn G P w K mg base k f fd ps sp' :=
  ⟨fun vs H Q E q => F.len vs H Q E (h _ _ _ _ q), fun A outer s H args us vs Q E hr hg he hb hv hs => F.run A outer s H args us vs Q E hr hg he hb hv (h _ _ _ _ hs)⟩
theorem Fn.ok (F : Fn GT P w K mg base k f fd ps sp) : FnOk P w K mg base (L2.CX P w) k f fd ps sp :=
  ⟨F.len, fun A outer s H args us vs Q E hr => F.run A outer s H args us vs Q E hr trivial⟩
theorem Fn.any (F : Fn GT P w K mg base k f fd ps sp) : Fn G P w K mg base k f fd ps sp :=
  ⟨F.len, fun A outer s H args us vs Q E hr _ => F.run A outer s H args us vs Q E hr trivial⟩
end
/-- what a body's exceptions are wanted to be -/
abbrev WB (E : XK) : WX' := fun cls d _ H => E cls d H
abbrev W0 : WX' := fun _ _ _ _ => False
theorem takes00 {X : Cx} : Takes X W0 := fun _ _ ⟨_, _, _, _, _, _, _, _, _, _, _, _, _, _, _, _, w⟩ => w.elim
/-- THE RULE for a def of the text -/
theorem Fn.mk' {G : Around → Prop} {P : Program} {w : World} {K : Fz} {mg : Str → Option Value} {base : Heap} {x qual : Str} {stm : Stmt} {f : Addr} {fd : FuncData} {N ps : List Str} {k : Nat} {sp : Sp}
    (hG : ∀ A env, G A → G (A.deeper env))
    (F : ∃ (oc : Value) (od : Option Addr) (dV kV doc pm : Value) (an : Option Addr) (cdv ct : Value) (osl : Array (Option Value)),
      fd = PySem.W.fnOf x qual (defArgs stm) (defBody stm) (defScope stm) dV kV doc pm an cdv ct ∧ K.lookup f = some ⟨oc, od, .func fd, osl⟩ ∧ PySem.W.codeIn K cdv qual = true)
    (S : FnScope N ps (defScope stm)) (len : ∀ vs H Q E, sp vs H Q E → vs.length = ps.length)
    (hbody : ∀ (cdv : Value) (A : Around) (outer : List Env) (s : Shared) (H : Hp) (vs : List V) (Q : VK) (E : XK),
      Room k (A.deeper (envOfC qual (defScope stm) s.heap.objs.size f cdv)) → G (A.deeper (envOfC qual (defScope stm) s.heap.objs.size f cdv)) → sp vs H Q E →
      ∃ t, PSs (cxOf (L2.CX P w) P w K mg base N qual (defScope stm) f cdv A outer s H E) (defBody stm) t ∧ t { nx := fun _ H' => Q .non H', rt := Q } (start N vs) H) :
    Fn G P w K mg base (k + 1) f fd ps sp := by
  obtain ⟨oc, od, dV, kV, doc, pm, an, cdv, ct, osl, rfl, lk, hcd⟩ := F
  refine ⟨len, fun A outer s H args us vs Q E hr hg e0 hb r hsp => ?_⟩
  have hl := len _ _ _ _ hsp
  have inH : K.In s.heap := e0.mod.kin.keeps fun b o e => (e0.bs b o e).1
  have noLim : s.heap.NoLimit := e0.mod.nolimit.keeps fun b o e => (e0.bs b o e).1
  have kinds : ∀ y ∈ ps.zip us, (defScope stm).names.lookup y.1 = some .local ∨
      ((defScope stm).names.lookup y.1 = some .cell ∧ ((cellsFrom (s.heap.objs.size + 1) (defScope stm).names []).lookup y.1).isSome = true) := fun ⟨n, v⟩ hy =>
    (S.par n (List.of_mem_zip hy).1).imp id fun q => ⟨q, PySem.W.cellsFrom_some _ _ _ (.inl q)⟩
  refine codeAny_call_function hr.depth (inH _ _ lk) rfl S.co S.gen rfl
    (PySem.W.codeRec_of inH hcd) (hb _ _ _ _ ?_)
  refine wpAny_newFunctionEnv_cells S.kind kinds fun env he s1 x => ?_
  subst he
  refine ⟨noLim.keeps x.toInCall.keep, codeAny_func ?_⟩
  obtain ⟨t, ht, hq⟩ := hbody cdv A outer s H vs Q E (hr.deeper _) (hG _ _ hg) hsp
  have I := inv_start (CX := L2.CX P w) (E := E) S hr.hd e0 hl r x
  refine wpAny_mono (ht.run [] s1 (start N vs) H _ I hq) (fun fl s' hs => ?_) fun e s' hs => hs
  cases fl with
  | ret u =>
    obtain ⟨v, σ', H', J, rv, q⟩ := hs
    exact ⟨v, H', J.os, J.bare, J.base, J.hok, rv, q⟩
  | next =>
    obtain ⟨σ', H', J, q⟩ := hs
    exact ⟨V.non, H', J.os, J.bare, J.base, J.hok, rfl, q⟩
  | brk =>
    obtain ⟨_, _, _, q⟩ := hs
    exact False.elim q
  | cont =>
    obtain ⟨_, _, _, q⟩ := hs
    exact False.elim q

/-! ### promises over data -/
abbrev DSp := List D → Mm → DP → XP → Prop
def liSp (K : Fz) (sp : DSp) : Sp := fun vs H Q E => ∃ ds M Hf P PX, Rps K Hf vs ds ∧ HM K Hf M H ∧ sp ds M P PX ∧ FinE K Hf P Q ∧ FinX K Hf [] PX (WB E)
theorem FinX.wb {K : Fz} {Hf : Hp} {σ : Sx} {PX : XP} {E : XK} (f : FinX K Hf [] PX (WB E)) : FinX K Hf σ PX (WB E) := f
abbrev DFn (G : Around → Prop) (P : Program) (w : World) (K : Fz) (mg : Str → Option Value) (base : Heap) (k : Nat) (f : Addr) (fd : FuncData) (ps : List Str) (sp : DSp) : Prop := Fn G P w K mg base k f fd ps (liSp K sp)
/-- the parameters, then what is not there yet -/
def nth : List D → Nat → Option D
  | [], _ => none
  | d :: r, j => match j with
    | 0 => some d
    | j + 1 => nth r j
def st0 (N : List Str) (ds : List D) : Ev := nth ds
theorem nth_get : ∀ {ds : List D} {i : Nat} {d : D}, nth ds i = some d → ds[i]? = some d
  | [], _, _, h => by cases h
  | _ :: _, 0, _, h => h
  | _ :: r, i + 1, _, h => nth_get (ds := r) (i := i) h
theorem sr0 {K : Fz} {N : List Str} {vs : List V} {ds : List D} {M : Mm} {Hf H : Hp} (r : Rps K Hf vs ds) (m : HM K Hf M H) : SR K (st0 N ds) M Hf (start N vs) H := by
  refine ⟨m, fun i d l h => ?_⟩
  obtain ⟨v, h1, h2⟩ := r.get (nth_get h)
  refine ⟨v, ?_, h2⟩
  unfold L2.start
  have hi : i < vs.length := (List.getElem?_eq_some_iff.mp h1).1
  rw [List.getElem?_append_left (by rw [List.length_map]; exact hi), List.getElem?_map, h1]
  rfl
/-- a def by its body's reading over data -/
theorem DFn.mk' {G : Around → Prop} {P : Program} {w : World} {K : Fz} {mg : Str → Option Value} {base : Heap} {x qual : Str} {stm : Stmt} {f : Addr} {fd : FuncData} {N ps : List Str} {k : Nat} {sp : DSp} {d : DS}
    (hG : ∀ A env, G A → G (A.deeper env))
    (F : ∃ (oc : Value) (od : Option Addr) (dV kV doc pm : Value) (an : Option Addr) (cdv ct : Value) (osl : Array (Option Value)),
      fd = PySem.W.fnOf x qual (defArgs stm) (defBody stm) (defScope stm) dV kV doc pm an cdv ct ∧ K.lookup f = some ⟨oc, od, .func fd, osl⟩ ∧ PySem.W.codeIn K cdv qual = true)
    (S : FnScope N ps (defScope stm)) (len : ∀ ds M P PX, sp ds M P PX → ds.length = ps.length)
    (pure : ∀ ds M P PX, sp ds M P PX → d { nx := fun _ M' => P .non M', rt := P, bk := fun _ _ => False, ct := fun _ _ => False, ex := fun _ => PX } (st0 N ds) M)
    (hbody : ∀ (cdv : Value) (A : Around) (outer : List Env) (s : Shared) (H : Hp) (E : XK),
      Room k (A.deeper (envOfC qual (defScope stm) s.heap.objs.size f cdv)) → G (A.deeper (envOfC qual (defScope stm) s.heap.objs.size f cdv)) →
      BJ (cxOf (L2.CX P w) P w K mg base N qual (defScope stm) f cdv A outer s H E) (WB E) (defBody stm) d) :
    DFn G P w K mg base (k + 1) f fd ps sp := by
  refine Fn.mk' hG F S (fun vs H Q E h => ?_) fun cdv A outer s H vs Q E hr hg h => ⟨_, hbody cdv A outer s H E hr hg, ?_⟩
  · obtain ⟨ds, M, Hf, P, PX, r, _, h, _⟩ := h
    rw [r.len]
    exact len _ _ _ _ h
  · obtain ⟨ds, M, Hf, P, PX, r, m, h, fe, fx⟩ := h
    exact ⟨_, M, Hf, _, sr0 r m, pure ds M P PX h, ⟨fun _ M' σ' Hf' H' p e s => fe .non M' .non Hf' H' p e s.hm .non, fe, fun _ _ _ _ _ p => p.elim, fun _ _ _ _ _ p => p.elim,
      fun ρ C fs M' dd σ' Hf' H' p e s x => fx C fs M' dd Hf' H' p e s.hm x⟩⟩

/-! ### calls -/
section
variable {G : Around → Prop} {X : Cx} {W : WX'} {k : Nat} {f C : Addr} {fd : FuncData} {ps ks : List Str} {sp : Sp} {dsp : DSp} {ds : List Value} {x m : Str} {p pos apos kpos : Pos} {e o : Expr} {es : List Expr} {kws : List Keyword} {ta : TE} {t : TA}
theorem run_g {args : Args} {pins : List (Addr × Obj)} {σ : Sx} {H : Hp} {s : Shared} {Q : VK} {us : List Value} {vs : List V} (F : Fn G X.prog X.w X.K X.mg X.base k f fd ps sp) (hr : Room k X.A) (hG : G X.A) (tk : Takes X W)
    (hb : BindsTo s fd args (ps.zip us)) (I : Inv X pins σ H s) (r : Vals vs us) (h : sp vs H Q fun c d H' => W c d σ H') :
    wpAny (model X.prog X.w) X.A (call (.ref f) args.pos args.kw) (EP X pins σ Q) X.xe s := by
  refine wpAny_call (codeAny_mono (F.run X.A X.stack s H args us vs Q _ hr hG I.env0 hb r h) fun r s' hq => ?_)
  cases r with
  | error e => exact tk e s' (XE.of_call I (fun _ _ _ z => z) hq)
  | ok fl =>
    cases fl with
    | ret u => exact I.after hq
    | _ => exact False.elim hq
/-- f(e, ..), what follows, exceptions by the slots -/
def tCallG (sp : Sp) (W : WX') (t : TA) : TE := fun σ H Q => t σ H fun vs H1 => sp vs H1 Q fun c d H' => W c d σ H'
theorem pe_callG (F : Fn G X.prog X.w X.K X.mg X.base k f fd ps sp) (hr : Room k X.A) (hG : G X.A) (tk : Takes X W) (hg : Gl X x) (hm : X.mg x = some (.ref f))
    (hk : PySem.W.keepIn X.K (.ref f) = true) (hb : Binds X.K fd ps []) (ha : PA X (e :: es) t) (hdb : (x == ("__debug__" : Str)) = false := by decide)
    (he : starEach (e :: es) X.env = (false, eval e X.env) :: starEach es X.env := by rfl)
    (hpl : (backTo pos (starEach es X.env)).any (·.1) = false := by rfl) : PE X (.Call (.Name x p) (e :: es) [] pos) (tCallG sp W t) := by
  refine ⟨fun pins s σ H Q I h => wpAny_Call_Name_kw (ld_glob I hg hm ?_ hdb)⟩
  refine PySem.W.callWith_K (h₀ := X.base) I.ok.mod.kin hk
    (thn (ha.run pos pins s σ H _ I h) fun us s1 ⟨vs, H1, I1, r, q⟩ => ⟨I1.kIn, ?_⟩) he hpl
  have hl : (us ++ []).length = ps.length := by
    rw [List.append_nil, ← r.length]
    exact F.len _ _ _ _ q
  have b := hb s1 us I1.kIn hl
  rw [List.append_nil] at b
  exact run_g (args := ⟨us, []⟩) F hr hG tk b I1 r q
theorem pe_callG0 (F : Fn G X.prog X.w X.K X.mg X.base k f fd ps sp) (hr : Room k X.A) (hG : G X.A) (tk : Takes X W) (hg : Gl X x) (hm : X.mg x = some (.ref f))
    (hk : PySem.W.keepIn X.K (.ref f) = true) (hb : Binds X.K fd ps []) (hdb : (x == ("__debug__" : Str)) = false := by decide) : PE X (.Call (.Name x p) [] [] pos) (tCallG sp W tNil) := by
  refine ⟨fun pins s σ H Q I h => wpAny_Call_Name_kw (ld_glob I hg hm ?_ hdb)⟩
  have hl : (([] : List Value) ++ []).length = ps.length := F.len [] _ _ _ h
  have b := hb s [] I.kIn hl
  exact PySem.W.callWith_K0 I.kIn hk (run_g (args := ⟨[], []⟩) (us := []) F hr hG tk b I .nil h)
/-- with keywords; first: values by their places -/
theorem pe_callGK {tk' : TA} {g : List Value → List Value → List Value} {gV : List V → List V → List V} (F : Fn G X.prog X.w X.K X.mg X.base k f fd ps sp) (hr : Room k X.A) (hG : G X.A) (tk : Takes X W)
    (hg : Gl X x) (hm : X.mg x = some (.ref f)) (hk : PySem.W.keepIn X.K (.ref f) = true) (hb : KBinds X.K fd ps ks g gV) (ha : PA X (e :: es) t) (hkw : PK X kws tk')
    (hall : (backToKw pos (keywordEach kws X.env)).all (·.1.isSome) = true := by rfl) (hks : (backToKw pos (keywordEach kws X.env)).filterMap (·.1) = ks := by rfl)
    (hdb : (x == ("__debug__" : Str)) = false := by decide) (he : starEach (e :: es) X.env = (false, eval e X.env) :: starEach es X.env := by rfl)
    (hpl : ((backTo pos (starEach (e :: es) X.env)).any (·.1) || (backToKw pos (keywordEach kws X.env)).any (·.1.isNone)) = false := by rfl) :
    PE X (.Call (.Name x p) (e :: es) kws pos) (fun σ H Q => t σ H fun vs H1 => tk' σ H1 fun zs H2 => sp (gV vs zs) H2 Q fun c d H' => W c d σ H') := by
  refine ⟨fun pins s σ H Q I h => wpAny_Call_Name_kw (ld_glob I hg hm ?_ hdb)⟩
  refine PySem.W.callWith_KW (h₀ := X.base) I.ok.mod.kin hk hall
    (thn (ha.run pos pins s σ H _ I h) fun us s1 ⟨vs, H1, I1, r, q⟩ => ?_) hpl he
  refine thn (hkw.run pos pins s1 σ H1 _ I1 q) fun ws s2 ⟨zs, H2, I2, rz, q2⟩ => ⟨I2.kIn, ?_⟩
  rw [hks]
  have r2 := hb.rel r rz
  have hl : (g us ws).length = ps.length := by
    rw [← r2.length]
    exact F.len _ _ _ _ q2
  exact run_g (args := ⟨us, ks.zip ws⟩) F hr hG tk (hb.to s2 us ws I2.kIn hl) I2 r2 q2
def dCall (sp : DSp) (d : DA) : DE := fun ρ M P PX => d ρ M (fun xs M1 => sp xs M1 P PX) PX
theorem callj {K : Fz} {W : WX'} {d : DA} : ∀ σ H Q, liE K W (dCall dsp d) σ H Q → tCallG (liSp K dsp) W (liA K W d) σ H Q := fun σ H Q ⟨ρ, M, Hf, P, PX, s, d, fe, fx⟩ =>
  ⟨ρ, M, Hf, _, PX, s, d, fun xs M1 vs Hf1 H1 d1 e1 m1 r1 => ⟨xs, M1, Hf1, P, PX, r1, m1, d1, fe.go e1, fun C fs M' dd Hf' H' p e m x => fx C fs M' dd Hf' H' p (e1.trans e) m x⟩, fx⟩
theorem ej_call {d : DA} (F : DFn G X.prog X.w X.K X.mg X.base k f fd ps dsp) (hr : Room k X.A) (hG : G X.A) (tk : Takes X W) (hg : Gl X x) (hm : X.mg x = some (.ref f))
    (hk : PySem.W.keepIn X.K (.ref f) = true) (hb : Binds X.K fd ps []) (ha : AJ X W (e :: es) d) (hdb : (x == ("__debug__" : Str)) = false := by decide)
    (he : starEach (e :: es) X.env = (false, eval e X.env) :: starEach es X.env := by rfl)
    (hpl : (backTo pos (starEach es X.env)).any (·.1) = false := by rfl) : EJ X W (.Call (.Name x p) (e :: es) [] pos) (dCall dsp d) := pe_weak (pe_callG F hr hG tk hg hm hk hb ha hdb he hpl) callj
theorem ej_call0 (F : DFn G X.prog X.w X.K X.mg X.base k f fd ps dsp) (hr : Room k X.A) (hG : G X.A) (tk : Takes X W) (hg : Gl X x) (hm : X.mg x = some (.ref f))
    (hk : PySem.W.keepIn X.K (.ref f) = true) (hb : Binds X.K fd ps []) (hdb : (x == ("__debug__" : Str)) = false := by decide) : EJ X W (.Call (.Name x p) [] [] pos) (dCall dsp dNil) :=
  pe_weak (pe_callG0 F hr hG tk hg hm hk hb hdb) fun σ H Q ⟨ρ, M, Hf, P, PX, s, d, fe, fx⟩ => ⟨[], M, Hf, P, PX, .nil, s.hm, d, fe, fx⟩
end
end DL

/-! DL: keywords, built-ins, methods -/
namespace DL
open PySem PySem.Spec PyProof.Rows L2
/-! ### keywords -/
def pick {α : Type} (π : List Nat) (xs : List α) : List α := π.filterMap fun i => xs[i]?
theorem Rps.pick {K : Fz} {H : Hp} {vs : List V} {ds : List D} (r : Rps K H vs ds) : ∀ π : List Nat, Rps K H (pick π vs) (pick π ds)
  | [] => .nil
  | i :: π => by
    have ih := Rps.pick r π
    unfold DL.pick at ih ⊢
    rw [List.filterMap_cons, List.filterMap_cons]
    cases e : ds[i]? with
    | none =>
      have : vs[i]? = none := by
        rw [List.getElem?_eq_none_iff] at e ⊢
        rw [r.len]
        exact e
      rw [this]
      exact ih
    | some d =>
      obtain ⟨v, h1, h2⟩ := r.get e
      rw [h1]
      exact .cons h2 ih
theorem vals_pick {vs : List V} {us : List Value} (r : Vals vs us) : ∀ π : List Nat, Vals (pick π vs) (pick π us)
  | [] => .nil
  | i :: π => by
    have ih := vals_pick r π
    unfold DL.pick at ih ⊢
    rw [List.filterMap_cons, List.filterMap_cons]
    cases e : vs[i]? with
    | none =>
      rw [r.none_of e]
      exact ih
    | some d =>
      obtain ⟨v, h1, h2⟩ := r.get e
      rw [h1]
      exact .cons h2 ih
/-- how keywords bind: n values by their places, then those named ks; π: where each parameter's value is among all of them -/
def KwB (fd : FuncData) (ps : List Str) (n : Nat) (ks : List Str) (π : List Nat) : Prop :=
  ∀ (s : Shared) (us ws : List Value), us.length = n → ws.length = ks.length → BindsTo s fd ⟨us, ks.zip ws⟩ (ps.zip (pick π (us ++ ws)))
def liK (X : Cx) (W : WX') (kws : List Keyword) (d : DA) : Prop := PK X kws (liA X.K W d)
theorem pk_weak {X : Cx} {es : List Keyword} {t t' : TA} (h : PK X es t) (w : ∀ σ H Q, t' σ H Q → t σ H Q) : PK X es t' := ⟨fun pos pins s σ H Q I q => h.run pos pins s σ H Q I (w σ H Q q)⟩
section
variable {X : Cx} {W : WX'} {e : Expr} {nm : Option Str} {kpos : Pos} {kws : List Keyword} {da : DE} {d : DA}
theorem kj_nil : liK X W [] dNil := pk_weak pk_nil fun σ H Q ⟨ρ, M, Hf, P, PX, s, d, fe, fx⟩ => fe [] M [] Hf H d (Ext.refl _) s.hm .nil
theorem kj_cons (ha : EJ X W e da) (hr : liK X W kws d) : liK X W (⟨nm, e, kpos⟩ :: kws) (dCons da d) :=
  pk_weak (pk_cons ha hr) fun σ H Q ⟨ρ, M, Hf, P, PX, s, d, fe, fx⟩ => ⟨ρ, M, Hf, _, PX, s, d, fun x M1 v Hf1 H1 d1 e1 m1 r1 => ⟨ρ, M1, Hf1, _, PX, s.go e1 m1, d1, fun xs M2 vs Hf2 H2 d2 e2 m2 r2 =>
    fe _ M2 _ Hf2 H2 d2 (e1.trans e2) m2 (.cons (r1.mono e2) r2), fx.go e1⟩, fx⟩
end
def dCallK (sp : DSp) (n m : Nat) (π : List Nat) (d dk : DA) : DE := fun ρ M P PX => d ρ M (fun xs M1 => dk ρ M1 (fun ys M2 => xs.length = n ∧ ys.length = m ∧ sp (pick π (xs ++ ys)) M2 P PX) PX) PX
section
variable {G : Around → Prop} {X : Cx} {W : WX'} {k n : Nat} {f : Addr} {fd : FuncData} {ps ks : List Str} {dsp : DSp} {π : List Nat} {x : Str} {p pos : Pos} {e : Expr} {es : List Expr} {kws : List Keyword} {d dk : DA}
theorem ej_callK (F : DFn G X.prog X.w X.K X.mg X.base k f fd ps dsp) (hr : Room k X.A) (hG : G X.A) (tk : Takes X W)
    (hg : Gl X x) (hm : X.mg x = some (.ref f)) (hk : PySem.W.keepIn X.K (.ref f) = true) (hb : KwB fd ps n ks π) (ha : AJ X W (e :: es) d) (hkw : liK X W kws dk)
    (hall : (backToKw pos (keywordEach kws X.env)).all (·.1.isSome) = true := by rfl) (hks : (backToKw pos (keywordEach kws X.env)).filterMap (·.1) = ks := by rfl)
    (hdb : (x == ("__debug__" : Str)) = false := by decide) (he : starEach (e :: es) X.env = (false, eval e X.env) :: starEach es X.env := by rfl)
    (hpl : ((backTo pos (starEach (e :: es) X.env)).any (·.1) || (backToKw pos (keywordEach kws X.env)).any (·.1.isNone)) = false := by rfl) :
    EJ X W (.Call (.Name x p) (e :: es) kws pos) (dCallK dsp n ks.length π d dk) := by
  refine ⟨fun pins s σ H Q I ⟨ρ, M, Hf, P, PX, sr, d, fe, fx⟩ => wpAny_Call_Name_kw (ld_glob I hg hm ?_ hdb)⟩
  refine PySem.W.callWith_KW (h₀ := X.base) I.ok.mod.kin hk hall
    (thn (ha.run pos pins s σ H (fun vs H1 => ∃ M1 Hf1 xs, Ext Hf Hf1 ∧ HM X.K Hf1 M1 H1 ∧ Rps X.K Hf1 vs xs ∧ dk ρ M1 (fun ys M2 => xs.length = n ∧ ys.length = ks.length ∧ dsp (pick π (xs ++ ys)) M2 P PX) PX) I
      ⟨ρ, M, Hf, _, PX, sr, d, fun xs M1 vs Hf1 H1 d1 e1 m1 r1 => ⟨M1, Hf1, xs, e1, m1, r1, d1⟩, fx⟩) fun us s1 ⟨vs, H1, I1, r, M1, Hf1, xs, e1, m1, r1, d1⟩ => ?_) hpl he
  refine thn (hkw.run pos pins s1 σ H1 (fun zs H2 => ∃ M2 Hf2 ys, Ext Hf1 Hf2 ∧ HM X.K Hf2 M2 H2 ∧ Rps X.K Hf2 zs ys ∧ (xs.length = n ∧ ys.length = ks.length ∧ dsp (pick π (xs ++ ys)) M2 P PX)) I1
      ⟨ρ, M1, Hf1, _, PX, sr.go e1 m1, d1, fun ys M2 zs Hf2 H2 d2 e2 m2 r2 => ⟨M2, Hf2, ys, e2, m2, r2, d2⟩, fx.go e1⟩) fun ws s2 ⟨zs, H2, I2, rz, M2, Hf2, ys, e2, m2, r2, l1, l2, d2⟩ => ⟨I2.kIn, ?_⟩
  rw [hks]
  have rr : Rps X.K Hf2 (pick π (vs ++ zs)) (pick π (xs ++ ys)) := ((r1.mono e2).app r2).pick π
  have b := hb s2 us ws (by rw [← r.length, r1.len]; exact l1) (by rw [← rz.length, r2.len]; exact l2)
  exact run_g (args := ⟨us, ks.zip ws⟩) F hr hG tk b I2 (vals_pick (r.append rz) π) ⟨_, M2, Hf2, P, PX, rr, m2, d2, fe.go (e1.trans e2), fun C fs M' dd Hf' H' p e m x => fx C fs M' dd Hf' H' p ((e1.trans e2).trans e) m x⟩
theorem ej_callK0 (F : DFn G X.prog X.w X.K X.mg X.base k f fd ps dsp) (hr : Room k X.A) (hG : G X.A) (tk : Takes X W)
    (hg : Gl X x) (hm : X.mg x = some (.ref f)) (hk : PySem.W.keepIn X.K (.ref f) = true) (hb : KwB fd ps 0 ks π) (hkw : liK X W kws dk)
    (hall : (backToKw pos (keywordEach kws X.env)).all (·.1.isSome) = true := by rfl) (hks : (backToKw pos (keywordEach kws X.env)).filterMap (·.1) = ks := by rfl)
    (hdb : (x == ("__debug__" : Str)) = false := by decide)
    (hpl : ((backTo pos (starEach [] X.env)).any (·.1) || (backToKw pos (keywordEach kws X.env)).any (·.1.isNone)) = false := by rfl) :
    EJ X W (.Call (.Name x p) [] kws pos) (dCallK dsp 0 ks.length π dNil dk) := by
  refine ⟨fun pins s σ H Q I ⟨ρ, M, Hf, P, PX, sr, d, fe, fx⟩ => wpAny_Call_Name_kw (ld_glob I hg hm ?_ hdb)⟩
  refine PySem.W.callWith_KW0 (h₀ := X.base) I.ok.mod.kin hk hall ?_ hpl
  refine thn (hkw.run pos pins s σ H (fun zs H2 => ∃ M2 Hf2 ys, Ext Hf Hf2 ∧ HM X.K Hf2 M2 H2 ∧ Rps X.K Hf2 zs ys ∧ (([] : List D).length = 0 ∧ ys.length = ks.length ∧ dsp (pick π ([] ++ ys)) M2 P PX)) I
      ⟨ρ, M, Hf, _, PX, sr, d, fun ys M2 zs Hf2 H2 d2 e2 m2 r2 => ⟨M2, Hf2, ys, e2, m2, r2, d2⟩, fx⟩) fun ws s2 ⟨zs, H2, I2, rz, M2, Hf2, ys, e2, m2, r2, l1, l2, d2⟩ => ⟨I2.kIn, ?_⟩
  rw [hks]
  have rr : Rps X.K Hf2 (pick π ([] ++ zs)) (pick π ([] ++ ys)) := (Rps.nil.app r2).pick π
  have b := hb s2 [] ws rfl (by rw [← rz.length, r2.len]; exact l2)
  exact run_g (args := ⟨[], ks.zip ws⟩) F hr hG tk b I2 (vals_pick (Vals.append (xs := []) (us := []) .nil rz) π) ⟨_, M2, Hf2, P, PX, rr, m2, d2, fe.go e2, fun C fs M' dd Hf' H' p e m x => fx C fs M' dd Hf' H' p (e2.trans e) m x⟩
end

/-! ### built-ins by values -/
abbrev RDL := List D → Mm → DP → Prop
def CJ (K : Fz) (r : List V → Hp → VK → Prop) (rD : RDL) : Prop := ∀ {xs : List D} {vs : List V} {M : Mm} {Hf H : Hp} {P : DP} {Q : VK}, HM K Hf M H → Rps K Hf vs xs → rD xs M P → FinE K Hf P Q → r vs H Q
def dCB (r : RDL) (d : DA) : DE := fun ρ M P PX => d ρ M (fun xs M1 => r xs M1 P) PX
theorem cbj {K : Fz} {W : WX'} {r : List V → Hp → VK → Prop} {rD : RDL} {d : DA} (j : CJ K r rD) : ∀ σ H Q, liE K W (dCB rD d) σ H Q → tCB r (liA K W d) σ H Q := fun σ H Q ⟨ρ, M, Hf, P, PX, s, d, fe, fx⟩ =>
  ⟨ρ, M, Hf, _, PX, s, d, fun xs M1 vs Hf1 H1 d1 e1 m1 r1 => j m1 r1 d1 (fe.go e1), fx⟩
section
variable {X : Cx} {W : WX'} {x : Str} {p pos : Pos} {e : Expr} {es : List Expr} {d : DA} {id T : String} {r : List V → Hp → VK → Prop} {rD : RDL}
theorem ej_cb (hc : CallR X (.builtin id) r) (j : CJ X.K r rD) (hm : X.mg x = none) (ha : AJ X W (e :: es) d) (hg : Gl X x := by rfl) (hv : bootBuiltins x = some (.builtin id) := by decide +kernel) (hn : x ≠ "__name__" := by decide) (hdb : (x == ("__debug__" : Str)) = false := by decide)
    (he : starEach (e :: es) X.env = (false, eval e X.env) :: starEach es X.env := by rfl) (hpl : (backTo pos (starEach es X.env)).any (·.1) = false := by rfl) : EJ X W (.Call (.Name x p) (e :: es) [] pos) (dCB rD d) := pe_weak (pe_callB hc hg hm hv ha hn hdb he hpl) (cbj j)
theorem ej_ct (hc : CallR X (.type T) r) (j : CJ X.K r rD) (hm : X.mg x = none) (ha : AJ X W (e :: es) d) (hg : Gl X x := by rfl) (hv : bootBuiltins x = some (.type T) := by decide +kernel) (hn : x ≠ "__name__" := by decide) (hdb : (x == ("__debug__" : Str)) = false := by decide)
    (he : starEach (e :: es) X.env = (false, eval e X.env) :: starEach es X.env := by rfl) (hpl : (backTo pos (starEach es X.env)).any (·.1) = false := by rfl) : EJ X W (.Call (.Name x p) (e :: es) [] pos) (dCB rD d) := pe_weak (pe_callTy hc hg hm hv ha hn hdb he hpl) (cbj j)
end
/-- len -/
def rLenD : RDL := fun xs M P => match xs with
  | [.tup ds] => P (.int ds.length) M
  | [.str z] => z.length ≤ sizeLine ∧ P (.int z.length) M
  | [x] => (match asL M x with
    | some ds => P (.int ds.length) M
    | none => False)
  | _ => False
theorem cj_len {K : Fz} : CJ K (fun xs H Q => (∃ p ys, xs = [.ref p] ∧ (SqL K H p ys ∨ SqT K H p ys) ∧ Q (.int ys.length) H) ∨ ∃ z, xs = [.str z] ∧ z.length ≤ sizeLine ∧ Q (.int z.length) H) rLenD := fun {xs vs M Hf H P Q} m r d f => by
  unfold rLenD at d
  split at d
  · cases r with
    | cons h t =>
      cases t
      obtain ⟨a, ws, rfl, ha, ra⟩ := tup_ok m h
      refine .inl ⟨a, ws, rfl, .inr ha, ?_⟩
      rw [ra.len]
      exact f _ _ _ _ _ d (Ext.refl _) m (.int _)
  · cases r with
    | cons h t =>
      cases t
      cases h
      exact .inr ⟨_, rfl, d.1, f _ _ _ _ _ d.2 (Ext.refl _) m (.int _)⟩
  · split at d
    · rename_i e
      cases r with
      | cons h t =>
        cases t
        obtain ⟨a, ws, rfl, ha, ra⟩ := asL_ok m h e
        refine .inl ⟨a, ws, rfl, .inl ha, ?_⟩
        rw [ra.len]
        exact f _ _ _ _ _ d (Ext.refl _) m (.int _)
    · exact d.elim
  · exact d.elim
/-- int -/
def rIntD : RDL := fun xs M P => match xs with
  | [.int i] => P (.int i) M
  | [.bl b] => P (.int (if b then 1 else 0)) M
  | _ => False
theorem cj_int {K : Fz} : CJ K (fun xs H Q => (∃ i, xs = [.int i] ∧ Q (.int i) H) ∨ ∃ k, xs = [.bl k] ∧ Q (.int (if k then 1 else 0)) H) rIntD := fun {xs vs M Hf H P Q} m r d f => by
  unfold rIntD at d
  split at d
  · cases r with
    | cons h t =>
      cases t
      cases h
      exact .inl ⟨_, rfl, f _ _ _ _ _ d (Ext.refl _) m (.int _)⟩
  · cases r with
    | cons h t =>
      cases t
      cases h
      exact .inr ⟨_, rfl, f _ _ _ _ _ d (Ext.refl _) m (.int _)⟩
  · exact d.elim
/-- tuple, list -/
def rTupD : RDL := fun xs M P => match xs with
  | [.tup ds] => P (.tup ds) M
  | [x] => (match asL M x with
    | some ds => P (.tup ds) M
    | none => False)
  | _ => False
theorem cj_tup {K : Fz} : CJ K (fun xs H Q => ∃ p ys, xs = [.ref p] ∧ ((SqL K H p ys ∧ ∀ l, H l = none → Q (.ref l) (upd H l (.tup ys))) ∨ (SqT K H p ys ∧ Q (.ref p) H))) rTupD := fun {xs vs M Hf H P Q} m r d f => by
  unfold rTupD at d
  split at d
  · cases r with
    | cons h t =>
      cases t
      obtain ⟨a, ws, rfl, ha, ra⟩ := tup_ok m h
      exact ⟨a, ws, rfl, .inr ⟨ha, f _ _ _ _ _ d (Ext.refl _) m h⟩⟩
  · split at d
    · rename_i e
      cases r with
      | cons h t =>
        cases t
        obtain ⟨a, ws, rfl, ha, ra⟩ := asL_ok m h e
        exact ⟨a, ws, rfl, .inl ⟨ha, fun l hl => f.newF m d hl fun H' h e => .tup (SqT.of h) (ra.mono e)⟩⟩
    · exact d.elim
  · exact d.elim
def rListD : RDL := fun xs M P => match xs with
  | [.tup ds] => P (.lst ds) M
  | [x] => (match asL M x with
    | some ds => P (.lst ds) M
    | none => False)
  | _ => False
theorem cj_list {K : Fz} : CJ K (fun xs H Q => ∃ p ys, xs = [.ref p] ∧ (SqL K H p ys ∨ SqT K H p ys) ∧ ∀ l, H l = none → Q (.ref l) (upd H l (.lst ys))) rListD := fun {xs vs M Hf H P Q} m r d f => by
  unfold rListD at d
  split at d
  · cases r with
    | cons h t =>
      cases t
      obtain ⟨a, ws, rfl, ha, ra⟩ := tup_ok m h
      exact ⟨a, ws, rfl, .inr ha, fun l hl => f.newF m d hl fun H' h e => .lst h (ra.mono e)⟩
  · split at d
    · rename_i e
      cases r with
      | cons h t =>
        cases t
        obtain ⟨a, ws, rfl, ha, ra⟩ := asL_ok m h e
        exact ⟨a, ws, rfl, .inl ha, fun l hl => f.newF m d hl fun H' h e => .lst h (ra.mono e)⟩
    · exact d.elim
  · exact d.elim
section
variable {X : Cx} {W : WX'} {pos p : Pos} {e : Expr} {es : List Expr} {d : DA}
theorem ej_len (hm : X.mg "len" = none) (ha : AJ X W [e] d) (hg : Gl X "len" := by rfl) (he : starEach [e] X.env = (false, eval e X.env) :: starEach [] X.env := by rfl) : EJ X W (.Call (.Name "len" p) [e] [] pos) (dCB rLenD d) :=
  ej_cb (CallR.or call_len_seq call_len_str) cj_len hm ha hg (by decide +kernel) (by decide) (by decide) he
theorem ej_intc (hm : X.mg "int" = none) (ha : AJ X W [e] d) (hg : Gl X "int" := by rfl) (he : starEach [e] X.env = (false, eval e X.env) :: starEach [] X.env := by rfl) : EJ X W (.Call (.Name "int" p) [e] [] pos) (dCB rIntD d) :=
  ej_ct call_int1 cj_int hm ha hg (by decide +kernel) (by decide) (by decide) he
theorem ej_tuple (hm : X.mg "tuple" = none) (ha : AJ X W [e] d) (hg : Gl X "tuple" := by rfl) (he : starEach [e] X.env = (false, eval e X.env) :: starEach [] X.env := by rfl) : EJ X W (.Call (.Name "tuple" p) [e] [] pos) (dCB rTupD d) :=
  ej_ct call_tuple_of cj_tup hm ha hg (by decide +kernel) (by decide) (by decide) he
theorem ej_list (hm : X.mg "list" = none) (ha : AJ X W [e] d) (hg : Gl X "list" := by rfl) (he : starEach [e] X.env = (false, eval e X.env) :: starEach [] X.env := by rfl) : EJ X W (.Call (.Name "list" p) [e] [] pos) (dCB rListD d) :=
  ej_ct call_list_of cj_list hm ha hg (by decide +kernel) (by decide) (by decide) he
end
/-! ### repr -/
mutual
theorem noDict : ∀ d : D, (py d).hasDict = false
  | .non | .bl _ | .int _ | .str _ | .ty _ | .ref _ | .scr _ | .obj _ _ => rfl
  | .tup ds => noDicts ds
  | .lst ds => noDicts ds
theorem noDicts : ∀ ds : List D, PyData.hasDictAll (pys ds) = false
  | [] => rfl
  | d :: ds => by
    show ((py d).hasDict || PyData.hasDictAll (pys ds)) = false
    rw [noDict d, noDicts ds]
    rfl
end
structure OkR (x : D) : Prop where
  plain : plain x = true
  show_ : (py x).showable = true
  size : (py x).shown.length ≤ sizeLine
  deep : (py x).depth ≤ 60
def rReprD : RDL := fun xs M P => match xs with
  | [x] => OkR (dr M x) ∧ P (.str (py (dr M x)).shown) M
  | _ => False
def rReprV (K : Fz) : List V → Hp → VK → Prop := fun xs H Q => ∃ x d, xs = [x] ∧ Dp K H x d ∧ d.showable = true ∧ d.hasDict = false ∧ d.shown.length ≤ sizeLine ∧ d.depth ≤ 60 ∧ Q (.str d.shown) H
theorem call_reprJ {X : Cx} (hG : GG X.A) (hu : X.A.units + 64 < cLine) : CallR X (.builtin "repr") (rReprV X.K) := by
  intro pins s σ H xs us Q I r h
  obtain ⟨x, d, rfl, hd, hs, hn, hz, hp, q⟩ := h
  cases r with
  | cons rx rn =>
    cases rn
    cases hd with
    | non =>
      cases rx
      exact PySem.P.repr_of_none ⟨.str _, H, I.tok _, ⟨_, rfl⟩, q⟩
    | bl b =>
      cases rx
      exact PySem.P.repr_of_bool ⟨.str _, H, I.tok _, ⟨_, rfl⟩, q⟩
    | int i =>
      obtain ⟨t, rfl⟩ := rx
      exact PySem.P.repr_of_int (by simpa [PyData.showable] using hs) ⟨.str _, H, I.tok _, ⟨_, rfl⟩, q⟩
    | str z =>
      obtain ⟨t, rfl⟩ := rx
      exact PySem.P.repr_of_str ⟨.str _, H, I.tok _, ⟨_, rfl⟩, q⟩ hz
    | lst h1 h2 =>
      obtain ⟨as, rd⟩ := Dp.reads I _ _ _ (.lst h1 h2) rx
      cases rx
      exact repr_of_reads' rd hs (fun z => by rw [hn] at z; cases z) hG (by omega) (fun _ _ e => e) (fun h' u tk hk => ⟨.str _, H, I.kept (t' := tk) hk, ⟨_, rfl⟩, q⟩) hz
    | tup h1 h2 =>
      obtain ⟨as, rd⟩ := Dp.reads I _ _ _ (.tup h1 h2) rx
      cases rx
      exact repr_of_reads' rd hs (fun z => by rw [hn] at z; cases z) hG (by omega) (fun _ _ e => e) (fun h' u tk hk => ⟨.str _, H, I.kept (t' := tk) hk, ⟨_, rfl⟩, q⟩) hz
theorem cj_repr {K : Fz} : CJ K (rReprV K) rReprD := fun {xs vs M Hf H P Q} m r d f => by
  unfold rReprD at d
  split at d
  · cases r with
    | cons h t =>
      cases t
      exact ⟨_, _, rfl, (dr_ok m h).dp d.1.plain, d.1.show_, noDict _, d.1.size, d.1.deep, f _ _ _ _ _ d.2 (Ext.refl _) m (.str _)⟩
  · exact d.elim
section
variable {X : Cx} {W : WX'} {pos p : Pos} {e : Expr} {es : List Expr} {d : DA}
theorem ej_repr (hG : GG X.A) (hu : X.A.units + 64 < cLine) (hm : X.mg "repr" = none) (ha : AJ X W [e] d) (hg : Gl X "repr" := by rfl) (he : starEach [e] X.env = (false, eval e X.env) :: starEach [] X.env := by rfl) : EJ X W (.Call (.Name "repr" p) [e] [] pos) (dCB rReprD d) :=
  ej_cb (call_reprJ hG hu) cj_repr hm ha hg (by decide +kernel) (by decide) (by decide) he
end

/-! ### methods of lists -/
def MJ (K : Fz) (T : String) (r : V → List V → Hp → VK → Prop) (rD : D → List D → Mm → DP → Prop) : Prop := ∀ {x : D} {v : V} {xs : List D} {vs : List V} {M : Mm} {Hf H : Hp} {P : DP} {Q : VK}, HM K Hf M H → Rp K Hf v x → Rps K Hf vs xs → rD x xs M P → FinE K Hf P Q → r v vs H Q
/-- what is known of the receiver's kind ahead of the arguments -/
def TyJ (K : Fz) (T : String) (kD : D → Mm → Prop) : Prop := ∀ {x : D} {v : V} {M : Mm} {Hf H : Hp}, HM K Hf M H → Rp K Hf v x → kD x M → tyV K T v H
def dBM (kD : D → Mm → Prop) (r : D → List D → Mm → DP → Prop) (dx : DE) (d : DA) : DE := fun ρ M P PX => dx ρ M (fun x M1 => kD x M1 ∧ d ρ M1 (fun xs M2 => r x xs M2 P) PX) PX
section
variable {X : Cx} {W : WX'} {cpos apos : Pos} {o e : Expr} {es : List Expr} {dx : DE} {d : DA} {T id : String} {name : Str} {r : V → List V → Hp → VK → Prop} {rD : D → List D → Mm → DP → Prop} {kD : D → Mm → Prop}
theorem bmj (j : MJ X.K T r rD) (jt : TyJ X.K T kD) : ∀ σ H Q, liE X.K W (dBM kD rD dx d) σ H Q → tBM X.K T r (liE X.K W dx) (liA X.K W d) σ H Q := fun σ H Q ⟨ρ, M, Hf, P, PX, s, d, fe, fx⟩ =>
  ⟨ρ, M, Hf, _, PX, s, d, fun x M1 v Hf1 H1 d1 e1 m1 r1 => ⟨jt m1 r1 d1.1, ρ, M1, Hf1, _, PX, s.go e1 m1, d1.2, fun xs M2 vs Hf2 H2 d2 e2 m2 r2 => j m2 (r1.mono e2) r2 d2 (fe.go (e1.trans e2)), fx.go e1⟩, fx⟩
theorem ej_bm (pa : PlainAttrs T) (slot : Slot T name id) (hty : typeOf (.builtin id) = pure (.type "method_descriptor")) (hm : MtR X id r) (j : MJ X.K T r rD) (jt : TyJ X.K T kD) (ho : EJ X W o dx) (ha : AJ X W (e :: es) d)
    (hbase : attributeBase o name X.env (eval o X.env) = eval o X.env := by rfl)
    (hfew : ((backTo cpos (starEach (e :: es) X.env)).all (fun x => !x.1) && (backToKw cpos (keywordEach [] X.env)).all (fun x => x.1.isSome)
      && decide ((e :: es).length + ([] : List Keyword).length + (if ([] : List Keyword).isEmpty then 0 else 1) < 30)) = true := by rfl)
    (hline : (apos.endLine == cpos.line) = true := by rfl) (hs : starEach (e :: es) X.env = (false, eval e X.env) :: starEach es X.env := by rfl)
    (hplain : (backTo cpos (starEach es X.env)).any (·.1) = false := by rfl) : EJ X W (.Call (.Attribute o name apos) (e :: es) [] cpos) (dBM kD rD dx d) :=
  pe_weak (pe_bm pa slot hty hm ho ha hbase hfew hline hs hplain) (bmj j jt)
theorem ej_bm0 (pa : PlainAttrs T) (slot : Slot T name id) (hty : typeOf (.builtin id) = pure (.type "method_descriptor")) (hm : MtR X id r) (j : MJ X.K T r rD) (jt : TyJ X.K T kD) (ho : EJ X W o dx)
    (hbase : attributeBase o name X.env (eval o X.env) = eval o X.env := by rfl) (hline : (apos.endLine == cpos.line) = true := by rfl) : EJ X W (.Call (.Attribute o name apos) [] [] cpos) (dBM kD rD dx dNil) :=
  pe_weak (pe_bm0 pa slot hty hm ho hbase hline) fun σ H Q ⟨ρ, M, Hf, P, PX, s, d, fe, fx⟩ =>
    ⟨ρ, M, Hf, _, PX, s, d, fun x M1 v Hf1 H1 d1 e1 m1 r1 => ⟨jt m1 r1 d1.1, j m1 r1 .nil d1.2 (fe.go e1)⟩, fx⟩
end
/-- a list of any sort -/
def kList : D → Mm → Prop := fun x M => (asL M x).isSome = true
theorem ty_list {K : Fz} : TyJ K "list" kList := fun {x v M Hf H} m r k => by
  obtain ⟨ds, e⟩ := Option.isSome_iff_exists.mp k
  obtain ⟨a, vs, rfl, h, _⟩ := asL_ok m r e
  exact .inl ⟨rfl, vs, h⟩
/-- the list at a, which may change -/
def rAppD : D → List D → Mm → DP → Prop := fun x xs M P => match x, xs with
  | .ref a, [y] => (match M a with
    | some (.lst ds) => ds.length < sizeLine ∧ P .non (um M a (.lst (ds ++ [y])))
    | _ => False)
  | _, _ => False
theorem mj_append {K : Fz} : MJ K "list" rAppend rAppD := fun {x v xs vs M Hf H P Q} m r rs d f => by
  unfold rAppD at d
  split at d
  · split at d
    · rename_i e
      cases r
      cases rs with
      | cons h t =>
        cases t
        obtain ⟨_, ws, q1, q2⟩ := m.mu _ _ e
        refine ⟨_, ws, _, rfl, rfl, q1, by rw [q2.len]; exact d.1, ?_⟩
        exact f _ _ _ _ _ d.2 (Ext.refl _) (m.write e q1 (fun x z => by cases z) ⟨_, upd_same, q2.app (.cons h .nil)⟩) .non
    · exact d.elim
  · exact d.elim
def rPopD : D → List D → Mm → DP → Prop := fun x xs M P => match x, xs with
  | .ref a, [] => (match M a with
    | some (.lst ds) => (match ds[ds.length - 1]? with
      | some y => P y (um M a (.lst ds.dropLast))
      | none => False)
    | _ => False)
  | _, _ => False
theorem mj_pop {K : Fz} : MJ K "list" rPop rPopD := fun {x v xs vs M Hf H P Q} m r rs d f => by
  unfold rPopD at d
  split at d
  · split at d
    · rename_i e
      split at d
      · rename_i e2
        cases r
        cases rs
        obtain ⟨_, ws, q1, q2⟩ := m.mu _ _ e
        obtain ⟨v, h1, h2⟩ := q2.get e2
        refine ⟨_, ws, v, rfl, rfl, q1, by rw [q2.len]; exact h1, ?_⟩
        exact f _ _ _ _ _ d (Ext.refl _) (m.write e q1 (fun x z => by cases z) ⟨_, upd_same, q2.dropLast⟩) h2
      · exact d.elim
    · exact d.elim
  · exact d.elim
section
variable {X : Cx} {W : WX'} {cpos apos : Pos} {o e : Expr} {dx : DE} {d : DA}
theorem ej_append (ho : EJ X W o dx) (ha : AJ X W [e] d) (hbase : attributeBase o "append" X.env (eval o X.env) = eval o X.env := by rfl)
    (hfew : ((backTo cpos (starEach [e] X.env)).all (fun x => !x.1) && (backToKw cpos (keywordEach [] X.env)).all (fun x => x.1.isSome)
      && decide ([e].length + ([] : List Keyword).length + (if ([] : List Keyword).isEmpty then 0 else 1) < 30)) = true := by rfl)
    (hline : (apos.endLine == cpos.line) = true := by rfl) (hs : starEach [e] X.env = (false, eval e X.env) :: starEach [] X.env := by rfl) : EJ X W (.Call (.Attribute o "append" apos) [e] [] cpos) (dBM kList rAppD dx d) :=
  ej_bm PySem.F.plainAttrs_list PySem.F.slot_list_append PySem.F.type_list_append mt_append mj_append ty_list ho ha hbase hfew hline hs
theorem ej_pop (ho : EJ X W o dx) (hbase : attributeBase o "pop" X.env (eval o X.env) = eval o X.env := by rfl)
    (hline : (apos.endLine == cpos.line) = true := by rfl) : EJ X W (.Call (.Attribute o "pop" apos) [] [] cpos) (dBM kList rPopD dx dNil) :=
  ej_bm0 PySem.F.plainAttrs_list PySem.F.slot_list_pop PySem.F.type_list_pop mt_pop mj_pop ty_list ho hbase hline
end
end DL

/-! DL: statements, targets, loops, comprehensions -/
namespace DL
open PySem PySem.Spec PyProof.Rows L2
/-! ### blocks -/
def dSeq (d e : DS) : DS := fun DD ρ M => d { DD with nx := e DD } ρ M
def dNext : DS := fun DD ρ M => DD.nx ρ M
def dBrk : DS := fun DD ρ M => DD.bk ρ M
def dCnt : DS := fun DD ρ M => DD.ct ρ M
def dRet (d : DE) : DS := fun DD ρ M => d ρ M DD.rt (DD.ex ρ)
def dRetN : DS := fun DD ρ M => DD.rt .non M
def dDrop (d : DE) : DS := fun DD ρ M => d ρ M (fun _ M1 => DD.nx ρ M1) (DD.ex ρ)
def dIf (c : DT) (d e : DS) : DS := fun DD ρ M => c ρ M (fun b M1 => match b with
  | true => d DD ρ M1
  | false => e DD ρ M1) (DD.ex ρ)
def dNever : DS := fun _ _ _ => False
theorem FinD.nxS {K : Fz} {Hf : Hp} {W : WX'} {DD : DEnds} {De : Ends} {P : Ev → Mm → Prop} {Q : Sx → Hp → Prop} (f : FinD K Hf W DD De) (n : FinS K Hf P Q) : FinD K Hf W { DD with nx := P } { De with nx := Q } := ⟨n, f.rt, f.bk, f.ct, f.ex⟩
section
variable {X : Cx} {W : WX'} {stm : Stmt} {rest : List Stmt} {d e : DS} {pos : Pos}
theorem seqj {K : Fz} : ∀ De σ H, liS K W (dSeq d e) De σ H → tSeq (liS K W d) (liS K W e) De σ H := fun De σ H ⟨ρ, M, Hf, DD, s, d, f⟩ =>
  ⟨ρ, M, Hf, _, s, d, f.nxS fun ρ' M' σ' Hf' H' d' e s' => ⟨ρ', M', Hf', DD, s', d', f.go e⟩⟩
theorem bj_nil : BJ X W [] dNext := pss_weak pss_nil fun De σ H ⟨ρ, M, Hf, DD, s, d, f⟩ => f.nx ρ M σ Hf H d (Ext.refl _) s
theorem bj_cons (h1 : SJ X W stm d) (h2 : BJ X W rest e) : BJ X W (stm :: rest) (dSeq d e) := pss_weak (pss_cons h1 h2) seqj
theorem bj_one (h1 : SJ X W stm d) : BJ X W [stm] d := pss_one h1
theorem sj_pass : SJ X W (.Pass pos) dNext := ps_weak ps_pass fun De σ H ⟨ρ, M, Hf, DD, s, d, f⟩ => f.nx ρ M σ Hf H d (Ext.refl _) s
theorem sj_break : SJ X W (.Break pos) dBrk := ps_weak ps_break fun De σ H ⟨ρ, M, Hf, DD, s, d, f⟩ => f.bk ρ M σ Hf H d (Ext.refl _) s
theorem sj_continue : SJ X W (.Continue pos) dCnt := ps_weak ps_continue fun De σ H ⟨ρ, M, Hf, DD, s, d, f⟩ => f.ct ρ M σ Hf H d (Ext.refl _) s
theorem sj_doc {x j pos'} : SJ X W (.Expr (.Constant (.str x) j pos) pos') dNext := ps_weak ps_doc fun De σ H ⟨ρ, M, Hf, DD, s, d, f⟩ => f.nx ρ M σ Hf H d (Ext.refl _) s
theorem sj_retN : SJ X W (.Return none pos) dRetN := ps_weak ps_retN fun De σ H ⟨ρ, M, Hf, DD, s, d, f⟩ => f.rt .non M .non Hf H d (Ext.refl _) s.hm .non
theorem sj_never : SJ X W stm dNever := ps_weak ps_never fun De σ H ⟨ρ, M, Hf, DD, s, d, f⟩ => d
variable {ex : Expr} {de : DE} {tc : DT} {a b : List Stmt}
theorem sj_ret (he : EJ X W ex de) : SJ X W (.Return (some ex) pos) (dRet de) := ps_weak (ps_ret he) fun De σ H ⟨ρ, M, Hf, DD, s, d, f⟩ => ⟨ρ, M, Hf, _, _, s, d, f.rt, f.x s⟩
theorem sj_expr (he : EJ X W ex de) (hs : swapsWith ex none pos.line X.env = pure false := by rfl) : SJ X W (.Expr ex pos) (dDrop de) := ps_weak (ps_expr he hs) fun De σ H ⟨ρ, M, Hf, DD, s, d, f⟩ =>
  ⟨ρ, M, Hf, _, _, s, d, fun x M1 v Hf1 H1 d1 e1 m1 r1 => f.nx ρ M1 σ Hf1 H1 d1 e1 (s.go e1 m1), f.x s⟩
theorem sj_if (hc : TJ X W ex tc) (ha : BJ X W a d) (hb : BJ X W b e) : SJ X W (.If ex a b pos) (dIf tc d e) := ps_weak (ps_if hc ha hb) fun De σ H ⟨ρ, M, Hf, DD, s, d, f⟩ =>
  ⟨ρ, M, Hf, _, _, s, d, fun x M1 Hf1 H1 d1 e1 m1 => by
    cases x with
    | true => exact ⟨ρ, M1, Hf1, DD, s.go e1 m1, d1, f.go e1⟩
    | false => exact ⟨ρ, M1, Hf1, DD, s.go e1 m1, d1, f.go e1⟩, f.x s⟩
end

/-! ### targets -/
abbrev DG := D → Ev → Mm → (Ev → Mm → Prop) → Prop
abbrev DGs := List D → Ev → Mm → (Ev → Mm → Prop) → Prop
def liG (K : Fz) (g : DG) : TG := fun v σ H Q => ∃ x ρ M Hf P, SR K ρ M Hf σ H ∧ Rp K Hf v x ∧ g x ρ M P ∧ FinS K Hf P Q
def liGs (K : Fz) (g : DGs) : TGs := fun vs σ H Q => ∃ xs ρ M Hf P, SR K ρ M Hf σ H ∧ Rps K Hf vs xs ∧ g xs ρ M P ∧ FinS K Hf P Q
abbrev GJ (X : Cx) (e : Expr) (g : DG) : Prop := PG X e (liG X.K g)
abbrev GsJ (X : Cx) (e : List Expr) (g : DGs) : Prop := PGs X e (liGs X.K g)
def dgName (i : Nat) : DG := fun d ρ M P => P (st ρ i (some d)) M
def dgNil : DGs := fun ds ρ M P => match ds with
  | [] => P ρ M
  | _ => False
def dgCons (g : DG) (gs : DGs) : DGs := fun ds ρ M P => match ds with
  | d :: r => g d ρ M (fun ρ1 M1 => gs r ρ1 M1 P)
  | [] => False
def dgTup (n : Nat) (g : DGs) : DG := fun d ρ M P => match d with
  | .tup ds => ds.length = n ∧ g ds ρ M P
  | _ => False
theorem pg_weak {X : Cx} {e : Expr} {t t' : TG} (h : PG X e t) (w : ∀ v σ H Q, t' v σ H Q → t v σ H Q) : PG X e t' := ⟨fun pins s σ H v u Q I r q => h.run pins s σ H v u Q I r (w v σ H Q q)⟩
theorem pgs_weak {X : Cx} {e : List Expr} {t t' : TGs} (h : PGs X e t) (w : ∀ v σ H Q, t' v σ H Q → t v σ H Q) : PGs X e t' := ⟨fun pins s σ H v u Q I r q => h.run pins s σ H v u Q I r (w v σ H Q q)⟩
section
variable {X : Cx} {W : WX'} {pos : Pos} {e : Expr} {es : List Expr} {g : DG} {gs : DGs}
theorem gj_name {x : Str} (i : Nat) (hN : X.N.Nodup) (hi : X.N[i]? = some x := by rfl) (hx : Loc X.env.scope x := by exact Or.inl rfl)
    (hf : X.fn x = true ∨ X.env.scope.names.lookup x = some .local := by first | exact .inl rfl | exact .inr rfl) : GJ X (.Name x pos) (dgName i) :=
  pg_weak (pg_name hN hi hx hf) fun v σ H Q ⟨d, ρ, M, Hf, P, s, r, g, f⟩ => f _ M _ Hf H g (Ext.refl _) (s.set r)
theorem gsj_nil : GsJ X [] dgNil := pgs_weak pgs_nil fun v σ H Q ⟨d, ρ, M, Hf, P, s, r, g, f⟩ => by
  unfold dgNil at g
  split at g
  · cases r
    exact ⟨rfl, f _ M _ Hf H g (Ext.refl _) s⟩
  · exact g.elim
theorem gsj_cons (h1 : GJ X e g) (h2 : GsJ X es gs) (hs : (assignEach (e :: es) X.env).map (·.2) = assign e X.env :: (assignEach es X.env).map (·.2) := by rfl) : GsJ X (e :: es) (dgCons g gs) :=
  pgs_weak (pgs_cons h1 h2 hs) fun v σ H Q ⟨d, ρ, M, Hf, P, s, r, g, f⟩ => by
    unfold dgCons at g
    split at g
    · cases r with
      | cons h t => exact ⟨_, _, rfl, _, ρ, M, Hf, _, s, h, g, fun ρ1 M1 σ1 Hf1 H1 d1 e1 s1 => ⟨_, ρ1, M1, Hf1, P, s1, t.mono e1, d1, f.go e1⟩⟩
    · exact g.elim
theorem gj_tup {k n : Nat} (hc : X.calm = true) (h : GsJ X es gs) (hn : (assignEach es X.env).length = n := by rfl) (hst : (assignEach es X.env).findIdx? (·.1) = none := by rfl) : GJ X (.Tuple es k pos) (dgTup n gs) :=
  pg_weak (pg_tup hc h hn hst) fun v σ H Q ⟨d, ρ, M, Hf, P, s, r, g, f⟩ => by
    unfold dgTup at g
    split at g
    · obtain ⟨a, vs, rfl, ha, ra⟩ := tup_ok s.hm r
      exact ⟨a, vs, rfl, ha, by rw [ra.len]; exact g.1, _, ρ, M, Hf, P, s, ra, g.2, f⟩
    · exact g.elim
end
/-- x = e -/
def dAsg (de : DE) (g : DG) : DS := fun DD ρ M => de ρ M (fun x M1 => g x ρ M1 DD.nx) (DD.ex ρ)
section
variable {X : Cx} {W : WX'} {pos : Pos} {e tg : Expr} {de : DE} {g : DG}
theorem asgj {K : Fz} : ∀ De σ H, liS K W (dAsg de g) De σ H → tAsg (liE K W de) (liG K g) De σ H := fun De σ H ⟨ρ, M, Hf, DD, s, d, f⟩ =>
  ⟨ρ, M, Hf, _, _, s, d, fun x M1 v Hf1 H1 d1 e1 m1 r1 => ⟨x, ρ, M1, Hf1, _, s.go e1 m1, r1, d1, f.nx.go e1⟩, f.x s⟩
theorem sj_asg (he : EJ X W e de) (hg : GJ X tg g) (hs : swapsWithSole [tg] e pos.line X.env = pure false := by rfl) (hw : swappedStores [tg] e X.env = pure none := by rfl)
    (h1 : (assignEach [tg] X.env).map (·.2) = [assign tg X.env] := by rfl) : SJ X W (.Assign [tg] e pos) (dAsg de g) := ps_weak (ps_asg he hg hs hw h1) asgj
theorem sj_set {x : Str} {pos' : Pos} (i : Nat) (hN : X.N.Nodup) (he : EJ X W e de) (hi : X.N[i]? = some x := by rfl) (hx : Loc X.env.scope x := by exact Or.inl rfl) (hs : swapsWith e (some (.Name x pos')) pos.line X.env = pure false := by rfl)
    (hf : X.fn x = true ∨ X.env.scope.names.lookup x = some .local := by first | exact .inl rfl | exact .inr rfl) : SJ X W (.Assign [.Name x pos'] e pos) (dAsg de (dgName i)) :=
  ps_weak (ps_set hN hi hx he hs hf) fun De σ H ⟨ρ, M, Hf, DD, s, d, f⟩ =>
    ⟨ρ, M, Hf, _, _, s, d, fun x M1 v Hf1 H1 d1 e1 m1 r1 => f.nx _ M1 _ Hf1 H1 d1 e1 ((s.go e1 m1).set r1), f.x s⟩
/-- a, b = e1, e2 -/
def dPar (i j : Nat) (d : DA) : DS := fun DD ρ M => d ρ M (fun xs M1 => match xs with
  | [x, y] => DD.nx (st (st ρ i (some x)) j (some y)) M1
  | _ => False) (DD.ex ρ)
theorem sj_par {x y : Str} {a b : Expr} {d : DA} {px py pt : Pos} {kt k2 pt2} (i j : Nat) (hc : X.calm = true) (hN : X.N.Nodup) (h : AJ X W [a, b] d) (hi : X.N[i]? = some x := by rfl) (hj : X.N[j]? = some y := by rfl) (hij : i ≠ j := by decide)
    (hp : ∀ t, PA X [a, b] t → PS X (.Assign [.Tuple [.Name x px, .Name y py] kt pt] (.Tuple [a, b] k2 pt2) pos) (tPar i j t)) : SJ X W (.Assign [.Tuple [.Name x px, .Name y py] kt pt] (.Tuple [a, b] k2 pt2) pos) (dPar i j d) :=
  ps_weak (hp _ h) fun De σ H ⟨ρ, M, Hf, DD, s, d, f⟩ => ⟨ρ, M, Hf, _, _, s, d, fun xs M1 vs Hf1 H1 d1 e1 m1 r1 => by
    try dsimp only at d1
    split at d1
    · cases r1 with
      | cons h1 t1 =>
        cases t1 with
        | cons h2 t2 =>
          cases t2
          exact ⟨_, _, rfl, f.nx _ M1 _ Hf1 H1 d1 e1 (((s.go e1 m1).set h1).set h2)⟩
    · exact d1.elim, f.x s⟩
/-- x += e -/
def dAug (i : Nat) (r : RD2) (de : DE) : DS := fun DD ρ M => match gt ρ i with
  | some x => de ρ M (fun y M1 => r x y M1 (fun z M2 => DD.nx (st ρ i (some z)) M2)) (DD.ex ρ)
  | none => False
theorem sj_aug {x : Str} {op : Operator} {ti : TIp} {rD : RD2} {pos' : Pos} (i : Nat) (hN : X.N.Nodup) (ho : PIp X op ti) (j : ∀ {x y : D} {v u : V} {M : Mm} {Hf H : Hp} {P : DP} {Q : VK}, HM X.K Hf M H → Rp X.K Hf v x → Rp X.K Hf u y → rD x y M P → FinE X.K Hf P Q → ti v u H Q)
    (he : EJ X W e de) (hi : X.N[i]? = some x := by rfl) (hx : Loc X.env.scope x := by exact Or.inl rfl) (hf : X.fn x = true ∨ X.env.scope.names.lookup x = some .local := by first | exact .inl rfl | exact .inr rfl) :
    SJ X W (.AugAssign (.Name x pos') op e pos) (dAug i rD de) := by
  refine ⟨fun pins s0 σ H De I ⟨ρ, M, Hf, DD, s, d, f⟩ => (ps_aug hN hi hx he ho hf).run pins s0 σ H De I ?_⟩
  · have hl : i < σ.length := by
      rw [I.len]
      exact (List.getElem?_eq_some_iff.mp hi).1
    unfold dAug at d
    split at d
    · rename_i x0 e0
      obtain ⟨v, h1, h2⟩ := s.env i x0 hl e0
      exact ⟨v, h1, ρ, M, Hf, _, _, s, d, fun y M1 u Hf1 H1 d1 e1 m1 r1 => j m1 (h2.mono e1) r1 d1 fun z M2 w Hf2 H2 d2 e2 m2 r2 => f.nx _ M2 _ Hf2 H2 d2 (e1.trans e2) (((s.go e1 m1).go e2 m2).set r2), f.x s⟩
    · exact d.elim
def rAddI : RD2 := rI0' fun i j => .int (i + j)
theorem sj_augI {x : Str} {pos' : Pos} (i : Nat) (hN : X.N.Nodup) (he : EJ X W e de) (hi : X.N[i]? = some x := by rfl) (hx : Loc X.env.scope x := by exact Or.inl rfl) (hf : X.fn x = true ∨ X.env.scope.names.lookup x = some .local := by first | exact .inl rfl | exact .inr rfl) :
    SJ X W (.AugAssign (.Name x pos') .Add e pos) (dAug i rAddI de) := sj_aug i hN ip_add (fun {x y v u M Hf H P Q} m r1 r2 d f => by
  unfold rAddI rI0' at d
  split at d
  · cases r1
    cases r2
    exact ⟨_, _, rfl, rfl, f _ _ _ _ _ d (Ext.refl _) m (.int _)⟩
  · exact d.elim) he hi hx hf
theorem sj_subI {x : Str} {pos' : Pos} (i : Nat) (hN : X.N.Nodup) (he : EJ X W e de) (hi : X.N[i]? = some x := by rfl) (hx : Loc X.env.scope x := by exact Or.inl rfl) (hf : X.fn x = true ∨ X.env.scope.names.lookup x = some .local := by first | exact .inl rfl | exact .inr rfl) :
    SJ X W (.AugAssign (.Name x pos') .Sub e pos) (dAug i rSub de) := sj_aug i hN ip_sub (fun {x y v u M Hf H P Q} m r1 r2 d f => by
  unfold rSub rI0' at d
  split at d
  · cases r1
    cases r2
    exact ⟨_, _, rfl, rfl, f _ _ _ _ _ d (Ext.refl _) m (.int _)⟩
  · exact d.elim) he hi hx hf
end

/-! ### while -/
def dWhile (c : DT) (tb : DS) : DS := fun DD ρ M => ∃ I : Nat → Ev → Mm → Prop, (∃ n, I n ρ M) ∧ ∀ n ρ M, I n ρ M →
  c ρ M (fun b M1 => match b with
    | true => tb { DD with nx := fun ρ' M' => ∃ n', n' < n ∧ I n' ρ' M', ct := fun ρ' M' => ∃ n', n' < n ∧ I n' ρ' M', bk := DD.nx } ρ M1
    | false => DD.nx ρ M1) (DD.ex ρ)
theorem sj_while {X : Cx} {W : WX'} {c : Expr} {body : List Stmt} {pos : Pos} {tc : DT} {tb : DS} (hp : PassesOwn (model X.prog X.w) X.A X.env X.xe) (hc : TJ X W c tc) (hb : BJ X W body tb) : SJ X W (.While c body [] pos) (dWhile tc tb) :=
  ps_weak (ps_while hp hc hb) fun De σ H ⟨ρ, M, Hf, DD, s, d, f⟩ => by
    obtain ⟨I, ⟨n0, i0⟩, step⟩ := d
    refine ⟨fun n σ H => ∃ ρ M Hf', Ext Hf Hf' ∧ SR X.K ρ M Hf' σ H ∧ I n ρ M, ⟨n0, ρ, M, Hf, Ext.refl _, s, i0⟩, ?_⟩
    rintro n σ1 H1 ⟨ρ1, M1, Hf1, e1, s1, i1⟩
    refine ⟨ρ1, M1, Hf1, _, _, s1, step n ρ1 M1 i1, fun b M2 Hf2 H2 d2 e2 m2 => ?_, (f.go e1).x s1⟩
    have f2 := f.go (e1.trans e2)
    cases b with
    | true =>
      refine ⟨_, fun _ _ z => z, ρ1, M2, Hf2, _, s1.go e2 m2, d2, ?_⟩
      refine ⟨?_, f2.rt, f2.nx, ?_, f2.ex⟩ <;>
      · rintro ρ3 M3 σ3 Hf3 H3 ⟨n3, l3, i3⟩ e3 s3
        exact ⟨n3, l3, ρ3, M3, Hf3, (e1.trans e2).trans e3, s3, i3⟩
    | false => exact f2.nx ρ1 M2 σ1 Hf2 H2 d2 (Ext.refl _) (s1.go e2 m2)

/-! ### what is walked -/
abbrev DI := Ev → Mm → (List D → Mm → Prop) → XP → Prop
/-- J walks over ds, while what stays stays -/
structure ItD (K : Fz) (J : It) (ds : List D) (Hf : Hp) : Prop where
  go : ∀ i M2 Hf2 H2, i < ds.length → Ext Hf Hf2 → HM K Hf2 M2 H2 → J.go i H2
  stop : ∀ M2 Hf2 H2, Ext Hf Hf2 → HM K Hf2 M2 H2 → J.stop ds.length H2
  yld : ∀ i d M2 Hf2 H2 x H3, ds[i]? = some d → Ext Hf Hf2 → HM K Hf2 M2 H2 → J.yld i H2 x H3 → ∃ Hf3, Ext Hf2 Hf3 ∧ HM K Hf3 M2 H3 ∧ Rp K Hf3 x d
def liI (K : Fz) (W : WX') (d : DI) : TI := fun σ H R => ∃ ρ M Hf P PX, SR K ρ M Hf σ H ∧ d ρ M P PX ∧ (∀ ds M' Hf' H', P ds M' → Ext Hf Hf' → HM K Hf' M' H' → ∀ J, ItD K J ds Hf' → R J H') ∧ FinX K Hf σ PX W
abbrev IJ (X : Cx) (W : WX') (tg e : Expr) (d : DI) : Prop := PI X tg e (liI X.K W d)
theorem pi_weak {X : Cx} {tg e : Expr} {t t' : TI} (h : PI X tg e t) (w : ∀ σ H Q, t' σ H Q → t σ H Q) : PI X tg e t' := ⟨fun pins s σ H Q I q => h.run pins s σ H Q I (w σ H Q q)⟩
def tSeqI (K : Fz) (tl : TE) : TI := fun σ H R => tl σ H fun x H1 => ∃ a, x = .ref a ∧ (((∃ xs, SqL K H1 a xs) ∧ R (Itl K a) H1) ∨ ((∃ xs, SqT K H1 a xs) ∧ R (Itt K a) H1))
theorem pi_seq {X : Cx} {tg l : Expr} {tl : TE} (hl : PE X l tl) : PI X tg l (tSeqI X.K tl) := by
  refine ⟨fun pins s0 σ H0 R I0 h0 => thn (hl.run pins s0 σ H0 _ I0 h0) fun u s ⟨x, H, I, r, a, e, q⟩ => ?_⟩
  subst e
  cases r
  have fp : ∀ b ∈ [s.heap.objs.size], FpOk X pins H b := fun b hb => by
    obtain rfl : b = s.heap.objs.size := by simpa using hb
    exact I.fpOk (Nat.le_refl _) (I.hok.fresh (Nat.le_refl _))
  rcases q with ⟨⟨xs, hq⟩, q⟩ | ⟨⟨xs, hq⟩, q⟩
  · obtain ⟨its, _, pl, _⟩ := I.list hq
    exact wpAny_pyIter_list pl.isList ⟨s.heap.objs.size, [s.heap.objs.size], _, _, H, rfl,
      I.kept (t' := s.toks) fun b o e => Heap.get?_push_of_some _ e, turn_list a _, ⟨_, Heap.get?_push_size _ rfl, rfl, rfl⟩, fp, q⟩
  · obtain ⟨its, _, pt, _⟩ := I.tuple hq
    exact wpAny_pyIter_tuple (items := its.toArray) pt ⟨s.heap.objs.size, [s.heap.objs.size], _, _, H, rfl,
      I.kept (t' := s.toks) fun b o e => Heap.get?_push_of_some _ e, turn_tuple a _, ⟨_, Heap.get?_push_size _ rfl, rfl, rfl⟩, fp, q⟩
theorem sqL_one {K : Fz} {H : Hp} {a : Addr} {xs ys : List V} : True := trivial
/-- a list that stays -/
theorem itd_list {K : Fz} {Hf : Hp} {a : Addr} {vs : List V} {ds : List D} (h : SqL K Hf a vs) (r : Rps K Hf vs ds) : ItD K (Itl K a) ds Hf := by
  refine ⟨fun i M2 Hf2 H2 hi e m => ?_, fun M2 Hf2 H2 e m => ⟨vs, m.sub.sqL (e.sqL h), by rw [r.len]; exact Nat.le_refl _⟩, fun i d M2 Hf2 H2 x H3 hd e m y => ?_⟩
  · obtain ⟨v, h1, _⟩ := r.get (List.getElem?_eq_getElem hi)
    exact ⟨vs, v, m.sub.sqL (e.sqL h), h1⟩
  · obtain ⟨rfl, y⟩ := y
    obtain ⟨v, h1, h2⟩ := r.get hd
    have := y vs (m.sub.sqL (e.sqL h))
    rw [h1] at this
    cases this
    exact ⟨Hf2, Ext.refl _, m, h2.mono e⟩
theorem itd_tup {K : Fz} {Hf : Hp} {a : Addr} {vs : List V} {ds : List D} (h : SqT K Hf a vs) (r : Rps K Hf vs ds) : ItD K (Itt K a) ds Hf := by
  refine ⟨fun i M2 Hf2 H2 hi e m => ?_, fun M2 Hf2 H2 e m => ⟨vs, m.sub.sqT (e.sqT h), by rw [r.len]; exact Nat.le_refl _⟩, fun i d M2 Hf2 H2 x H3 hd e m y => ?_⟩
  · obtain ⟨v, h1, _⟩ := r.get (List.getElem?_eq_getElem hi)
    exact ⟨vs, v, m.sub.sqT (e.sqT h), h1⟩
  · obtain ⟨rfl, y⟩ := y
    obtain ⟨v, h1, h2⟩ := r.get hd
    have := y vs (m.sub.sqT (e.sqT h))
    rw [h1] at this
    cases this
    exact ⟨Hf2, Ext.refl _, m, h2.mono e⟩
/-- lo, lo + 1, .. -/
def upTo (lo : Int) (n : Nat) : List D := (List.range n).map fun i : Nat => D.int (lo + (i : Int))
theorem itd_range {K : Fz} {Hf : Hp} {lo : Int} {n : Nat} : ItD K (Itr lo n) (upTo lo n) Hf := by
  have hl : (upTo lo n).length = n := by simp [upTo]
  refine ⟨fun i M2 Hf2 H2 hi e m => by rw [hl] at hi; exact hi, fun M2 Hf2 H2 e m => by rw [hl]; exact Nat.le_refl _, fun i d M2 Hf2 H2 x H3 hd e m y => ?_⟩
  obtain ⟨rfl, rfl⟩ := y
  have hi : i < n := by
    have := (List.getElem?_eq_some_iff.mp hd).1
    rw [hl] at this
    exact this
  have : d = .int (lo + (i : Int)) := by
    simp [upTo, hi] at hd
    exact hd.symm
  rw [this]
  exact ⟨Hf2, Ext.refl _, m, .int _⟩
/-- a tuple, or a list that stays -/
def dItS (de : DE) : DI := fun ρ M P PX => de ρ M (fun x M1 => match x with
  | .tup ds => P ds M1
  | .lst ds => P ds M1
  | .scr ds => P ds M1
  | _ => False) PX
def dRng1 (d : DA) : DI := fun ρ M P PX => d ρ M (fun xs M1 => match xs with
  | [.int j] => (-(2 ^ 62) ≤ j ∧ j < 2 ^ 62) ∧ P (upTo 0 j.toNat) M1
  | _ => False) PX
def dRng2 (d : DA) : DI := fun ρ M P PX => d ρ M (fun xs M1 => match xs with
  | [.int i, .int j] => (-(2 ^ 62) ≤ i ∧ i < 2 ^ 62 ∧ -(2 ^ 62) ≤ j ∧ j < 2 ^ 62) ∧ P (upTo i (j - i).toNat) M1
  | _ => False) PX
section
variable {X : Cx} {W : WX'} {tg e a b : Expr} {de : DE} {d : DA} {p pos : Pos}
theorem ij_seq (he : EJ X W e de) : IJ X W tg e (dItS de) := pi_weak (pi_seq he) fun σ H Q ⟨ρ, M, Hf, P, PX, s, d, fe, fx⟩ => ⟨ρ, M, Hf, _, _, s, d, fun x M1 v Hf1 H1 d1 e1 m1 r1 => by
  try dsimp only at d1
  split at d1
  · cases r1 with
    | tup h r => exact ⟨_, rfl, .inr ⟨⟨_, m1.sub.sqT h⟩, fe _ M1 Hf1 H1 d1 e1 m1 _ (itd_tup h r)⟩⟩
  · cases r1 with
    | lst h r => exact ⟨_, rfl, .inl ⟨⟨_, SqL.of (m1.sub _ _ h)⟩, fe _ M1 Hf1 H1 d1 e1 m1 _ (itd_list (SqL.of h) r)⟩⟩
  · cases r1 with
    | scr h r => exact ⟨_, rfl, .inl ⟨⟨_, m1.sub.sqL h⟩, fe _ M1 Hf1 H1 d1 e1 m1 _ (itd_list h r)⟩⟩
  · exact d1.elim, fx⟩
theorem ij_range1 (hm : X.mg "range" = none) (ha : AJ X W [a] d) (hg : Gl X "range" := by rfl) (hs : starEach [a] X.env = [(false, eval a X.env)] := by rfl) : IJ X W tg (.Call (.Name "range" p) [a] [] pos) (dRng1 d) :=
  pi_weak (pi_range1 hg hm ha hs) fun σ H Q ⟨ρ, M, Hf, P, PX, s, d, fe, fx⟩ => ⟨ρ, M, Hf, _, _, s, d, fun xs M1 vs Hf1 H1 d1 e1 m1 r1 => by
    try dsimp only at d1
    split at d1
    · cases r1 with
      | cons h t =>
        cases t
        cases h
        exact ⟨_, rfl, d1.1.1, d1.1.2, fe _ M1 Hf1 H1 d1.2 e1 m1 _ itd_range⟩
    · exact d1.elim, fx⟩
theorem ij_range2 (hm : X.mg "range" = none) (ha : AJ X W [a, b] d) (hg : Gl X "range" := by rfl) (hs : starEach [a, b] X.env = [(false, eval a X.env), (false, eval b X.env)] := by rfl) (hs2 : starEach [b] X.env = [(false, eval b X.env)] := by rfl) : IJ X W tg (.Call (.Name "range" p) [a, b] [] pos) (dRng2 d) :=
  pi_weak (pi_range2 hg hm ha hs hs2) fun σ H Q ⟨ρ, M, Hf, P, PX, s, d, fe, fx⟩ => ⟨ρ, M, Hf, _, _, s, d, fun xs M1 vs Hf1 H1 d1 e1 m1 r1 => by
    try dsimp only at d1
    split at d1
    · cases r1 with
      | cons h t =>
        cases t with
        | cons h' t =>
          cases t
          cases h
          cases h'
          exact ⟨_, _, rfl, d1.1, fe _ M1 Hf1 H1 d1.2 e1 m1 _ itd_range⟩
    · exact d1.elim, fx⟩
end

/-! ### for -/
def dFor (di : DI) (g : DG) (tb : DS) : DS := fun DD ρ M => di ρ M (fun ds M1 => ∃ I : Nat → Ev → Mm → Prop, I 0 ρ M1 ∧
  (∀ i d ρ M, ds[i]? = some d → I i ρ M → g d ρ M (fun ρ2 M2 => tb { DD with nx := I (i + 1), ct := I (i + 1), bk := DD.nx } ρ2 M2)) ∧ ∀ ρ M, I ds.length ρ M → DD.nx ρ M) (DD.ex ρ)
theorem sj_for {X : Cx} {W : WX'} {tg iter : Expr} {body : List Stmt} {pos : Pos} {di : DI} {g : DG} {tb : DS} (hp : PassesOwn (model X.prog X.w) X.A X.env X.xe) (hc : X.calm = true) (hi : IJ X W tg iter di) (hg : GJ X tg g) (hb : BJ X W body tb)
    (hs : ∀ x, foldedSetIterable iter X.env x = pure x := by intro _; rfl) : SJ X W (.For tg iter body [] pos) (dFor di g tb) :=
  ps_weak (ps_for hp hc hi hg hb hs) fun De σ H ⟨ρ, M, Hf, DD, s, d, f⟩ => ⟨ρ, M, Hf, _, _, s, d, fun ds M1 Hf1 H1 d1 e1 m1 J it => by
    obtain ⟨I, i0, step, fin⟩ := d1
    refine ⟨fun i m σ H => m = ds.length - i ∧ i ≤ ds.length ∧ ∃ ρ M Hf2, Ext Hf1 Hf2 ∧ SR X.K ρ M Hf2 σ H ∧ I i ρ M, ⟨_, rfl, Nat.zero_le _, ρ, M1, Hf1, Ext.refl _, s.go e1 m1, i0⟩, ?_⟩
    rintro i m σ2 H2 ⟨rfl, hi, ρ2, M2, Hf2, e2, s2, i2⟩
    by_cases hlt : i < ds.length
    · refine .inr ⟨it.go i M2 Hf2 H2 hlt e2 s2.hm, fun σ H => ∃ ρ M Hf3, Ext Hf1 Hf3 ∧ SR X.K ρ M Hf3 σ H ∧ I (i + 1) ρ M, fun σ' H' p => ⟨ds.length - (i + 1), by omega, rfl, hlt, p⟩, fun x H3 y => ?_⟩
      obtain ⟨Hf3, e3, m3, r3⟩ := it.yld i _ M2 Hf2 H2 x H3 (List.getElem?_eq_getElem hlt) e2 s2.hm y
      have f3 := f.go ((e1.trans e2).trans e3)
      refine ⟨_, ρ2, M2, Hf3, _, s2.go e3 m3, r3, step i _ ρ2 M2 (List.getElem?_eq_getElem hlt) i2, fun ρ4 M4 σ4 Hf4 H4 d4 e4 s4 => ⟨ρ4, M4, Hf4, _, s4, d4, ?_⟩⟩
      have f4 := f3.go e4
      refine ⟨?_, f4.rt, f4.nx, ?_, f4.ex⟩ <;>
      · intro ρ5 M5 σ5 Hf5 H5 i5 e5 s5
        exact ⟨ρ5, M5, Hf5, ((e2.trans e3).trans e4).trans e5, s5, i5⟩
    · obtain rfl : i = ds.length := by omega
      exact .inl ⟨it.stop M2 Hf2 H2 e2 s2.hm, f.nx _ M2 _ Hf2 H2 (fin ρ2 M2 i2) (e1.trans e2) s2⟩, f.x s⟩

/-! ### list comprehensions -/
def wpD (ρ : Ev) : List Nat → Ev
  | [] => ρ
  | v :: vs => st (wpD ρ vs) v none
theorem SR.unset {K : Fz} {ρ : Ev} {M : Mm} {Hf : Hp} {σ : Sx} {H : Hp} (s : SR K ρ M Hf σ H) (i : Nat) : SR K (st ρ i none) M Hf (σ.set i none) H := by
  refine ⟨s.hm, fun j d' l q => ?_⟩
  rw [List.length_set] at l
  by_cases z : i = j
  · subst z
    rw [gt_same] at q
    cases q
  · rw [gt_ne _ _ _ _ z] at q
    obtain ⟨v', h1, h2⟩ := s.env j d' l q
    exact ⟨v', by rw [List.getElem?_set_ne z]; exact h1, h2⟩
theorem SR.wipe {K : Fz} {ρ : Ev} {M : Mm} {Hf : Hp} {σ : Sx} {H : Hp} (s : SR K ρ M Hf σ H) : ∀ vs : List Nat, SR K (wpD ρ vs) M Hf (L2.wipe σ vs) H
  | [] => s
  | v :: vs => (s.wipe vs).unset v
theorem wipe_in {σ : Sx} {i : Nat} : ∀ {vs : List Nat}, i ∈ vs → i < σ.length → (L2.wipe σ vs)[i]? = some none
  | v :: vs, h, l => by
    unfold L2.wipe
    by_cases e : v = i
    · subst e
      rw [List.getElem?_set_self (by rw [wipe_length]; exact l)]
    · rw [List.getElem?_set_ne e]
      exact wipe_in ((List.mem_cons.mp h).resolve_left fun z => e z.symm) l
theorem wipe_eq {σ τ : Sx} {vs : List Nat} (hl : σ.length = τ.length) (h : ∀ i, i ∉ vs → σ[i]? = τ[i]?) : L2.wipe σ vs = L2.wipe τ vs := by
  apply List.ext_getElem?
  intro i
  by_cases m : i ∈ vs
  · by_cases l : i < σ.length
    · rw [wipe_in m l, wipe_in m (by rw [← hl]; exact l)]
    · rw [List.getElem?_eq_none (by rw [wipe_length]; omega), List.getElem?_eq_none (by rw [wipe_length]; omega)]
  · rw [wipe_out m, wipe_out m, h i m]
/-- a target that fills names of the block alone -/
def TgOk (K : Fz) (g : TG) (vs : List Nat) (dg : D → Ev → (Ev → Prop) → Prop) : Prop :=
  ∀ {v : V} {d : D} {σ : Sx} {H : Hp} {ρ : Ev} {M : Mm} {Hf : Hp} {k : Ev → Prop} {Q : Sx → Hp → Prop}, SR K ρ M Hf (L2.wipe σ vs) H → Rp K Hf v d → dg d ρ k →
    (∀ σ2 ρ2, k ρ2 → L2.wipe σ2 vs = L2.wipe σ vs → SR K ρ2 M Hf σ2 H → Q σ2 H) → g v (L2.wipe σ vs) H Q
def tgN (i : Nat) : D → Ev → (Ev → Prop) → Prop := fun d ρ k => k (st ρ i (some d))
theorem tg_name {K : Fz} {i : Nat} {vs : List Nat} (h : i ∈ vs) : TgOk K (gName i) vs (tgN i) := fun {v d σ H ρ M Hf k Q} s r d q =>
  q _ _ d ((wipe_eq (by rw [List.length_set]) fun j hj => by rw [List.getElem?_set_ne (fun z => hj (by rw [← z]; exact h))]).trans (wipe_eq (by rw [wipe_length]) fun j hj => wipe_out hj)) (s.set r)
def stL (ρ : Ev) : List Nat → List D → Ev
  | i :: is, d :: ds => stL (st ρ i (some d)) is ds
  | _, _ => ρ
def tgT (is : List Nat) : D → Ev → (Ev → Prop) → Prop := fun d ρ k => match d with
  | .tup ds => ds.length = is.length ∧ k (stL ρ is ds)
  | _ => False
def gNames : List Nat → TGs
  | [] => gNil
  | i :: is => gCons (gName i) (gNames is)
def setL (σ : Sx) : List Nat → List V → Sx
  | i :: is, v :: vs => setL (σ.set i (some v)) is vs
  | _, _ => σ
theorem gNames_do {H : Hp} {Q : Sx → Hp → Prop} : ∀ {is : List Nat} {vs : List V} {σ : Sx}, vs.length = is.length → Q (setL σ is vs) H → gNames is vs σ H Q
  | [], [], _, _, q => ⟨rfl, q⟩
  | i :: is, v :: vs, σ, h, q => ⟨v, vs, rfl, gNames_do (is := is) (vs := vs) (Nat.succ.inj h) q⟩
  | [], _ :: _, _, h, _ => by cases h
  | _ :: _, [], _, h, _ => by cases h
theorem setL_len : ∀ {is : List Nat} {vs : List V} {σ : Sx}, (setL σ is vs).length = σ.length
  | [], [], _ => rfl
  | i :: is, v :: vs, σ => by
    show (setL (σ.set i (some v)) is vs).length = _
    rw [setL_len, List.length_set]
  | [], _ :: _, _ => rfl
  | _ :: _, [], _ => rfl
theorem setL_out {j : Nat} : ∀ {is : List Nat} {vs : List V} {σ : Sx}, j ∉ is → (setL σ is vs)[j]? = σ[j]?
  | [], [], _, _ => rfl
  | i :: is, v :: vs, σ, h => by
    show (setL (σ.set i (some v)) is vs)[j]? = _
    rw [setL_out (fun z => h (List.mem_cons_of_mem _ z)), List.getElem?_set_ne fun z => h (by rw [z]; exact List.mem_cons_self)]
  | [], _ :: _, _, _ => rfl
  | _ :: _, [], _, _ => rfl
theorem SR.setL {K : Fz} {M : Mm} {Hf : Hp} {H : Hp} : ∀ {is : List Nat} {vs : List V} {ds : List D} {ρ : Ev} {σ : Sx}, SR K ρ M Hf σ H → Rps K Hf vs ds → SR K (stL ρ is ds) M Hf (DL.setL σ is vs) H
  | [], _, _, _, _, s, .nil => s
  | [], _, _, _, _, s, .cons _ _ => s
  | _ :: _, _, _, _, _, s, .nil => s
  | i :: is, _, _, _, _, s, .cons h t => SR.setL (is := is) (s.set h) t
theorem tg_tup {K : Fz} {is : List Nat} {vs : List Nat} (h : ∀ i ∈ is, i ∈ vs) : TgOk K (gTup K is.length (gNames is)) vs (tgT is) := fun {v d σ H ρ M Hf k Q} s r d q => by
  unfold tgT at d
  split at d
  · obtain ⟨a, ws, rfl, ha, ra⟩ := tup_ok s.hm r
    refine ⟨a, ws, rfl, ha, by rw [ra.len]; exact d.1, gNames_do (by rw [ra.len]; exact d.1) (q _ _ d.2 ?_ (s.setL ra))⟩
    exact (wipe_eq setL_len fun j hj => setL_out fun z => hj (h j z)).trans (wipe_eq (by rw [wipe_length]) fun j hj => wipe_out hj)
  · exact d.elim
def XF : XP := fun _ _ _ => False
def dYes : DT := fun _ M P _ => P true M
/-- the new list stands at D meanwhile -/
def dLc (di : DI) (dg : D → Ev → (Ev → Prop) → Prop) (tt : DT) (te : DE) (vs : List Nat) : DE := fun ρ M P PX => di ρ M (fun ds M1 => ∀ D, M1 D = none → ∃ I : Nat → Mm → Prop, I 0 (um M1 D (.lst [])) ∧
  (∀ i d M, ds[i]? = some d → I i M → dg d (wpD ρ vs) (fun ρ2 => tt ρ2 M (fun b M3 => match b with
    | true => te ρ2 M3 (fun y M4 => match M4 D with
      | some (.lst acc) => acc.length < sizeLine ∧ I (i + 1) (um M4 D (.lst (acc ++ [y])))
      | _ => False) XF
    | false => I (i + 1) M3) XF)) ∧
  ∀ M, I ds.length M → match M D with
    | some (.lst acc) => P (.lst acc) (dm M D)
    | _ => False) PX
theorem lcj {K : Fz} {W : WX'} {di : DI} {g : TG} {dg : D → Ev → (Ev → Prop) → Prop} {tt : DT} {te : DE} {vs : List Nat} (tg : TgOk K g vs dg) : ∀ σ H Q, liE K W (dLc di dg tt te vs) σ H Q → tLc (liI K W di) g (liT K W0 tt) (liE K W0 te) vs σ H Q :=
  fun σ H Q ⟨ρ, M, Hf, P, PX, s, d, fe, fx⟩ => ⟨ρ, M, Hf, _, _, s, d, fun ds M1 Hf1 H1 d1 e1 m1 J it D hD => by
    obtain ⟨I, i0, step, fin⟩ := d1 D (m1.none_of hD)
    have s1 := s.go e1 m1
    have nf : ∀ {σ : Sx} {Hf : Hp}, FinX K Hf σ XF W0 := fun _ _ _ _ _ _ z => z.elim
    refine ⟨fun i m H => m = ds.length - i ∧ i ≤ ds.length ∧ ∃ M Hf2, Ext Hf1 Hf2 ∧ HM K Hf2 M H ∧ I i M, ⟨_, rfl, Nat.zero_le _, _, Hf1, Ext.refl _, m1.newM (mo := .lst []) hD ⟨[], upd_same, .nil⟩, i0⟩, ?_⟩
    rintro i m H2 ⟨rfl, hi, M2, Hf2, e2, m2, i2⟩
    by_cases hlt : i < ds.length
    · refine .inr ⟨it.go i M2 Hf2 H2 hlt e2 m2, fun H => ∃ M Hf3, Ext Hf1 Hf3 ∧ HM K Hf3 M H ∧ I (i + 1) M, fun H' p => ⟨ds.length - (i + 1), by omega, rfl, hlt, p⟩, fun x H3 y => ?_⟩
      obtain ⟨Hf3, e3, m3, r3⟩ := it.yld i _ M2 Hf2 H2 x H3 (List.getElem?_eq_getElem hlt) e2 m2 y
      have s3 := ((s1.go (e2.trans e3) m3).wipe vs)
      refine tg s3 r3 (step i _ M2 (List.getElem?_eq_getElem hlt) i2) fun σ4 ρ4 k4 w4 s4 => ⟨w4, ρ4, M2, Hf3, _, XF, s4, k4, fun b M5 Hf5 H5 d5 e5 m5 => ?_, nf⟩
      cases b with
      | false =>
        rw [if_neg Bool.false_ne_true]
        exact ⟨M5, Hf5, (e2.trans e3).trans e5, m5, d5⟩
      | true =>
        rw [if_pos rfl]
        refine ⟨ρ4, M5, Hf5, _, XF, s4.go e5 m5, d5, fun z M6 v6 Hf6 H6 d6 e6 m6 r6 => ?_, nf⟩
        try dsimp only at d6
        split at d6
        · rename_i acc em
          obtain ⟨_, vs6, q1, q2⟩ := m6.mu _ _ em
          exact ⟨vs6, q1, by rw [q2.len]; exact d6.1, _, Hf6, ((e2.trans e3).trans e5).trans e6, m6.write (mo' := .lst (acc ++ [z])) em q1 (fun x z => by cases z) ⟨_, upd_same, q2.app (.cons r6 .nil)⟩, d6.2⟩
        · exact d6.elim
    · obtain rfl : i = ds.length := by omega
      refine .inl ⟨it.stop M2 Hf2 H2 e2 m2, ?_⟩
      have d7 := fin M2 i2
      split at d7
      · rename_i acc em
        obtain ⟨_, vs6, q1, q2⟩ := m2.mu _ _ em
        obtain ⟨e8, m8⟩ := m2.freeze em q1 (fun x z => by cases z)
        exact fe _ _ _ _ H2 d7 ((e1.trans e2).trans e8) m8 (.lst upd_same (q2.mono e8))
      · exact d7.elim, fx⟩
/-- tests of a comprehension -/
theorem ptsj_nil {X : Cx} : PTs X [] (liT X.K W0 dYes) := ⟨fun pins s σ H Q I ⟨ρ, M, Hf, P, PX, sr, d, fe, fx⟩ => pts_nil.run pins s σ H Q I (fe true M Hf H d (Ext.refl _) sr.hm)⟩
theorem ptsj_one {X : Cx} {c : Expr} {t : DT} (h : TJ X W0 c t) : PTs X [c] (liT X.K W0 t) := pts_one h
section
variable {X : Cx} {W : WX'} {elt tg iter : Expr} {ifs : List Expr} {scope : Scope} {own : List (Str × Nat)} {pos : Pos} {di : DI} {g : TG} {dg : D → Ev → (Ev → Prop) → Prop} {tt : DT} {te : DE}
theorem ej_lc (hc : X.calm = true) (hN : X.N.Nodup) (hi : IJ X W tg iter di) (ok : BlkOk X.N X.env.scope scope own) (ht0 : TgOk X.K g (own.map (·.2)) dg)
    (hg : ∀ (s : Shared) (H : Hp) (C : Addr) (cl : List (Str × Addr)) (fp : List Addr), PG (X.blk s H scope (compEnvC scope cl C X.env) fp) tg g)
    (ht : ∀ (s : Shared) (H : Hp) (C : Addr) (cl : List (Str × Addr)) (fp : List Addr), PTs (X.blk s H scope (compEnvC scope cl C X.env) fp) ifs (liT X.K W0 tt))
    (he : ∀ (s : Shared) (H : Hp) (C : Addr) (cl : List (Str × Addr)) (fp : List Addr), EJ (X.blk s H scope (compEnvC scope cl C X.env) fp) W0 elt te)
    (hs : ∀ x, foldedSetIterable iter X.env x = pure x := by intro _; rfl) : EJ X W (.ListComp elt [⟨tg, iter, ifs, 0⟩] scope pos) (dLc di dg tt te (own.map (·.2))) :=
  pe_weak (pe_lc hc hN hi ok hg ht he hs) (lcj ht0)
theorem sj_setLc {y : Str} {py spos : Pos} (i : Nat) (hc : X.calm = true) (hN : X.N.Nodup) (hi : IJ X W tg iter di) (ok : BlkOk X.N X.env.scope scope own) (ht0 : TgOk X.K g (own.map (·.2)) dg)
    (hg : ∀ (s : Shared) (H : Hp) (C : Addr) (cl : List (Str × Addr)) (fp : List Addr), PG (X.blk s H scope (compEnvC scope cl C X.env) fp) tg g)
    (ht : ∀ (s : Shared) (H : Hp) (C : Addr) (cl : List (Str × Addr)) (fp : List Addr), PTs (X.blk s H scope (compEnvC scope cl C X.env) fp) ifs (liT X.K W0 tt))
    (he : ∀ (s : Shared) (H : Hp) (C : Addr) (cl : List (Str × Addr)) (fp : List Addr), EJ (X.blk s H scope (compEnvC scope cl C X.env) fp) W0 elt te)
    (hy : X.N[i]? = some y := by rfl) (hyl : X.env.scope.names.lookup y = some .local := by rfl) (hsw : swapsWith (.ListComp elt [⟨tg, iter, ifs, 0⟩] scope pos) (some (.Name y py)) spos.line X.env = pure true)
    (hs : ∀ x, foldedSetIterable iter X.env x = pure x := by intro _; rfl) : SJ X W (.Assign [.Name y py] (.ListComp elt [⟨tg, iter, ifs, 0⟩] scope pos) spos) (dAsg (dLc di dg tt te (own.map (·.2))) (dgName i)) :=
  ps_weak (ps_setLc (i := i) hc hN hy hyl hsw hi ok hg ht he hs) fun De σ H ⟨ρ, M, Hf, DD, s, d, f⟩ => lcj ht0 σ H _ ⟨ρ, M, Hf, _, _, s, d, fun x M1 v Hf1 H1 d1 e1 m1 r1 => f.nx _ M1 _ Hf1 H1 d1 e1 ((s.go e1 m1).set r1), f.x s⟩
end
end DL

/-! DL: a star in targets; dicts -/
namespace DL
open PySem PySem.Spec PyProof.Rows L2
/-! ### a, b, *c = e -/
section
variable {prog : Program} {w : World} {A : Around} {E : Value → Shared → Prop} {s : Shared} {env : Env}
/-- the last target is starred -/
theorem unpack_star {v : Value} {T T' id : String} {items : Array Value} {n : Nat} {ax : Addr} {St : Nat → Heap → Prop} {Q : List Value → Shared → Prop}
    (hTy : s.TypeIs v T) (hsl : typeLookup (.type T) "__iter__" = pure (some (.builtin id)))
    (hit : ∀ Q : Value → Shared → Prop, (∀ h', (∀ b o, s.heap.get? b = some o → h'.get? b = some o) → h'.get? s.heap.objs.size ≠ none → St 0 h' → Q (.ref s.heap.objs.size) { s with heap := h' }) → wpAny (model prog w) A (pyIter v) Q E s)
    (hdr : ∀ (s' : Shared) (Q : List Value → Shared → Prop), St 0 s'.heap → (∀ h', St n h' → Heap.SameBut s.heap.objs.size s'.heap h' → Q (items.toList.take n) { s' with heap := h' }) → wpAny (model prog w) A (draw (.ref s.heap.objs.size) n) Q E s')
    (hT' : T' = "str_ascii_iterator" ∨ T' = "str_iterator" ∨ T' = "list_iterator" ∨ T' = "tuple_iterator")
    (W : Walks prog w A.in1 s.heap.objs.size [s.heap.objs.size, ax] [s.heap.objs.size] items.size (fun i v => items[i]? = some v) St)
    (hTT : ∀ i (u : Shared), St i u.heap → u.TypeIs (.ref s.heap.objs.size) T') (hlt : ∀ i h, St i h → s.heap.objs.size < h.objs.size ∧ ax < h.objs.size)
    (hn : n ≤ items.size) (hz : items.size ≤ sizeLine)
    (h : ∀ (h' : Heap) (tk : Nat), (∀ b o, s.heap.get? b = some o → h'.get? b = some o) → Q (items.toList.take n ++ [.ref h'.objs.size]) { s with heap := h'.push { cls := .type "list", data := .seq (items.toList.drop n).toArray }, toks := tk }) :
    wpAny (model prog w) A (unpackItems v (n + 1) (some n)) Q E s := by
  unfold unpackItems
  refine wpAny_bind ?_
  unfold notIterableAtAll
  refine wpAny_bind (wpAny_specialOf hTy hsl (wpAny_pure ?_))
  simp only [Bool.false_eq_true, if_false]
  refine wpAny_bind (wpAny_holding (hit _ fun h1 k1 ne1 st1 => ?_))
  refine wpAny_bind (wpAny_holding (hdr { s with heap := h1 } _ st1 fun h2 st2 sb2 => ?_))
  have fl : (items.toList.take n).length = n := by
    rw [List.length_take, Array.length_toList]
    omega
  rw [if_neg (show ¬ (items.toList.take n).length < n by rw [fl]; omega)]
  refine wpAny_bind (wpAny_holding (PySem.W.kun_collect (s := { s with heap := h2 }) (T := T') (ax := ax) hT' W hTT hn st2 (hlt _ _ st2).1 (hlt _ _ st2).2 (fun h3 tk k3 => ?_) hz))
  have e0 : n + 1 - 1 - n = 0 := by omega
  rw [e0]
  show wpAny _ _ (newList ((items.toList.drop n).take ((items.toList.drop n).length - 0)) >>= fun d => pure (items.toList.take n ++ [d] ++ (items.toList.drop n).drop ((items.toList.drop n).length - 0))) _ _ _
  rw [Nat.sub_zero, List.take_length, List.drop_length]
  have keep : ∀ b o, s.heap.get? b = some o → h3.get? b = some o := fun b o e => by
    have nb : b ≠ s.heap.objs.size := Nat.ne_of_lt (Heap.lt_size e)
    exact k3 b o nb ((sb2.2 b nb).trans (k1 b o e))
  refine wpAny_bind (wpAny_newList (s := { s with heap := h3, toks := tk }) (wpAny_pure ?_) (by rw [List.length_drop, Array.length_toList]; omega))
  rw [List.append_nil]
  exact h h3 tk keep
end
/-- a, b, *c = a list or a tuple -/
def gStar (K : Fz) (n : Nat) (t : TGs) : TG := fun v σ H Q => ∃ a xs, v = .ref a ∧ (SqL K H a xs ∨ SqT K H a xs) ∧ n ≤ xs.length ∧ ∀ D, H D = none → t (xs.take n ++ [.ref D]) σ (upd H D (.lst (xs.drop n))) Q
theorem pg_star {X : Cx} {es : List Expr} {kk n : Nat} {pos : Pos} {t : TGs} (hc : X.calm = true) (h : PGs X es t) (hn : (assignEach es X.env).length = n + 1 := by rfl) (hst : (assignEach es X.env).findIdx? (·.1) = some n := by rfl) : PG X (.Tuple es kk pos) (gStar X.K n t) := by
  refine ⟨fun pins s σ H v u Q I r hw => ?_⟩
  obtain ⟨a, xs, rfl, hq, hl, hw⟩ := hw
  cases r
  have hh := I.ok.hd hc
  rw [assign_Tuple]
  refine wpAny_bind (wpAny_standAt ?_)
  unfold unpack
  rw [hn, hst]
  have fin : ∀ (its : List Value), Vals xs its → xs.length ≤ sizeLine → ∀ (h' : Heap) (tk : Nat), (∀ b o, s.heap.get? b = some o → h'.get? b = some o) →
      wpAny (model X.prog X.w) X.A (assignInOrder ((assignEach es X.env).map (·.2)) (its.toArray.toList.take n ++ [.ref h'.objs.size])) (fun _ s' => ∃ σ' H', Inv X pins σ' H' s' ∧ Q σ' H') X.xe
        { s with heap := h'.push { cls := .type "list", data := .seq (its.toArray.toList.drop n).toArray }, toks := tk } := fun its rv hz h' tk kp => by
    have I1 := I.kept (t' := tk) kp
    have fr : H h'.objs.size = none := I1.hok.fresh (Nat.le_refl _)
    have I2 := I1.laid (t' := tk) (a := h'.objs.size) (o := .lst (xs.drop n)) (h' := h'.push { cls := .type "list", data := .seq (its.drop n).toArray }) (fun b o e => Heap.get?_push_of_some _ e) (Nat.le_refl _)
      ⟨by rw [List.length_drop]; omega, its.drop n, 0, rv.drop n, Heap.get?_push_size _ rfl⟩
    exact h.run pins _ σ _ _ _ Q I2 ((rv.take n).append (show Vals [V.ref h'.objs.size] [Value.ref h'.objs.size] from .cons rfl .nil)) (hw _ fr)
  rcases hq with hq | hq
  · obtain ⟨its, rv, pl, hz⟩ := I.list hq
    have hlt : a ≠ s.heap.objs.size := by
      obtain ⟨o, _, e, _⟩ := pl
      exact Nat.ne_of_lt (Heap.lt_size e)
    have hx : n ≤ its.toArray.size := by
      rw [List.size_toArray, ← rv.length]
      exact hl
    refine wpAny_bind (wpAny_holding (unpack_star (T := "list") (T' := "list_iterator") (ax := a) (items := its.toArray) (St := fun i h => h.IsListIter s.heap.objs.size a i ∧ h.IsList a its.toArray) pl.isList.typeIs PySem.slot_list_iter.lookup
      (fun Q' h' => wpAny_pyIter_list pl.isList (h' _ (fun b o e => Heap.get?_push_of_some _ e) (by rw [Heap.get?_push_size _ rfl]; exact fun z => by cases z) ⟨⟨_, Heap.get?_push_size _ rfl, rfl, rfl⟩, pl.isList.push _⟩))
      (fun s' Q' st' h' => PySem.W.kun_draw hlt n 0 s' Q' st'.1 st'.2 (by omega) fun h2 i2 sb => h' h2 ⟨by rw [Nat.zero_add] at i2; exact i2, st'.2.extBut sb.extBut hlt⟩ sb)
      (.inr (.inr (.inl rfl))) (Walks.list (A := X.A.in1) hh s.heap.objs.size a hlt its.toArray) (fun i u st' => st'.1.typeIs) (fun i h st' => ?_) hx (by rw [List.size_toArray, ← rv.length]; exact hz) (fin its rv hz)))
    obtain ⟨⟨_, e1, _⟩, ⟨_, e2, _⟩⟩ := st'
    exact ⟨Heap.lt_size e1, Heap.lt_size e2⟩
  · obtain ⟨its, rv, pl, hz⟩ := I.tuple hq
    have hlt : a ≠ s.heap.objs.size := by
      obtain ⟨o, e, _⟩ := pl
      exact Nat.ne_of_lt (Heap.lt_size e)
    have hx : n ≤ its.toArray.size := by
      rw [List.size_toArray, ← rv.length]
      exact hl
    refine wpAny_bind (wpAny_holding (unpack_star (T := "tuple") (T' := "tuple_iterator") (ax := a) (items := its.toArray) (St := fun i h => h.IsTupleIter s.heap.objs.size a i ∧ h.IsTuple a its.toArray) pl.typeIs PyProof.Rows.slot_tuple_iter.lookup
      (fun Q' h' => wpAny_pyIter_tuple (items := its.toArray) pl (h' _ (fun b o e => Heap.get?_push_of_some _ e) (by rw [Heap.get?_push_size _ rfl]; exact fun z => by cases z) ⟨⟨_, Heap.get?_push_size _ rfl, rfl, rfl⟩, pl.push _⟩))
      (fun s' Q' st' h' => PyProof.Rows.draw_tuple hlt n 0 s' Q' st'.1 st'.2 (by omega) fun h2 i2 sb => h' h2 ⟨by rw [Nat.zero_add] at i2; exact i2, IsTup.extBut st'.2 sb.extBut hlt⟩ sb)
      (.inr (.inr (.inr rfl))) (Walks.tuple (A := X.A.in1) hh s.heap.objs.size a hlt its.toArray) (fun i u st' => st'.1.typeIs) (fun i h st' => ?_) hx (by rw [List.size_toArray, ← rv.length]; exact hz) (fin its rv hz)))
    obtain ⟨⟨_, e1, _⟩, ⟨_, e2, _⟩⟩ := st'
    exact ⟨Heap.lt_size e1, Heap.lt_size e2⟩
theorem pgs_star1 {X : Cx} {e : Expr} {p : Pos} {t : TG} (h1 : PG X e t) (hs : (assignEach [.Starred e p] X.env).map (·.2) = [assign e X.env] := by rfl) : PGs X [.Starred e p] (gCons t gNil) := by
  refine ⟨fun pins s σ H vs us Q I r ⟨v, vr, e1, hw⟩ => ?_⟩
  subst e1
  cases r with
  | cons r rr =>
    rw [hs]
    refine assignInOrder_cons (thn (h1.run pins s σ H _ _ _ I r hw) fun _ s1 ⟨σ1, H1, I1, q1⟩ => ?_)
    obtain ⟨rfl, q1⟩ := q1
    cases rr
    exact assignInOrder_nil ⟨σ1, H1, I1, q1⟩
/-- the items of a tuple or a list -/
def seqD (M : Mm) : D → Option (List D)
  | .tup ds => some ds
  | d => asL M d
theorem seqD_ok {K : Fz} {M : Mm} {Hf H : Hp} {v : V} {d : D} {ds : List D} (m : HM K Hf M H) (r : Rp K Hf v d) (h : seqD M d = some ds) : ∃ a vs, v = .ref a ∧ (SqL K H a vs ∨ SqT K H a vs) ∧ Rps K Hf vs ds := by
  unfold seqD at h
  split at h
  · cases h
    obtain ⟨a, vs, rfl, h, r2⟩ := tup_ok m r
    exact ⟨a, vs, rfl, .inr h, r2⟩
  · obtain ⟨a, vs, rfl, h, r2⟩ := asL_ok m r h
    exact ⟨a, vs, rfl, .inl h, r2⟩
/-- a, b, *c: n names ahead, the rest a list that may change or that stays -/
def dgStar (n : Nat) (gs : DGs) : DG := fun d ρ M P => match seqD M d with
  | some ds => n ≤ ds.length ∧ gs (ds.take n ++ [.lst (ds.drop n)]) ρ M P
  | none => False
def dgStarM (n : Nat) (gs : DGs) : DG := fun d ρ M P => match seqD M d with
  | some ds => n ≤ ds.length ∧ ∀ a, M a = none → gs (ds.take n ++ [.ref a]) ρ (um M a (.lst (ds.drop n))) P
  | none => False
section
variable {X : Cx} {pos : Pos} {es : List Expr} {gs : DGs}
theorem gsj_star {e : Expr} {p : Pos} {g : DG} (h1 : GJ X e g) (hs : (assignEach [.Starred e p] X.env).map (·.2) = [assign e X.env] := by rfl) : GsJ X [.Starred e p] (dgCons g dgNil) :=
  pgs_weak (pgs_star1 h1 hs) fun v σ H Q ⟨d, ρ, M, Hf, P, s, r, g, f⟩ => by
    unfold dgCons at g
    split at g
    · cases r with
      | cons h t => exact ⟨_, _, rfl, _, ρ, M, Hf, _, s, h, g, fun ρ1 M1 σ1 Hf1 H1 d1 e1 s1 => by
          unfold dgNil at d1
          split at d1
          · cases t
            exact ⟨rfl, f _ _ _ _ _ d1 e1 s1⟩
          · exact d1.elim⟩
    · exact g.elim
theorem gj_star {k n : Nat} (hc : X.calm = true) (h : GsJ X es gs) (hn : (assignEach es X.env).length = n + 1 := by rfl) (hst : (assignEach es X.env).findIdx? (·.1) = some n := by rfl) : GJ X (.Tuple es k pos) (dgStar n gs) :=
  pg_weak (pg_star hc h hn hst) fun v σ H Q ⟨d, ρ, M, Hf, P, s, r, g, f⟩ => by
    unfold dgStar at g
    split at g
    case h_2 => exact g.elim
    rename_i ds eq
    obtain ⟨a, vs, rfl, hq, rr⟩ := seqD_ok s.hm r eq
    obtain ⟨l, g⟩ := g
    refine ⟨a, vs, rfl, hq, by rw [rr.len]; exact l, fun D hD => ?_⟩
    obtain ⟨e1, m1⟩ := s.hm.newF (o := .lst (vs.drop n)) hD
    exact ⟨_, ρ, M, _, P, s.go e1 m1, ((rr.mono e1).take n).app (.cons (.lst upd_same ((rr.mono e1).drop n)) .nil), g, f.go e1⟩
theorem gj_starM {k n : Nat} (hc : X.calm = true) (h : GsJ X es gs) (hn : (assignEach es X.env).length = n + 1 := by rfl) (hst : (assignEach es X.env).findIdx? (·.1) = some n := by rfl) : GJ X (.Tuple es k pos) (dgStarM n gs) :=
  pg_weak (pg_star hc h hn hst) fun v σ H Q ⟨d, ρ, M, Hf, P, s, r, g, f⟩ => by
    unfold dgStarM at g
    split at g
    case h_2 => exact g.elim
    rename_i ds eq
    obtain ⟨a, vs, rfl, hq, rr⟩ := seqD_ok s.hm r eq
    obtain ⟨l, g⟩ := g
    refine ⟨a, vs, rfl, hq, by rw [rr.len]; exact l, fun D hD => ?_⟩
    exact ⟨_, ρ, _, Hf, P, s.go (Ext.refl _) (s.hm.newM (mo := .lst (ds.drop n)) hD ⟨_, upd_same, rr.drop n⟩), (rr.take n).app (.cons (.ref D) .nil), g D (s.hm.none_of hD), f⟩
end
end DL

/-! DL: dicts by ints and texts, lists turned round -/
namespace DL
open PySem PySem.Spec PyProof.Rows L2
/-! ### tables -/
section
variable {α : Type}
def lk (kvs : List (Key × α)) (k : Key) : Option α := (kvs.find? fun kv => decide (kv.1 = k)).map (·.2)
def ins (kvs : List (Key × α)) (k : Key) (v : α) : List (Key × α) := if (kvs.any fun kv => decide (kv.1 = k)) = true then kvs.map (fun kv => if kv.1 = k then (kv.1, v) else kv) else kvs ++ [(k, v)]
def out (kvs : List (Key × α)) (k : Key) : List (Key × α) := kvs.filter fun kv => decide (kv.1 ≠ k)
end
def keyOf : D → Option Key
  | .int i => some (.inl i)
  | .str x => some (.inr x)
  | _ => none
theorem keyOf_ok {K : Fz} {H : Hp} {v : V} {d : D} {k : Key} (r : Rp K H v d) (h : keyOf d = some k) : v = kV k := by
  unfold keyOf at h
  split at h
  · cases h
    cases r
    rfl
  · cases h
    cases r
    rfl
  · cases h
section
variable {K : Fz} {H : Hp}
theorem Rks.any {k : Key} : ∀ {ws : List (Key × V)} {kvs : List (Key × D)}, Rks K H ws kvs → (ws.any fun kv => decide (kv.1 = k)) = (kvs.any fun kv => decide (kv.1 = k))
  | _, _, .nil => rfl
  | _, _, .cons _ r => by
    rw [List.any_cons, List.any_cons, r.any]
theorem Rks.app {κ : Type} : ∀ {ws vs : List (κ × V)} {kvs es : List (κ × D)}, Rks K H ws kvs → Rks K H vs es → Rks K H (ws ++ vs) (kvs ++ es)
  | _, _, _, _, .nil, s => s
  | _, _, _, _, .cons h r, s => .cons h (r.app s)
theorem Rks.map {k : Key} {v : V} {d : D} (h : Rp K H v d) : ∀ {ws : List (Key × V)} {kvs : List (Key × D)}, Rks K H ws kvs → Rks K H (ws.map fun kv => if kv.1 = k then (kv.1, v) else kv) (kvs.map fun kv => if kv.1 = k then (kv.1, d) else kv)
  | _, _, .nil => .nil
  | _, _, .cons (k := k') g r => by
    rw [List.map_cons, List.map_cons]
    by_cases e : k' = k
    · rw [if_pos e, if_pos e]
      exact .cons h (r.map h)
    · rw [if_neg e, if_neg e]
      exact .cons g (r.map h)
theorem Rks.ins {k : Key} {v : V} {d : D} {ws : List (Key × V)} {kvs : List (Key × D)} (r : Rks K H ws kvs) (h : Rp K H v d) : Rks K H (putK ws k v) (ins kvs k d) := by
  unfold putK DL.ins
  rw [r.any]
  split
  · exact r.map h
  · exact r.app (.cons h .nil)
theorem Rks.out {k : Key} : ∀ {ws : List (Key × V)} {kvs : List (Key × D)}, Rks K H ws kvs → Rks K H (dropK ws k) (out kvs k)
  | _, _, .nil => .nil
  | _, _, .cons (k := k') g r => by
    unfold dropK DL.out
    rw [List.filter_cons, List.filter_cons]
    by_cases e : k' = k
    · rw [if_neg (by simp [e]), if_neg (by simp [e])]
      exact r.out
    · rw [if_pos (by simp [e]), if_pos (by simp [e])]
      exact .cons g r.out
theorem Rks.lk {k : Key} : ∀ {ws : List (Key × V)} {kvs : List (Key × D)}, Rks K H ws kvs → (valV ws k = none ∧ lk kvs k = none) ∨ ∃ v d, valV ws k = some v ∧ lk kvs k = some d ∧ Rp K H v d
  | _, _, .nil => .inl ⟨rfl, rfl⟩
  | _, _, .cons (k := k') (v := v) (d := d) g r => by
    by_cases e : k' = k
    · refine .inr ⟨v, d, ?_, ?_, g⟩
      · unfold valV
        rw [List.find?_cons_of_pos (by simp [e])]
        rfl
      · unfold DL.lk
        rw [List.find?_cons_of_pos (by simp [e])]
        rfl
    · have ih := r.lk (k := k)
      unfold valV DL.lk at ih ⊢
      rw [List.find?_cons_of_neg (by simp [e]), List.find?_cons_of_neg (by simp [e])]
      exact ih
theorem Rks.len {κ : Type} : ∀ {ws : List (κ × V)} {kvs : List (κ × D)}, Rks K H ws kvs → ws.length = kvs.length
  | _, _, .nil => rfl
  | _, _, .cons _ r => congrArg Nat.succ r.len
end
/-- the table at a -/
def tab (M : Mm) : D → Option (Addr × List (Key × D))
  | .ref a => (match M a with
    | some (.dct kvs) => some (a, kvs)
    | _ => none)
  | _ => none
theorem tab_ok {K : Fz} {M : Mm} {Hf H : Hp} {x : D} {v : V} {a : Addr} {kvs : List (Key × D)} (m : HM K Hf M H) (r : Rp K Hf v x) (h : tab M x = some (a, kvs)) : ∃ ws, v = .ref a ∧ H a = some (.dK ws) ∧ Rks K Hf ws kvs ∧ M a = some (.dct kvs) := by
  unfold tab at h
  split at h
  · split at h
    · rename_i e
      cases h
      cases r
      obtain ⟨_, ws, q1, q2⟩ := m.mu _ _ e
      exact ⟨ws, rfl, q1, q2, e⟩
    · cases h
  · cases h
/-- d[k], d a table -/
def dGet (td ty : DE) : DE := fun ρ M P PX => td ρ M (fun x M1 => ty ρ M1 (fun y M2 => match tab M2 x, keyOf y with
  | some (_, kvs), some k => (match lk kvs k with
    | some z => P z M2
    | none => False)
  | _, _ => False) PX) PX
def dInT (neg : Bool) (ty td : DE) : DE := fun ρ M P PX => ty ρ M (fun y M1 => td ρ M1 (fun x M2 => match tab M2 x, keyOf y with
  | some (_, kvs), some k => P (.bl (neg ^^ (lk kvs k).isSome)) M2
  | _, _ => False) PX) PX
/-- d[k] = e -/
def dPut (td ty tv : DE) : DS := fun DD ρ M => tv ρ M (fun v M1 => td ρ M1 (fun x M2 => ty ρ M2 (fun y M3 => match tab M3 x, keyOf y with
  | some (a, kvs), some k => kvs.length < sizeLine ∧ DD.nx ρ (um M3 a (.dct (ins kvs k v)))
  | _, _ => False) (DD.ex ρ)) (DD.ex ρ)) (DD.ex ρ)
section
variable {X : Cx} {W : WX'} {pos pos' : Pos} {o i value : Expr} {td ty tv : DE}
theorem ej_dget (hu : X.A.units + 1 < cLine) (ho : EJ X W o td) (hi : EJ X W i ty) (hs : NoSl i := by exact fun _ _ => rfl) : EJ X W (.Subscript o i pos) (dGet td ty) := pe_weak (pe_dget hu ho hi hs) fun σ H Q ⟨ρ, M, Hf, P, PX, s, d, fe, fx⟩ =>
  ⟨ρ, M, Hf, _, PX, s, d, fun x M1 v Hf1 H1 d1 e1 m1 r1 => ⟨ρ, M1, Hf1, _, PX, s.go e1 m1, d1, fun y M2 u Hf2 H2 d2 e2 m2 r2 => by
    dsimp only at d2
    split at d2
    · rename_i h1 h2
      obtain ⟨ws, rfl, ha, rk, _⟩ := tab_ok m2 (r1.mono e2) h1
      obtain rfl := keyOf_ok r2 h2
      split at d2
      · rename_i z hz
        rcases rk.lk with ⟨_, q⟩ | ⟨v', d', q1, q2, q3⟩
        · rw [hz] at q
          cases q
        · rw [hz] at q2
          cases q2
          exact ⟨_, v', rfl, q1 ▸ DGet.k ha, fe _ _ _ _ _ d2 (e1.trans e2) m2 q3⟩
      · exact d2.elim
    · exact d2.elim, fx.go e1⟩, fx⟩
theorem in_tab {K : Fz} {Hf H : Hp} {M : Mm} {x y : D} {v u : V} {a : Addr} {kvs : List (Key × D)} {k : Key} (m : HM K Hf M H) (r1 : Rp K Hf v x) (r2 : Rp K Hf u y) (h1 : tab M x = some (a, kvs)) (h2 : keyOf y = some k) : ∃ o : Option V, v = .ref a ∧ DGet H a u o ∧ o.isSome = (lk kvs k).isSome := by
  obtain ⟨ws, rfl, ha, rk, _⟩ := tab_ok m r1 h1
  obtain rfl := keyOf_ok r2 h2
  refine ⟨_, rfl, DGet.k ha, ?_⟩
  rcases rk.lk (k := k) with ⟨q1, q⟩ | ⟨v', d', q1, q2, q3⟩
  · rw [q1, q]
    rfl
  · rw [q1, q2]
    rfl
theorem ej_din (hu : X.A.units + 1 < cLine) (hi : EJ X W i ty) (ho : EJ X W o td) (hb : behindInMarks .In o = false := by rfl) : EJ X W (.Compare i [.In] [o] pos) (dInT false ty td) := pe_weak (pe_cmp (pc_din hu hi ho) hb) fun σ H Q ⟨ρ, M, Hf, P, PX, s, d, fe, fx⟩ =>
  ⟨ρ, M, Hf, _, PX, s, d, fun y M1 v Hf1 H1 d1 e1 m1 r1 => ⟨ρ, M1, Hf1, _, PX, s.go e1 m1, d1, fun x M2 u Hf2 H2 d2 e2 m2 r2 => by
    dsimp only at d2
    split at d2
    · rename_i h1 h2
      obtain ⟨o, rfl, q1, q2⟩ := in_tab m2 r2 (r1.mono e2) h1 h2
      rw [Bool.false_xor, ← q2] at d2
      exact ⟨_, o, rfl, q1, fe _ _ _ _ _ d2 (e1.trans e2) m2 (.bl _)⟩
    · exact d2.elim, fx.go e1⟩, fx⟩
theorem ej_dnotin (hu : X.A.units + 1 < cLine) (hi : EJ X W i ty) (ho : EJ X W o td) (hb : behindInMarks .NotIn o = false := by rfl) : EJ X W (.Compare i [.NotIn] [o] pos) (dInT true ty td) := pe_weak (pe_cmp (pc_dnotin hu hi ho) hb) fun σ H Q ⟨ρ, M, Hf, P, PX, s, d, fe, fx⟩ =>
  ⟨ρ, M, Hf, _, PX, s, d, fun y M1 v Hf1 H1 d1 e1 m1 r1 => ⟨ρ, M1, Hf1, _, PX, s.go e1 m1, d1, fun x M2 u Hf2 H2 d2 e2 m2 r2 => by
    dsimp only at d2
    split at d2
    · rename_i h1 h2
      obtain ⟨o, rfl, q1, q2⟩ := in_tab m2 r2 (r1.mono e2) h1 h2
      rw [Bool.true_xor, ← q2] at d2
      exact ⟨_, o, rfl, q1, fe _ _ _ _ _ d2 (e1.trans e2) m2 (.bl _)⟩
    · exact d2.elim, fx.go e1⟩, fx⟩
/-- as tests -/
theorem tj_din (hu : X.A.units + 1 < cLine) (hi : EJ X W i ty) (ho : EJ X W o td) (hb : behindInMarks .In o = false := by rfl) : TJ X W (.Compare i [.In] [o] pos) (dTst (dInT false ty td)) := pt_weak (pt_cmp (pc_din hu hi ho) hb) fun σ H Q z => by
  obtain ⟨ρ, M, Hf, P, PX, s, d, fe, fx⟩ := tstj σ H Q z
  exact ⟨ρ, M, Hf, _, PX, s, d, fun y M1 v Hf1 H1 d1 e1 m1 r1 => ⟨ρ, M1, Hf1, _, PX, s.go e1 m1, d1, fun x M2 u Hf2 H2 d2 e2 m2 r2 => by
    dsimp only at d2
    split at d2
    · rename_i h1 h2
      obtain ⟨o, rfl, q1, q2⟩ := in_tab m2 r2 (r1.mono e2) h1 h2
      rw [Bool.false_xor, ← q2] at d2
      exact ⟨_, o, rfl, q1, fe _ _ _ _ _ d2 (e1.trans e2) m2 (.bl _)⟩
    · exact d2.elim, fx.go e1⟩, fx⟩
theorem tj_dnotin (hu : X.A.units + 1 < cLine) (hi : EJ X W i ty) (ho : EJ X W o td) (hb : behindInMarks .NotIn o = false := by rfl) : TJ X W (.Compare i [.NotIn] [o] pos) (dTst (dInT true ty td)) := pt_weak (pt_cmp (pc_dnotin hu hi ho) hb) fun σ H Q z => by
  obtain ⟨ρ, M, Hf, P, PX, s, d, fe, fx⟩ := tstj σ H Q z
  exact ⟨ρ, M, Hf, _, PX, s, d, fun y M1 v Hf1 H1 d1 e1 m1 r1 => ⟨ρ, M1, Hf1, _, PX, s.go e1 m1, d1, fun x M2 u Hf2 H2 d2 e2 m2 r2 => by
    dsimp only at d2
    split at d2
    · rename_i h1 h2
      obtain ⟨o, rfl, q1, q2⟩ := in_tab m2 r2 (r1.mono e2) h1 h2
      rw [Bool.true_xor, ← q2] at d2
      exact ⟨_, o, rfl, q1, fe _ _ _ _ _ d2 (e1.trans e2) m2 (.bl _)⟩
    · exact d2.elim, fx.go e1⟩, fx⟩
theorem sj_dput (hu : X.A.units + 1 < cLine) (ho : EJ X W o td) (hi : EJ X W i ty) (hv : EJ X W value tv) (hs : swapsWith value (some (.Subscript o i pos')) pos.line X.env = pure false := by rfl) : SJ X W (.Assign [.Subscript o i pos'] value pos) (dPut td ty tv) :=
  ps_weak (ps_dput hu ho hi hv hs) fun De σ H ⟨ρ, M, Hf, DD, s, d, f⟩ =>
    ⟨ρ, M, Hf, _, _, s, d, fun v M1 wv Hf1 H1 d1 e1 m1 r1 => ⟨ρ, M1, Hf1, _, _, s.go e1 m1, d1, fun x M2 wx Hf2 H2 d2 e2 m2 r2 => ⟨ρ, M2, Hf2, _, _, (s.go e1 m1).go e2 m2, d2, fun y M3 wy Hf3 H3 d3 e3 m3 r3 => by
      dsimp only at d3
      split at d3
      · rename_i h1 h2
        obtain ⟨ws, rfl, ha, rk, em⟩ := tab_ok m3 (r2.mono e3) h1
        obtain rfl := keyOf_ok r3 h2
        have rv := (r1.mono e2).mono e3
        refine ⟨_, _, rfl, DPut.k ha (by rw [rk.len]; exact d3.1), f.nx _ _ _ Hf3 _ d3.2 ((e1.trans e2).trans e3) ?_⟩
        exact (((s.go e1 m1).go e2 m2).go e3 m3).go (Ext.refl _) (m3.write em ha (fun x z => by cases z) ⟨_, upd_same, rk.ins rv⟩)
      · exact d3.elim, ((f.x s).go e1).go e2⟩, (f.x s).go e1⟩, f.x s⟩
end

/-! ### {k: v, ..} -/
def dPairs : List (DE × DE) → Ev → Mm → (List (D × D) → Mm → Prop) → XP → Prop
  | [], _, M, P, _ => P [] M
  | (tk, tv) :: r, ρ, M, P, PX => tk ρ M (fun x M1 => tv ρ M1 (fun y M2 => dPairs r ρ M2 (fun ps M3 => P ((x, y) :: ps) M3) PX) PX) PX
def keysOf : List (D × D) → Option (List (Key × D))
  | [] => some []
  | (x, y) :: r => (match keyOf x, keysOf r with
    | some k, some kvs => some ((k, y) :: kvs)
    | _, _ => none)
def merged (kvs more : List (Key × D)) : List (Key × D) := more.foldl (fun acc kv => ins acc kv.1 kv.2) kvs
/-- the new table stands at p meanwhile -/
def dDisp (trs : List (DE × DE)) : DE := fun ρ M P PX => ∀ p, M p = none → dPairs trs ρ (um M p (.dct [])) (fun ps M2 => match M2 p, keysOf ps with
  | some (.dct []), some kvs => kvs.length ≤ 15 ∧ P (.ref p) (um M2 p (.dct (merged [] kvs)))
  | _, _ => False) PX
inductive RPs (K : Fz) (H : Hp) : List (V × V) → List (D × D) → Prop
  | nil : RPs K H [] []
  | cons {x y : V} {a b : D} {vs : List (V × V)} {ds : List (D × D)} : Rp K H x a → Rp K H y b → RPs K H vs ds → RPs K H ((x, y) :: vs) ((a, b) :: ds)
theorem pairsj {K : Fz} {W : WX'} : ∀ (trs : List (DE × DE)) {σ : Sx} {H : Hp} {ρ : Ev} {M : Mm} {Hf : Hp} {P : List (D × D) → Mm → Prop} {PX : XP} {Q : List (V × V) → Hp → Prop}, SR K ρ M Hf σ H → dPairs trs ρ M P PX →
    (∀ ps M' vs Hf' H', P ps M' → Ext Hf Hf' → HM K Hf' M' H' → RPs K Hf' vs ps → Q vs H') → FinX K Hf σ PX W → tPairs (trs.map fun t => (liE K W t.1, liE K W t.2)) σ H Q
  | [], σ, H, ρ, M, Hf, P, PX, Q, s, d, f, fx => f [] M [] Hf H d (Ext.refl _) s.hm .nil
  | (tk, tv) :: r, σ, H, ρ, M, Hf, P, PX, Q, s, d, f, fx =>
    ⟨ρ, M, Hf, _, PX, s, d, fun x M1 v Hf1 H1 d1 e1 m1 r1 => ⟨ρ, M1, Hf1, _, PX, s.go e1 m1, d1, fun y M2 u Hf2 H2 d2 e2 m2 r2 =>
      pairsj r ((s.go e1 m1).go e2 m2) d2 (fun ps M3 vs Hf3 H3 d3 e3 m3 r3 => f _ M3 _ Hf3 H3 d3 ((e1.trans e2).trans e3) m3 (.cons ((r1.mono e2).mono e3) (r2.mono e3) r3)) (fx.go (e1.trans e2)), fx.go e1⟩, fx⟩
theorem keysOf_ok {K : Fz} {H : Hp} : ∀ {vs : List (V × V)} {ps : List (D × D)} {kvs : List (Key × D)}, RPs K H vs ps → keysOf ps = some kvs → ∃ ws : List (Key × V), vs = ws.map (fun kv => (kV kv.1, kv.2)) ∧ Rks K H ws kvs
  | _, _, _, .nil, h => by
    cases h
    exact ⟨[], rfl, .nil⟩
  | _, _, _, .cons r1 r2 r3, h => by
    unfold keysOf at h
    split at h
    · rename_i h1 h2
      cases h
      obtain ⟨ws, rfl, rk⟩ := keysOf_ok r3 h2
      obtain rfl := keyOf_ok r1 h1
      exact ⟨(_, _) :: ws, rfl, .cons r2 rk⟩
    · cases h
theorem Rks.merged {K : Fz} {H : Hp} : ∀ {ws more' : List (Key × V)} {kvs more : List (Key × D)}, Rks K H more' more → Rks K H ws kvs → Rks K H (mergeK ws more') (merged kvs more)
  | _, _, _, _, .nil, r => r
  | ws, _, kvs, _, .cons (k := k) (v := v) (vs := vs) (d := d) (ds := ds) h t, r => show Rks K H (mergeK (putK ws k v) vs) (DL.merged (DL.ins kvs k d) ds) from Rks.merged t (r.ins h)
section
variable {X : Cx} {W : WX'} {pos : Pos}
/-- pairs of a display -/
def PsJ (X : Cx) (W : WX') (pos : Pos) (keys : List (Option Expr)) (values : List Expr) (trs : List (DE × DE)) : Prop := PPs X pos keys values (trs.map fun t => (liE X.K W t.1, liE X.K W t.2))
theorem psj_nil : PsJ X W pos [] [] [] := pps_nil
theorem psj_cons {k v : Expr} {ks : List (Option Expr)} {vs : List Expr} {tk tv : DE} {trs : List (DE × DE)} (hk : EJ X W k tk) (hv : EJ X W v tv) (hr : PsJ X W pos ks vs trs) : PsJ X W pos (some k :: ks) (v :: vs) ((tk, tv) :: trs) := pps_cons hk hv hr
theorem ej_disp {keys : List (Option Expr)} {values : List Expr} {trs : List (DE × DE)} (h : PsJ X W pos keys values trs) (hall : keys.all (·.isSome) = true := by rfl) (hl : keys.length = values.length := by rfl) (h0 : keys ≠ [] := by exact fun z => by cases z)
    (h15 : keys.length ≤ 15 := by decide) : EJ X W (.Dict keys values pos) (dDisp trs) := pe_weak (pe_disp h hall hl h0 h15) fun σ H Q ⟨ρ, M, Hf, P, PX, s, d, fe, fx⟩ p hp => by
  have mp := s.hm.none_of hp
  have m1 := s.hm.newM (mo := .dct []) (o := .dK []) hp ⟨[], upd_same, .nil⟩
  refine pairsj trs (s.go (Ext.refl _) m1) (d p mp) (fun ps M' vs Hf' H' d' e' m' r' => ?_) fx
  try dsimp only at d'
  split at d'
  · rename_i h1 h2
    obtain ⟨ws, rfl, rk⟩ := keysOf_ok r' h2
    obtain ⟨_, us, q1, q2⟩ := m'.mu _ _ h1
    cases q2
    refine ⟨q1, ws, rfl, by rw [rk.len]; exact d'.1, ?_⟩
    exact fe _ _ _ _ _ d'.2 e' (m'.write h1 q1 (fun x z => by cases z) ⟨_, upd_same, Rks.merged rk .nil⟩) (.ref p)
  · exact d'.elim
theorem ej_dnew : EJ X W (.Dict [] [] pos) (fun ρ M P PX => ∀ p, M p = none → P (.ref p) (um M p (.dct []))) := pe_weak pe_dnewK fun σ H Q ⟨ρ, M, Hf, P, PX, s, d, fe, fx⟩ p hp =>
  fe _ _ _ _ _ (d p (s.hm.none_of hp)) (Ext.refl _) (s.hm.newM (mo := .dct []) hp ⟨[], upd_same, .nil⟩) (.ref p)
end
/-! ### xs[::-1] -/
def dRev (de : DE) : DE := fun ρ M P PX => de ρ M (fun x M1 => match asL M1 x with
  | some ds => P (.lst ds.reverse) M1
  | none => False) PX
def dRevM (de : DE) : DE := fun ρ M P PX => de ρ M (fun x M1 => match asL M1 x with
  | some ds => ∀ a, M1 a = none → P (.ref a) (um M1 a (.lst ds.reverse))
  | none => False) PX
section
variable {X : Cx} {W : WX'} {e : Expr} {de : DE} {k : Nat} {p1 p2 p3 pos : Pos}
theorem ej_rev (he : EJ X W e de) : EJ X W (.Subscript e (.Slice none none (some (.UnaryOp .USub (.Constant (.int 1) k p1) p2)) p3) pos) (dRev de) := pe_weak (pe_revL he) fun σ H Q ⟨ρ, M, Hf, P, PX, s, d, fe, fx⟩ =>
  ⟨ρ, M, Hf, _, PX, s, d, fun x M1 v Hf1 H1 d1 e1 m1 r1 => by
    dsimp only at d1
    split at d1
    · rename_i h
      obtain ⟨a, vs, rfl, ha, ra⟩ := asL_ok m1 r1 h
      exact ⟨a, vs, rfl, ha, fun p hp => (fe.go e1).newF m1 d1 hp fun H' h e => .lst h (ra.mono e).rev⟩
    · exact d1.elim, fx⟩
theorem ej_revM (he : EJ X W e de) : EJ X W (.Subscript e (.Slice none none (some (.UnaryOp .USub (.Constant (.int 1) k p1) p2)) p3) pos) (dRevM de) := pe_weak (pe_revL he) fun σ H Q ⟨ρ, M, Hf, P, PX, s, d, fe, fx⟩ =>
  ⟨ρ, M, Hf, _, PX, s, d, fun x M1 v Hf1 H1 d1 e1 m1 r1 => by
    dsimp only at d1
    split at d1
    · rename_i ds h
      obtain ⟨a, vs, rfl, ha, ra⟩ := asL_ok m1 r1 h
      exact ⟨a, vs, rfl, ha, fun p hp => (fe.go e1).newM (mo := .lst ds.reverse) m1 hp ⟨_, upd_same, ra.rev⟩ (d1 p)⟩
    · exact d1.elim, fx⟩
end
end DL

/-! DL: the law's end; decks -/
namespace DL
open PySem PySem.Spec PyProof.Rows L2
theorem law_callG {P : Program} {w : World} {K : Fz} {mg mb : Str → Option Value} {k : Nat} {fa a : Addr} {fd : FuncData} {x : Str} {sp : DSp} {s₁ : Shared} {vs : List Value} {ns : List Int}
    (KX : K.In s₁.heap) (hns : s₁.heap.Ns mainGlobals mg) (hb : s₁.heap.Ns builtinsNs mb) (hbb : ∀ x : Str, x ≠ "__name__" → mb x = bootBuiltins x) (hlim : s₁.heap.NoLimit) (hg : s₁.gens = #[])
    (ha : s₁.heap.get? a = some { cls := .type "list", data := .seq vs.toArray }) (hi : IntsAre vs ns) (hl : ns.length ≤ sizeLine) (hr : Room k callerA)
    (F : ∀ base : Heap, K.In base → base.Ns mainGlobals mg → DFn GG P w K mg base k fa fd [x] sp) (hbind : ∀ (s : Shared) (u : Value), BindsTo s fd ⟨[u], []⟩ [(x, u)])
    (hsp : sp [.scr (ns.map D.int)] (fun _ => none) (fun v _ => v = .bl true) XF) :
    codeAny (model P w) callerA (.call (.ref fa) ⟨[.ref a], []⟩) (fun r s' => r = .ok (.ret (.bool true)) ∧ OldK s₁.heap s'.heap ∧ s'.os = s₁.os ∧ AllBare s'.gens) s₁ := by
  have rv := vals_ints hi
  have lenV := hi.length
  have core : ∀ H : Hp, Only H → SqL K H a (ns.map V.int) → HOk P w H s₁.heap → (∀ b, H b ≠ none → b = a) → (H a ≠ none → K.lookup a = none) →
      codeAny (model P w) callerA (.call (.ref fa) ⟨[.ref a], []⟩) (fun r s' => r = .ok (.ret (.bool true)) ∧ OldK s₁.heap s'.heap ∧ s'.os = s₁.os ∧ AllBare s'.gens) s₁ := by
    intro H hO hS hok hA hK
    have base_of : ∀ {b : Addr} {o : Obj}, s₁.heap.get? b = some o → H b = none → (hidT s₁.heap H).get? b = some o := fun e n => hidT_get e n
    have noA : ∀ {b : Addr} {o : Obj} {es : Array DictEntry} {ep : Nat}, s₁.heap.get? b = some o → o.data = .dict es ep → H b = none := fun {b o es ep} e d => by
      cases q : H b with
      | none => rfl
      | some u =>
        have e' : b = a := hA b (by rw [q]; simp)
        subst e'
        rw [ha] at e; cases e
        have d' : Data.seq vs.toArray _ = Data.dict es ep := d
        cases d'
    have nsK : ∀ {b : Addr} {m : Str → Option Value}, s₁.heap.Ns b m → (hidT s₁.heap H).Ns b m := fun {b m} ⟨o, es, ep, e, d, r⟩ => ⟨o, es, ep, base_of e (noA e d), d, r⟩
    have hKb : K.In (hidT s₁.heap H) := fun b o e => base_of (KX b o e) (by
      cases q : H b with
      | none => rfl
      | some u =>
        have e' : b = a := hA b (by rw [q]; simp)
        subst e'
        rw [hK (by rw [q]; simp)] at e; cases e)
    have hM : Mod K mg (hidT s₁.heap H) := ⟨hKb, nsK hns, ⟨mb, nsK hb, hbb⟩, let ⟨mc, h1, h2⟩ := hlim; ⟨mc, nsK h1, h2⟩⟩
    have e0 : Env0 P w K mg (hidT s₁.heap H) callerA [] s₁ H := ⟨rfl, hM, fun b o e => of_hidT e, Nat.le_of_eq (hidT_size _ _), trivial, fun b hb => absurd (show b ∈ ([] : List Addr) from hb) (by simp), hok, .of_eq hg⟩
    have hsp' : liSp K sp [.ref a] H (fun v _ => v = .bl true) (fun _ _ _ => False) :=
      ⟨_, fun _ => none, H, _, XF, .cons (.scr hS (Rps.ints ns)) .nil, ⟨Ext.refl _, fun b mo z => by cases z⟩, hsp, fun y M' v Hf' H' p _ _ r => by
        subst p
        cases r
        rfl, fun _ _ _ _ _ _ z => z.elim⟩
    refine codeAny_mono ((F _ hKb (nsK hns)).run callerA [] s₁ H ⟨[.ref a], []⟩ [.ref a] [.ref a] _ _ hr rfl e0 (hbind s₁ (.ref a)) (.cons rfl .nil) hsp') fun r s' h => ?_
    cases r with
    | error e =>
      obtain ⟨_, _, _, _, _, _, _, _, _, _, _, _, z⟩ := h
      exact z.elim
    | ok fl =>
      cases fl with
      | next => exact False.elim h
      | brk => exact False.elim h
      | cont => exact False.elim h
      | ret u =>
        obtain ⟨v, H', os, bare, un, hok', r', q⟩ := h
        have q' : v = .bl true := q
        subst q'
        obtain rfl : u = Value.bool true := r'
        refine ⟨rfl, OldK.of_keep fun b o e => ?_, os, bare⟩
        cases q : H b with
        | none => exact un.keep b o e q (by intro z; exact absurd (show b ∈ ([] : List Addr) from z) (by simp)) (by simp)
        | some u =>
          rcases hO b with z | ⟨ob, xs, z⟩
          · rw [q] at z; cases z
          · have z2 := un.frzs b ob _ z
            obtain ⟨e1, _⟩ := hok b _ z
            obtain ⟨e2, _⟩ := hok' b _ z2
            rw [e] at e1; cases e1
            exact e2
  cases hk : K.lookup a with
  | some o =>
    have e := KX a o hk
    rw [ha] at e
    cases e
    refine core (fun _ => none) (fun _ => .inl rfl) (.inr ⟨_, vs.toArray, _, hk, rfl, rfl, rfl, by rw [List.size_toArray, lenV]; exact hl, by simpa using rv⟩) (fun b u z => by have z' : (none : Option HO) = some u := z; cases z') (fun b z => absurd rfl z) fun z => absurd rfl z
  | none =>
    refine core (fun b => if b = a then some (.frz { cls := .type "list", data := .seq vs.toArray } (.lst (ns.map V.int))) else none) (fun b => ?_) (.inl (.inr ⟨{ cls := .type "list", data := .seq vs.toArray }, if_pos rfl⟩)) (fun b u z => ?_) (fun b z => ?_) fun _ => hk
    · by_cases hb : b = a
      · exact .inr ⟨_, _, if_pos hb⟩
      · exact .inl (if_neg hb)
    · by_cases hb : b = a
      · have z' := (if_pos hb).symm.trans z
        cases z'
        subst hb
        exact ⟨ha, by rw [List.length_map]; exact hl, vs, _, rv, ha⟩
      · have z' := (if_neg hb).symm.trans z
        cases z'
    · by_cases hb : b = a
      · exact hb
      · exact absurd (if_neg hb) z
/-- a law over data: F gives the written part, the function object, the promise over every base -/
theorem walk_ofG {l : PySem.W.OpenLaw} {n k : Nat} {q : Program} {loose : List Str} {XP : (Str → Option Value) → Heap → Prop} {YP : World → Heap → Prop} {d : DefRec} {x : Str}
    (hn : l.most = some n) (hn2 : n ≤ sizeLine) (hdf : d.params.defaults = []) (hr : Room k callerA)
    (F : ∀ (w : World) (mg : Str → Option Value) (fa : Addr) (h : Heap), YP w h → h.Ns mainGlobals mg → mg d.name = some (.ref fa) →
      ∃ (K : PySem.W.Frag) (fd : FuncData) (sp : DSp), K.In h ∧ (∀ (s : Shared) (u : Value), BindsTo s fd ⟨[u], []⟩ [(x, u)]) ∧
        (∀ (ns : List Int), ns.length ≤ n → sp [.scr (ns.map D.int)] (fun _ => none) (fun v _ => v = .bl true) XF) ∧
        ∀ base : Heap, K.In base → base.Ns mainGlobals mg → DFn GG l.prog w K mg base k fa fd [x] sp) :
    PySem.W.WalkO q loose XP YP l.row.toRowW d [] (fun f vs => PySem.call f vs) := by
  refine Att.attach_call hn hdf fun w s₀ s₁ mg mb fa o pm cd doc a vs ns G Y ho hd hcd hmg hobj hints hlen hg => ?_
  obtain ⟨K, fd, sp, KX, hb, hsp, hF⟩ := F w mg fa _ Y G.T.g hmg
  exact law_callG KX G.T.g G.T.b G.T.builtins G.T.nolimit hg hobj hints (Nat.le_trans hlen hn2) hr hF hb (hsp ns hlen)

/-! ### decks -/
/-- a is a deck (ks: its keys but "cells"), and nothing is known of it -/
def DeckAt (ks : List Key) (M : Mm) (a : Addr) : Prop := ∃ c, M a = some (.deck c ks) ∧ M c = some .cell
section
variable {ks : List Key} {M : Mm} {a b : Addr} {o : MO}
theorem DeckAt.um (h : DeckAt ks M a) (hb : M b = none) : DeckAt ks (um M b o) a := by
  obtain ⟨c, h1, h2⟩ := h
  refine ⟨c, (um_ne fun z => ?_).trans h1, (um_ne fun z => ?_).trans h2⟩
  · rw [← z, h1] at hb
    cases hb
  · rw [← z, h2] at hb
    cases hb
theorem DeckAt.uml {ds : List D} (h : DeckAt ks M a) (hb : M b = some (.lst ds)) : DeckAt ks (DL.um M b o) a := by
  obtain ⟨c, h1, h2⟩ := h
  refine ⟨c, (um_ne fun z => ?_).trans h1, (um_ne fun z => ?_).trans h2⟩
  · rw [← z, h1] at hb
    cases hb
  · rw [← z, h2] at hb
    cases hb
theorem DeckAt.ne (h : DeckAt ks M a) (hb : M b = none) : a ≠ b := fun z => by
  obtain ⟨c, h1, _⟩ := h
  rw [z, hb] at h1
  cases h1
end
abbrev dkT (c : Addr) (ks : List Key) (f : Key → Int) : MO := .dct (((Sum.inr "cells" : Key), .ref c) :: ks.map fun k => (k, .int (f k)))
theorem rks_ints {K : Fz} {H : Hp} (f : Key → Int) : ∀ ks : List Key, Rks K H (ks.map fun k => (k, V.int (f k))) (ks.map fun k => (k, D.int (f k)))
  | [] => .nil
  | p :: r => .cons (.int _) (rks_ints f r)
theorem rks_of_ints {K : Fz} {H : Hp} {f : Key → Int} : ∀ {ws : List (Key × V)} {ks : List Key}, Rks K H ws (ks.map fun k => (k, D.int (f k))) → ws = ks.map fun k => (k, V.int (f k))
  | _, [], .nil => rfl
  | _, p :: r, .cons h t => by
    cases h
    rw [rks_of_ints t]
    rfl
theorem HM.open_ {K : Fz} {Hf H : Hp} {M : Mm} {a c : Addr} {ks : List Key} (m : HM K Hf M H) (h1 : M a = some (.deck c ks)) (h2 : M c = some .cell) :
    ∃ (f : Key → Int) (ns : List Int), ns.length ≤ 63 ∧ HM K Hf (um (um M a (dkT c ks f)) c (.lst (ns.map D.int))) H := by
  obtain ⟨fa, f, e1⟩ := m.mu _ _ h1
  obtain ⟨fc, ns, hl, e2⟩ := m.mu _ _ h2
  refine ⟨f, ns, hl, m.sub, fun b mo q => ?_⟩
  by_cases z : b = c
  · rw [z, um_same] at q
    cases q
    rw [z]
    exact ⟨fc, _, e2, Rps.ints ns⟩
  · rw [um_ne z] at q
    by_cases y : b = a
    · rw [y, um_same] at q
      cases q
      rw [y]
      exact ⟨fa, _, e1, .cons (.ref c) (rks_ints f ks)⟩
    · rw [um_ne y] at q
      exact m.mu b mo q
theorem HM.close {K : Fz} {Hf H : Hp} {M : Mm} {a c : Addr} {ks : List Key} {f : Key → Int} {ns : List Int} (m : HM K Hf (um (um M a (dkT c ks f)) c (.lst (ns.map D.int))) H) (hac : a ≠ c) (hl : ns.length ≤ 63) :
    HM K Hf (um (um M a (.deck c ks)) c .cell) H := by
  refine ⟨m.sub, fun b mo q => ?_⟩
  by_cases z : b = c
  · rw [z, um_same] at q
    cases q
    rw [z]
    obtain ⟨fc, ws, q1, q2⟩ := m.mu c _ um_same
    have := q2.ofInts
    subst this
    exact ⟨fc, ns, hl, q1⟩
  · rw [um_ne z] at q
    by_cases y : b = a
    · rw [y, um_same] at q
      cases q
      rw [y]
      obtain ⟨fa, ws, q1, q2⟩ := m.mu a _ ((um_ne hac).trans um_same)
      cases q2 with
      | cons h t =>
        cases h
        have := rks_of_ints t
        subst this
        exact ⟨fa, f, q1⟩
    · rw [um_ne y] at q
      exact m.mu b mo (by rw [um_ne z, um_ne y]; exact q)
/-- what a draw answers: one of 0, .., many - 1 -/
def spDraw (ks : List Key) : DSp := fun ds M P _ => ∃ a many, ds = [.ref a, .int many] ∧ DeckAt ks M a ∧ 0 < many ∧ many < 2 ^ 62 ∧ ∀ r, 0 ≤ r → r < many → P (.int r) M
/-- the same, its deck laid open -/
def spDrawO (ks : List Key) : DSp := fun ds M P _ => ∃ (a c : Addr) (many : Int) (f : Key → Int) (ns : List Int), ds = [.ref a, .int many] ∧ 0 < many ∧ many < 2 ^ 62 ∧ a ≠ c ∧ ns.length ≤ 63 ∧ M a = some (dkT c ks f) ∧ M c = some (.lst (ns.map D.int)) ∧
  (∀ M' r f' (ns' : List Int), 0 ≤ r → r < many → ns'.length ≤ 63 → M' = um (um M a (dkT c ks f')) c (.lst (ns'.map D.int)) → P (.int r) M')
theorem um_um2 {M : Mm} {a c : Addr} {o u : MO} {o' u' : MO} : um (um (um (um M a o) c u) a o') c u' = um (um M a o') c u' := by
  funext b
  unfold um
  by_cases z : b = c <;> by_cases y : b = a <;> simp [z, y]
theorem draw_close {K : Fz} {ks : List Key} : ∀ vs H Q E, liSp K (spDraw ks) vs H Q E → liSp K (spDrawO ks) vs H Q E := fun vs H Q E ⟨ds, M, Hf, P, PX, r, m, d, fe, fx⟩ => by
  obtain ⟨a, many, rfl, ⟨c, h1, h2⟩, hp, hp2, q⟩ := d
  have hac : a ≠ c := fun z => by
    rw [z, h2] at h1
    cases h1
  obtain ⟨f, ns, hl, m1⟩ := m.open_ h1 h2
  refine ⟨_, _, Hf, fun x M1 => (∃ i : Int, x = .int i ∧ 0 ≤ i ∧ i < many) ∧ ∃ (f' : Key → Int) (ns' : List Int), ns'.length ≤ 63 ∧ M1 = um (um M a (dkT c ks f')) c (.lst (ns'.map D.int)), XF, r, m1,
    ⟨a, c, many, f, ns, rfl, hp, hp2, hac, hl, (um_ne hac).trans um_same, um_same, fun M' r f' ns' h0 hr hl' e => ?_⟩, fun x M1 v Hf' H' ⟨p1, f', ns', hl', e⟩ e1 m' rv => ?_, fun _ _ _ _ _ _ z => z.elim⟩
  · rw [um_um2] at e
    exact ⟨⟨r, rfl, h0, hr⟩, f', ns', hl', e⟩
  · subst e
    have m2 := m'.close hac hl'
    obtain ⟨i, rfl, hi0, hi⟩ := p1
    have e : um (um M a (.deck c ks)) c .cell = M := by
      funext b
      unfold um
      by_cases z : b = c
      · rw [if_pos z, z, h2]
      · rw [if_neg z]
        by_cases y : b = a
        · rw [if_pos y, y, h1]
        · rw [if_neg y]
    rw [e] at m2
    exact fe _ M v Hf' H' (q i hi0 hi) e1 m2 rv
/-- a new deck -/
def spDeck (ks : List Key) : DSp := fun ds M P _ => ∃ ns : List Int, ds = [.scr (ns.map D.int)] ∧ ns.length ≤ 63 ∧ ∀ M' a, DeckAt ks M' a → (∀ b, M b ≠ none → M' b = M b) → P (.ref a) M'
/-- the same, laid open -/
def spDeckO (ks : List Key) : DSp := fun ds M P _ => ∃ ns : List Int, ds = [.scr (ns.map D.int)] ∧ ns.length ≤ 63 ∧ ∀ a c f (cs : List Int), cs.length ≤ 63 → a ≠ c → M a = none → M c = none → ∀ M', M' = um (um M a (dkT c ks f)) c (.lst (cs.map D.int)) → P (.ref a) M'
theorem deck_close {K : Fz} {ks : List Key} : ∀ vs H Q E, liSp K (spDeck ks) vs H Q E → liSp K (spDeckO ks) vs H Q E := fun vs H Q E ⟨ds, M, Hf, P, PX, r, m, d, fe, fx⟩ => by
  obtain ⟨ns, rfl, hl, q⟩ := d
  refine ⟨_, M, Hf, fun x M1 => ∃ (a c : Addr) (f : Key → Int) (cs : List Int), x = .ref a ∧ cs.length ≤ 63 ∧ a ≠ c ∧ M a = none ∧ M c = none ∧ M1 = um (um M a (dkT c ks f)) c (.lst (cs.map D.int)), XF, r, m,
    ⟨ns, rfl, hl, fun a c f cs hl2 hac h1 h2 M' e => ⟨a, c, f, cs, rfl, hl2, hac, h1, h2, e⟩⟩, fun x M1 v Hf' H' ⟨a, c, f, cs, e0, hl2, hac, h1, h2, e⟩ e1 m' rv => ?_, fun _ _ _ _ _ _ z => z.elim⟩
  subst e
  subst e0
  refine fe _ _ v Hf' H' (q _ a ⟨c, (um_ne hac).trans um_same, um_same⟩ fun b hb => ?_) e1 (m'.close hac hl2) rv
  have n1 : b ≠ c := fun z => hb (by rw [z]; exact h2)
  have n2 : b ≠ a := fun z => hb (by rw [z]; exact h1)
  rw [um_ne n1, um_ne n2]
end DL

/-! DL: what a call needs, bundled; three names at once -/
namespace DL
open PySem PySem.Spec PyProof.Rows L2
structure Cal (P : Program) (w : World) (K : Fz) (mg : Str → Option Value) (base : Heap) (k : Nat) (x : Str) (ps : List Str) (sp : DSp) : Prop where
  ex : ∃ f fd, DFn GG P w K mg base k f fd ps sp ∧ mg x = some (.ref f) ∧ PySem.W.keepIn K (.ref f) = true ∧ Binds K fd ps []
structure CalK (P : Program) (w : World) (K : Fz) (mg : Str → Option Value) (base : Heap) (k : Nat) (x : Str) (ps : List Str) (n : Nat) (ks : List Str) (π : List Nat) (sp : DSp) : Prop where
  ex : ∃ f fd, DFn GG P w K mg base k f fd ps sp ∧ mg x = some (.ref f) ∧ PySem.W.keepIn K (.ref f) = true ∧ KwB fd ps n ks π
section
variable {X : Cx} {W : WX'} {k j n : Nat} {ps ks : List Str} {π : List Nat} {dsp : DSp} {x : Str} {p pos : Pos} {e : Expr} {es : List Expr} {kws : List Keyword} {d dk : DA}
theorem ej_callC (C : Cal X.prog X.w X.K X.mg X.base j x ps dsp) (hr : Room k X.A) (hG : GG X.A) (tk : Takes X W) (ha : AJ X W (e :: es) d) (hj : j ≤ k := by decide) (hg : Gl X x := by rfl) (hdb : (x == ("__debug__" : Str)) = false := by decide)
    (he : starEach (e :: es) X.env = (false, eval e X.env) :: starEach es X.env := by rfl)
    (hpl : (backTo pos (starEach es X.env)).any (·.1) = false := by rfl) : EJ X W (.Call (.Name x p) (e :: es) [] pos) (dCall dsp d) := by
  obtain ⟨f, fd, F, h1, h2, h3⟩ := C.ex
  exact ej_call F (hr.mono hj) hG tk hg h1 h2 h3 ha hdb he hpl
theorem ej_callC0 (C : Cal X.prog X.w X.K X.mg X.base j x ps dsp) (hr : Room k X.A) (hG : GG X.A) (tk : Takes X W) (hj : j ≤ k := by decide) (hg : Gl X x := by rfl) (hdb : (x == ("__debug__" : Str)) = false := by decide) : EJ X W (.Call (.Name x p) [] [] pos) (dCall dsp dNil) := by
  obtain ⟨f, fd, F, h1, h2, h3⟩ := C.ex
  exact ej_call0 F (hr.mono hj) hG tk hg h1 h2 h3 hdb
theorem ej_callCK (C : CalK X.prog X.w X.K X.mg X.base j x ps n ks π dsp) (hr : Room k X.A) (hG : GG X.A) (tk : Takes X W) (ha : AJ X W (e :: es) d) (hkw : liK X W kws dk) (hj : j ≤ k := by decide) (hg : Gl X x := by rfl)
    (hall : (backToKw pos (keywordEach kws X.env)).all (·.1.isSome) = true := by rfl) (hks : (backToKw pos (keywordEach kws X.env)).filterMap (·.1) = ks := by rfl)
    (hdb : (x == ("__debug__" : Str)) = false := by decide) (he : starEach (e :: es) X.env = (false, eval e X.env) :: starEach es X.env := by rfl)
    (hpl : ((backTo pos (starEach (e :: es) X.env)).any (·.1) || (backToKw pos (keywordEach kws X.env)).any (·.1.isNone)) = false := by rfl) :
    EJ X W (.Call (.Name x p) (e :: es) kws pos) (dCallK dsp n ks.length π d dk) := by
  obtain ⟨f, fd, F, h1, h2, h3⟩ := C.ex
  exact ej_callK F (hr.mono hj) hG tk hg h1 h2 h3 ha hkw hall hks hdb he hpl
theorem ej_callCK0 (C : CalK X.prog X.w X.K X.mg X.base j x ps 0 ks π dsp) (hr : Room k X.A) (hG : GG X.A) (tk : Takes X W) (hkw : liK X W kws dk) (hj : j ≤ k := by decide) (hg : Gl X x := by rfl)
    (hall : (backToKw pos (keywordEach kws X.env)).all (·.1.isSome) = true := by rfl) (hks : (backToKw pos (keywordEach kws X.env)).filterMap (·.1) = ks := by rfl)
    (hdb : (x == ("__debug__" : Str)) = false := by decide)
    (hpl : ((backTo pos (starEach [] X.env)).any (·.1) || (backToKw pos (keywordEach kws X.env)).any (·.1.isNone)) = false := by rfl) :
    EJ X W (.Call (.Name x p) [] kws pos) (dCallK dsp 0 ks.length π dNil dk) := by
  obtain ⟨f, fd, F, h1, h2, h3⟩ := C.ex
  exact ej_callK0 F (hr.mono hj) hG tk hg h1 h2 h3 hkw hall hks hdb hpl
end
section
variable {P : Program} {w : World} {K : Fz} {mg : Str → Option Value} {base : Heap} {x qual : Str} {params : Arguments} {body : List Stmt} {scope : Scope} {kws : List (Str × V)} {f : Addr} {fd : FuncData} {ps ks : List Str} {k n : Nat} {π : List Nat} {sp sp' : DSp}
theorem kwb_of (F : FunD K x qual params body scope [] kws f fd)
    (h : ∀ (kV doc pm : Value) (an : Option Addr) (cdv ct : Value) (us ws : List Value), us.length = n → ws.length = ks.length → bindArgs (PySem.W.fnOf x qual params body scope .none kV doc pm an cdv ct) ⟨us, ks.zip ws⟩ = pure (ps.zip (pick π (us ++ ws)))) : KwB fd ps n ks π := by
  obtain ⟨oc, od, dV, kV, doc, pm, an, cdv, ct, osl, rfl, lk, hcd, hD, hK⟩ := F.ex
  rcases hD with ⟨_, rfl⟩ | ⟨e, _⟩
  · exact fun s us ws h1 h2 => .of_eq (h kV doc pm an cdv ct us ws h1 h2)
  · exact absurd rfl e
theorem Cal.mk' (F : FunD K x qual params body scope [] kws f fd) (h : DFn GG P w K mg base k f fd ps sp) (g : mg x = some (.ref f))
    (b : ∀ (kV doc pm : Value) (an : Option Addr) (cdv ct : Value) (us : List Value), us.length = ps.length → bindArgs (PySem.W.fnOf x qual params body scope .none kV doc pm an cdv ct) ⟨us, []⟩ = pure (ps.zip us)) : Cal P w K mg base k x ps sp :=
  ⟨f, fd, h, g, F.kp, F.bindsN b⟩
theorem CalK.mk' (F : FunD K x qual params body scope [] kws f fd) (h : DFn GG P w K mg base k f fd ps sp) (g : mg x = some (.ref f))
    (b : ∀ (kV doc pm : Value) (an : Option Addr) (cdv ct : Value) (us ws : List Value), us.length = n → ws.length = ks.length → bindArgs (PySem.W.fnOf x qual params body scope .none kV doc pm an cdv ct) ⟨us, ks.zip ws⟩ = pure (ps.zip (pick π (us ++ ws)))) : CalK P w K mg base k x ps n ks π sp :=
  ⟨f, fd, h, g, F.kp, kwb_of F b⟩
theorem Cal.imp {y : Str} (C : Cal P w K mg base k y ps sp) (h : ∀ vs H Q E, liSp K sp' vs H Q E → liSp K sp vs H Q E) : Cal P w K mg base k y ps sp' := by
  obtain ⟨f, fd, F, h1, h2, h3⟩ := C.ex
  exact ⟨f, fd, F.imp h, h1, h2, h3⟩
end
/-- a, b, c = e1, e2, e3 -/
def dPar3 (i j l : Nat) (d : DA) : DS := fun DD ρ M => d ρ M (fun xs M1 => match xs with
  | [x, y, z] => DD.nx (st (st (st ρ i (some x)) j (some y)) l (some z)) M1
  | _ => False) (DD.ex ρ)
section
variable {X : Cx} {W : WX'} {pos : Pos}
theorem sj_par3 {x y z : Str} {a b c : Expr} {d : DA} {px py pz pt : Pos} {kt k2 pt2} (i j l : Nat) (hc : X.calm = true) (hN : X.N.Nodup) (h : AJ X W [a, b, c] d) (hi : X.N[i]? = some x := by rfl) (hj : X.N[j]? = some y := by rfl) (hl : X.N[l]? = some z := by rfl)
    (hij : i ≠ j := by decide) (hil : i ≠ l := by decide) (hjl : j ≠ l := by decide)
    (hx : X.env.scope.names.lookup x = some .local := by rfl) (hy : X.env.scope.names.lookup y = some .local := by rfl) (hz : X.env.scope.names.lookup z = some .local := by rfl)
    (hw : swappedStores [.Tuple [.Name x px, .Name y py, .Name z pz] kt pt] (.Tuple [a, b, c] k2 pt2) X.env = pure (some [x, y, z]) := by rfl)
    (hs : swapsWithSole [.Tuple [.Name x px, .Name y py, .Name z pz] kt pt] (.Tuple [a, b, c] k2 pt2) pos.line X.env = pure false := by rfl) :
    SJ X W (.Assign [.Tuple [.Name x px, .Name y py, .Name z pz] kt pt] (.Tuple [a, b, c] k2 pt2) pos) (dPar3 i j l d) :=
  ps_weak (ps_par3 hc hN hi hj hl hij hil hjl hx hy hz h hw hs) fun De σ H ⟨ρ, M, Hf, DD, s, d, f⟩ => ⟨ρ, M, Hf, _, _, s, d, fun xs M1 vs Hf1 H1 d1 e1 m1 r1 => by
    try dsimp only at d1
    split at d1
    · cases r1 with
      | cons h1 t1 =>
        cases t1 with
        | cons h2 t2 =>
          cases t2 with
          | cons h3 t3 =>
            cases t3
            exact ⟨_, _, _, rfl, f.nx _ M1 _ Hf1 H1 d1 e1 ((((s.go e1 m1).set h1).set h2).set h3)⟩
    · exact d1.elim, f.x s⟩
theorem sj_par2 {x y : Str} {a b : Expr} {d : DA} {px py pt : Pos} {kt k2 pt2} (i j : Nat) (hc : X.calm = true) (hN : X.N.Nodup) (h : AJ X W [a, b] d) (hi : X.N[i]? = some x := by rfl) (hj : X.N[j]? = some y := by rfl) (hij : i ≠ j := by decide)
    (hx : X.env.scope.names.lookup x = some .local := by rfl) (hy : X.env.scope.names.lookup y = some .local := by rfl)
    (hw : swappedStores [.Tuple [.Name x px, .Name y py] kt pt] (.Tuple [a, b] k2 pt2) X.env = pure (some [x, y]) := by rfl)
    (hs : swapsWithSole [.Tuple [.Name x px, .Name y py] kt pt] (.Tuple [a, b] k2 pt2) pos.line X.env = pure false := by rfl) :
    SJ X W (.Assign [.Tuple [.Name x px, .Name y py] kt pt] (.Tuple [a, b] k2 pt2) pos) (dPar i j d) :=
  sj_par i j hc hN h hi hj hij fun t ht => ps_par hc hN hi hj hij hx hy ht hw hs
end
end DL
namespace DL
open PySem PySem.Spec PyProof.Rows L2
section
variable {X : Cx} {W : WX'} {pos : Pos} {a b : Expr} {da db : DE}
theorem tj_lt (ha : EJ X W a da) (hb : EJ X W b db) : TJ X W (.Compare a [.Lt] [b] pos) (dTst (dOp rLt da db)) := tj_cmp op_lt (rj_i0 fun _ _ _ => .bl _) ha hb
theorem tj_le (ha : EJ X W a da) (hb : EJ X W b db) : TJ X W (.Compare a [.LtE] [b] pos) (dTst (dOp rLe da db)) := tj_cmp op_le (rj_i0 fun _ _ _ => .bl _) ha hb
theorem tj_gt (ha : EJ X W a da) (hb : EJ X W b db) : TJ X W (.Compare a [.Gt] [b] pos) (dTst (dOp rGt da db)) := tj_cmp op_gt (rj_i0 fun _ _ _ => .bl _) ha hb
theorem tj_ge (ha : EJ X W a da) (hb : EJ X W b db) : TJ X W (.Compare a [.GtE] [b] pos) (dTst (dOp rGe da db)) := tj_cmp op_ge (rj_i0 fun _ _ _ => .bl _) ha hb
theorem tj_eq (hu : X.A.units + 64 < cLine) (ha : EJ X W a da) (hb : EJ X W b db) : TJ X W (.Compare a [.Eq] [b] pos) (dTst (dOp (rEqW false) da db)) := tj_cmp (OpR.or op_eq (op_eqD hu)) rj_eq ha hb
theorem tj_ne (hu : X.A.units + 64 < cLine) (ha : EJ X W a da) (hb : EJ X W b db) : TJ X W (.Compare a [.NotEq] [b] pos) (dTst (dOp (rEqW true) da db)) := tj_cmp (OpR.or op_ne (op_neD hu)) rj_ne ha hb
end
end DL

/-! DL: sizes of what is shown, equality of data -/
namespace DL
open PySem PySem.Spec PyProof.Rows L2
/-! ### what is small -/
mutual
def fit : D → Bool
  | .non | .bl _ => true
  | .int i => decide (i.natAbs < 10 ^ 12)
  | .str x => x.cps.all (· < 0x110000)
  | .tup ds | .lst ds => fits ds
  | _ => false
def fits : List D → Bool
  | [] => true
  | d :: ds => fit d && fits ds
end
mutual
def wgt : D → Nat
  | .int i => if i.natAbs < 32 then 5 else 40
  | .str x => x.cps.size
  | .tup ds | .lst ds => wgts ds
  | _ => 0
def wgts : List D → Nat
  | [] => 0
  | d :: ds => wgt d + 1 + wgts ds
end
mutual
def dep : D → Nat
  | .tup ds | .lst ds => deps ds + 1
  | _ => 0
def deps : List D → Nat
  | [] => 0
  | d :: ds => max (dep d) (deps ds)
end
structure Fit (d : D) : Prop where
  plain : plain d = true
  lay : (py d).canLay0 = true
  short : (py d).intsShort 13 = true
  show_ : (py d).showable = true
  wt : (py d).weight ≤ wgt d
  dp : (py d).depth = dep d
structure FitA (d : List D) : Prop where
  plain : plains d = true
  lay : PyData.canLayAll0 (pys d) = true
  short : PyData.intsShortAll 13 (pys d) = true
  show_ : PyData.showableAll (pys d) = true
  wt : PyData.weightAll (pys d) ≤ wgts d
  dp : PyData.depthAll (pys d) = deps d
theorem log_lt {n : Nat} (h : n < 10 ^ 12) : n.log2 < 40 := by
  by_cases z : n = 0
  · rw [z]
    decide
  · exact (Nat.log2_lt z).mpr (Nat.lt_trans h (by decide))
mutual
theorem fit_ok : ∀ d : D, fit d = true → Fit d
  | .non, _ => ⟨rfl, by simp [py, PyData.canLay0], by simp [py, PyData.intsShort], by simp [py, PyData.showable], by simp [py, PyData.weight, wgt], by simp [py, PyData.depth, dep]⟩
  | .bl b, _ => ⟨rfl, by simp [py, PyData.canLay0], by simp [py, PyData.intsShort], by simp [py, PyData.showable], by simp [py, PyData.weight, wgt], by simp [py, PyData.depth, dep]⟩
  | .int i, h => by
    have h1 : i.natAbs < 10 ^ 12 := by simpa [fit] using h
    have h2 := log_lt h1
    refine ⟨rfl, by simp [py, PyData.canLay0], ?_, ?_, ?_, by simp [py, PyData.depth, dep]⟩
    · show PyData.intsShort 13 (.int i) = true
      simp only [PyData.intsShort]
      exact decide_eq_true (PyData.shown_int_le h1)
    · show PyData.showable (.int i) = true
      simp only [PyData.showable]
      exact decide_eq_true (by omega)
    · show PyData.weight (.int i) ≤ if i.natAbs < 32 then 5 else 40
      simp only [PyData.weight]
      split
      · omega
      · rename_i hz
        have hz' : i.natAbs ≠ 0 := fun z => hz (by simpa using z)
        split
        · rename_i h5
          have : i.natAbs.log2 < 5 := (Nat.log2_lt hz').mpr (by omega)
          omega
        · omega
  | .str x, h => ⟨rfl, by simpa [py, PyData.canLay0, PyData.strOk, fit] using h, by simp [py, PyData.intsShort], by simp [py, PyData.showable], by simp [py, PyData.weight, wgt], by simp [py, PyData.depth, dep]⟩
  | .tup ds, h => by
    obtain ⟨h1, h2, h3, h4, h5, h6⟩ := fits_ok ds (by simpa [fit] using h)
    exact ⟨by simpa [plain] using h1, by simpa [py, PyData.canLay0] using h2, by simpa [py, PyData.intsShort] using h3, by simpa [py, PyData.showable] using h4, by simpa [py, PyData.weight, wgt] using h5, by simp [py, PyData.depth, dep, h6]⟩
  | .lst ds, h => by
    obtain ⟨h1, h2, h3, h4, h5, h6⟩ := fits_ok ds (by simpa [fit] using h)
    exact ⟨by simpa [plain] using h1, by simpa [py, PyData.canLay0] using h2, by simpa [py, PyData.intsShort] using h3, by simpa [py, PyData.showable] using h4, by simpa [py, PyData.weight, wgt] using h5, by simp [py, PyData.depth, dep, h6]⟩
  | .ty _, h => by simp [fit] at h
  | .ref _, h => by simp [fit] at h
  | .scr _, h => by simp [fit] at h
  | .obj _ _, h => by simp [fit] at h
theorem fits_ok : ∀ ds : List D, fits ds = true → FitA ds
  | [], _ => ⟨by simp [plains], by simp [pys, PyData.canLayAll0], by simp [pys, PyData.intsShortAll], by simp [pys, PyData.showableAll], by simp [pys, PyData.weightAll, wgts], by simp [pys, PyData.depthAll, deps]⟩
  | d :: ds, h => by
    have h' : fit d = true ∧ fits ds = true := by simpa [fits] using h
    obtain ⟨h1, h2, h3, h4, h5, h6⟩ := fit_ok d h'.1
    obtain ⟨g1, g2, g3, g4, g5, g6⟩ := fits_ok ds h'.2
    refine ⟨by simp [plains, h1, g1], by simp [pys, PyData.canLayAll0, h2, g2], by simp [pys, PyData.intsShortAll, h3, g3], by simp [pys, PyData.showableAll, h4, g4], ?_, by simp [pys, PyData.depthAll, deps, h6, g6]⟩
    simp only [pys, PyData.weightAll, wgts]
    omega
end
theorem okR_of {d : D} (h : fit d = true) (hw : wgt d ≤ 1048576) (hd : dep d ≤ 60) : OkR d := by
  obtain ⟨h1, h2, h3, h4, h5, h6⟩ := fit_ok d h
  exact ⟨h1, h4, PyData.shown_fits (by decide) (by decide) (PyData.leavesShort_of_canLay0 13 _ h2 h3) (by rw [show (2 : Nat) ^ 20 = 1048576 by decide]; omega), by omega⟩
theorem okD_of {d : D} (h : fit d = true) (hd : dep d ≤ 60) : okD d := by
  obtain ⟨h1, h2, h3, h4, h5, h6⟩ := fit_ok d h
  refine ⟨h1, ?_⟩
  unfold SeqAt.shaped
  rw [h2, Bool.true_and]
  exact decide_eq_true (by omega)
/-! ### ints -/
theorem fits_app : ∀ a b : List D, fits (a ++ b) = (fits a && fits b)
  | [], _ => by simp [fits]
  | x :: a, b => by
    rw [List.cons_append]
    simp only [fits]
    rw [fits_app a b, Bool.and_assoc]
theorem fits_ints : ∀ {ns : List Int}, (∀ n ∈ ns, n.natAbs < 10 ^ 12) → fits (ns.map D.int) = true
  | [], _ => by simp [fits]
  | n :: ns, h => by
    rw [List.map_cons]
    simp only [fits, fit]
    rw [fits_ints (fun m hm => h m (List.mem_cons_of_mem _ hm)), Bool.and_true]
    exact decide_eq_true (h n List.mem_cons_self)
theorem wgts_ints : ∀ ns : List Int, wgts (ns.map D.int) ≤ 41 * ns.length
  | [] => by simp [wgts]
  | n :: ns => by
    rw [List.map_cons]
    simp only [wgts, wgt]
    have := wgts_ints ns
    rw [List.length_cons]
    split <;> omega
theorem wgts_digs : ∀ {ns : List Int}, (∀ n ∈ ns, n.natAbs < 32) → wgts (ns.map D.int) = 6 * ns.length
  | [], _ => by simp [wgts]
  | n :: ns, h => by
    rw [List.map_cons]
    simp only [wgts, wgt]
    rw [wgts_digs fun m hm => h m (List.mem_cons_of_mem _ hm), if_pos (h n List.mem_cons_self), List.length_cons]
    omega
theorem deps_ints : ∀ ns : List Int, deps (ns.map D.int) = 0
  | [] => by simp [deps]
  | n :: ns => by
    rw [List.map_cons]
    simp only [deps, dep]
    rw [deps_ints ns]
    rfl
theorem plains_ints : ∀ ns : List Int, plains (ns.map D.int) = true
  | [] => by simp [plains]
  | n :: ns => by
    rw [List.map_cons]
    simp only [plains, plain]
    rw [plains_ints ns, Bool.and_true]
theorem pys_ints : ∀ ns : List Int, pys (ns.map D.int) = ns.map PyData.int
  | [] => by simp [pys]
  | n :: ns => by
    rw [List.map_cons]
    simp only [pys, py]
    rw [pys_ints ns, List.map_cons]
theorem lays_ints : ∀ ns : List Int, PyData.canLayAll0 (ns.map PyData.int) = true
  | [] => by simp [PyData.canLayAll0]
  | n :: ns => by
    rw [List.map_cons]
    simp only [PyData.canLayAll0, PyData.canLay0]
    rw [lays_ints ns, Bool.and_true]
theorem dps_ints : ∀ ns : List Int, PyData.depthAll (ns.map PyData.int) = 0
  | [] => by simp [PyData.depthAll]
  | n :: ns => by
    rw [List.map_cons]
    simp only [PyData.depthAll, PyData.depth]
    rw [dps_ints ns]
    rfl
theorem eqv_ints : ∀ a b : List Int, PyData.eqvAll (a.map PyData.int) (b.map PyData.int) = decide (a = b)
  | [], [] => by simp [PyData.eqvAll]
  | [], _ :: _ => by simp [PyData.eqvAll]
  | _ :: _, [] => by simp [PyData.eqvAll]
  | x :: a, y :: b => by
    rw [List.map_cons, List.map_cons]
    simp only [PyData.eqvAll, PyData.eqv]
    rw [eqv_ints a b]
    by_cases h : x = y <;> simp [h]
theorem okT_ints (ns : List Int) : okD (.tup (ns.map D.int)) := by
  refine ⟨by simp only [plain]; exact plains_ints ns, ?_⟩
  simp only [py, SeqAt.shaped, PyData.canLay0, PyData.depth]
  rw [pys_ints, lays_ints, dps_ints]
  rfl
theorem okL_ints (ns : List Int) : okD (.lst (ns.map D.int)) := by
  refine ⟨by simp only [plain]; exact plains_ints ns, ?_⟩
  simp only [py, SeqAt.shaped, PyData.canLay0, PyData.depth]
  rw [pys_ints, lays_ints, dps_ints]
  rfl
theorem eqT_ints (a b : List Int) : PyData.eqv (py (.tup (a.map D.int))) (py (.tup (b.map D.int))) = decide (a = b) := by
  simp only [py, PyData.eqv]
  rw [pys_ints, pys_ints, eqv_ints]
theorem eqL_ints (a b : List Int) : PyData.eqv (py (.lst (a.map D.int))) (py (.lst (b.map D.int))) = decide (a = b) := by
  simp only [py, PyData.eqv]
  rw [pys_ints, pys_ints, eqv_ints]
/-- a thing equals itself -/
theorem eqv_self {d : D} (h : okD d) : PyData.eqv (py d) (py d) = true := SeqAt.eqv_refl _ (SeqAt.canLay_of_shaped h.2)
/-! ### what stands where -/
theorem tab_of {M : Mm} {a : Addr} {kvs : List (Key × D)} (h : M a = some (.dct kvs)) : tab M (.ref a) = some (a, kvs) := by
  show (match M a with
    | some (.dct kvs) => some (a, kvs)
    | _ => none) = _
  rw [h]
theorem asLs_of {M : Mm} {a : Addr} {ds : List D} (h : M a = some (.lst ds)) : asLs M (.ref a) = some ds := by
  show (match M a with
    | some (.lst ds) => some ds
    | _ => none) = _
  rw [h]
theorem asL_of {M : Mm} {a : Addr} {ds : List D} (h : M a = some (.lst ds)) : asL M (.ref a) = some ds := asLs_of h
theorem dr_of {M : Mm} {a : Addr} {ds : List D} (h : M a = some (.lst ds)) : dr M (.ref a) = .lst ds := by
  show (match M a with
    | some (.lst ds) => D.lst ds
    | _ => .ref a) = D.lst ds
  rw [h]
end DL

/-! DL: what is left over is forgotten -/
namespace DL
open PySem PySem.Spec PyProof.Rows L2
def Le (M M' : Mm) : Prop := ∀ b mo, M b = some mo → M' b = some mo
theorem Le.refl (M : Mm) : Le M M := fun _ _ h => h
theorem Le.trans {M M' M'' : Mm} (h : Le M M') (k : Le M' M'') : Le M M'' := fun b mo e => k b mo (h b mo e)
theorem Le.um {M : Mm} {a : Addr} {o : MO} (h : M a = none) : Le M (um M a o) := fun b mo e => by
  rw [um_ne fun z => ?_]
  · exact e
  · rw [z, h] at e
    cases e
theorem Le.um2 {M M' : Mm} {a : Addr} {o : MO} (k : Le M M') (h : M a = none) : Le M (DL.um M' a o) := fun b mo e => by
  rw [um_ne fun z => ?_]
  · exact k b mo e
  · rw [z, h] at e
    cases e
theorem Le.none {M M' : Mm} {a : Addr} (k : Le M M') (h : M' a = none) : M a = none := by
  cases e : M a with
  | none => rfl
  | some mo =>
    rw [k a mo e] at h
    cases h
def Fg (P : DP) : DP := fun x M' => ∃ M, Le M M' ∧ P x M
theorem HM.le {K : Fz} {Hf H : Hp} {M M' : Mm} (m : HM K Hf M' H) (h : Le M M') : HM K Hf M H := ⟨m.sub, fun a mo e => m.mu a mo (h a mo e)⟩
theorem FinE.fg {K : Fz} {Hf : Hp} {P : DP} {Q : VK} (f : FinE K Hf P Q) : FinE K Hf (Fg P) Q := fun x M' v Hf' H' ⟨M, l, p⟩ e m r => f x M v Hf' H' p e (m.le l) r
theorem forget {K : Fz} {sp spG : DSp} (h : ∀ ds M P PX, sp ds M P PX → spG ds M (Fg P) PX) : ∀ vs H Q E, liSp K sp vs H Q E → liSp K spG vs H Q E := fun vs H Q E ⟨ds, M, Hf, P, PX, r, m, d, fe, fx⟩ =>
  ⟨ds, M, Hf, Fg P, PX, r, m, h ds M P PX d, fe.fg, fx⟩
/-- the garbage of a def may stay -/
def gar (sp : DSp) : DSp := fun ds M P PX => sp ds M (fun x M1 => ∀ M', Le M1 M' → P x M') PX
theorem upTo_len (lo : Int) (n : Nat) : (DL.upTo lo n).length = n := by simp [DL.upTo]
theorem upTo_get {lo : Int} {n i : Nat} {d : D} (h : (DL.upTo lo n)[i]? = some d) : d = .int (lo + (i : Int)) ∧ i < n := by
  have hi : i < n := by
    have := (List.getElem?_eq_some_iff.mp h).1
    rw [upTo_len] at this
    exact this
  refine ⟨?_, hi⟩
  simp [DL.upTo, hi] at h
  exact h.symm
end DL

/-! the walk of k27: each def's reading and derivation (printed by gen.py) -/
namespace WK
open PySem PySem.Spec PyProof.Rows L2 DL
def top (i : Nat) : Stmt := PySem.Challenge.pw_anybase_k27_rows_of_pumps.main.body.getD i (.Pass ⟨0, 0, 0, 0⟩)
abbrev s_rows_of_pump : Stmt := top 3
abbrev N_rows_of_pump : List Str := ["base", "pump", "times", "word", "x", "parts", "y", "v", "z", "rest", "turn"]
theorem sc_rows_of_pump : FnScope N_rows_of_pump ["base", "pump", "times"] (defScope s_rows_of_pump) := ⟨rfl, rfl, rfl, by decide +kernel, rfl, by decide +kernel, by decide +kernel⟩
def d_rows_of_pump : DS := (dSeq (dAsg (dVar 1) (dgStar 2 (dgCons (dgName 3) (dgCons (dgName 4) (dgCons (dgName 5) dgNil))))) (dSeq (dAsg (dSl (dVar 1) (dPart (dUn rNeg (dC (.int 3)))) dNoPart) (dgTup 3 (dgCons (dgName 6) (dgCons (dgName 7) (dgCons (dgName 8) dgNil))))) (dSeq (dPar 9 10 (dCons (dOp rAdd (dOp rAdd (dVar 6) (dOp rMul (dVar 7) (dVar 2))) (dVar 8)) (dCons (dOp rAdd (dTup (dCons (dC (.int 1)) dNil)) (dOp rMul (dTup (dCons (dC (.int 0)) dNil)) (dOp rSub (dVar 2) (dC (.int 1))))) dNil))) (dSeq (dIf (dTst (dOp (rEqW false) (dVar 3) (dC (.str "power")))) (dRet (dTup (dCons (dOp rAdd (dVar 4) (dVar 9)) (dCons (dOp rAdd (dOp rAdd (dVar 4) (dOp rMul (dOp rIxD (dVar 5) (dC (.int 0))) (dVar 2))) (dVar 9)) dNil)))) dNext) (dSeq (dIf (dTst (dOp (rEqW false) (dVar 3) (dC (.str "digit")))) (dRet (dTup (dCons (dOp rAdd (dOp rAdd (dVar 4) (dTup (dCons (dOp rIxD (dVar 5) (dC (.int 0))) dNil))) (dVar 9)) (dCons (dOp rAdd (dOp rAdd (dOp rAdd (dVar 4) (dTup (dCons (dC (.int 0)) dNil))) (dOp rMul (dVar 10) (dOp rMul (dVar 0) (dOp rIxD (dVar 5) (dC (.int 0)))))) (dVar 9)) dNil)))) dNext) (dRet (dTup (dCons (dOp rAdd (dOp rAdd (dOp rAdd (dVar 4) (dVar 10)) (dTup (dCons (dC (.int 0)) dNil))) (dVar 9)) (dCons (dOp rAdd (dOp rAdd (dOp rAdd (dVar 4) (dTup (dCons (dC (.int 0)) dNil))) (dOp rMul (dVar 10) (dVar 0))) (dVar 9)) dNil)))))))))
theorem ok_rows_of_pump {P : Program} {w : World} {K : Fz} {mg : Str → Option Value} {base : Heap} {f : Addr} {fd : FuncData} {sp : DSp}
    (pure : ∀ ds M P PX, sp ds M P PX → d_rows_of_pump { nx := fun _ M' => P .non M', rt := P, bk := fun _ _ => False, ct := fun _ _ => False, ex := fun _ => PX } (st0 N_rows_of_pump ds) M)
    (len : ∀ ds M P PX, sp ds M P PX → ds.length = 3) (F : FunD K "rows_of_pump" "rows_of_pump" (defArgs s_rows_of_pump) (defBody s_rows_of_pump) (defScope s_rows_of_pump) [] [] f fd) (h_POWER : ∃ t, mg "POWER" = some (.str "power" t)) (h_DIGIT : ∃ t, mg "DIGIT" = some (.str "digit" t)) : DFn GG P w K mg base 1 f fd ["base", "pump", "times"] sp := by
  obtain ⟨oc, od, dV, kV, doc, pm, an, cdv, ct, osl, e1, e2, e3, _, _⟩ := F.ex
  obtain ⟨_, g_POWER⟩ := h_POWER
  obtain ⟨_, g_DIGIT⟩ := h_DIGIT
  refine DFn.mk' (d := d_rows_of_pump) (fun _ _ h => h) ⟨oc, od, dV, kV, doc, pm, an, cdv, ct, osl, e1, e2, e3⟩ sc_rows_of_pump len pure ?_
  intro cdv A outer s H E hr hg
  have tk : Takes (cxOf (L2.CX P w) P w K mg base N_rows_of_pump "rows_of_pump" (defScope s_rows_of_pump) f cdv A outer s H E) (WB E) := takes_of rfl rfl rfl rfl
  have hp : PassesOwn (model P w) (A.deeper (envOfC "rows_of_pump" (defScope s_rows_of_pump) s.heap.objs.size f cdv)) (cxOf (L2.CX P w) P w K mg base N_rows_of_pump "rows_of_pump" (defScope s_rows_of_pump) f cdv A outer s H E).env (cxOf (L2.CX P w) P w K mg base N_rows_of_pump "rows_of_pump" (defScope s_rows_of_pump) f cdv A outer s H E).xe := passes_of rfl
  have hu := hr.units
  have hu1 := hu_of hr
  exact (bj_cons (sj_asg (ej_var 1) (gj_star (n := 2) rfl (gsj_cons (gj_name 3 sc_rows_of_pump.nd) (gsj_cons (gj_name 4 sc_rows_of_pump.nd) (gsj_star (gj_name 5 sc_rows_of_pump.nd)))))) (bj_cons (sj_asg (ej_sl (ej_var 1) (oj_some (ej_neg ej_int)) oj_none) (gj_tup (n := 3) rfl (gsj_cons (gj_name 6 sc_rows_of_pump.nd) (gsj_cons (gj_name 7 sc_rows_of_pump.nd) (gsj_cons (gj_name 8 sc_rows_of_pump.nd) gsj_nil))))) (bj_cons (sj_par2 9 10 rfl sc_rows_of_pump.nd (aj_cons (ej_add (ej_add (ej_var 6) (ej_mul (ej_var 7) (ej_var 2))) (ej_var 8)) (aj_cons (ej_add (ej_tup (aj_cons ej_int aj_nil)) (ej_mul (ej_tup (aj_cons ej_int aj_nil)) (ej_sub (ej_var 2) ej_int))) aj_nil))) (bj_cons (sj_if (tj_eq hu (ej_var 3) (ej_globS rfl g_POWER)) (bj_one (sj_ret (ej_tup (aj_cons (ej_add (ej_var 4) (ej_var 9)) (aj_cons (ej_add (ej_add (ej_var 4) (ej_mul (ej_ix (ej_var 5) ej_int) (ej_var 2))) (ej_var 9)) aj_nil))))) bj_nil) (bj_cons (sj_if (tj_eq hu (ej_var 3) (ej_globS rfl g_DIGIT)) (bj_one (sj_ret (ej_tup (aj_cons (ej_add (ej_add (ej_var 4) (ej_tup (aj_cons (ej_ix (ej_var 5) ej_int) aj_nil))) (ej_var 9)) (aj_cons (ej_add (ej_add (ej_add (ej_var 4) (ej_tup (aj_cons ej_int aj_nil))) (ej_mul (ej_var 10) (ej_mul (ej_var 0) (ej_ix (ej_var 5) ej_int)))) (ej_var 9)) aj_nil))))) bj_nil) (bj_one (sj_ret (ej_tup (aj_cons (ej_add (ej_add (ej_add (ej_var 4) (ej_var 10)) (ej_tup (aj_cons ej_int aj_nil))) (ej_var 9)) (aj_cons (ej_add (ej_add (ej_add (ej_var 4) (ej_tup (aj_cons ej_int aj_nil))) (ej_mul (ej_var 10) (ej_var 0))) (ej_var 9)) aj_nil))))))))))
abbrev s_pump_rows : Stmt := top 5
abbrev N_pump_rows : List Str := ["base", "pump", "times"]
theorem sc_pump_rows : FnScope N_pump_rows ["base", "pump", "times"] (defScope s_pump_rows) := ⟨rfl, rfl, rfl, by decide +kernel, rfl, by decide +kernel, by decide +kernel⟩
def d_pump_rows (p_rows_of_pump : DSp) : DS := (dRet (dCall p_rows_of_pump (dCons (dVar 0) (dCons (dVar 1) (dCons (dVar 2) dNil)))))
theorem ok_pump_rows {P : Program} {w : World} {K : Fz} {mg : Str → Option Value} {base : Heap} {f : Addr} {fd : FuncData} {sp p_rows_of_pump : DSp}
    (pure : ∀ ds M P PX, sp ds M P PX → (d_pump_rows p_rows_of_pump) { nx := fun _ M' => P .non M', rt := P, bk := fun _ _ => False, ct := fun _ _ => False, ex := fun _ => PX } (st0 N_pump_rows ds) M)
    (len : ∀ ds M P PX, sp ds M P PX → ds.length = 3) (F : FunD K "pump_rows" "pump_rows" (defArgs s_pump_rows) (defBody s_pump_rows) (defScope s_pump_rows) [] [] f fd) (C_rows_of_pump : Cal P w K mg base 1 "rows_of_pump" ["base", "pump", "times"] p_rows_of_pump) : DFn GG P w K mg base 2 f fd ["base", "pump", "times"] sp := by
  obtain ⟨oc, od, dV, kV, doc, pm, an, cdv, ct, osl, e1, e2, e3, _, _⟩ := F.ex
  refine DFn.mk' (d := (d_pump_rows p_rows_of_pump)) (fun _ _ h => h) ⟨oc, od, dV, kV, doc, pm, an, cdv, ct, osl, e1, e2, e3⟩ sc_pump_rows len pure ?_
  intro cdv A outer s H E hr hg
  have tk : Takes (cxOf (L2.CX P w) P w K mg base N_pump_rows "pump_rows" (defScope s_pump_rows) f cdv A outer s H E) (WB E) := takes_of rfl rfl rfl rfl
  have hp : PassesOwn (model P w) (A.deeper (envOfC "pump_rows" (defScope s_pump_rows) s.heap.objs.size f cdv)) (cxOf (L2.CX P w) P w K mg base N_pump_rows "pump_rows" (defScope s_pump_rows) f cdv A outer s H E).env (cxOf (L2.CX P w) P w K mg base N_pump_rows "pump_rows" (defScope s_pump_rows) f cdv A outer s H E).xe := passes_of rfl
  have hu := hr.units
  have hu1 := hu_of hr
  exact (bj_one (sj_ret (ej_callC C_rows_of_pump hr hg tk (aj_cons (ej_var 0) (aj_cons (ej_var 1) (aj_cons (ej_var 2) aj_nil))))))
abbrev s__law_deck : Stmt := top 7
abbrev N__law_deck : List Str := ["_law_script", "_law_mixed", "_law_cell"]
theorem sc__law_deck : FnScope N__law_deck ["_law_script"] (defScope s__law_deck) := ⟨rfl, rfl, rfl, by decide +kernel, rfl, by decide +kernel, by decide +kernel⟩
def d__law_deck : DS := (dSeq (dAsg (dC (.int 884627)) (dgName 1)) (dSeq (dFor (dItS (dSl (dVar 0) dNoPart (dPart (dC (.int 63))))) (dgName 2) (dAsg (dOp rMod (dCB rIntD (dCons (dOp rAdd (dOp rAdd (dOp rMul (dVar 1) (dC (.int 48271))) (dOp rMod (dCB rIntD (dCons (dVar 2) dNil)) (dC (.int 2147483629)))) (dC (.int 103))) dNil)) (dC (.int 2147483587))) (dgName 1))) (dRet (dDisp [((dC (.str "cells")), (dRevM (dLc (dItS (dSl (dVar 0) dNoPart (dPart (dC (.int 63))))) (tgN 2) (dTst (dOp rGe (dVar 2) (dOp rPow (dC (.int 10)) (dC (.int 18))))) (dVar 2) [2]))), ((dC (.str "mixed")), (dVar 1))]))))
theorem ok__law_deck {P : Program} {w : World} {K : Fz} {mg : Str → Option Value} {base : Heap} {f : Addr} {fd : FuncData} {sp : DSp}
    (pure : ∀ ds M P PX, sp ds M P PX → d__law_deck { nx := fun _ M' => P .non M', rt := P, bk := fun _ _ => False, ct := fun _ _ => False, ex := fun _ => PX } (st0 N__law_deck ds) M)
    (len : ∀ ds M P PX, sp ds M P PX → ds.length = 1) (F : FunD K "_law_deck" "_law_deck" (defArgs s__law_deck) (defBody s__law_deck) (defScope s__law_deck) [] [] f fd) (b_int : mg "int" = none) : DFn GG P w K mg base 1 f fd ["_law_script"] sp := by
  obtain ⟨oc, od, dV, kV, doc, pm, an, cdv, ct, osl, e1, e2, e3, _, _⟩ := F.ex
  refine DFn.mk' (d := d__law_deck) (fun _ _ h => h) ⟨oc, od, dV, kV, doc, pm, an, cdv, ct, osl, e1, e2, e3⟩ sc__law_deck len pure ?_
  intro cdv A outer s H E hr hg
  have tk : Takes (cxOf (L2.CX P w) P w K mg base N__law_deck "_law_deck" (defScope s__law_deck) f cdv A outer s H E) (WB E) := takes_of rfl rfl rfl rfl
  have hp : PassesOwn (model P w) (A.deeper (envOfC "_law_deck" (defScope s__law_deck) s.heap.objs.size f cdv)) (cxOf (L2.CX P w) P w K mg base N__law_deck "_law_deck" (defScope s__law_deck) f cdv A outer s H E).env (cxOf (L2.CX P w) P w K mg base N__law_deck "_law_deck" (defScope s__law_deck) f cdv A outer s H E).xe := passes_of rfl
  have hu := hr.units
  have hu1 := hu_of hr
  exact (bj_cons (sj_set 1 sc__law_deck.nd ej_int) (bj_cons (sj_for hp rfl (ij_seq (ej_sl (ej_var 0) oj_none (oj_some ej_int))) (gj_name 2 sc__law_deck.nd) (bj_one (sj_set 1 sc__law_deck.nd (ej_mod (ej_intc b_int (aj_cons (ej_add (ej_add (ej_mul (ej_var 1) ej_int) (ej_mod (ej_intc b_int (aj_cons (ej_var 2) aj_nil)) ej_int)) ej_int) aj_nil)) ej_int)))) (bj_one (sj_ret (ej_disp (psj_cons ej_str (ej_revM (ej_lc (own := [("_law_cell", 2)]) rfl sc__law_deck.nd (ij_seq (ej_sl (ej_var 0) oj_none (oj_some ej_int))) (blkOk_by (by show blkC N__law_deck (defScope s__law_deck) _ _ = true; decide +kernel)) (tg_name (by decide)) (fun _ _ _ _ _ => (pg_name (i := 2) sc__law_deck.nd rfl (.inl (by kernel_rfl)) (.inr (by kernel_rfl)))) (fun _ _ _ _ _ => (ptsj_one (tj_ge (ej_var 2 (hv := Or.inl (by kernel_rfl))) (ej_pow ej_int ej_int)))) (fun _ _ _ _ _ => (ej_var 2 (hv := Or.inl (by kernel_rfl)))))) (psj_cons ej_str (ej_var 1) psj_nil)))))))
abbrev s__law_draw : Stmt := top 8
abbrev N__law_draw : List Str := ["_law_deck_here", "_law_many", "_law_cell"]
theorem sc__law_draw : FnScope N__law_draw ["_law_deck_here", "_law_many"] (defScope s__law_draw) := ⟨rfl, rfl, rfl, by decide +kernel, rfl, by decide +kernel, by decide +kernel⟩
def d__law_draw : DS := (dSeq (dIf (dTst (dOp (rEqW true) (dGet (dVar 0) (dC (.str "cells"))) (dLst dNil))) (dSeq (dAsg (dCB rIntD (dCons (dBM kList rPopD (dGet (dVar 0) (dC (.str "cells"))) dNil) dNil)) (dgName 2)) (dSeq (dIf (dTst (dOp rGe (dVar 2) (dVar 1))) (dDrop (dBM kList rAppD (dGet (dVar 0) (dC (.str "cells"))) (dCons (dOp rDiv (dVar 2) (dVar 1)) dNil))) dNext) (dRet (dOp rMod (dCB rIntD (dCons (dVar 2) dNil)) (dVar 1))))) dNext) (dSeq (dPut (dVar 0) (dC (.str "mixed")) (dOp rMod (dCB rIntD (dCons (dOp rAdd (dOp rMul (dCB rIntD (dCons (dGet (dVar 0) (dC (.str "mixed"))) dNil)) (dC (.int 40692))) (dC (.int 107))) dNil)) (dC (.int 2147483563)))) (dRet (dOp rMod (dOp rDiv (dCB rIntD (dCons (dGet (dVar 0) (dC (.str "mixed"))) dNil)) (dC (.int 64))) (dVar 1)))))
theorem ok__law_draw {P : Program} {w : World} {K : Fz} {mg : Str → Option Value} {base : Heap} {f : Addr} {fd : FuncData} {sp : DSp}
    (pure : ∀ ds M P PX, sp ds M P PX → d__law_draw { nx := fun _ M' => P .non M', rt := P, bk := fun _ _ => False, ct := fun _ _ => False, ex := fun _ => PX } (st0 N__law_draw ds) M)
    (len : ∀ ds M P PX, sp ds M P PX → ds.length = 2) (F : FunD K "_law_draw" "_law_draw" (defArgs s__law_draw) (defBody s__law_draw) (defScope s__law_draw) [] [] f fd) (b_int : mg "int" = none) : DFn GG P w K mg base 1 f fd ["_law_deck_here", "_law_many"] sp := by
  obtain ⟨oc, od, dV, kV, doc, pm, an, cdv, ct, osl, e1, e2, e3, _, _⟩ := F.ex
  refine DFn.mk' (d := d__law_draw) (fun _ _ h => h) ⟨oc, od, dV, kV, doc, pm, an, cdv, ct, osl, e1, e2, e3⟩ sc__law_draw len pure ?_
  intro cdv A outer s H E hr hg
  have tk : Takes (cxOf (L2.CX P w) P w K mg base N__law_draw "_law_draw" (defScope s__law_draw) f cdv A outer s H E) (WB E) := takes_of rfl rfl rfl rfl
  have hp : PassesOwn (model P w) (A.deeper (envOfC "_law_draw" (defScope s__law_draw) s.heap.objs.size f cdv)) (cxOf (L2.CX P w) P w K mg base N__law_draw "_law_draw" (defScope s__law_draw) f cdv A outer s H E).env (cxOf (L2.CX P w) P w K mg base N__law_draw "_law_draw" (defScope s__law_draw) f cdv A outer s H E).xe := passes_of rfl
  have hu := hr.units
  have hu1 := hu_of hr
  exact (bj_cons (sj_if (tj_ne hu (ej_dget hu1 (ej_var 0) ej_str) (ej_lst aj_nil)) (bj_cons (sj_set 2 sc__law_draw.nd (ej_intc b_int (aj_cons (ej_pop (ej_dget hu1 (ej_var 0) ej_str)) aj_nil))) (bj_cons (sj_if (tj_ge (ej_var 2) (ej_var 1)) (bj_one (sj_expr (ej_append (ej_dget hu1 (ej_var 0) ej_str) (aj_cons (ej_div (ej_var 2) (ej_var 1)) aj_nil)))) bj_nil) (bj_one (sj_ret (ej_mod (ej_intc b_int (aj_cons (ej_var 2) aj_nil)) (ej_var 1)))))) bj_nil) (bj_cons (sj_dput hu1 (ej_var 0) ej_str (ej_mod (ej_intc b_int (aj_cons (ej_add (ej_mul (ej_intc b_int (aj_cons (ej_dget hu1 (ej_var 0) ej_str) aj_nil)) ej_int) ej_int) aj_nil)) ej_int)) (bj_one (sj_ret (ej_mod (ej_div (ej_intc b_int (aj_cons (ej_dget hu1 (ej_var 0) ej_str) aj_nil)) ej_int) (ej_var 1))))))
abbrev s__law_pick : Stmt := top 9
abbrev N__law_pick : List Str := ["_law_deck_here", "_law_some"]
theorem sc__law_pick : FnScope N__law_pick ["_law_deck_here", "_law_some"] (defScope s__law_pick) := ⟨rfl, rfl, rfl, by decide +kernel, rfl, by decide +kernel, by decide +kernel⟩
def d__law_pick (p__law_draw : DSp) : DS := (dRet (dOp rIxD (dVar 1) (dCall p__law_draw (dCons (dVar 0) (dCons (dCB rLenD (dCons (dVar 1) dNil)) dNil)))))
theorem ok__law_pick {P : Program} {w : World} {K : Fz} {mg : Str → Option Value} {base : Heap} {f : Addr} {fd : FuncData} {sp p__law_draw : DSp}
    (pure : ∀ ds M P PX, sp ds M P PX → (d__law_pick p__law_draw) { nx := fun _ M' => P .non M', rt := P, bk := fun _ _ => False, ct := fun _ _ => False, ex := fun _ => PX } (st0 N__law_pick ds) M)
    (len : ∀ ds M P PX, sp ds M P PX → ds.length = 2) (F : FunD K "_law_pick" "_law_pick" (defArgs s__law_pick) (defBody s__law_pick) (defScope s__law_pick) [] [] f fd) (C__law_draw : Cal P w K mg base 1 "_law_draw" ["_law_deck_here", "_law_many"] p__law_draw) (b_len : mg "len" = none) : DFn GG P w K mg base 2 f fd ["_law_deck_here", "_law_some"] sp := by
  obtain ⟨oc, od, dV, kV, doc, pm, an, cdv, ct, osl, e1, e2, e3, _, _⟩ := F.ex
  refine DFn.mk' (d := (d__law_pick p__law_draw)) (fun _ _ h => h) ⟨oc, od, dV, kV, doc, pm, an, cdv, ct, osl, e1, e2, e3⟩ sc__law_pick len pure ?_
  intro cdv A outer s H E hr hg
  have tk : Takes (cxOf (L2.CX P w) P w K mg base N__law_pick "_law_pick" (defScope s__law_pick) f cdv A outer s H E) (WB E) := takes_of rfl rfl rfl rfl
  have hp : PassesOwn (model P w) (A.deeper (envOfC "_law_pick" (defScope s__law_pick) s.heap.objs.size f cdv)) (cxOf (L2.CX P w) P w K mg base N__law_pick "_law_pick" (defScope s__law_pick) f cdv A outer s H E).env (cxOf (L2.CX P w) P w K mg base N__law_pick "_law_pick" (defScope s__law_pick) f cdv A outer s H E).xe := passes_of rfl
  have hu := hr.units
  have hu1 := hu_of hr
  exact (bj_one (sj_ret (ej_ix (ej_var 1) (ej_callC C__law_draw hr hg tk (aj_cons (ej_var 0) (aj_cons (ej_len b_len (aj_cons (ej_var 1) aj_nil)) aj_nil))))))
abbrev s__law_row : Stmt := top 10
abbrev N__law_row : List Str := ["_law_deck_here", "_law_size", "_law_least", "_law_most", "_law_k"]
theorem sc__law_row : FnScope N__law_row ["_law_deck_here", "_law_size", "_law_least", "_law_most"] (defScope s__law_row) := ⟨rfl, rfl, rfl, by decide +kernel, rfl, by decide +kernel, by decide +kernel⟩
def d__law_row (p__law_draw : DSp) : DS := (dRet (dCB rTupD (dCons (dLc (dRng1 (dCons (dOp rAdd (dVar 2) (dCall p__law_draw (dCons (dVar 0) (dCons (dOp rAdd (dOp rSub (dVar 3) (dVar 2)) (dC (.int 1))) dNil)))) dNil)) (tgN 4) dYes (dCall p__law_draw (dCons (dVar 0) (dCons (dVar 1) dNil))) [4]) dNil)))
theorem ok__law_row {P : Program} {w : World} {K : Fz} {mg : Str → Option Value} {base : Heap} {f : Addr} {fd : FuncData} {sp p__law_draw : DSp}
    (pure : ∀ ds M P PX, sp ds M P PX → (d__law_row p__law_draw) { nx := fun _ M' => P .non M', rt := P, bk := fun _ _ => False, ct := fun _ _ => False, ex := fun _ => PX } (st0 N__law_row ds) M)
    (len : ∀ ds M P PX, sp ds M P PX → ds.length = 4) (F : FunD K "_law_row" "_law_row" (defArgs s__law_row) (defBody s__law_row) (defScope s__law_row) [] [] f fd) (C__law_draw : Cal P w K mg base 1 "_law_draw" ["_law_deck_here", "_law_many"] p__law_draw) (b_tuple : mg "tuple" = none) (b_range : mg "range" = none) : DFn GG P w K mg base 2 f fd ["_law_deck_here", "_law_size", "_law_least", "_law_most"] sp := by
  obtain ⟨oc, od, dV, kV, doc, pm, an, cdv, ct, osl, e1, e2, e3, _, _⟩ := F.ex
  refine DFn.mk' (d := (d__law_row p__law_draw)) (fun _ _ h => h) ⟨oc, od, dV, kV, doc, pm, an, cdv, ct, osl, e1, e2, e3⟩ sc__law_row len pure ?_
  intro cdv A outer s H E hr hg
  have tk : Takes (cxOf (L2.CX P w) P w K mg base N__law_row "_law_row" (defScope s__law_row) f cdv A outer s H E) (WB E) := takes_of rfl rfl rfl rfl
  have hp : PassesOwn (model P w) (A.deeper (envOfC "_law_row" (defScope s__law_row) s.heap.objs.size f cdv)) (cxOf (L2.CX P w) P w K mg base N__law_row "_law_row" (defScope s__law_row) f cdv A outer s H E).env (cxOf (L2.CX P w) P w K mg base N__law_row "_law_row" (defScope s__law_row) f cdv A outer s H E).xe := passes_of rfl
  have hu := hr.units
  have hu1 := hu_of hr
  exact (bj_one (sj_ret (ej_tuple b_tuple (aj_cons (ej_lc (own := [("_law_k", 4)]) rfl sc__law_row.nd (ij_range1 b_range (aj_cons (ej_add (ej_var 2) (ej_callC C__law_draw hr hg tk (aj_cons (ej_var 0 (hv := Or.inr (Or.inl (by kernel_rfl)))) (aj_cons (ej_add (ej_sub (ej_var 3) (ej_var 2)) ej_int) aj_nil)))) aj_nil)) (blkOk_by (by show blkC N__law_row (defScope s__law_row) _ _ = true; decide +kernel)) (tg_name (by decide)) (fun _ _ _ _ _ => (pg_name (i := 4) sc__law_row.nd rfl (.inl (by kernel_rfl)) (.inr (by kernel_rfl)))) (fun _ _ _ _ _ => ptsj_nil) (fun _ _ _ _ _ => (ej_callC C__law_draw hr hg takes00 (aj_cons (ej_var 0 (hv := Or.inr (Or.inl (by kernel_rfl)))) (aj_cons (ej_var 1 (hv := Or.inr (Or.inl (by kernel_rfl)))) aj_nil)) (hg := by show _ = _; kernel_rfl)))) aj_nil))))
abbrev s__law_pump : Stmt := top 11
abbrev N__law_pump : List Str := ["_law_deck_here", "_law_size", "_law_word", "_law_x", "_law_y", "_law_z", "_law_v"]
theorem sc__law_pump : FnScope N__law_pump ["_law_deck_here", "_law_size"] (defScope s__law_pump) := ⟨rfl, rfl, rfl, by decide +kernel, rfl, by decide +kernel, by decide +kernel⟩
def d__law_pump (p__law_pick p__law_row p__law_draw : DSp) : DS := (dSeq (dAsg (dCall p__law_pick (dCons (dVar 0) (dCons (dLst (dCons (dC (.str "power")) (dCons (dC (.str "digit")) (dCons (dC (.str "carry")) dNil)))) dNil))) (dgName 2)) (dSeq (dPar3 3 4 5 (dCons (dCall p__law_row (dCons (dVar 0) (dCons (dVar 1) (dCons (dC (.int 0)) (dCons (dC (.int 5)) dNil))))) (dCons (dCall p__law_row (dCons (dVar 0) (dCons (dVar 1) (dCons (dC (.int 0)) (dCons (dC (.int 5)) dNil))))) (dCons (dCall p__law_row (dCons (dVar 0) (dCons (dVar 1) (dCons (dC (.int 0)) (dCons (dC (.int 12)) dNil))))) dNil)))) (dSeq (dAsg (dCall p__law_row (dCons (dVar 0) (dCons (dVar 1) (dCons (dC (.int 1)) (dCons (dC (.int 4)) dNil))))) (dgName 6)) (dSeq (dIf (dTst (dOp (rEqW false) (dVar 2) (dC (.str "carry")))) (dRet (dTup (dCons (dVar 2) (dCons (dVar 3) (dCons (dVar 4) (dCons (dVar 6) (dCons (dVar 5) dNil))))))) dNext) (dSeq (dIf (dTst (dOp (rEqW false) (dVar 2) (dC (.str "digit")))) (dRet (dTup (dCons (dVar 2) (dCons (dVar 3) (dCons (dOp rAdd (dC (.int 1)) (dCall p__law_draw (dCons (dVar 0) (dCons (dOp rSub (dVar 1) (dC (.int 1))) dNil)))) (dCons (dVar 4) (dCons (dVar 6) (dCons (dVar 5) dNil)))))))) dNext) (dRet (dTup (dCons (dVar 2) (dCons (dOp rAdd (dVar 3) (dTup (dCons (dOp rAdd (dC (.int 1)) (dCall p__law_draw (dCons (dVar 0) (dCons (dOp rSub (dVar 1) (dC (.int 1))) dNil)))) dNil))) (dCons (dCall p__law_row (dCons (dVar 0) (dCons (dVar 1) (dCons (dC (.int 1)) (dCons (dC (.int 4)) dNil))))) (dCons (dVar 4) (dCons (dVar 6) (dCons (dVar 5) dNil)))))))))))))
theorem ok__law_pump {P : Program} {w : World} {K : Fz} {mg : Str → Option Value} {base : Heap} {f : Addr} {fd : FuncData} {sp p__law_pick p__law_row p__law_draw : DSp}
    (pure : ∀ ds M P PX, sp ds M P PX → (d__law_pump p__law_pick p__law_row p__law_draw) { nx := fun _ M' => P .non M', rt := P, bk := fun _ _ => False, ct := fun _ _ => False, ex := fun _ => PX } (st0 N__law_pump ds) M)
    (len : ∀ ds M P PX, sp ds M P PX → ds.length = 2) (F : FunD K "_law_pump" "_law_pump" (defArgs s__law_pump) (defBody s__law_pump) (defScope s__law_pump) [] [] f fd) (C__law_pick : Cal P w K mg base 2 "_law_pick" ["_law_deck_here", "_law_some"] p__law_pick) (C__law_row : Cal P w K mg base 2 "_law_row" ["_law_deck_here", "_law_size", "_law_least", "_law_most"] p__law_row) (C__law_draw : Cal P w K mg base 1 "_law_draw" ["_law_deck_here", "_law_many"] p__law_draw) : DFn GG P w K mg base 3 f fd ["_law_deck_here", "_law_size"] sp := by
  obtain ⟨oc, od, dV, kV, doc, pm, an, cdv, ct, osl, e1, e2, e3, _, _⟩ := F.ex
  refine DFn.mk' (d := (d__law_pump p__law_pick p__law_row p__law_draw)) (fun _ _ h => h) ⟨oc, od, dV, kV, doc, pm, an, cdv, ct, osl, e1, e2, e3⟩ sc__law_pump len pure ?_
  intro cdv A outer s H E hr hg
  have tk : Takes (cxOf (L2.CX P w) P w K mg base N__law_pump "_law_pump" (defScope s__law_pump) f cdv A outer s H E) (WB E) := takes_of rfl rfl rfl rfl
  have hp : PassesOwn (model P w) (A.deeper (envOfC "_law_pump" (defScope s__law_pump) s.heap.objs.size f cdv)) (cxOf (L2.CX P w) P w K mg base N__law_pump "_law_pump" (defScope s__law_pump) f cdv A outer s H E).env (cxOf (L2.CX P w) P w K mg base N__law_pump "_law_pump" (defScope s__law_pump) f cdv A outer s H E).xe := passes_of rfl
  have hu := hr.units
  have hu1 := hu_of hr
  exact (bj_cons (sj_set 2 sc__law_pump.nd (ej_callC C__law_pick hr hg tk (aj_cons (ej_var 0) (aj_cons (ej_lst (aj_cons ej_str (aj_cons ej_str (aj_cons ej_str aj_nil)))) aj_nil)))) (bj_cons (sj_par3 3 4 5 rfl sc__law_pump.nd (aj_cons (ej_callC C__law_row hr hg tk (aj_cons (ej_var 0) (aj_cons (ej_var 1) (aj_cons ej_int (aj_cons ej_int aj_nil))))) (aj_cons (ej_callC C__law_row hr hg tk (aj_cons (ej_var 0) (aj_cons (ej_var 1) (aj_cons ej_int (aj_cons ej_int aj_nil))))) (aj_cons (ej_callC C__law_row hr hg tk (aj_cons (ej_var 0) (aj_cons (ej_var 1) (aj_cons ej_int (aj_cons ej_int aj_nil))))) aj_nil)))) (bj_cons (sj_set 6 sc__law_pump.nd (ej_callC C__law_row hr hg tk (aj_cons (ej_var 0) (aj_cons (ej_var 1) (aj_cons ej_int (aj_cons ej_int aj_nil)))))) (bj_cons (sj_if (tj_eq hu (ej_var 2) ej_str) (bj_one (sj_ret (ej_tup (aj_cons (ej_var 2) (aj_cons (ej_var 3) (aj_cons (ej_var 4) (aj_cons (ej_var 6) (aj_cons (ej_var 5) aj_nil)))))))) bj_nil) (bj_cons (sj_if (tj_eq hu (ej_var 2) ej_str) (bj_one (sj_ret (ej_tup (aj_cons (ej_var 2) (aj_cons (ej_var 3) (aj_cons (ej_add ej_int (ej_callC C__law_draw hr hg tk (aj_cons (ej_var 0) (aj_cons (ej_sub (ej_var 1) ej_int) aj_nil)))) (aj_cons (ej_var 4) (aj_cons (ej_var 6) (aj_cons (ej_var 5) aj_nil))))))))) bj_nil) (bj_one (sj_ret (ej_tup (aj_cons (ej_var 2) (aj_cons (ej_add (ej_var 3) (ej_tup (aj_cons (ej_add ej_int (ej_callC C__law_draw hr hg tk (aj_cons (ej_var 0) (aj_cons (ej_sub (ej_var 1) ej_int) aj_nil)))) aj_nil))) (aj_cons (ej_callC C__law_row hr hg tk (aj_cons (ej_var 0) (aj_cons (ej_var 1) (aj_cons ej_int (aj_cons ej_int aj_nil))))) (aj_cons (ej_var 4) (aj_cons (ej_var 6) (aj_cons (ej_var 5) aj_nil))))))))))))))
abbrev s__law_due : Stmt := top 12
abbrev N__law_due : List Str := ["_law_size", "_law_it", "_law_n", "_law_x", "_law_v", "_law_rest_here", "_law_turn", "_law_k", "_law_more", "_law_many", "_law_turns"]
theorem sc__law_due : FnScope N__law_due ["_law_size", "_law_it", "_law_n"] (defScope s__law_due) := ⟨rfl, rfl, rfl, by decide +kernel, rfl, by decide +kernel, by decide +kernel⟩
def d__law_due : DS := (dSeq (dPar 3 4 (dCons (dCB rListD (dCons (dOp rIxD (dVar 1) (dC (.int 1))) dNil)) (dCons (dCB rListD (dCons (dOp rIxD (dVar 1) (dUn rNeg (dC (.int 2)))) dNil)) dNil))) (dSeq (dPar 5 6 (dCons (dCB rListD (dCons (dOp rIxD (dVar 1) (dUn rNeg (dC (.int 3)))) dNil)) (dCons (dLstM (dCons (dC (.int 1)) dNil)) dNil))) (dSeq (dFor (dRng1 (dCons (dOp rSub (dVar 2) (dC (.int 1))) dNil)) (dgName 7) (dDrop (dBM kList rAppD (dVar 6) (dCons (dC (.int 0)) dNil)))) (dSeq (dFor (dRng1 (dCons (dVar 2) dNil)) (dgName 7) (dAsg (dOp rAdd (dVar 5) (dVar 4)) (dgName 5))) (dSeq (dAsg (dOp rAdd (dVar 5) (dCB rListD (dCons (dOp rIxD (dVar 1) (dUn rNeg (dC (.int 1)))) dNil))) (dgName 5)) (dSeq (dIf (dTst (dOp (rEqW false) (dOp rIxD (dVar 1) (dC (.int 0))) (dC (.str "power")))) (dSeq (dAsg (dLst dNil) (dgName 8)) (dSeq (dFor (dRng1 (dCons (dVar 2) dNil)) (dgName 7) (dAsg (dOp rAdd (dVar 8) (dCB rListD (dCons (dOp rIxD (dVar 1) (dC (.int 2))) dNil))) (dgName 8))) (dRet (dTup (dCons (dCB rTupD (dCons (dOp rAdd (dVar 3) (dVar 5)) dNil)) (dCons (dCB rTupD (dCons (dOp rAdd (dOp rAdd (dVar 3) (dVar 8)) (dVar 5)) dNil)) dNil)))))) dNext) (dSeq (dAsg (dIfE (dTst (dOp (rEqW false) (dOp rIxD (dVar 1) (dC (.int 0))) (dC (.str "carry")))) (dVar 0) (dOp rMul (dVar 0) (dOp rIxD (dVar 1) (dC (.int 2))))) (dgName 9)) (dSeq (dAsg (dLst dNil) (dgName 10)) (dSeq (dFor (dRng1 (dCons (dVar 9) dNil)) (dgName 7) (dAsg (dOp rAdd (dVar 10) (dVar 6)) (dgName 10))) (dSeq (dIf (dTst (dOp (rEqW false) (dOp rIxD (dVar 1) (dC (.int 0))) (dC (.str "digit")))) (dRet (dTup (dCons (dCB rTupD (dCons (dOp rAdd (dOp rAdd (dVar 3) (dLst (dCons (dOp rIxD (dVar 1) (dC (.int 2))) dNil))) (dVar 5)) dNil)) (dCons (dCB rTupD (dCons (dOp rAdd (dOp rAdd (dOp rAdd (dVar 3) (dLst (dCons (dC (.int 0)) dNil))) (dVar 10)) (dVar 5)) dNil)) dNil)))) dNext) (dRet (dTup (dCons (dCB rTupD (dCons (dOp rAdd (dOp rAdd (dOp rAdd (dVar 3) (dVar 6)) (dLst (dCons (dC (.int 0)) dNil))) (dVar 5)) dNil)) (dCons (dCB rTupD (dCons (dOp rAdd (dOp rAdd (dOp rAdd (dVar 3) (dLst (dCons (dC (.int 0)) dNil))) (dVar 10)) (dVar 5)) dNil)) dNil))))))))))))))
theorem ok__law_due {P : Program} {w : World} {K : Fz} {mg : Str → Option Value} {base : Heap} {f : Addr} {fd : FuncData} {sp : DSp}
    (pure : ∀ ds M P PX, sp ds M P PX → d__law_due { nx := fun _ M' => P .non M', rt := P, bk := fun _ _ => False, ct := fun _ _ => False, ex := fun _ => PX } (st0 N__law_due ds) M)
    (len : ∀ ds M P PX, sp ds M P PX → ds.length = 3) (F : FunD K "_law_due" "_law_due" (defArgs s__law_due) (defBody s__law_due) (defScope s__law_due) [] [] f fd) (b_list : mg "list" = none) (b_range : mg "range" = none) (b_tuple : mg "tuple" = none) : DFn GG P w K mg base 1 f fd ["_law_size", "_law_it", "_law_n"] sp := by
  obtain ⟨oc, od, dV, kV, doc, pm, an, cdv, ct, osl, e1, e2, e3, _, _⟩ := F.ex
  refine DFn.mk' (d := d__law_due) (fun _ _ h => h) ⟨oc, od, dV, kV, doc, pm, an, cdv, ct, osl, e1, e2, e3⟩ sc__law_due len pure ?_
  intro cdv A outer s H E hr hg
  have tk : Takes (cxOf (L2.CX P w) P w K mg base N__law_due "_law_due" (defScope s__law_due) f cdv A outer s H E) (WB E) := takes_of rfl rfl rfl rfl
  have hp : PassesOwn (model P w) (A.deeper (envOfC "_law_due" (defScope s__law_due) s.heap.objs.size f cdv)) (cxOf (L2.CX P w) P w K mg base N__law_due "_law_due" (defScope s__law_due) f cdv A outer s H E).env (cxOf (L2.CX P w) P w K mg base N__law_due "_law_due" (defScope s__law_due) f cdv A outer s H E).xe := passes_of rfl
  have hu := hr.units
  have hu1 := hu_of hr
  exact (bj_cons (sj_par2 3 4 rfl sc__law_due.nd (aj_cons (ej_list b_list (aj_cons (ej_ix (ej_var 1) ej_int) aj_nil)) (aj_cons (ej_list b_list (aj_cons (ej_ix (ej_var 1) (ej_neg ej_int)) aj_nil)) aj_nil))) (bj_cons (sj_par2 5 6 rfl sc__law_due.nd (aj_cons (ej_list b_list (aj_cons (ej_ix (ej_var 1) (ej_neg ej_int)) aj_nil)) (aj_cons (ej_lstM (aj_cons ej_int aj_nil)) aj_nil))) (bj_cons (sj_for hp rfl (ij_range1 b_range (aj_cons (ej_sub (ej_var 2) ej_int) aj_nil)) (gj_name 7 sc__law_due.nd) (bj_one (sj_expr (ej_append (ej_var 6) (aj_cons ej_int aj_nil))))) (bj_cons (sj_for hp rfl (ij_range1 b_range (aj_cons (ej_var 2) aj_nil)) (gj_name 7 sc__law_due.nd) (bj_one (sj_set 5 sc__law_due.nd (ej_add (ej_var 5) (ej_var 4))))) (bj_cons (sj_set 5 sc__law_due.nd (ej_add (ej_var 5) (ej_list b_list (aj_cons (ej_ix (ej_var 1) (ej_neg ej_int)) aj_nil)))) (bj_cons (sj_if (tj_eq hu (ej_ix (ej_var 1) ej_int) ej_str) (bj_cons (sj_set 8 sc__law_due.nd (ej_lst aj_nil)) (bj_cons (sj_for hp rfl (ij_range1 b_range (aj_cons (ej_var 2) aj_nil)) (gj_name 7 sc__law_due.nd) (bj_one (sj_set 8 sc__law_due.nd (ej_add (ej_var 8) (ej_list b_list (aj_cons (ej_ix (ej_var 1) ej_int) aj_nil)))))) (bj_one (sj_ret (ej_tup (aj_cons (ej_tuple b_tuple (aj_cons (ej_add (ej_var 3) (ej_var 5)) aj_nil)) (aj_cons (ej_tuple b_tuple (aj_cons (ej_add (ej_add (ej_var 3) (ej_var 8)) (ej_var 5)) aj_nil)) aj_nil))))))) bj_nil) (bj_cons (sj_set 9 sc__law_due.nd (ej_ifE (tj_eq hu (ej_ix (ej_var 1) ej_int) ej_str) (ej_var 0) (ej_mul (ej_var 0) (ej_ix (ej_var 1) ej_int)))) (bj_cons (sj_set 10 sc__law_due.nd (ej_lst aj_nil)) (bj_cons (sj_for hp rfl (ij_range1 b_range (aj_cons (ej_var 9) aj_nil)) (gj_name 7 sc__law_due.nd) (bj_one (sj_set 10 sc__law_due.nd (ej_add (ej_var 10) (ej_var 6))))) (bj_cons (sj_if (tj_eq hu (ej_ix (ej_var 1) ej_int) ej_str) (bj_one (sj_ret (ej_tup (aj_cons (ej_tuple b_tuple (aj_cons (ej_add (ej_add (ej_var 3) (ej_lst (aj_cons (ej_ix (ej_var 1) ej_int) aj_nil))) (ej_var 5)) aj_nil)) (aj_cons (ej_tuple b_tuple (aj_cons (ej_add (ej_add (ej_add (ej_var 3) (ej_lst (aj_cons ej_int aj_nil))) (ej_var 10)) (ej_var 5)) aj_nil)) aj_nil))))) bj_nil) (bj_one (sj_ret (ej_tup (aj_cons (ej_tuple b_tuple (aj_cons (ej_add (ej_add (ej_add (ej_var 3) (ej_var 6)) (ej_lst (aj_cons ej_int aj_nil))) (ej_var 5)) aj_nil)) (aj_cons (ej_tuple b_tuple (aj_cons (ej_add (ej_add (ej_add (ej_var 3) (ej_lst (aj_cons ej_int aj_nil))) (ej_var 10)) (ej_var 5)) aj_nil)) aj_nil)))))))))))))))
abbrev s__law_rest : Stmt := top 13
abbrev N__law_rest : List Str := ["_law_size", "_law_row_here", "_law_part", "_law_found", "_law_place"]
theorem sc__law_rest : FnScope N__law_rest ["_law_size", "_law_row_here", "_law_part"] (defScope s__law_rest) := ⟨rfl, rfl, rfl, by decide +kernel, rfl, by decide +kernel, by decide +kernel⟩
def d__law_rest : DS := (dSeq (dAsg (dC (.int 0)) (dgName 3)) (dSeq (dFor (dItS (dVar 1)) (dgName 4) (dAsg (dOp rMod (dCB rIntD (dCons (dOp rAdd (dOp rMul (dVar 3) (dVar 0)) (dVar 4)) dNil)) (dVar 2)) (dgName 3))) (dRet (dVar 3))))
theorem ok__law_rest {P : Program} {w : World} {K : Fz} {mg : Str → Option Value} {base : Heap} {f : Addr} {fd : FuncData} {sp : DSp}
    (pure : ∀ ds M P PX, sp ds M P PX → d__law_rest { nx := fun _ M' => P .non M', rt := P, bk := fun _ _ => False, ct := fun _ _ => False, ex := fun _ => PX } (st0 N__law_rest ds) M)
    (len : ∀ ds M P PX, sp ds M P PX → ds.length = 3) (F : FunD K "_law_rest" "_law_rest" (defArgs s__law_rest) (defBody s__law_rest) (defScope s__law_rest) [] [] f fd) (b_int : mg "int" = none) : DFn GG P w K mg base 1 f fd ["_law_size", "_law_row_here", "_law_part"] sp := by
  obtain ⟨oc, od, dV, kV, doc, pm, an, cdv, ct, osl, e1, e2, e3, _, _⟩ := F.ex
  refine DFn.mk' (d := d__law_rest) (fun _ _ h => h) ⟨oc, od, dV, kV, doc, pm, an, cdv, ct, osl, e1, e2, e3⟩ sc__law_rest len pure ?_
  intro cdv A outer s H E hr hg
  have tk : Takes (cxOf (L2.CX P w) P w K mg base N__law_rest "_law_rest" (defScope s__law_rest) f cdv A outer s H E) (WB E) := takes_of rfl rfl rfl rfl
  have hp : PassesOwn (model P w) (A.deeper (envOfC "_law_rest" (defScope s__law_rest) s.heap.objs.size f cdv)) (cxOf (L2.CX P w) P w K mg base N__law_rest "_law_rest" (defScope s__law_rest) f cdv A outer s H E).env (cxOf (L2.CX P w) P w K mg base N__law_rest "_law_rest" (defScope s__law_rest) f cdv A outer s H E).xe := passes_of rfl
  have hu := hr.units
  have hu1 := hu_of hr
  exact (bj_cons (sj_set 3 sc__law_rest.nd ej_int) (bj_cons (sj_for hp rfl (ij_seq (ej_var 1)) (gj_name 4 sc__law_rest.nd) (bj_one (sj_set 3 sc__law_rest.nd (ej_mod (ej_intc b_int (aj_cons (ej_add (ej_mul (ej_var 3) (ej_var 0)) (ej_var 4)) aj_nil)) (ej_var 2))))) (bj_one (sj_ret (ej_var 3)))))
abbrev s__law_order : Stmt := top 14
abbrev N__law_order : List Str := ["_law_size", "_law_part", "_law_found", "_law_power"]
theorem sc__law_order : FnScope N__law_order ["_law_size", "_law_part"] (defScope s__law_order) := ⟨rfl, rfl, rfl, by decide +kernel, rfl, by decide +kernel, by decide +kernel⟩
def d__law_order : DS := (dSeq (dPar 2 3 (dCons (dC (.int 1)) (dCons (dOp rMod (dCB rIntD (dCons (dVar 0) dNil)) (dVar 1)) dNil))) (dSeq (dWhile (dTst (dOp (rEqW true) (dVar 3) (dOp rMod (dCB rIntD (dCons (dC (.int 1)) dNil)) (dVar 1)))) (dPar 2 3 (dCons (dOp rAdd (dVar 2) (dC (.int 1))) (dCons (dOp rMod (dCB rIntD (dCons (dOp rMul (dVar 3) (dVar 0)) dNil)) (dVar 1)) dNil)))) (dRet (dVar 2))))
theorem ok__law_order {P : Program} {w : World} {K : Fz} {mg : Str → Option Value} {base : Heap} {f : Addr} {fd : FuncData} {sp : DSp}
    (pure : ∀ ds M P PX, sp ds M P PX → d__law_order { nx := fun _ M' => P .non M', rt := P, bk := fun _ _ => False, ct := fun _ _ => False, ex := fun _ => PX } (st0 N__law_order ds) M)
    (len : ∀ ds M P PX, sp ds M P PX → ds.length = 2) (F : FunD K "_law_order" "_law_order" (defArgs s__law_order) (defBody s__law_order) (defScope s__law_order) [] [] f fd) (b_int : mg "int" = none) : DFn GG P w K mg base 1 f fd ["_law_size", "_law_part"] sp := by
  obtain ⟨oc, od, dV, kV, doc, pm, an, cdv, ct, osl, e1, e2, e3, _, _⟩ := F.ex
  refine DFn.mk' (d := d__law_order) (fun _ _ h => h) ⟨oc, od, dV, kV, doc, pm, an, cdv, ct, osl, e1, e2, e3⟩ sc__law_order len pure ?_
  intro cdv A outer s H E hr hg
  have tk : Takes (cxOf (L2.CX P w) P w K mg base N__law_order "_law_order" (defScope s__law_order) f cdv A outer s H E) (WB E) := takes_of rfl rfl rfl rfl
  have hp : PassesOwn (model P w) (A.deeper (envOfC "_law_order" (defScope s__law_order) s.heap.objs.size f cdv)) (cxOf (L2.CX P w) P w K mg base N__law_order "_law_order" (defScope s__law_order) f cdv A outer s H E).env (cxOf (L2.CX P w) P w K mg base N__law_order "_law_order" (defScope s__law_order) f cdv A outer s H E).xe := passes_of rfl
  have hu := hr.units
  have hu1 := hu_of hr
  exact (bj_cons (sj_par2 2 3 rfl sc__law_order.nd (aj_cons ej_int (aj_cons (ej_mod (ej_intc b_int (aj_cons (ej_var 0) aj_nil)) (ej_var 1)) aj_nil))) (bj_cons (sj_while hp (tj_ne hu (ej_var 3) (ej_mod (ej_intc b_int (aj_cons ej_int aj_nil)) (ej_var 1))) (bj_one (sj_par2 2 3 rfl sc__law_order.nd (aj_cons (ej_add (ej_var 2) ej_int) (aj_cons (ej_mod (ej_intc b_int (aj_cons (ej_mul (ej_var 3) (ej_var 0)) aj_nil)) (ej_var 1)) aj_nil))))) (bj_one (sj_ret (ej_var 2)))))
abbrev s__law_is_prime_to : Stmt := top 15
abbrev N__law_is_prime_to : List Str := ["_law_one", "_law_two"]
theorem sc__law_is_prime_to : FnScope N__law_is_prime_to ["_law_one", "_law_two"] (defScope s__law_is_prime_to) := ⟨rfl, rfl, rfl, by decide +kernel, rfl, by decide +kernel, by decide +kernel⟩
def d__law_is_prime_to : DS := (dSeq (dWhile (dTst (dOp rGt (dVar 1) (dC (.int 0)))) (dPar 0 1 (dCons (dVar 1) (dCons (dOp rMod (dCB rIntD (dCons (dVar 0) dNil)) (dVar 1)) dNil)))) (dRet (dOp (rEqW false) (dVar 0) (dC (.int 1)))))
theorem ok__law_is_prime_to {P : Program} {w : World} {K : Fz} {mg : Str → Option Value} {base : Heap} {f : Addr} {fd : FuncData} {sp : DSp}
    (pure : ∀ ds M P PX, sp ds M P PX → d__law_is_prime_to { nx := fun _ M' => P .non M', rt := P, bk := fun _ _ => False, ct := fun _ _ => False, ex := fun _ => PX } (st0 N__law_is_prime_to ds) M)
    (len : ∀ ds M P PX, sp ds M P PX → ds.length = 2) (F : FunD K "_law_is_prime_to" "_law_is_prime_to" (defArgs s__law_is_prime_to) (defBody s__law_is_prime_to) (defScope s__law_is_prime_to) [] [] f fd) (b_int : mg "int" = none) : DFn GG P w K mg base 1 f fd ["_law_one", "_law_two"] sp := by
  obtain ⟨oc, od, dV, kV, doc, pm, an, cdv, ct, osl, e1, e2, e3, _, _⟩ := F.ex
  refine DFn.mk' (d := d__law_is_prime_to) (fun _ _ h => h) ⟨oc, od, dV, kV, doc, pm, an, cdv, ct, osl, e1, e2, e3⟩ sc__law_is_prime_to len pure ?_
  intro cdv A outer s H E hr hg
  have tk : Takes (cxOf (L2.CX P w) P w K mg base N__law_is_prime_to "_law_is_prime_to" (defScope s__law_is_prime_to) f cdv A outer s H E) (WB E) := takes_of rfl rfl rfl rfl
  have hp : PassesOwn (model P w) (A.deeper (envOfC "_law_is_prime_to" (defScope s__law_is_prime_to) s.heap.objs.size f cdv)) (cxOf (L2.CX P w) P w K mg base N__law_is_prime_to "_law_is_prime_to" (defScope s__law_is_prime_to) f cdv A outer s H E).env (cxOf (L2.CX P w) P w K mg base N__law_is_prime_to "_law_is_prime_to" (defScope s__law_is_prime_to) f cdv A outer s H E).xe := passes_of rfl
  have hu := hr.units
  have hu1 := hu_of hr
  exact (bj_cons (sj_while hp (tj_gt (ej_var 1) ej_int) (bj_one (sj_par2 0 1 rfl sc__law_is_prime_to.nd (aj_cons (ej_var 1) (aj_cons (ej_mod (ej_intc b_int (aj_cons (ej_var 0) aj_nil)) (ej_var 1)) aj_nil))))) (bj_one (sj_ret (ej_eq hu (ej_var 0) ej_int))))
abbrev s__law_right : Stmt := top 16
abbrev N__law_right : List Str := ["_law_deck_here", "_law_size", "_law_it", "_law_n", "_law_due_here", "_law_told", "_law_part", "_law_one", "_law_two"]
theorem sc__law_right : FnScope N__law_right ["_law_deck_here", "_law_size", "_law_it"] (defScope s__law_right) := ⟨rfl, rfl, rfl, by decide +kernel, rfl, by decide +kernel, by decide +kernel⟩
def d__law_right (p__law_draw p__law_due p_pump_rows p__law_is_prime_to p__law_order p__law_rest : DSp) : DS := (dSeq (dFor (dItS (dTup (dCons (dC (.int 1)) (dCons (dC (.int 2)) (dCons (dOp rAdd (dC (.int 1)) (dCall p__law_draw (dCons (dVar 0) (dCons (dC (.int 20)) dNil)))) (dCons (dC (.int 60)) dNil)))))) (dgName 3) (dSeq (dAsg (dCall p__law_due (dCons (dVar 1) (dCons (dVar 2) (dCons (dVar 3) dNil)))) (dgName 4)) (dSeq (dAsg (dLst (dCons (dCall p_pump_rows (dCons (dVar 1) (dCons (dVar 2) (dCons (dVar 3) dNil)))) (dCons (dCallK p_pump_rows 0 3 [2, 1, 0] dNil (dCons (dVar 3) (dCons (dVar 2) (dCons (dVar 1) dNil)))) dNil))) (dgName 5)) (dIf (dTst (dOp (rEqW true) (dCB rReprD (dCons (dVar 5) dNil)) (dCB rReprD (dCons (dLst (dCons (dVar 4) (dCons (dVar 4) dNil))) dNil)))) (dRet (dC (.bl false))) dNext)))) (dSeq (dFor (dRng2 (dCons (dC (.int 1)) (dCons (dC (.int 14)) dNil))) (dgName 6) (dSeq (dAsg (dIfE (dTst (dCall p__law_is_prime_to (dCons (dVar 6) (dCons (dVar 1) dNil)))) (dOp rMul (dVar 6) (dCall p__law_order (dCons (dVar 1) (dCons (dVar 6) dNil)))) (dC (.int 61))) (dgName 3)) (dIf (dTst (dOp rLt (dVar 3) (dC (.int 61)))) (dSeq (dAsg (dCall p_pump_rows (dCons (dVar 1) (dCons (dVar 2) (dCons (dVar 3) dNil)))) (dgTup 2 (dgCons (dgName 7) (dgCons (dgName 8) dgNil)))) (dIf (dOr (dTst (dOp (rEqW true) (dCall p__law_rest (dCons (dVar 1) (dCons (dVar 7) (dCons (dVar 6) dNil)))) (dCall p__law_rest (dCons (dVar 1) (dCons (dVar 8) (dCons (dVar 6) dNil)))))) (dTst (dOp (rEqW true) (dSl (dVar 7) (dPart (dUn rNeg (dVar 3))) dNoPart) (dSl (dVar 8) (dPart (dUn rNeg (dVar 3))) dNoPart)))) (dRet (dC (.bl false))) dNext)) dNext))) (dRet (dC (.bl true)))))
theorem ok__law_right {P : Program} {w : World} {K : Fz} {mg : Str → Option Value} {base : Heap} {f : Addr} {fd : FuncData} {sp p__law_draw p__law_due p_pump_rows p__law_is_prime_to p__law_order p__law_rest : DSp}
    (pure : ∀ ds M P PX, sp ds M P PX → (d__law_right p__law_draw p__law_due p_pump_rows p__law_is_prime_to p__law_order p__law_rest) { nx := fun _ M' => P .non M', rt := P, bk := fun _ _ => False, ct := fun _ _ => False, ex := fun _ => PX } (st0 N__law_right ds) M)
    (len : ∀ ds M P PX, sp ds M P PX → ds.length = 3) (F : FunD K "_law_right" "_law_right" (defArgs s__law_right) (defBody s__law_right) (defScope s__law_right) [] [] f fd) (C__law_draw : Cal P w K mg base 1 "_law_draw" ["_law_deck_here", "_law_many"] p__law_draw) (C__law_due : Cal P w K mg base 1 "_law_due" ["_law_size", "_law_it", "_law_n"] p__law_due) (C_pump_rows : Cal P w K mg base 2 "pump_rows" ["base", "pump", "times"] p_pump_rows) (C__law_is_prime_to : Cal P w K mg base 1 "_law_is_prime_to" ["_law_one", "_law_two"] p__law_is_prime_to) (C__law_order : Cal P w K mg base 1 "_law_order" ["_law_size", "_law_part"] p__law_order) (C__law_rest : Cal P w K mg base 1 "_law_rest" ["_law_size", "_law_row_here", "_law_part"] p__law_rest) (CK0 : CalK P w K mg base 2 "pump_rows" ["base", "pump", "times"] 0 ["times", "pump", "base"] [2, 1, 0] p_pump_rows) (b_repr : mg "repr" = none) (b_range : mg "range" = none) : DFn GG P w K mg base 3 f fd ["_law_deck_here", "_law_size", "_law_it"] sp := by
  obtain ⟨oc, od, dV, kV, doc, pm, an, cdv, ct, osl, e1, e2, e3, _, _⟩ := F.ex
  refine DFn.mk' (d := (d__law_right p__law_draw p__law_due p_pump_rows p__law_is_prime_to p__law_order p__law_rest)) (fun _ _ h => h) ⟨oc, od, dV, kV, doc, pm, an, cdv, ct, osl, e1, e2, e3⟩ sc__law_right len pure ?_
  intro cdv A outer s H E hr hg
  have tk : Takes (cxOf (L2.CX P w) P w K mg base N__law_right "_law_right" (defScope s__law_right) f cdv A outer s H E) (WB E) := takes_of rfl rfl rfl rfl
  have hp : PassesOwn (model P w) (A.deeper (envOfC "_law_right" (defScope s__law_right) s.heap.objs.size f cdv)) (cxOf (L2.CX P w) P w K mg base N__law_right "_law_right" (defScope s__law_right) f cdv A outer s H E).env (cxOf (L2.CX P w) P w K mg base N__law_right "_law_right" (defScope s__law_right) f cdv A outer s H E).xe := passes_of rfl
  have hu := hr.units
  have hu1 := hu_of hr
  exact (bj_cons (sj_for hp rfl (ij_seq (ej_tup (aj_cons ej_int (aj_cons ej_int (aj_cons (ej_add ej_int (ej_callC C__law_draw hr hg tk (aj_cons (ej_var 0) (aj_cons ej_int aj_nil)))) (aj_cons ej_int aj_nil)))))) (gj_name 3 sc__law_right.nd) (bj_cons (sj_set 4 sc__law_right.nd (ej_callC C__law_due hr hg tk (aj_cons (ej_var 1) (aj_cons (ej_var 2) (aj_cons (ej_var 3) aj_nil))))) (bj_cons (sj_set 5 sc__law_right.nd (ej_lst (aj_cons (ej_callC C_pump_rows hr hg tk (aj_cons (ej_var 1) (aj_cons (ej_var 2) (aj_cons (ej_var 3) aj_nil)))) (aj_cons (ej_callCK0 (ks := ["times", "pump", "base"]) CK0 hr hg tk (kj_cons (ej_var 3) (kj_cons (ej_var 2) (kj_cons (ej_var 1) kj_nil)))) aj_nil)))) (bj_one (sj_if (tj_ne hu (ej_repr hg hu b_repr (aj_cons (ej_var 5) aj_nil)) (ej_repr hg hu b_repr (aj_cons (ej_lst (aj_cons (ej_var 4) (aj_cons (ej_var 4) aj_nil))) aj_nil))) (bj_one (sj_ret ej_bl)) bj_nil))))) (bj_cons (sj_for hp rfl (ij_range2 b_range (aj_cons ej_int (aj_cons ej_int aj_nil))) (gj_name 6 sc__law_right.nd) (bj_cons (sj_set 3 sc__law_right.nd (ej_ifE (tj_val (ej_callC C__law_is_prime_to hr hg tk (aj_cons (ej_var 6) (aj_cons (ej_var 1) aj_nil)))) (ej_mul (ej_var 6) (ej_callC C__law_order hr hg tk (aj_cons (ej_var 1) (aj_cons (ej_var 6) aj_nil)))) ej_int)) (bj_one (sj_if (tj_lt (ej_var 3) ej_int) (bj_cons (sj_asg (ej_callC C_pump_rows hr hg tk (aj_cons (ej_var 1) (aj_cons (ej_var 2) (aj_cons (ej_var 3) aj_nil)))) (gj_tup (n := 2) rfl (gsj_cons (gj_name 7 sc__law_right.nd) (gsj_cons (gj_name 8 sc__law_right.nd) gsj_nil)))) (bj_one (sj_if (tj_w (wj_or (tj_ne hu (ej_callC C__law_rest hr hg tk (aj_cons (ej_var 1) (aj_cons (ej_var 7) (aj_cons (ej_var 6) aj_nil)))) (ej_callC C__law_rest hr hg tk (aj_cons (ej_var 1) (aj_cons (ej_var 8) (aj_cons (ej_var 6) aj_nil))))) (wj_or1 (tj_ne hu (ej_sl (ej_var 7) (oj_some (ej_neg (ej_var 3))) oj_none) (ej_sl (ej_var 8) (oj_some (ej_neg (ej_var 3))) oj_none))))) (bj_one (sj_ret ej_bl)) bj_nil))) bj_nil)))) (bj_one (sj_ret ej_bl))))
abbrev s_law : Stmt := top 17
abbrev N_law : List Str := ["_law_script", "_law_deck_here", "_law_go", "_law_size"]
theorem sc_law : FnScope N_law ["_law_script"] (defScope s_law) := ⟨rfl, rfl, rfl, by decide +kernel, rfl, by decide +kernel, by decide +kernel⟩
def d_law (p__law_deck p__law_pick p__law_right p__law_pump : DSp) : DS := (dSeq (dAsg (dCall p__law_deck (dCons (dVar 0) dNil)) (dgName 1)) (dSeq (dFor (dRng1 (dCons (dC (.int 5)) dNil)) (dgName 2) (dSeq (dAsg (dCall p__law_pick (dCons (dVar 1) (dCons (dLst (dCons (dC (.int 2)) (dCons (dC (.int 3)) (dCons (dC (.int 4)) (dCons (dC (.int 6)) (dCons (dC (.int 7)) (dCons (dC (.int 10)) (dCons (dC (.int 16)) dNil)))))))) dNil))) (dgName 3)) (dIf (dNot (dTst (dCall p__law_right (dCons (dVar 1) (dCons (dVar 3) (dCons (dCall p__law_pump (dCons (dVar 1) (dCons (dVar 3) dNil))) dNil)))))) (dRet (dC (.bl false))) dNext))) (dRet (dC (.bl true)))))
theorem ok_law {P : Program} {w : World} {K : Fz} {mg : Str → Option Value} {base : Heap} {f : Addr} {fd : FuncData} {sp p__law_deck p__law_pick p__law_right p__law_pump : DSp}
    (pure : ∀ ds M P PX, sp ds M P PX → (d_law p__law_deck p__law_pick p__law_right p__law_pump) { nx := fun _ M' => P .non M', rt := P, bk := fun _ _ => False, ct := fun _ _ => False, ex := fun _ => PX } (st0 N_law ds) M)
    (len : ∀ ds M P PX, sp ds M P PX → ds.length = 1) (F : FunD K "law" "law" (defArgs s_law) (defBody s_law) (defScope s_law) [] [] f fd) (C__law_deck : Cal P w K mg base 1 "_law_deck" ["_law_script"] p__law_deck) (C__law_pick : Cal P w K mg base 2 "_law_pick" ["_law_deck_here", "_law_some"] p__law_pick) (C__law_right : Cal P w K mg base 3 "_law_right" ["_law_deck_here", "_law_size", "_law_it"] p__law_right) (C__law_pump : Cal P w K mg base 3 "_law_pump" ["_law_deck_here", "_law_size"] p__law_pump) (b_range : mg "range" = none) : DFn GG P w K mg base 4 f fd ["_law_script"] sp := by
  obtain ⟨oc, od, dV, kV, doc, pm, an, cdv, ct, osl, e1, e2, e3, _, _⟩ := F.ex
  refine DFn.mk' (d := (d_law p__law_deck p__law_pick p__law_right p__law_pump)) (fun _ _ h => h) ⟨oc, od, dV, kV, doc, pm, an, cdv, ct, osl, e1, e2, e3⟩ sc_law len pure ?_
  intro cdv A outer s H E hr hg
  have tk : Takes (cxOf (L2.CX P w) P w K mg base N_law "law" (defScope s_law) f cdv A outer s H E) (WB E) := takes_of rfl rfl rfl rfl
  have hp : PassesOwn (model P w) (A.deeper (envOfC "law" (defScope s_law) s.heap.objs.size f cdv)) (cxOf (L2.CX P w) P w K mg base N_law "law" (defScope s_law) f cdv A outer s H E).env (cxOf (L2.CX P w) P w K mg base N_law "law" (defScope s_law) f cdv A outer s H E).xe := passes_of rfl
  have hu := hr.units
  have hu1 := hu_of hr
  exact (bj_cons (sj_set 1 sc_law.nd (ej_callC C__law_deck hr hg tk (aj_cons (ej_var 0) aj_nil))) (bj_cons (sj_for hp rfl (ij_range1 b_range (aj_cons ej_int aj_nil)) (gj_name 2 sc_law.nd) (bj_cons (sj_set 3 sc_law.nd (ej_callC C__law_pick hr hg tk (aj_cons (ej_var 1) (aj_cons (ej_lst (aj_cons ej_int (aj_cons ej_int (aj_cons ej_int (aj_cons ej_int (aj_cons ej_int (aj_cons ej_int (aj_cons ej_int aj_nil)))))))) aj_nil)))) (bj_one (sj_if (tj_not (tj_val (ej_callC C__law_right hr hg tk (aj_cons (ej_var 1) (aj_cons (ej_var 3) (aj_cons (ej_callC C__law_pump hr hg tk (aj_cons (ej_var 1) (aj_cons (ej_var 3) aj_nil))) aj_nil)))))) (bj_one (sj_ret ej_bl)) bj_nil)))) (bj_one (sj_ret ej_bl))))
end WK


namespace LW
open PySem PySem.Spec PyProof.Rows L2 DL WK
abbrev dis (ns : List Int) : List D := ns.map D.int
theorem cut_map {α β : Type} (f : α → β) (xs : List α) (lo hi : Option Int) : DL.cutD (xs.map f) lo hi = (DL.cutD xs lo hi).map f := by
  unfold DL.cutD
  rw [List.length_map, List.map_take, List.map_drop]
theorem get_dis {ns : List Int} {i : Nat} {d : D} (h : (ns.map D.int)[i]? = some d) : ∃ k, d = .int k ∧ ns[i]? = some k := by
  rw [List.getElem?_map] at h
  cases e : ns[i]? with
  | none =>
    rw [e] at h
    cases h
  | some k =>
    rw [e] at h
    cases h
    exact ⟨k, rfl, rfl⟩
theorem fm_lo (a : Int) {b : Int} (h : 0 < b) : 0 ≤ a.fmod b := Int.fmod_nonneg_of_pos a h
theorem fm_hi (a : Int) {b : Int} (h : 0 < b) : a.fmod b < b := Int.fmod_lt_of_pos a h
abbrev KS : List Key := [.inr "mixed"]
theorem log_small {j : Int} (h : 0 < j) (h2 : j < 2 ^ 62) : j.natAbs.log2 < 9000 := by
  have : j.natAbs.log2 < 62 := (Nat.log2_lt (by omega)).mpr (by omega)
  omega
theorem pure__law_deck : ∀ ds M P PX, (spDeckO KS) ds M P PX → d__law_deck { nx := fun _ M' => P .non M', rt := P, bk := fun _ _ => False, ct := fun _ _ => False, ex := fun _ => PX } (st0 N__law_deck ds) M := by
  intro ds M P PX ⟨ns, e, hl, q⟩
  subst e
  obtain ⟨I, hI⟩ : ∃ I : Nat → Ev → Mm → Prop, I = fun i ρ M' => M' = M ∧ ∃ m : Int, 0 ≤ m ∧ m < 2147483587 ∧ Has ρ [(0, .scr (ns.map D.int)), (1, .int m)] := ⟨_, rfl⟩
  refine ⟨I, by rw [hI]; exact ⟨rfl, 884627, by omega, by omega, rfl, rfl, trivial⟩, ?_, ?_⟩
  · intro i d ρ M' hd h
    rw [hI] at h
    obtain ⟨rfl, m, h0, h1, hh⟩ := h
    rw [cut_map] at hd
    obtain ⟨k, rfl, hk⟩ := get_dis hd
    obtain ⟨ρ, rfl⟩ := hh.know
    repeat (refine ⟨by first | omega | exact rfl | (simp only [List.length_append, List.length_cons, List.length_nil, List.length_map, List.length_replicate, List.length_reverse, List.length_take, List.length_drop, List.length_range, List.length_flatten, List.map_replicate, List.sum_replicate_nat, Int.toNat_natCast]; omega) | exact .inl (.inl ⟨by omega, by omega⟩) | exact .inl (.inr ⟨by omega, by omega⟩) | exact ⟨by omega, by decide⟩ | exact ⟨by decide, by decide, by decide⟩ | exact ⟨by omega, by omega⟩ | exact ⟨by omega, by omega, by omega, by omega⟩ | decide, ?_⟩)
    rw [hI]
    exact ⟨rfl, _, fm_lo _ (by omega), fm_hi _ (by omega), rfl, rfl, trivial⟩
  · intro ρ M' h
    rw [hI] at h
    obtain ⟨rfl, m, h0, h1, hh⟩ := h
    obtain ⟨ρ, rfl⟩ := hh.know
    intro p hp L hL
    have hpL : p ≠ L := fun z => by
      rw [z, um_same] at hL
      cases hL
    have hL0 : M' L = none := by
      rw [um_ne hpL.symm] at hL
      exact hL
    clear hI
    obtain ⟨I, hI⟩ : ∃ I : Nat → Mm → Prop, I = fun i M2 => ∃ acc : List Int, M2 = um (um M' p (.dct [])) L (.lst (acc.map .int)) ∧ acc.length ≤ i := ⟨_, rfl⟩
    refine ⟨I, by rw [hI]; exact ⟨[], rfl, Nat.le_refl _⟩, ?_, ?_⟩
    · intro i d M2 hd h
      rw [hI] at h
      obtain ⟨acc, rfl, hal⟩ := h
      rw [cut_map] at hd
      obtain ⟨k, rfl, hk⟩ := get_dis hd
      have hi : i < 63 := by
        have := (List.getElem?_eq_some_iff.mp hk).1
        unfold DL.cutD at this
        rw [List.length_take, List.length_drop] at this
        omega
      have hsl := sizeLine_eq
      by_cases hk2 : (10 : Int) ^ (18 : Int).toNat ≤ k
      · repeat (refine ⟨by first | omega | exact rfl | (simp only [List.length_append, List.length_cons, List.length_nil, List.length_map, List.length_replicate, List.length_reverse, List.length_take, List.length_drop, List.length_range, List.length_flatten, List.map_replicate, List.sum_replicate_nat, Int.toNat_natCast]; omega) | exact .inl (.inl ⟨by omega, by omega⟩) | exact .inl (.inr ⟨by omega, by omega⟩) | exact ⟨by omega, by decide⟩ | exact ⟨by decide, by decide, by decide⟩ | exact ⟨by omega, by omega⟩ | exact ⟨by omega, by omega, by omega, by omega⟩ | decide, ?_⟩)
        conv => whnf
        rw [decide_eq_true hk2]
        conv => whnf
        rw [um_same]
        refine ⟨by rw [List.length_map]; omega, ?_⟩
        rw [hI]
        exact ⟨acc ++ [k], by rw [um_um, List.map_append]; rfl, by rw [List.length_append]; show acc.length + 1 ≤ i + 1; omega⟩
      · repeat (refine ⟨by first | omega | exact rfl | (simp only [List.length_append, List.length_cons, List.length_nil, List.length_map, List.length_replicate, List.length_reverse, List.length_take, List.length_drop, List.length_range, List.length_flatten, List.map_replicate, List.sum_replicate_nat, Int.toNat_natCast]; omega) | exact .inl (.inl ⟨by omega, by omega⟩) | exact .inl (.inr ⟨by omega, by omega⟩) | exact ⟨by omega, by decide⟩ | exact ⟨by decide, by decide, by decide⟩ | exact ⟨by omega, by omega⟩ | exact ⟨by omega, by omega, by omega, by omega⟩ | decide, ?_⟩)
        conv => whnf
        rw [decide_eq_false hk2]
        show I (i + 1) _
        rw [hI]
        exact ⟨acc, rfl, by omega⟩
    · intro M2 h
      rw [hI] at h
      obtain ⟨acc, rfl, hal⟩ := h
      rw [um_same]
      have hal63 : acc.length ≤ 63 := by
        have e63 : (DL.cutD (List.map D.int ns) none (some 63)).length ≤ 63 := by
          unfold DL.cutD
          rw [List.length_take]
          show min (min 63 _ - 0) _ ≤ 63
          omega
        omega
      intro a ha
      have hap : a ≠ p := fun z => by
        rw [z, dm_ne hpL, um_ne hpL, um_same] at ha
        cases ha
      have e1 : ∀ u, um (dm (um (um M' p (.dct [])) L (.lst (acc.map .int))) L) a u p = some (.dct []) := fun u => by
        rw [um_ne hap.symm, dm_ne hpL, um_ne hpL, um_same]
      have hM : M' a = none := by
        by_cases z : a = L
        · rw [z]
          exact hL0
        · rw [dm_ne z, um_ne z, um_ne hap] at ha
          exact ha
      conv => whnf
      rw [e1]
      refine ⟨by show 2 ≤ 15; omega, q p a (fun _ => m) acc.reverse (by rw [List.length_reverse]; exact hal63) hap.symm hp hM _ ?_⟩
      funext b
      have e2 : List.map DL.D.int acc.reverse = (List.map DL.D.int acc).reverse := by simp
      rw [e2]
      by_cases z1 : b = a
      · subst z1
        rw [um_ne hap, um_same, um_same]
      · by_cases z2 : b = p
        · subst z2
          rw [um_same, um_ne z1, um_same]
          rfl
        · rw [um_ne z2, um_ne z1, um_ne z1, um_ne z2]
          by_cases z3 : b = L
          · rw [z3, dm_same, hL0]
          · rw [dm_ne z3, um_ne z3, um_ne z2]
theorem um_id {M : Mm} {a : Addr} {o : MO} (h : M a = some o) : um M a o = M := by
  funext b
  unfold um
  by_cases z : b = a
  · rw [if_pos z, z, h]
  · rw [if_neg z]
theorem last_int (n : Int) (ns : List Int) : ∃ k, (List.map D.int (n :: ns))[(List.map D.int (n :: ns)).length - 1]? = some (.int k) := by
  rw [List.getElem?_map, List.length_map, List.getElem?_eq_getElem (by simp)]
  exact ⟨_, rfl⟩
theorem pure__law_draw : ∀ ds M P PX, (spDrawO KS) ds M P PX → d__law_draw { nx := fun _ M' => P .non M', rt := P, bk := fun _ _ => False, ct := fun _ _ => False, ex := fun _ => PX } (st0 N__law_draw ds) M := by
  intro ds M P PX ⟨a, c, many, f, ns, e, hp, hp2, hac, hnl, h1, h2, q⟩
  subst e
  have hsl := sizeLine_eq
  have t1 := tab_of h1
  have hdiv : (0 < many ∧ many.natAbs.log2 < 9000) := ⟨hp, log_small hp hp2⟩
  repeat (refine ⟨by first | omega | exact rfl | (simp only [List.length_append, List.length_cons, List.length_nil, List.length_map, List.length_replicate, List.length_reverse, List.length_take, List.length_drop, List.length_range, List.length_flatten, List.map_replicate, List.sum_replicate_nat, Int.toNat_natCast]; omega) | exact .inl (.inl ⟨by omega, by omega⟩) | exact .inl (.inr ⟨by omega, by omega⟩) | exact ⟨by omega, by decide⟩ | exact ⟨by decide, by decide, by decide⟩ | exact ⟨by omega, by omega⟩ | exact ⟨by omega, by omega, by omega, by omega⟩ | decide, ?_⟩)
  conv => whnf
  rw [t1]
  repeat (refine ⟨by first | omega | exact rfl | (simp only [List.length_append, List.length_cons, List.length_nil, List.length_map, List.length_replicate, List.length_reverse, List.length_take, List.length_drop, List.length_range, List.length_flatten, List.map_replicate, List.sum_replicate_nat, Int.toNat_natCast]; omega) | exact .inl (.inl ⟨by omega, by omega⟩) | exact .inl (.inr ⟨by omega, by omega⟩) | exact ⟨by omega, by decide⟩ | exact ⟨by decide, by decide, by decide⟩ | exact ⟨by omega, by omega⟩ | exact ⟨by omega, by omega, by omega, by omega⟩ | decide, ?_⟩)
  have g1 : dr M (.ref c) = .lst (dis ns) := dr_of h2
  show okD (dr M (.ref c)) ∧ okD (.lst (dis [])) ∧ _
  rw [g1]
  refine ⟨okL_ints _, okL_ints _, ?_⟩
  show (match true ^^ PyData.eqv (py (.lst (dis ns))) (py (.lst (dis []))) with
    | true => _
    | false => _)
  rw [eqL_ints]
  cases ns with
  | nil =>
    conv => whnf
    rw [t1]
    repeat (refine ⟨by first | omega | exact rfl | (simp only [List.length_append, List.length_cons, List.length_nil, List.length_map, List.length_replicate, List.length_reverse, List.length_take, List.length_drop, List.length_range, List.length_flatten, List.map_replicate, List.sum_replicate_nat, Int.toNat_natCast]; omega) | exact .inl (.inl ⟨by omega, by omega⟩) | exact .inl (.inr ⟨by omega, by omega⟩) | exact ⟨by omega, by decide⟩ | exact ⟨by decide, by decide, by decide⟩ | exact ⟨by omega, by omega⟩ | exact ⟨by omega, by omega, by omega, by omega⟩ | decide, ?_⟩)
    conv => whnf
    rw [t1]
    refine ⟨by rw [hsl]; show (2 : Nat) < 16777216; decide, ?_⟩
    have t2 : ∀ v, tab (um M a (.dct v)) (.ref a) = some (a, v) := fun v => tab_of um_same
    conv => whnf
    rw [t2]
    repeat (refine ⟨by first | omega | exact rfl | (simp only [List.length_append, List.length_cons, List.length_nil, List.length_map, List.length_replicate, List.length_reverse, List.length_take, List.length_drop, List.length_range, List.length_flatten, List.map_replicate, List.sum_replicate_nat, Int.toNat_natCast]; omega) | exact .inl (.inl ⟨by omega, by omega⟩) | exact .inl (.inr ⟨by omega, by omega⟩) | exact ⟨by omega, by decide⟩ | exact ⟨by decide, by decide, by decide⟩ | exact ⟨by omega, by omega⟩ | exact ⟨by omega, by omega, by omega, by omega⟩ | decide, ?_⟩)
    refine q _ _ (fun _ => (f (Sum.inr "mixed") * 40692 + 107).fmod 2147483563) [] (fm_lo _ hp) (fm_hi _ hp) (by decide) ?_
    exact (um_id ((um_ne hac.symm).trans h2)).symm
  | cons n ns =>
    conv => whnf
    rw [t1]
    refine ⟨by show (asL M (.ref c)).isSome = true; rw [asL_of h2]; rfl, ?_⟩
    obtain ⟨k, hk⟩ := last_int n ns
    have dl : ∃ ms : List Int, (List.map D.int (n :: ns)).dropLast = List.map D.int ms ∧ ms.length < (n :: ns).length := ⟨(n :: ns).dropLast, by rw [List.map_dropLast], by simp⟩
    obtain ⟨ms, hms, hml⟩ := dl
    have hm63 : ms.length < 63 := by omega
    conv => whnf
    rw [h2]
    conv => whnf
    rw [hk]
    have t2 : ∀ v, tab (um M c (.lst v)) (.ref a) = some (a, ((Sum.inr "cells" : Key), D.ref c) :: List.map (fun k => (k, D.int (f k))) KS) := fun v => tab_of ((um_ne hac).trans h1)
    have e2 : ∀ v : MO, um M c v = um (um M a (dkT c KS f)) c v := fun v => by rw [um_id h1]
    by_cases hge : many ≤ k
    · conv => whnf
      rw [decide_eq_true hge]
      conv => whnf
      rw [t2]
      refine ⟨by show (asL _ (.ref c)).isSome = true; rw [asL_of um_same]; rfl, ?_⟩
      refine ⟨hdiv, ?_⟩
      conv => whnf
      rw [um_same]
      refine ⟨by rw [hms, List.length_map]; omega, ?_⟩
      repeat (refine ⟨by first | omega | exact rfl | (simp only [List.length_append, List.length_cons, List.length_nil, List.length_map, List.length_replicate, List.length_reverse, List.length_take, List.length_drop, List.length_range, List.length_flatten, List.map_replicate, List.sum_replicate_nat, Int.toNat_natCast]; omega) | exact .inl (.inl ⟨by omega, by omega⟩) | exact .inl (.inr ⟨by omega, by omega⟩) | exact ⟨by omega, by decide⟩ | exact ⟨by decide, by decide, by decide⟩ | exact ⟨by omega, by omega⟩ | exact ⟨by omega, by omega, by omega, by omega⟩ | decide, ?_⟩)
      refine q _ _ f (ms ++ [k / many]) (fm_lo _ hp) (fm_hi _ hp) (by rw [List.length_append]; show ms.length + 1 ≤ 63; omega) ?_
      rw [um_um, hms, e2, List.map_append]
      rfl
    · conv => whnf
      rw [decide_eq_false hge]
      repeat (refine ⟨by first | omega | exact rfl | (simp only [List.length_append, List.length_cons, List.length_nil, List.length_map, List.length_replicate, List.length_reverse, List.length_take, List.length_drop, List.length_range, List.length_flatten, List.map_replicate, List.sum_replicate_nat, Int.toNat_natCast]; omega) | exact .inl (.inl ⟨by omega, by omega⟩) | exact .inl (.inr ⟨by omega, by omega⟩) | exact ⟨by omega, by decide⟩ | exact ⟨by decide, by decide, by decide⟩ | exact ⟨by omega, by omega⟩ | exact ⟨by omega, by omega, by omega, by omega⟩ | decide, ?_⟩)
      refine q _ _ f ms (fm_lo _ hp) (fm_hi _ hp) (by omega) ?_
      rw [hms, e2]
end LW

namespace LW
open PySem PySem.Spec PyProof.Rows L2 DL WK
def spPick (ks : List Key) : DSp := fun ds M P _ => ∃ a xs, ds = [.ref a, .lst xs] ∧ DeckAt ks M a ∧ xs ≠ [] ∧ xs.length < 1000 ∧ ∀ x, x ∈ xs → P x M
theorem at_of {xs : List D} {r : Int} (h0 : 0 ≤ r) (h : r < xs.length) : ∃ x, L2.atI xs r = some x ∧ x ∈ xs := by
  unfold L2.atI L2.ixN
  rw [if_pos h0, if_pos h]
  have hl : r.toNat < xs.length := by omega
  exact ⟨xs[r.toNat], List.getElem?_eq_getElem hl, List.getElem_mem hl⟩
theorem pure__law_pick : ∀ ds M P PX, (spPick KS) ds M P PX → (d__law_pick  (spDraw KS)) { nx := fun _ M' => P .non M', rt := P, bk := fun _ _ => False, ct := fun _ _ => False, ex := fun _ => PX } (st0 N__law_pick ds) M := by
  intro ds M P PX ⟨a, xs, e, hd, hne, hl, q⟩
  subst e
  have hp : 0 < xs.length := by
    cases xs with
    | nil => exact absurd rfl hne
    | cons _ _ => exact Nat.succ_pos _
  refine ⟨a, xs.length, rfl, hd, by omega, by omega, fun r h0 hr => ?_⟩
  obtain ⟨x, hx, hm⟩ := at_of h0 hr
  conv => whnf
  rw [hx]
  exact q x hm
/-- a row of digits -/
structure Row (b : Int) (ns : List Int) : Prop where
  dig : ∀ n ∈ ns, 0 ≤ n ∧ n < b
def spRow (ks : List Key) : DSp := fun ds M P _ => ∃ (a : Addr) (b lo hi : Int), ds = [.ref a, .int b, .int lo, .int hi] ∧ DeckAt ks M a ∧ 0 < b ∧ b < 2 ^ 60 ∧ 0 ≤ lo ∧ lo ≤ hi ∧ hi ≤ 1000 ∧ ∀ ns, Row b ns → lo ≤ ns.length → ns.length ≤ hi → P (.tup (dis ns)) M
theorem upTo_len (lo : Int) (n : Nat) : (DL.upTo lo n).length = n := by simp [DL.upTo]
theorem dm_um {M : Mm} {a : Addr} {o : MO} (h : M a = none) : dm (um M a o) a = M := by
  funext b
  by_cases z : b = a
  · rw [z, dm_same, h]
  · rw [dm_ne z, um_ne z]
theorem pure__law_row : ∀ ds M P PX, (spRow KS) ds M P PX → (d__law_row  (spDraw KS)) { nx := fun _ M' => P .non M', rt := P, bk := fun _ _ => False, ct := fun _ _ => False, ex := fun _ => PX } (st0 N__law_row ds) M := by
  intro ds M P PX ⟨a, b, lo, hi, e, hd, hb, hb2, h0, h1, h2, q⟩
  subst e
  have hsl := sizeLine_eq
  refine ⟨a, hi - lo + 1, rfl, hd, by omega, by omega, fun r hr0 hr => ?_⟩
  refine ⟨by omega, ?_⟩
  intro L hL
  obtain ⟨I, hI⟩ : ∃ I : Nat → Mm → Prop, I = fun i M2 => ∃ acc : List Int, M2 = um M L (.lst (acc.map .int)) ∧ acc.length = i ∧ Row b acc := ⟨_, rfl⟩
  refine ⟨I, by rw [hI]; exact ⟨[], rfl, rfl, ⟨fun _ h => by cases h⟩⟩, ?_, ?_⟩
  · intro i d M2 hi2 h
    rw [hI] at h
    obtain ⟨acc, rfl, hal, hrow⟩ := h
    have hil : i < 2000 := by
      have := (List.getElem?_eq_some_iff.mp hi2).1
      rw [upTo_len] at this
      omega
    refine ⟨a, b, rfl, hd.um hL, hb, by omega, fun r2 h3 h4 => ?_⟩
    conv => whnf
    rw [um_same]
    refine ⟨by rw [List.length_map]; omega, ?_⟩
    rw [hI]
    refine ⟨acc ++ [r2], by rw [um_um, List.map_append]; rfl, by rw [List.length_append]; show acc.length + 1 = i + 1; omega, ⟨fun n hn => ?_⟩⟩
    rcases List.mem_append.mp hn with z | z
    · exact hrow.dig n z
    · cases List.mem_singleton.mp z
      exact ⟨h3, h4⟩
  · intro M2 h
    rw [hI] at h
    obtain ⟨acc, rfl, hal, hrow⟩ := h
    rw [um_same]
    rw [upTo_len] at hal
    show P (.tup (dis acc)) (dm (um M L (.lst (acc.map .int))) L)
    rw [dm_um hL]
    exact q acc hrow (by omega) (by omega)
/-! ### pumps -/
inductive Pump where
  | power (x u y v z : List Int) | digit (x : List Int) (d : Int) (y v z : List Int) | carry (x y v z : List Int)
def Pump.D : Pump → D
  | .power x u y v z => .tup [.str "power", .tup (dis x), .tup (dis u), .tup (dis y), .tup (dis v), .tup (dis z)]
  | .digit x d y v z => .tup [.str "digit", .tup (dis x), .int d, .tup (dis y), .tup (dis v), .tup (dis z)]
  | .carry x y v z => .tup [.str "carry", .tup (dis x), .tup (dis y), .tup (dis v), .tup (dis z)]
def rp (n : Nat) (v : List Int) : List Int := (List.replicate n v).flatten
def turn (n : Nat) : List Int := 1 :: List.replicate (n - 1) 0
def rst (y v z : List Int) (n : Nat) : List Int := y ++ rp n v ++ z
def Pump.row1 (n : Nat) : Pump → List Int
  | .power x u y v z => x ++ rst y v z n
  | .digit x d y v z => x ++ [d] ++ rst y v z n
  | .carry x y v z => x ++ turn n ++ [0] ++ rst y v z n
def Pump.row2 (b n : Nat) : Pump → List Int
  | .power x u y v z => x ++ rp n u ++ rst y v z n
  | .digit x d y v z => x ++ [0] ++ rp (b * d.toNat) (turn n) ++ rst y v z n
  | .carry x y v z => x ++ [0] ++ rp b (turn n) ++ rst y v z n
/-- a row of digits, at most k of them -/
structure Sm (b : Int) (k : Nat) (v : List Int) : Prop where
  row : Row b v
  le : v.length ≤ k
def Pump.ok (b : Nat) : Pump → Prop
  | .power x u y v z => Sm b 20 x ∧ Sm b 20 u ∧ Sm b 20 y ∧ Sm b 20 v ∧ Sm b 20 z ∧ 1 ≤ v.length
  | .digit x d y v z => Sm b 20 x ∧ (0 ≤ d ∧ d < b) ∧ Sm b 20 y ∧ Sm b 20 v ∧ Sm b 20 z ∧ 1 ≤ v.length
  | .carry x y v z => Sm b 20 x ∧ Sm b 20 y ∧ Sm b 20 v ∧ Sm b 20 z ∧ 1 ≤ v.length
def spPump (ks : List Key) : DSp := fun ds M P _ => ∃ (a : Addr) (b : Nat), ds = [.ref a, .int b] ∧ DeckAt ks M a ∧ 2 ≤ b ∧ b ≤ 20 ∧ ∀ p : Pump, p.ok b → P p.D M
theorem seqF {a b : Str} (h : decide (a = b) = false) : seq a b = false := by rw [seq_eq, h]
theorem seqT (a : Str) : seq a a = true := by rw [seq_eq]; exact decide_eq_true rfl
theorem Row.snoc {b : Int} {x : List Int} {d : Int} (h : Row b x) (h0 : 0 ≤ d) (h1 : d < b) : Row b (x ++ [d]) := ⟨fun n hn => by
  rcases List.mem_append.mp hn with z | z
  · exact h.dig n z
  · cases List.mem_singleton.mp z
    exact ⟨h0, h1⟩⟩
theorem pure__law_pump : ∀ ds M P PX, (spPump KS) ds M P PX → (d__law_pump  (spPick KS) (spRow KS) (spDraw KS)) { nx := fun _ M' => P .non M', rt := P, bk := fun _ _ => False, ct := fun _ _ => False, ex := fun _ => PX } (st0 N__law_pump ds) M := by
  intro ds M P PX ⟨a, b, e, hd, hb, hb2, q⟩
  subst e
  have hsl := sizeLine_eq
  have pcc : seq "carry" "carry" = true := seqT _
  have pdc : seq "digit" "carry" = false := seqF (by decide +kernel)
  have ppc : seq "power" "carry" = false := seqF (by decide +kernel)
  have pdd : seq "digit" "digit" = true := seqT _
  have ppd : seq "power" "digit" = false := seqF (by decide +kernel)
  have ek : ∀ w : Str, w ∈ (["power", "digit", "carry"] : List Str) → w = "power" ∨ w = "digit" ∨ w = "carry" := fun w h => by simpa using h
  refine ⟨by rw [hsl]; show (3 : Nat) ≤ 16777216; decide, ?_⟩
  refine ⟨a, _, rfl, hd, by simp, by decide, fun w hw => ?_⟩
  refine ⟨a, b, 0, 5, rfl, hd, by omega, by omega, by decide, by decide, by decide, fun x hx hx0 hx1 => ?_⟩
  refine ⟨a, b, 0, 5, rfl, hd, by omega, by omega, by decide, by decide, by decide, fun y hy hy0 hy1 => ?_⟩
  refine ⟨a, b, 0, 12, rfl, hd, by omega, by omega, by decide, by decide, by decide, fun z hz hz0 hz1 => ?_⟩
  refine ⟨a, b, 1, 4, rfl, hd, by omega, by omega, by decide, by decide, by decide, fun v hv hv0 hv1 => ?_⟩
  have sx : Sm b 20 x := ⟨hx, by omega⟩
  have sy : Sm b 20 y := ⟨hy, by omega⟩
  have sz : Sm b 20 z := ⟨hz, by omega⟩
  have sv : Sm b 20 v := ⟨hv, by omega⟩
  have hw' : w = .str "power" ∨ w = .str "digit" ∨ w = .str "carry" := by simpa using hw
  rcases hw' with rfl | rfl | rfl
  · conv => whnf
    rw [ppc]
    conv => whnf
    rw [ppd]
    refine ⟨a, (b : Int) - 1, rfl, hd, by omega, by omega, fun r hr0 hr => ?_⟩
    refine ⟨by rw [hsl]; show (1 : Nat) ≤ 16777216; decide, ?_⟩
    refine ⟨by simp only [List.length_append, List.length_cons, List.length_nil, List.length_map, List.length_replicate, List.length_reverse, List.length_take, List.length_drop, List.length_range, List.length_flatten, List.map_replicate, List.sum_replicate_nat, Int.toNat_natCast]; omega, ?_⟩
    refine ⟨a, b, 1, 4, rfl, hd, by omega, by omega, by decide, by decide, by decide, fun u hu hu0 hu1 => ?_⟩
    refine ⟨by rw [hsl]; show (6 : Nat) ≤ 16777216; decide, ?_⟩
    have su : Sm b 20 u := ⟨hu, by omega⟩
    have sx2 : Sm b 20 (x ++ [1 + r]) := ⟨hx.snoc (by omega) (by omega), by simp only [List.length_append, List.length_cons, List.length_nil, List.length_map, List.length_replicate, List.length_reverse, List.length_take, List.length_drop, List.length_range, List.length_flatten, List.map_replicate, List.sum_replicate_nat, Int.toNat_natCast]; omega⟩
    have q2 := q (.power (x ++ [1 + r]) u y v z) ⟨sx2, su, sy, sv, sz, by omega⟩
    simpa [Pump.D] using q2
  · conv => whnf
    rw [pdc]
    conv => whnf
    rw [pdd]
    refine ⟨a, (b : Int) - 1, rfl, hd, by omega, by omega, fun r hr0 hr => ?_⟩
    refine ⟨by rw [hsl]; show (6 : Nat) ≤ 16777216; decide, ?_⟩
    exact q (.digit x (1 + r) y v z) ⟨sx, ⟨by omega, by omega⟩, sy, sv, sz, by omega⟩
  · conv => whnf
    rw [pcc]
    refine ⟨by rw [hsl]; show (5 : Nat) ≤ 16777216; decide, ?_⟩
    exact q (.carry x y v z) ⟨sx, sy, sv, sz, by omega⟩
/-! ### their rows -/
def spRows : DSp := fun ds M P _ => ∃ (b n : Nat) (p : Pump), ds = [.int b, p.D, .int n] ∧ b ≤ 20 ∧ 1 ≤ n ∧ n ≤ 100 ∧ p.ok b ∧ P (.tup [.tup (dis (p.row1 n)), .tup (dis (p.row2 b n))]) M
theorem mle {a b c d : Nat} (h : a ≤ c) (k : b ≤ d) : a * b ≤ c * d := Nat.mul_le_mul h k
theorem dis_rep (n : Nat) (v : List Int) : (List.replicate n (List.map D.int v)).flatten = List.map D.int (rp n v) := by
  induction n with
  | zero => rfl
  | succ n ih =>
    unfold rp at *
    rw [List.replicate_succ, List.replicate_succ, List.flatten_cons, List.flatten_cons, ih, List.map_append]
theorem rp_len (n : Nat) (v : List Int) : (rp n v).length = n * v.length := by
  unfold rp
  simp
theorem turn_len {n : Nat} (h : 1 ≤ n) : (turn n).length = n := by
  unfold turn
  rw [List.length_cons, List.length_replicate]
  omega
theorem tl {n : Nat} (h : 1 ≤ n) : ([D.int 1] ++ (List.replicate ((n : Int) - 1).toNat [D.int 0]).flatten).length = n := by
  simp
  omega
theorem pure_rows_of_pump : ∀ ds M P PX, spRows ds M P PX → d_rows_of_pump { nx := fun _ M' => P .non M', rt := P, bk := fun _ _ => False, ct := fun _ _ => False, ex := fun _ => PX } (st0 N_rows_of_pump ds) M := by
  intro ds M P PX ⟨b, n, p, e, hb, hn, hn2, hok, q⟩
  subst e
  have hsl := sizeLine_eq
  have hcn1 : ((n : Int) - 1).toNat = n - 1 := by omega
  have et : D.int 1 :: List.replicate (n - 1) (D.int 0) = List.map D.int (turn n) := by simp [turn]
  have hlt : (turn n).length = n := turn_len hn
  have spp : seq "power" "power" = true := seqT _
  have sdp : seq "digit" "power" = false := seqF (by decide +kernel)
  have scp : seq "carry" "power" = false := seqF (by decide +kernel)
  have sdd : seq "digit" "digit" = true := seqT _
  have scd : seq "carry" "digit" = false := seqF (by decide +kernel)
  cases p with
  | power x u y v z =>
    obtain ⟨⟨_, hx⟩, ⟨_, hu⟩, ⟨_, hy⟩, ⟨_, hv⟩, ⟨_, hz⟩, _⟩ := hok
    have m1 := mle hn2 hv
    have m2 := mle hn2 hu
    have m3 := Nat.mul_comm n v.length
    have m4 := Nat.mul_comm n u.length
    repeat (refine ⟨by first | omega | exact rfl | (simp only [List.length_append, List.length_cons, List.length_nil, List.length_map, List.length_replicate, List.length_reverse, List.length_take, List.length_drop, List.length_range, List.length_flatten, List.map_replicate, List.sum_replicate_nat, Int.toNat_natCast]; omega) | exact .inl (.inl ⟨by omega, by omega⟩) | exact .inl (.inr ⟨by omega, by omega⟩) | exact ⟨by omega, by decide⟩ | exact ⟨by decide, by decide, by decide⟩ | exact ⟨by omega, by omega⟩ | exact ⟨by omega, by omega, by omega, by omega⟩ | decide, ?_⟩)
    conv => whnf
    rw [spp]
    repeat (refine ⟨by first | omega | exact rfl | (simp only [List.length_append, List.length_cons, List.length_nil, List.length_map, List.length_replicate, List.length_reverse, List.length_take, List.length_drop, List.length_range, List.length_flatten, List.map_replicate, List.sum_replicate_nat, Int.toNat_natCast]; omega) | exact .inl (.inl ⟨by omega, by omega⟩) | exact .inl (.inr ⟨by omega, by omega⟩) | exact ⟨by omega, by decide⟩ | exact ⟨by decide, by decide, by decide⟩ | exact ⟨by omega, by omega⟩ | exact ⟨by omega, by omega, by omega, by omega⟩ | decide, ?_⟩)
    simpa [Pump.row1, Pump.row2, rst, dis_rep] using q
  | digit x d y v z =>
    obtain ⟨⟨_, hx⟩, ⟨hd0, hd1⟩, ⟨_, hy⟩, ⟨_, hv⟩, ⟨_, hz⟩, _⟩ := hok
    obtain ⟨d, rfl⟩ : ∃ k : Nat, d = k := ⟨d.toNat, by omega⟩
    have m1 := mle hn2 hv
    have m3 := Nat.mul_comm n v.length
    have m5 : b * d ≤ 20 * 20 := mle hb (by omega)
    have m6 : n * (b * d) ≤ 100 * 400 := mle hn2 m5
    have m8 : ((b : Int) * (d : Int)).toNat = b * d := by rw [← Int.natCast_mul, Int.toNat_natCast]
    have m9 : ((b : Int) * (d : Int)) = ((b * d : Nat) : Int) := by rw [Int.natCast_mul]
    repeat (refine ⟨by first | omega | exact rfl | (simp only [List.length_append, List.length_cons, List.length_nil, List.length_map, List.length_replicate, List.length_reverse, List.length_take, List.length_drop, List.length_range, List.length_flatten, List.map_replicate, List.sum_replicate_nat, Int.toNat_natCast]; omega) | exact .inl (.inl ⟨by omega, by omega⟩) | exact .inl (.inr ⟨by omega, by omega⟩) | exact ⟨by omega, by decide⟩ | exact ⟨by decide, by decide, by decide⟩ | exact ⟨by omega, by omega⟩ | exact ⟨by omega, by omega, by omega, by omega⟩ | decide, ?_⟩)
    conv => whnf
    rw [sdp]
    conv => whnf
    rw [sdd]
    repeat (refine ⟨by first | omega | exact rfl | (simp only [List.length_append, List.length_cons, List.length_nil, List.length_map, List.length_replicate, List.length_reverse, List.length_take, List.length_drop, List.length_range, List.length_flatten, List.map_replicate, List.sum_replicate_nat, Int.toNat_natCast]; omega) | exact .inl (.inl ⟨by omega, by omega⟩) | exact .inl (.inr ⟨by omega, by omega⟩) | exact ⟨by omega, by decide⟩ | exact ⟨by decide, by decide, by decide⟩ | exact ⟨by omega, by omega⟩ | exact ⟨by omega, by omega, by omega, by omega⟩ | decide, ?_⟩)
    refine ⟨by rw [tl hn, m8, hsl]; omega, ?_⟩
    rw [m8]
    have m10 := Nat.mul_comm (b * d) n
    have m11 : b * d * ((n : Int) - 1).toNat ≤ 400 * 100 := mle m5 (by omega)
    have m12 : b * d * (1 + ((n : Int) - 1).toNat) ≤ 400 * 101 := mle m5 (by omega)
    have tl2 := tl hn
    refine ⟨by simp only [List.length_append, List.length_flatten, List.map_replicate, List.sum_replicate_nat] at tl2 ⊢; rw [tl2]; simp only [List.length_append, List.length_cons, List.length_nil, List.length_map, List.length_replicate, List.length_reverse, List.length_take, List.length_drop, List.length_range, List.length_flatten, List.map_replicate, List.sum_replicate_nat, Int.toNat_natCast]; omega, ?_⟩
    refine ⟨by simp only [List.length_append, List.length_flatten, List.map_replicate, List.sum_replicate_nat] at tl2 ⊢; rw [tl2]; simp only [List.length_append, List.length_cons, List.length_nil, List.length_map, List.length_replicate, List.length_reverse, List.length_take, List.length_drop, List.length_range, List.length_flatten, List.map_replicate, List.sum_replicate_nat, Int.toNat_natCast]; omega, ?_⟩
    repeat (refine ⟨by first | omega | exact rfl | (simp only [List.length_append, List.length_cons, List.length_nil, List.length_map, List.length_replicate, List.length_reverse, List.length_take, List.length_drop, List.length_range, List.length_flatten, List.map_replicate, List.sum_replicate_nat, Int.toNat_natCast]; omega) | exact .inl (.inl ⟨by omega, by omega⟩) | exact .inl (.inr ⟨by omega, by omega⟩) | exact ⟨by omega, by decide⟩ | exact ⟨by decide, by decide, by decide⟩ | exact ⟨by omega, by omega⟩ | exact ⟨by omega, by omega, by omega, by omega⟩ | decide, ?_⟩)
    simpa [Pump.row1, Pump.row2, rst, dis_rep, hcn1, et, m8] using q
  | carry x y v z =>
    obtain ⟨⟨_, hx⟩, ⟨_, hy⟩, ⟨_, hv⟩, ⟨_, hz⟩, _⟩ := hok
    have m1 := mle hn2 hv
    have m3 := Nat.mul_comm n v.length
    have m5 := mle hb hn2
    have m6 := Nat.mul_comm n b
    repeat (refine ⟨by first | omega | exact rfl | (simp only [List.length_append, List.length_cons, List.length_nil, List.length_map, List.length_replicate, List.length_reverse, List.length_take, List.length_drop, List.length_range, List.length_flatten, List.map_replicate, List.sum_replicate_nat, Int.toNat_natCast]; omega) | exact .inl (.inl ⟨by omega, by omega⟩) | exact .inl (.inr ⟨by omega, by omega⟩) | exact ⟨by omega, by decide⟩ | exact ⟨by decide, by decide, by decide⟩ | exact ⟨by omega, by omega⟩ | exact ⟨by omega, by omega, by omega, by omega⟩ | decide, ?_⟩)
    conv => whnf
    rw [scp]
    conv => whnf
    rw [scd]
    repeat (refine ⟨by first | omega | exact rfl | (simp only [List.length_append, List.length_cons, List.length_nil, List.length_map, List.length_replicate, List.length_reverse, List.length_take, List.length_drop, List.length_range, List.length_flatten, List.map_replicate, List.sum_replicate_nat, Int.toNat_natCast]; omega) | exact .inl (.inl ⟨by omega, by omega⟩) | exact .inl (.inr ⟨by omega, by omega⟩) | exact ⟨by omega, by decide⟩ | exact ⟨by decide, by decide, by decide⟩ | exact ⟨by omega, by omega⟩ | exact ⟨by omega, by omega, by omega, by omega⟩ | decide, ?_⟩)
    refine ⟨by rw [tl hn, Int.toNat_natCast, hsl]; omega, ?_⟩
    have tl2 := tl hn
    refine ⟨by simp only [List.length_append, List.length_flatten, List.map_replicate, List.sum_replicate_nat] at tl2 ⊢; rw [tl2]; simp only [List.length_append, List.length_cons, List.length_nil, List.length_map, List.length_replicate, List.length_reverse, List.length_take, List.length_drop, List.length_range, List.length_flatten, List.map_replicate, List.sum_replicate_nat, Int.toNat_natCast]; omega, ?_⟩
    refine ⟨by simp only [List.length_append, List.length_flatten, List.map_replicate, List.sum_replicate_nat] at tl2 ⊢; rw [tl2]; simp only [List.length_append, List.length_cons, List.length_nil, List.length_map, List.length_replicate, List.length_reverse, List.length_take, List.length_drop, List.length_range, List.length_flatten, List.map_replicate, List.sum_replicate_nat, Int.toNat_natCast]; omega, ?_⟩
    repeat (refine ⟨by first | omega | exact rfl | (simp only [List.length_append, List.length_cons, List.length_nil, List.length_map, List.length_replicate, List.length_reverse, List.length_take, List.length_drop, List.length_range, List.length_flatten, List.map_replicate, List.sum_replicate_nat, Int.toNat_natCast]; omega) | exact .inl (.inl ⟨by omega, by omega⟩) | exact .inl (.inr ⟨by omega, by omega⟩) | exact ⟨by omega, by decide⟩ | exact ⟨by decide, by decide, by decide⟩ | exact ⟨by omega, by omega⟩ | exact ⟨by omega, by omega, by omega, by omega⟩ | decide, ?_⟩)
    simpa [Pump.row1, Pump.row2, rst, dis_rep, hcn1, et] using q
theorem pure_pump_rows : ∀ ds M P PX, spRows ds M P PX → (d_pump_rows  spRows) { nx := fun _ M' => P .non M', rt := P, bk := fun _ _ => False, ct := fun _ _ => False, ex := fun _ => PX } (st0 N_pump_rows ds) M := by
  intro ds M P PX ⟨b, n, p, e, h⟩
  subst e
  exact ⟨b, n, p, rfl, h⟩
end LW

namespace LW
open PySem PySem.Spec PyProof.Rows L2 DL WK
def spDueG : DSp := fun ds M P _ => ∃ (b n : Nat) (p : Pump), ds = [.int b, p.D, .int n] ∧ b ≤ 20 ∧ 1 ≤ n ∧ n ≤ 100 ∧ p.ok b ∧ ∀ M', Le M M' → P (.tup [.tup (dis (p.row1 n)), .tup (dis (p.row2 b n))]) M'
theorem rp_succ (i : Nat) (v : List Int) : rp (i + 1) v = rp i v ++ v := by
  unfold rp
  rw [List.replicate_succ', List.flatten_append]
  simp
theorem pure__law_due : ∀ ds M P PX, spDueG ds M P PX → d__law_due { nx := fun _ M' => P .non M', rt := P, bk := fun _ _ => False, ct := fun _ _ => False, ex := fun _ => PX } (st0 N__law_due ds) M := by
  intro ds M P PX ⟨b, n, p, e, hb, hn, hn2, hok, q⟩
  subst e
  have hsl := sizeLine_eq
  have hlt : (turn n).length = n := turn_len hn
  have spp : seq "power" "power" = true := seqT _
  have sdp : seq "digit" "power" = false := seqF (by decide +kernel)
  have scp : seq "carry" "power" = false := seqF (by decide +kernel)
  have sdd : seq "digit" "digit" = true := seqT _
  have scd : seq "carry" "digit" = false := seqF (by decide +kernel)
  have scc : seq "carry" "carry" = true := seqT _
  have sdc : seq "digit" "carry" = false := seqF (by decide +kernel)
  cases p with
  | power x u y v z =>
    obtain ⟨⟨_, hx⟩, ⟨_, hu⟩, ⟨_, hy⟩, ⟨_, hv⟩, ⟨_, hz⟩, _⟩ := hok
    have m1 := mle hn2 hv
    refine ⟨by rw [hsl]; show (1 : Nat) ≤ 16777216; decide, ?_⟩
    intro a ha
    refine ⟨by omega, ?_⟩
    obtain ⟨I, hI⟩ : ∃ I : Nat → Ev → Mm → Prop, I = fun i ρ M2 => M2 = um M a (.lst (dis (1 :: List.replicate i 0))) ∧ Has ρ [(0, .int b), (1, (Pump.power x u y v z).D), (2, .int n), (3, .lst (dis x)), (4, .lst (dis v)), (5, .lst (dis y)), (6, .ref a)] := ⟨_, rfl⟩
    refine ⟨I, by rw [hI]; exact ⟨rfl, rfl, rfl, rfl, rfl, rfl, rfl, rfl, trivial⟩, ?_, ?_⟩
    · intro i d ρ M2 hd h
      rw [hI] at h
      obtain ⟨rfl, hh⟩ := h
      obtain ⟨ρ, rfl⟩ := hh.know
      obtain ⟨rfl, hi⟩ := upTo_get hd
      refine ⟨by show (asL _ (.ref a)).isSome = true; rw [asL_of um_same]; rfl, ?_⟩
      conv => whnf
      rw [um_same]
      refine ⟨by simp only [List.length_append, List.length_cons, List.length_nil, List.length_map, List.length_replicate, List.length_reverse, List.length_take, List.length_drop, List.length_range, List.length_flatten, List.map_replicate, List.sum_replicate_nat, Int.toNat_natCast]; omega, ?_⟩
      show I (i + 1) _ _
      rw [hI]
      refine ⟨?_, rfl, rfl, rfl, rfl, rfl, rfl, rfl, trivial⟩
      rw [um_um, List.replicate_succ']
      simp
    intro ρ M2 h
    rw [hI, upTo_len] at h
    obtain ⟨rfl, hh⟩ := h
    obtain ⟨ρ, rfl⟩ := hh.know
    clear hI I hh
    have et : 1 :: List.replicate ((n : Int) - 1).toNat 0 = turn n := by
      unfold turn
      congr 2
      omega
    rw [et]
    have hma : (um M a (.lst (dis (turn n)))) a = some (.lst (dis (turn n))) := um_same
    have hle : Le M (um M a (.lst (dis (turn n)))) := Le.um ha
    generalize um M a (.lst (dis (turn n))) = M1 at hma hle
    have hta := asLs_of hma
    refine ⟨by omega, ?_⟩
    obtain ⟨I, hI⟩ : ∃ I : Nat → Ev → Mm → Prop, I = fun i ρ M2 => M1 = M2 ∧ Has ρ [(0, .int b), (1, (Pump.power x u y v z).D), (2, .int n), (3, .lst (dis x)), (4, .lst (dis v)), (5, .lst (dis (y ++ rp i v))), (6, .ref a)] := ⟨_, rfl⟩
    refine ⟨I, by rw [hI]; exact ⟨rfl, rfl, rfl, rfl, rfl, rfl, by rw [show rp 0 v = [] from rfl, List.append_nil]; rfl, rfl, trivial⟩, ?_, ?_⟩
    · intro i d ρ M2 hd h
      rw [hI] at h
      obtain ⟨rfl, hh⟩ := h
      obtain ⟨ρ, rfl⟩ := hh.know
      obtain ⟨rfl, hi⟩ := upTo_get hd
      have m3 : i * v.length ≤ 100 * 20 := mle (by omega) hv
      refine ⟨by simp only [List.length_append, List.length_map, rp_len]; omega, ?_⟩
      show I (i + 1) _ _
      rw [hI]
      refine ⟨rfl, rfl, rfl, rfl, rfl, rfl, ?_, rfl, trivial⟩
      show some (DL.D.lst (dis (y ++ rp i v) ++ dis v)) = some (.lst (dis (y ++ rp (i + 1) v)))
      rw [rp_succ, ← List.append_assoc]
      simp
    intro ρ M2 h
    rw [hI, upTo_len] at h
    obtain ⟨rfl, hh⟩ := h
    obtain ⟨ρ, rfl⟩ := hh.know
    clear hI I hh
    rw [show ((n : Int)).toNat = n from Int.toNat_natCast n]
    have hrl : (rst y v z n).length ≤ 2040 := by
      unfold rst
      simp only [List.length_append, rp_len]
      omega
    refine ⟨by simp only [List.length_append, List.length_map, rp_len]; omega, ?_⟩
    have er : dis (y ++ rp n v) ++ dis z = dis (rst y v z n) := by simp [rst]
    rw [er]
    conv => whnf
    rw [spp]
    refine ⟨by decide, ?_⟩
    refine ⟨by omega, ?_⟩
    obtain ⟨I, hI⟩ : ∃ I : Nat → Ev → Mm → Prop, I = fun i ρ M2 => M1 = M2 ∧ Has ρ [(1, (Pump.power x u y v z).D), (3, .lst (dis x)), (5, .lst (dis (rst y v z n))), (8, .lst (dis (rp i u)))] := ⟨_, rfl⟩
    refine ⟨I, by rw [hI]; exact ⟨rfl, rfl, rfl, rfl, rfl, trivial⟩, ?_, ?_⟩
    · intro i d ρ M2 hd h
      rw [hI] at h
      obtain ⟨rfl, hh⟩ := h
      obtain ⟨ρ, rfl⟩ := hh.know
      obtain ⟨rfl, hi⟩ := upTo_get hd
      have m3 : i * u.length ≤ 100 * 20 := mle (by omega) hu
      refine ⟨by simp only [List.length_append, List.length_map, rp_len]; omega, ?_⟩
      show I (i + 1) _ _
      rw [hI]
      refine ⟨rfl, rfl, rfl, rfl, ?_, trivial⟩
      show some (DL.D.lst (dis (rp i u) ++ dis u)) = some (.lst (dis (rp (i + 1) u)))
      rw [rp_succ]
      simp
    intro ρ M2 h
    rw [hI, upTo_len] at h
    obtain ⟨rfl, hh⟩ := h
    obtain ⟨ρ, rfl⟩ := hh.know
    clear hI I hh
    rw [show ((n : Int)).toNat = n from Int.toNat_natCast n]
    have m4 : n * u.length ≤ 100 * 20 := mle hn2 hu
    refine ⟨by simp only [List.length_append, List.length_map, rp_len]; omega, ?_⟩
    refine ⟨by simp only [List.length_append, List.length_map, rp_len]; omega, ?_⟩
    refine ⟨by simp only [List.length_append, List.length_map, rp_len]; omega, ?_⟩
    refine ⟨by rw [hsl]; show (2 : Nat) ≤ 16777216; decide, ?_⟩
    have q2 := q _ hle
    simpa [Pump.row1, Pump.row2] using q2
  | digit x d y v z =>
    obtain ⟨⟨_, hx⟩, ⟨hd0, hd1⟩, ⟨_, hy⟩, ⟨_, hv⟩, ⟨_, hz⟩, _⟩ := hok
    have m1 := mle hn2 hv
    refine ⟨by rw [hsl]; show (1 : Nat) ≤ 16777216; decide, ?_⟩
    intro a ha
    refine ⟨by omega, ?_⟩
    obtain ⟨I, hI⟩ : ∃ I : Nat → Ev → Mm → Prop, I = fun i ρ M2 => M2 = um M a (.lst (dis (1 :: List.replicate i 0))) ∧ Has ρ [(0, .int b), (1, (Pump.digit x d y v z).D), (2, .int n), (3, .lst (dis x)), (4, .lst (dis v)), (5, .lst (dis y)), (6, .ref a)] := ⟨_, rfl⟩
    refine ⟨I, by rw [hI]; exact ⟨rfl, rfl, rfl, rfl, rfl, rfl, rfl, rfl, trivial⟩, ?_, ?_⟩
    · intro i d ρ M2 hd h
      rw [hI] at h
      obtain ⟨rfl, hh⟩ := h
      obtain ⟨ρ, rfl⟩ := hh.know
      obtain ⟨rfl, hi⟩ := upTo_get hd
      refine ⟨by show (asL _ (.ref a)).isSome = true; rw [asL_of um_same]; rfl, ?_⟩
      conv => whnf
      rw [um_same]
      refine ⟨by simp only [List.length_append, List.length_cons, List.length_nil, List.length_map, List.length_replicate, List.length_reverse, List.length_take, List.length_drop, List.length_range, List.length_flatten, List.map_replicate, List.sum_replicate_nat, Int.toNat_natCast]; omega, ?_⟩
      show I (i + 1) _ _
      rw [hI]
      refine ⟨?_, rfl, rfl, rfl, rfl, rfl, rfl, rfl, trivial⟩
      rw [um_um, List.replicate_succ']
      simp
    intro ρ M2 h
    rw [hI, upTo_len] at h
    obtain ⟨rfl, hh⟩ := h
    obtain ⟨ρ, rfl⟩ := hh.know
    clear hI I hh
    have et : 1 :: List.replicate ((n : Int) - 1).toNat 0 = turn n := by
      unfold turn
      congr 2
      omega
    rw [et]
    have hma : (um M a (.lst (dis (turn n)))) a = some (.lst (dis (turn n))) := um_same
    have hle : Le M (um M a (.lst (dis (turn n)))) := Le.um ha
    generalize um M a (.lst (dis (turn n))) = M1 at hma hle
    have hta := asLs_of hma
    refine ⟨by omega, ?_⟩
    obtain ⟨I, hI⟩ : ∃ I : Nat → Ev → Mm → Prop, I = fun i ρ M2 => M1 = M2 ∧ Has ρ [(0, .int b), (1, (Pump.digit x d y v z).D), (2, .int n), (3, .lst (dis x)), (4, .lst (dis v)), (5, .lst (dis (y ++ rp i v))), (6, .ref a)] := ⟨_, rfl⟩
    refine ⟨I, by rw [hI]; exact ⟨rfl, rfl, rfl, rfl, rfl, rfl, by rw [show rp 0 v = [] from rfl, List.append_nil]; rfl, rfl, trivial⟩, ?_, ?_⟩
    · intro i d ρ M2 hd h
      rw [hI] at h
      obtain ⟨rfl, hh⟩ := h
      obtain ⟨ρ, rfl⟩ := hh.know
      obtain ⟨rfl, hi⟩ := upTo_get hd
      have m3 : i * v.length ≤ 100 * 20 := mle (by omega) hv
      refine ⟨by simp only [List.length_append, List.length_map, rp_len]; omega, ?_⟩
      show I (i + 1) _ _
      rw [hI]
      refine ⟨rfl, rfl, rfl, rfl, rfl, rfl, ?_, rfl, trivial⟩
      show some (DL.D.lst (dis (y ++ rp i v) ++ dis v)) = some (.lst (dis (y ++ rp (i + 1) v)))
      rw [rp_succ, ← List.append_assoc]
      simp
    intro ρ M2 h
    rw [hI, upTo_len] at h
    obtain ⟨rfl, hh⟩ := h
    obtain ⟨ρ, rfl⟩ := hh.know
    clear hI I hh
    rw [show ((n : Int)).toNat = n from Int.toNat_natCast n]
    have hrl : (rst y v z n).length ≤ 2040 := by
      unfold rst
      simp only [List.length_append, rp_len]
      omega
    refine ⟨by simp only [List.length_append, List.length_map, rp_len]; omega, ?_⟩
    have er : dis (y ++ rp n v) ++ dis z = dis (rst y v z n) := by simp [rst]
    rw [er]
    obtain ⟨d, rfl⟩ : ∃ k : Nat, d = k := ⟨d.toNat, by omega⟩
    have m5 : b * d ≤ 20 * 20 := mle hb (by omega)
    have m9 : ((b : Int) * (d : Int)) = ((b * d : Nat) : Int) := by rw [Int.natCast_mul]
    conv => whnf
    rw [sdp]
    conv => whnf
    rw [sdc]
    refine ⟨.inl (.inl ⟨by omega, by omega⟩), ?_⟩
    rw [m9]
    obtain ⟨k, hk⟩ : ∃ k, k = b * d := ⟨_, rfl⟩
    rw [← hk] at m5 ⊢
    have hk4 : k ≤ 400 := m5
    clear m9
    refine ⟨by decide, ?_⟩
    refine ⟨⟨by omega, by omega⟩, ?_⟩
    obtain ⟨I, hI⟩ : ∃ I : Nat → Ev → Mm → Prop, I = fun i ρ M2 => M1 = M2 ∧ Has ρ [(1, (Pump.digit x (d : Int) y v z).D), (3, .lst (dis x)), (5, .lst (dis (rst y v z n))), (6, .ref a), (10, .lst (dis (rp i (turn n))))] := ⟨_, rfl⟩
    refine ⟨I, by rw [hI]; exact ⟨rfl, rfl, rfl, rfl, rfl, rfl, trivial⟩, ?_, ?_⟩
    · intro i d' ρ M2 hd h
      rw [hI] at h
      obtain ⟨rfl, hh⟩ := h
      obtain ⟨ρ, rfl⟩ := hh.know
      obtain ⟨rfl, hi⟩ := upTo_get hd
      have m3 : i * (turn n).length ≤ 400 * 100 := mle (by omega) (by omega)
      have e1 : asLs M1 (.lst (dis (rp i (turn n)))) = some (dis (rp i (turn n))) := rfl
      conv => whnf
      rw [hta]
      refine ⟨by simp only [List.length_append, List.length_map, rp_len]; omega, ?_⟩
      show I (i + 1) _ _
      rw [hI]
      refine ⟨rfl, rfl, rfl, rfl, rfl, ?_, trivial⟩
      show some (DL.D.lst (dis (rp i (turn n)) ++ dis (turn n))) = some (.lst (dis (rp (i + 1) (turn n))))
      rw [rp_succ]
      simp
    intro ρ M2 h
    rw [hI, upTo_len] at h
    obtain ⟨rfl, hh⟩ := h
    obtain ⟨ρ, rfl⟩ := hh.know
    clear hI I hh
    rw [show ((k : Int)).toNat = k from Int.toNat_natCast k]
    have m4 : k * (turn n).length ≤ 400 * 100 := mle (by omega) (by omega)
    conv => whnf
    rw [sdd]
    refine ⟨by rw [hsl]; show (1 : Nat) ≤ 16777216; decide, ?_⟩
    refine ⟨by simp only [List.length_append, List.length_map, List.length_cons, List.length_nil, rp_len]; omega, ?_⟩
    refine ⟨by simp only [List.length_append, List.length_map, List.length_cons, List.length_nil, rp_len]; omega, ?_⟩
    refine ⟨by decide, ?_⟩
    refine ⟨by simp only [List.length_append, List.length_map, List.length_cons, List.length_nil, rp_len]; omega, ?_⟩
    refine ⟨by simp only [List.length_append, List.length_map, List.length_cons, List.length_nil, rp_len]; omega, ?_⟩
    refine ⟨by simp only [List.length_append, List.length_map, List.length_cons, List.length_nil, rp_len]; omega, ?_⟩
    refine ⟨by rw [hsl]; show (2 : Nat) ≤ 16777216; decide, ?_⟩
    have q2 := q _ hle
    rw [hk]
    simpa [Pump.row1, Pump.row2] using q2
  | carry x y v z =>
    obtain ⟨⟨_, hx⟩, ⟨_, hy⟩, ⟨_, hv⟩, ⟨_, hz⟩, _⟩ := hok
    have m1 := mle hn2 hv
    refine ⟨by rw [hsl]; show (1 : Nat) ≤ 16777216; decide, ?_⟩
    intro a ha
    refine ⟨by omega, ?_⟩
    obtain ⟨I, hI⟩ : ∃ I : Nat → Ev → Mm → Prop, I = fun i ρ M2 => M2 = um M a (.lst (dis (1 :: List.replicate i 0))) ∧ Has ρ [(0, .int b), (1, (Pump.carry x y v z).D), (2, .int n), (3, .lst (dis x)), (4, .lst (dis v)), (5, .lst (dis y)), (6, .ref a)] := ⟨_, rfl⟩
    refine ⟨I, by rw [hI]; exact ⟨rfl, rfl, rfl, rfl, rfl, rfl, rfl, rfl, trivial⟩, ?_, ?_⟩
    · intro i d ρ M2 hd h
      rw [hI] at h
      obtain ⟨rfl, hh⟩ := h
      obtain ⟨ρ, rfl⟩ := hh.know
      obtain ⟨rfl, hi⟩ := upTo_get hd
      refine ⟨by show (asL _ (.ref a)).isSome = true; rw [asL_of um_same]; rfl, ?_⟩
      conv => whnf
      rw [um_same]
      refine ⟨by simp only [List.length_append, List.length_cons, List.length_nil, List.length_map, List.length_replicate, List.length_reverse, List.length_take, List.length_drop, List.length_range, List.length_flatten, List.map_replicate, List.sum_replicate_nat, Int.toNat_natCast]; omega, ?_⟩
      show I (i + 1) _ _
      rw [hI]
      refine ⟨?_, rfl, rfl, rfl, rfl, rfl, rfl, rfl, trivial⟩
      rw [um_um, List.replicate_succ']
      simp
    intro ρ M2 h
    rw [hI, upTo_len] at h
    obtain ⟨rfl, hh⟩ := h
    obtain ⟨ρ, rfl⟩ := hh.know
    clear hI I hh
    have et : 1 :: List.replicate ((n : Int) - 1).toNat 0 = turn n := by
      unfold turn
      congr 2
      omega
    rw [et]
    have hma : (um M a (.lst (dis (turn n)))) a = some (.lst (dis (turn n))) := um_same
    have hle : Le M (um M a (.lst (dis (turn n)))) := Le.um ha
    generalize um M a (.lst (dis (turn n))) = M1 at hma hle
    have hta := asLs_of hma
    refine ⟨by omega, ?_⟩
    obtain ⟨I, hI⟩ : ∃ I : Nat → Ev → Mm → Prop, I = fun i ρ M2 => M1 = M2 ∧ Has ρ [(0, .int b), (1, (Pump.carry x y v z).D), (2, .int n), (3, .lst (dis x)), (4, .lst (dis v)), (5, .lst (dis (y ++ rp i v))), (6, .ref a)] := ⟨_, rfl⟩
    refine ⟨I, by rw [hI]; exact ⟨rfl, rfl, rfl, rfl, rfl, rfl, by rw [show rp 0 v = [] from rfl, List.append_nil]; rfl, rfl, trivial⟩, ?_, ?_⟩
    · intro i d ρ M2 hd h
      rw [hI] at h
      obtain ⟨rfl, hh⟩ := h
      obtain ⟨ρ, rfl⟩ := hh.know
      obtain ⟨rfl, hi⟩ := upTo_get hd
      have m3 : i * v.length ≤ 100 * 20 := mle (by omega) hv
      refine ⟨by simp only [List.length_append, List.length_map, rp_len]; omega, ?_⟩
      show I (i + 1) _ _
      rw [hI]
      refine ⟨rfl, rfl, rfl, rfl, rfl, rfl, ?_, rfl, trivial⟩
      show some (DL.D.lst (dis (y ++ rp i v) ++ dis v)) = some (.lst (dis (y ++ rp (i + 1) v)))
      rw [rp_succ, ← List.append_assoc]
      simp
    intro ρ M2 h
    rw [hI, upTo_len] at h
    obtain ⟨rfl, hh⟩ := h
    obtain ⟨ρ, rfl⟩ := hh.know
    clear hI I hh
    rw [show ((n : Int)).toNat = n from Int.toNat_natCast n]
    have hrl : (rst y v z n).length ≤ 2040 := by
      unfold rst
      simp only [List.length_append, rp_len]
      omega
    refine ⟨by simp only [List.length_append, List.length_map, rp_len]; omega, ?_⟩
    have er : dis (y ++ rp n v) ++ dis z = dis (rst y v z n) := by simp [rst]
    rw [er]
    conv => whnf
    rw [scp]
    conv => whnf
    rw [scc]
    obtain ⟨k, hk⟩ : ∃ k, k = b := ⟨_, rfl⟩
    have hk4 : k ≤ 400 := by omega
    refine ⟨by decide, ?_⟩
    rw [← hk]
    refine ⟨⟨by omega, by omega⟩, ?_⟩
    obtain ⟨I, hI⟩ : ∃ I : Nat → Ev → Mm → Prop, I = fun i ρ M2 => M1 = M2 ∧ Has ρ [(1, (Pump.carry x y v z).D), (3, .lst (dis x)), (5, .lst (dis (rst y v z n))), (6, .ref a), (10, .lst (dis (rp i (turn n))))] := ⟨_, rfl⟩
    refine ⟨I, by rw [hI]; exact ⟨rfl, rfl, rfl, rfl, rfl, rfl, trivial⟩, ?_, ?_⟩
    · intro i d' ρ M2 hd h
      rw [hI] at h
      obtain ⟨rfl, hh⟩ := h
      obtain ⟨ρ, rfl⟩ := hh.know
      obtain ⟨rfl, hi⟩ := upTo_get hd
      have m3 : i * (turn n).length ≤ 400 * 100 := mle (by omega) (by omega)
      have e1 : asLs M1 (.lst (dis (rp i (turn n)))) = some (dis (rp i (turn n))) := rfl
      conv => whnf
      rw [hta]
      refine ⟨by simp only [List.length_append, List.length_map, rp_len]; omega, ?_⟩
      show I (i + 1) _ _
      rw [hI]
      refine ⟨rfl, rfl, rfl, rfl, rfl, ?_, trivial⟩
      show some (DL.D.lst (dis (rp i (turn n)) ++ dis (turn n))) = some (.lst (dis (rp (i + 1) (turn n))))
      rw [rp_succ]
      simp
    intro ρ M2 h
    rw [hI, upTo_len] at h
    obtain ⟨rfl, hh⟩ := h
    obtain ⟨ρ, rfl⟩ := hh.know
    clear hI I hh
    rw [show ((k : Int)).toNat = k from Int.toNat_natCast k]
    have m4 : k * (turn n).length ≤ 400 * 100 := mle (by omega) (by omega)
    conv => whnf
    rw [scd]
    conv => whnf
    rw [hta]
    refine ⟨by simp only [List.length_append, List.length_map, List.length_cons, List.length_nil, rp_len]; omega, ?_⟩
    refine ⟨by decide, ?_⟩
    refine ⟨by simp only [List.length_append, List.length_map, List.length_cons, List.length_nil, rp_len]; omega, ?_⟩
    refine ⟨by simp only [List.length_append, List.length_map, List.length_cons, List.length_nil, rp_len]; omega, ?_⟩
    refine ⟨by decide, ?_⟩
    refine ⟨by simp only [List.length_append, List.length_map, List.length_cons, List.length_nil, rp_len]; omega, ?_⟩
    refine ⟨by simp only [List.length_append, List.length_map, List.length_cons, List.length_nil, rp_len]; omega, ?_⟩
    refine ⟨by simp only [List.length_append, List.length_map, List.length_cons, List.length_nil, rp_len]; omega, ?_⟩
    refine ⟨by rw [hsl]; show (2 : Nat) ≤ 16777216; decide, ?_⟩
    have q2 := q _ hle
    rw [hk]
    simpa [Pump.row1, Pump.row2] using q2
end LW

namespace LW
open PySem PySem.Spec PyProof.Rows L2 DL WK
/-! ### numbers of rows -/
def val (b : Int) (f : Int) (ns : List Int) : Int := ns.foldl (fun f x => f * b + x) f
def resF (b r : Int) (f : Int) (ns : List Int) : Int := ns.foldl (fun f x => (f * b + x).fmod r) f
theorem val_app (b f : Int) (a c : List Int) : val b f (a ++ c) = val b (val b f a) c := List.foldl_append
theorem val_lin (b : Int) : ∀ (ns : List Int) (f : Int), val b f ns = f * b ^ ns.length + val b 0 ns
  | [], f => by simp [val]
  | x :: ns, f => by
    have h1 : val b f (x :: ns) = val b (f * b + x) ns := rfl
    have h2 : val b 0 (x :: ns) = val b (0 * b + x) ns := rfl
    rw [h1, h2, val_lin b ns (f * b + x), val_lin b ns (0 * b + x), List.length_cons, Int.pow_succ]
    grind
theorem res_val (b r : Int) (hr : 0 < r) : ∀ (ns : List Int) (f : Int), (resF b r f ns) % r = (val b f ns) % r
  | [], f => rfl
  | x :: ns, f => by
    have h1 : val b f (x :: ns) = val b (f * b + x) ns := rfl
    have h2 : resF b r f (x :: ns) = resF b r ((f * b + x).fmod r) ns := rfl
    rw [h1, h2, res_val b r hr ns, val_lin b ns ((f * b + x).fmod r), val_lin b ns (f * b + x), Int.fmod_eq_emod_of_nonneg _ (Int.le_of_lt hr), Int.add_emod, Int.mul_emod, Int.emod_emod_of_dvd _ (Int.dvd_refl r), ← Int.mul_emod, ← Int.add_emod]
theorem res_rng (b r : Int) (hr : 0 < r) : ∀ (ns : List Int) (f : Int), (0 ≤ f ∧ f < r) → 0 ≤ resF b r f ns ∧ resF b r f ns < r
  | [], f, h => h
  | x :: ns, f, h => res_rng b r hr ns _ ⟨fm_lo _ hr, fm_hi _ hr⟩
/-- congruent -/
def Cg (r a c : Int) : Prop := ∃ t, a = c + r * t
theorem Cg.rfl' {r a : Int} : Cg r a a := ⟨0, by simp⟩
theorem Cg.symm {r a c : Int} (h : Cg r a c) : Cg r c a := let ⟨t, e⟩ := h; ⟨-t, by grind⟩
theorem Cg.trans {r a c d : Int} (h : Cg r a c) (k : Cg r c d) : Cg r a d := let ⟨t, e⟩ := h; let ⟨u, f⟩ := k; ⟨t + u, by grind⟩
theorem Cg.add {r a c d e : Int} (h : Cg r a c) (k : Cg r d e) : Cg r (a + d) (c + e) := let ⟨t, e⟩ := h; let ⟨u, f⟩ := k; ⟨t + u, by grind⟩
theorem Cg.mul {r a c d e : Int} (h : Cg r a c) (k : Cg r d e) : Cg r (a * d) (c * e) := by
  obtain ⟨t, rfl⟩ := h
  obtain ⟨u, rfl⟩ := k
  exact ⟨c * u + t * e + r * t * u, by grind⟩
theorem Cg.pow {r a c : Int} (h : Cg r a c) : ∀ n : Nat, Cg r (a ^ n) (c ^ n)
  | 0 => by
    rw [Int.pow_zero, Int.pow_zero]
    exact Cg.rfl'
  | n + 1 => by
    rw [Int.pow_succ, Int.pow_succ]
    exact (h.pow n).mul h
theorem Cg.emod {r a c : Int} (h : Cg r a c) : a % r = c % r := by
  obtain ⟨t, rfl⟩ := h
  simp
theorem Cg.of {r a c : Int} (h : a % r = c % r) : Cg r a c := ⟨a / r - c / r, by
  have h1 := Int.mul_ediv_add_emod a r
  have h2 := Int.mul_ediv_add_emod c r
  grind⟩
theorem rp_add (i j : Nat) (v : List Int) : rp (i + j) v = rp i v ++ rp j v := by
  unfold rp
  rw [← List.replicate_append_replicate, List.flatten_append]
section
variable {b r : Int} {k : Nat} (h1 : Cg r (b ^ k) 1)
include h1
theorem one_pow_cg (m : Nat) : Cg r (b ^ (m * k)) 1 := by
  rw [Nat.mul_comm, Int.pow_mul]
  have := h1.pow m
  rwa [Int.one_pow] at this
/-- a part as long as a multiple of the period, over and over -/
theorem val_rep {v : List Int} {m : Nat} (hv : v.length = m * k) : ∀ j : Nat, Cg r (val b 0 (rp j v)) (j * val b 0 v)
  | 0 => by
    simp [rp, val]
    exact Cg.rfl'
  | j + 1 => by
    rw [rp_succ, val_app, val_lin, hv]
    have := ((val_rep hv j).mul (one_pow_cg h1 m)).add (Cg.rfl' (r := r) (a := val b 0 v))
    refine this.trans ?_
    rw [Int.mul_one, Int.natCast_add]
    exact ⟨0, by grind⟩
theorem val_zero (u : List Int) (m : Nat) : Cg (m : Int) ((m : Int) * val b 0 u) 0 := ⟨val b 0 u, by omega⟩
end
theorem rp_rp (j k : Nat) (u : List Int) : rp (j * k) u = rp j (rp k u) := by
  induction j with
  | zero => simp [rp]
  | succ j ih => rw [Nat.succ_mul, rp_add, ih, rp_succ]
theorem val_turn (b : Int) {n : Nat} (hn : 1 ≤ n) : val b 0 (turn n) = b ^ (n - 1) := by
  have z : ∀ m f, val b f (List.replicate m 0) = f * b ^ m := fun m => by
    induction m with
    | zero => intro f; simp [val]
    | succ m ih =>
      intro f
      have : val b f (List.replicate (m + 1) 0) = val b (f * b + 0) (List.replicate m 0) := rfl
      rw [this, ih, Int.pow_succ]
      grind
  have : val b 0 (turn n) = val b (0 * b + 1) (List.replicate (n - 1) 0) := rfl
  rw [this, z]
  grind
/-- the law of pumps -/
theorem pump_law {b r k n : Nat} {p : Pump} (hr : 1 ≤ r) (hk : 1 ≤ k) (hn : n = r * k) (h1 : Cg r ((b : Int) ^ k) 1) (hok : p.ok b) : Cg r (val b 0 (p.row1 n)) (val b 0 (p.row2 b n)) := by
  have n1 : 1 ≤ n := by rw [hn]; exact Nat.mul_pos hr hk
  have bn : Cg r ((b : Int) ^ n) 1 := by rw [hn]; exact one_pow_cg h1 r
  have bn1 : (b : Int) ^ (n - 1) * b = (b : Int) ^ n := by
    rw [← Int.pow_succ]
    congr 1
    omega
  have tl : (turn n).length = r * k := by rw [turn_len n1, hn]
  have fin : ∀ {a c : List Int} (s : List Int), Cg r (val b 0 a) (val b 0 c) → Cg r (val b 0 (a ++ s)) (val b 0 (c ++ s)) := fun {a c} s h => by
    rw [val_app, val_app, val_lin _ s, val_lin _ s (val _ 0 c)]
    exact (h.mul Cg.rfl').add Cg.rfl'
  cases p with
  | power x u y v z =>
    refine fin _ ?_
    show Cg r (val b 0 x) (val b 0 (x ++ rp n u))
    have h0 : Cg r (val b 0 (rp n u)) 0 := by
      rw [hn, rp_rp]
      have hl : (rp k u).length = u.length * k := by rw [rp_len, Nat.mul_comm]
      exact (val_rep h1 hl r).trans ⟨val b 0 (rp k u), by omega⟩
    rw [val_app, val_lin _ (rp n u), rp_len]
    have h2 : Cg r ((b : Int) ^ (n * u.length)) 1 := by
      rw [Nat.mul_comm, hn, ← Nat.mul_assoc]
      exact one_pow_cg h1 _
    have := ((Cg.rfl' (r := r) (a := val b 0 x)).mul h2).add h0
    exact (this.trans ⟨0, by grind⟩).symm
  | digit x d y v z =>
    obtain ⟨_, ⟨hd0, _⟩, _⟩ := hok
    obtain ⟨d, rfl⟩ : ∃ e : Nat, d = e := ⟨d.toNat, by omega⟩
    refine fin _ ?_
    show Cg r (val b 0 (x ++ [(d : Int)])) (val b 0 (x ++ [0] ++ rp (b * d) (turn n)))
    rw [val_app (a := x ++ [0]), val_app, val_app, val_lin _ (rp _ _), rp_len]
    have e1 : ∀ (f e : Int), val b f [e] = f * b + e := fun f e => rfl
    rw [e1, e1]
    have h2 : Cg r ((b : Int) ^ (b * d * (turn n).length)) 1 := by
      rw [tl, ← Nat.mul_assoc]
      exact one_pow_cg h1 _
    have h3 := val_rep h1 tl (b * d)
    rw [val_turn _ n1] at h3
    have h4 : Cg r (((b * d : Nat) : Int) * (b : Int) ^ (n - 1)) d := by
      have : ((b * d : Nat) : Int) * (b : Int) ^ (n - 1) = d * ((b : Int) ^ n) := by
        rw [← bn1, Int.natCast_mul]
        grind
      rw [this]
      exact ((Cg.rfl' (r := r) (a := (d : Int))).mul bn).trans ⟨0, by grind⟩
    have := ((Cg.rfl' (r := r) (a := val b 0 x * b + 0)).mul h2).add (h3.trans h4)
    exact (this.trans ⟨0, by grind⟩).symm
  | carry x y v z =>
    refine fin _ ?_
    show Cg r (val b 0 (x ++ turn n ++ [0])) (val b 0 (x ++ [0] ++ rp b (turn n)))
    rw [val_app (a := x ++ turn n), val_app (a := x ++ [0]), val_app, val_app, val_lin _ (turn n), val_lin _ (rp _ _), rp_len]
    have e1 : ∀ (f e : Int), val b f [e] = f * b + e := fun f e => rfl
    rw [e1, e1, val_turn _ n1, turn_len n1]
    have h2 : Cg r ((b : Int) ^ (b * n)) 1 := by
      rw [hn, ← Nat.mul_assoc]
      exact one_pow_cg h1 _
    have h3 := val_rep h1 tl b
    rw [val_turn _ n1] at h3
    have h5 : (b : Int) * (b : Int) ^ (n - 1) = (b : Int) ^ n := by rw [← bn1]; grind
    rw [h5] at h3
    have l1 : Cg r ((val b 0 x * (b : Int) ^ n + (b : Int) ^ (n - 1)) * b + 0) (val b 0 x * b + 1) := by
      have e : (val b 0 x * (b : Int) ^ n + (b : Int) ^ (n - 1)) * b + 0 = val b 0 x * b * (b : Int) ^ n + (b : Int) ^ n := by
        rw [← bn1]
        grind
      rw [e]
      exact (((Cg.rfl' (r := r) (a := val b 0 x * b)).mul bn).add bn).trans ⟨0, by grind⟩
    have l2 := ((Cg.rfl' (r := r) (a := val b 0 x * b + 0)).mul h2).add (h3.trans bn)
    exact l1.trans (l2.trans ⟨0, by grind⟩).symm
end LW

namespace LW
open PySem PySem.Spec PyProof.Rows L2 DL WK
def spRest : DSp := fun ds M P _ => ∃ (b r : Nat) (ns : List Int), ds = [.int b, .tup (dis ns), .int r] ∧ 1 ≤ r ∧ r ≤ 13 ∧ b ≤ 20 ∧ P (.int (resF b r 0 ns)) M
theorem pure__law_rest : ∀ ds M P PX, spRest ds M P PX → d__law_rest { nx := fun _ M' => P .non M', rt := P, bk := fun _ _ => False, ct := fun _ _ => False, ex := fun _ => PX } (st0 N__law_rest ds) M := by
  intro ds M P PX ⟨b, r, ns, e, h1, h2, h3, q⟩
  subst e
  obtain ⟨I, hI⟩ : ∃ I : Nat → Ev → Mm → Prop, I = fun i ρ M2 => M = M2 ∧ ∃ f : Int, resF b r f (ns.drop i) = resF b r 0 ns ∧ 0 ≤ f ∧ f < 20 ∧ Has ρ [(0, .int b), (1, .tup (dis ns)), (2, .int r), (3, .int f)] := ⟨_, rfl⟩
  refine ⟨I, by rw [hI]; exact ⟨rfl, 0, by rw [List.drop_zero], by omega, by omega, rfl, rfl, rfl, rfl, trivial⟩, ?_, ?_⟩
  · intro i d ρ M2 hd h
    rw [hI] at h
    obtain ⟨rfl, f, hf, hf0, hf1, hh⟩ := h
    obtain ⟨ρ, rfl⟩ := hh.know
    obtain ⟨k, rfl, hk⟩ := get_dis hd
    refine ⟨.inl (.inl ⟨by omega, by omega⟩), ?_⟩
    refine ⟨by omega, ?_⟩
    show I (i + 1) _ _
    rw [hI]
    refine ⟨rfl, (f * b + k).fmod r, ?_, fm_lo _ (by omega), Int.lt_trans (fm_hi _ (by omega)) (by omega), rfl, rfl, rfl, rfl, trivial⟩
    have hl := (List.getElem?_eq_some_iff.mp hk)
    rw [List.drop_eq_getElem_cons hl.1, hl.2] at hf
    exact hf
  · intro ρ M2 h
    rw [hI] at h
    obtain ⟨rfl, f, hf, hf0, hf1, hh⟩ := h
    obtain ⟨ρ, rfl⟩ := hh.know
    rw [List.length_map, List.drop_length] at hf
    have : f = resF b r 0 ns := hf
    rw [← this] at q
    exact q
def spOrd : DSp := fun ds M P _ => ∃ (b r m : Nat), ds = [.int b, .int r] ∧ 1 ≤ r ∧ r ≤ 13 ∧ b ≤ 20 ∧ 1 ≤ m ∧ m ≤ 13 ∧ ((b : Int) ^ m) % r = 1 % r ∧ ∀ k : Nat, 1 ≤ k → k ≤ 13 → ((b : Int) ^ k) % r = 1 % r → P (.int k) M
theorem fe {a : Int} {r : Nat} : a.fmod r = a % r := Int.fmod_eq_emod_of_nonneg _ (Int.natCast_nonneg r)
theorem pure__law_order : ∀ ds M P PX, spOrd ds M P PX → d__law_order { nx := fun _ M' => P .non M', rt := P, bk := fun _ _ => False, ct := fun _ _ => False, ex := fun _ => PX } (st0 N__law_order ds) M := by
  intro ds M P PX ⟨b, r, m, e, hr, hr2, hb, hm, hm2, hmm, q⟩
  subst e
  have r0 : (r : Int) ≠ 0 := by omega
  refine ⟨r0, ?_⟩
  obtain ⟨I, hI⟩ : ∃ I : Nat → Ev → Mm → Prop, I = fun n ρ M2 => M = M2 ∧ ∃ k : Nat, 1 ≤ k ∧ k ≤ m ∧ n = m - k ∧ Has ρ [(0, .int b), (1, .int r), (2, .int k), (3, .int (((b : Int) ^ k).fmod r))] := ⟨_, rfl⟩
  refine ⟨I, ⟨m - 1, by rw [hI]; exact ⟨rfl, 1, by omega, hm, rfl, rfl, rfl, rfl, by rw [Int.pow_succ, Int.pow_zero, Int.one_mul]; rfl, trivial⟩⟩, ?_⟩
  intro n ρ M2 h
  rw [hI] at h
  obtain ⟨rfl, k, hk1, hk2, hn, hh⟩ := h
  obtain ⟨ρ, rfl⟩ := hh.know
  refine ⟨r0, ?_⟩
  conv => whnf
  by_cases hc : ((b : Int) ^ k).fmod r = (1 : Int).fmod r
  · rw [decide_eq_true hc]
    exact q k hk1 (by omega) (by rw [fe, fe] at hc; exact hc)
  · rw [decide_eq_false hc]
    have hlt : k < m := by
      rcases Nat.lt_or_ge k m with z | z
      · exact z
      · exfalso
        apply hc
        rw [fe, fe, show k = m by omega]
        exact hmm
    have hp0 := fm_lo ((b : Int) ^ k) (b := (r : Int)) (by omega)
    have hp1 := fm_hi ((b : Int) ^ k) (b := (r : Int)) (by omega)
    refine ⟨.inl (.inl ⟨by omega, by omega⟩), ?_⟩
    refine ⟨r0, ?_⟩
    refine ⟨m - (k + 1), by omega, ?_⟩
    rw [hI]
    refine ⟨rfl, k + 1, by omega, by omega, rfl, rfl, rfl, rfl, ?_, trivial⟩
    show some (D.int _) = some (D.int _)
    rw [fe, fe, fe, Int.pow_succ, Int.mul_emod, Int.emod_emod_of_dvd _ (Int.dvd_refl _), ← Int.mul_emod]
def spPri : DSp := fun ds M P _ => ∃ (x y : Nat), ds = [.int x, .int y] ∧ P (.bl (decide (Nat.gcd x y = 1))) M
theorem pure__law_is_prime_to : ∀ ds M P PX, spPri ds M P PX → d__law_is_prime_to { nx := fun _ M' => P .non M', rt := P, bk := fun _ _ => False, ct := fun _ _ => False, ex := fun _ => PX } (st0 N__law_is_prime_to ds) M := by
  intro ds M P PX ⟨x, y, e, q⟩
  subst e
  obtain ⟨I, hI⟩ : ∃ I : Nat → Ev → Mm → Prop, I = fun n ρ M2 => M = M2 ∧ ∃ u v : Nat, Nat.gcd u v = Nat.gcd x y ∧ n = v ∧ Has ρ [(0, .int u), (1, .int v)] := ⟨_, rfl⟩
  refine ⟨I, ⟨y, by rw [hI]; exact ⟨rfl, x, y, rfl, rfl, rfl, rfl, trivial⟩⟩, ?_⟩
  intro n ρ M2 h
  rw [hI] at h
  obtain ⟨rfl, u, v, hg, hn, hh⟩ := h
  obtain ⟨ρ, rfl⟩ := hh.know
  conv => whnf
  by_cases hc : (0 : Int) < v
  · rw [decide_eq_true hc]
    refine ⟨by omega, ?_⟩
    refine ⟨u % v, by rw [hn]; exact Nat.mod_lt _ (by omega), ?_⟩
    rw [hI]
    refine ⟨rfl, v, u % v, ?_, rfl, rfl, ?_, trivial⟩
    · rw [← hg, Nat.gcd_comm v, ← Nat.gcd_rec, Nat.gcd_comm]
    · show some (D.int _) = some (D.int _)
      rw [fe, Int.natCast_emod]
  · rw [decide_eq_false hc]
    have hv : v = 0 := by omega
    subst hv
    rw [Nat.gcd_zero_right] at hg
    show P (.bl (false ^^ decide ((u : Int) = 1))) M
    rw [Bool.false_xor, show decide ((u : Int) = 1) = decide (Nat.gcd x y = 1) from decide_eq_decide.mpr (by omega)]
    exact q
end LW

namespace LW
open PySem PySem.Spec PyProof.Rows L2 DL WK
def spDue : DSp := fun ds M P _ => ∃ (b n : Nat) (p : Pump), ds = [.int b, p.D, .int n] ∧ b ≤ 20 ∧ 1 ≤ n ∧ n ≤ 100 ∧ p.ok b ∧ P (.tup [.tup (dis (p.row1 n)), .tup (dis (p.row2 b n))]) M
theorem due_forget : ∀ ds M P PX, spDue ds M P PX → spDueG ds M (Fg P) PX := fun ds M P PX ⟨b, n, p, e, h1, h2, h3, h4, q⟩ => ⟨b, n, p, e, h1, h2, h3, h4, fun M' l => ⟨M, l, q⟩⟩
theorem Row.app {b : Int} {x y : List Int} (h : Row b x) (k : Row b y) : Row b (x ++ y) := ⟨fun n hn => (List.mem_append.mp hn).elim (h.dig n) (k.dig n)⟩
theorem Row.rp {b : Int} {x : List Int} (h : Row b x) (n : Nat) : Row b (LW.rp n x) := ⟨fun m hm => by
  unfold LW.rp at hm
  obtain ⟨l, hl, hm⟩ := List.mem_flatten.mp hm
  rw [List.eq_of_mem_replicate hl] at hm
  exact h.dig m hm⟩
theorem Row.turn {b : Int} (hb : 2 ≤ b) (n : Nat) : Row b (LW.turn n) := ⟨fun m hm => by
  rcases List.mem_cons.mp hm with z | z
  · omega
  · have := List.eq_of_mem_replicate z
    omega⟩
theorem Row.one {b d : Int} (h0 : 0 ≤ d) (h1 : d < b) : Row b [d] := ⟨fun m hm => by
  cases List.mem_singleton.mp hm
  exact ⟨h0, h1⟩⟩
theorem rows_dig {b n : Nat} {p : Pump} (hb : 2 ≤ b) (h : p.ok b) : Row b (p.row1 n) ∧ Row b (p.row2 b n) := by
  have h2 : (2 : Int) ≤ b := by omega
  have z : Row b [0] := Row.one (by omega) (by omega)
  cases p with
  | power x u y v z' =>
    obtain ⟨hx, hu, hy, hv, hz, _⟩ := h
    have hr := (hy.row.app (hv.row.rp n)).app hz.row
    exact ⟨hx.row.app hr, (hx.row.app (hu.row.rp n)).app hr⟩
  | digit x d y v z' =>
    obtain ⟨hx, ⟨d0, d1⟩, hy, hv, hz, _⟩ := h
    have hr := (hy.row.app (hv.row.rp n)).app hz.row
    exact ⟨(hx.row.app (Row.one d0 d1)).app hr, ((hx.row.app z).app ((Row.turn h2 n).rp _)).app hr⟩
  | carry x y v z' =>
    obtain ⟨hx, hy, hv, hz, _⟩ := h
    have hr := (hy.row.app (hv.row.rp n)).app hz.row
    exact ⟨((hx.row.app (Row.turn h2 n)).app z).app hr, ((hx.row.app z).app ((Row.turn h2 n).rp _)).app hr⟩
theorem rows_len {b n : Nat} {p : Pump} (hb : b ≤ 20) (h1 : 1 ≤ n) (hn : n ≤ 100) (h : p.ok b) : (p.row1 n).length + (p.row2 b n).length ≤ 50000 := by
  have rl : ∀ (v : List Int), v.length ≤ 20 → (rp n v).length ≤ 2000 := fun v hv => by rw [rp_len]; exact mle hn hv
  have tl := turn_len h1
  cases p with
  | power x u y v z' =>
    obtain ⟨⟨_, hx⟩, ⟨_, hu⟩, ⟨_, hy⟩, ⟨_, hv⟩, ⟨_, hz⟩, _⟩ := h
    have := rl v hv
    have := rl u hu
    simp only [Pump.row1, Pump.row2, rst, List.length_append]
    omega
  | digit x d y v z' =>
    obtain ⟨⟨_, hx⟩, ⟨d0, d1⟩, ⟨_, hy⟩, ⟨_, hv⟩, ⟨_, hz⟩, _⟩ := h
    have := rl v hv
    have h5 : b * d.toNat ≤ 20 * 20 := mle hb (by omega)
    have h6 : (rp (b * d.toNat) (turn n)).length ≤ 400 * 100 := by rw [rp_len, tl]; exact mle h5 hn
    simp only [Pump.row1, Pump.row2, rst, List.length_append, List.length_cons, List.length_nil]
    omega
  | carry x y v z' =>
    obtain ⟨⟨_, hx⟩, ⟨_, hy⟩, ⟨_, hv⟩, ⟨_, hz⟩, _⟩ := h
    have := rl v hv
    have h6 : (rp b (turn n)).length ≤ 20 * 100 := by rw [rp_len, tl]; exact mle hb hn
    simp only [Pump.row1, Pump.row2, rst, List.length_append, List.length_cons, List.length_nil]
    omega
theorem dig32 {b : Nat} (hb : b ≤ 20) {ns : List Int} (h : Row b ns) : ∀ n ∈ ns, n.natAbs < 32 := fun n hn => by
  have := h.dig n hn
  omega
theorem okRR {r1 r2 : List Int} (h1 : ∀ n ∈ r1, n.natAbs < 32) (h2 : ∀ n ∈ r2, n.natAbs < 32) (hl : r1.length + r2.length ≤ 50000) : OkR (.lst [.tup [.tup (dis r1), .tup (dis r2)], .tup [.tup (dis r1), .tup (dis r2)]]) := by
  have f1 := fits_ints (ns := r1) fun n hn => Nat.lt_trans (h1 n hn) (by decide)
  have f2 := fits_ints (ns := r2) fun n hn => Nat.lt_trans (h2 n hn) (by decide)
  refine okR_of ?_ ?_ ?_
  · simp [fit, fits, f1, f2]
  · simp only [wgt, wgts]
    rw [wgts_digs h1, wgts_digs h2]
    omega
  · simp only [dep, deps]
    rw [deps_ints, deps_ints]
    decide
theorem row_tail {n : Nat} (p : Pump) {b : Nat} (h : p.ok b) (h1 : 1 ≤ n) : ∃ a c s : List Int, p.row1 n = a ++ s ∧ p.row2 b n = c ++ s ∧ n ≤ s.length := by
  have rl : ∀ (y v z : List Int), 1 ≤ v.length → n ≤ (rst y v z n).length := fun y v z hv => by
    unfold rst
    simp only [List.length_append, rp_len]
    have := Nat.mul_le_mul_left n hv
    omega
  cases p with
  | power x u y v z => exact ⟨_, _, _, rfl, rfl, rl y v z h.2.2.2.2.2⟩
  | digit x d y v z => exact ⟨_, _, _, rfl, rfl, rl y v z h.2.2.2.2.2⟩
  | carry x y v z => exact ⟨_, _, _, rfl, rfl, rl y v z h.2.2.2.2⟩
theorem cut_tail {a s : List Int} {n : Nat} (h1 : 1 ≤ n) (hn : n ≤ s.length) : DL.cutD (a ++ s) (some (-(n : Int))) none = s.drop (s.length - n) := by
  have e : sx (a ++ s).length 0 (some (-(n : Int))) = (a ++ s).length - n := by
    obtain ⟨k, rfl⟩ : ∃ k, n = k + 1 := ⟨n - 1, by omega⟩
    rfl
  unfold DL.cutD
  rw [e]
  show ((a ++ s).drop ((a ++ s).length - n)).take ((a ++ s).length - ((a ++ s).length - n)) = _
  rw [List.take_of_length_le (by rw [List.length_drop]; exact Nat.le_refl _), List.length_append, show a.length + s.length - n = a.length + (s.length - n) by omega, List.drop_append]
  simp
theorem ords : ∀ b < 21, ∀ r < 14, 1 ≤ r → Nat.gcd r b = 1 → ∃ m < 14, 1 ≤ m ∧ b ^ m % r = 1 % r := by decide +kernel
def spRight (ks : List Key) : DSp := fun ds M P _ => ∃ (a : Addr) (b : Nat) (p : Pump), ds = [.ref a, .int b, p.D] ∧ DeckAt ks M a ∧ 2 ≤ b ∧ b ≤ 20 ∧ p.ok b ∧ P (.bl true) M
theorem pure__law_right : ∀ ds M P PX, (spRight KS) ds M P PX → (d__law_right  (spDraw KS) spDue spRows spPri spOrd spRest) { nx := fun _ M' => P .non M', rt := P, bk := fun _ _ => False, ct := fun _ _ => False, ex := fun _ => PX } (st0 N__law_right ds) M := by
  intro ds M P PX ⟨a, b, p, e, hd, hb, hb2, hok, q⟩
  subst e
  have hsl := sizeLine_eq
  refine ⟨a, 20, rfl, hd, by omega, by omega, fun r hr0 hr => ?_⟩
  refine ⟨by rw [hsl]; show (4 : Nat) ≤ 16777216; decide, ?_⟩
  obtain ⟨I, hI⟩ : ∃ I : Nat → Ev → Mm → Prop, I = fun i ρ M2 => M = M2 ∧ Has ρ [(0, .ref a), (1, .int b), (2, p.D)] := ⟨_, rfl⟩
  refine ⟨I, by rw [hI]; exact ⟨rfl, rfl, rfl, rfl, trivial⟩, ?_, ?_⟩
  · intro i d ρ M2 hdi h
    rw [hI] at h
    obtain ⟨rfl, hh⟩ := h
    obtain ⟨ρ, rfl⟩ := hh.know
    have hn : ∃ n : Nat, d = .int n ∧ 1 ≤ n ∧ n ≤ 100 := by
      have := List.mem_of_getElem? hdi
      simp only [List.mem_cons, List.not_mem_nil, or_false] at this
      rcases this with z | z | z | z
      · exact ⟨1, z, by omega, by omega⟩
      · exact ⟨2, z, by omega, by omega⟩
      · exact ⟨(1 + r).toNat, by rw [Int.toNat_of_nonneg (by omega)]; exact z, by omega, by omega⟩
      · exact ⟨60, z, by omega, by omega⟩
    obtain ⟨n, rfl, hn1, hn2⟩ := hn
    obtain ⟨dg1, dg2⟩ := rows_dig (n := n) hb hok
    have ok2 := okRR (dig32 hb2 dg1) (dig32 hb2 dg2) (rows_len hb2 hn1 hn2 hok)
    refine ⟨b, n, p, rfl, hb2, hn1, hn2, hok, ?_⟩
    refine ⟨b, n, p, rfl, hb2, hn1, hn2, hok, ?_⟩
    refine ⟨rfl, rfl, b, n, p, rfl, hb2, hn1, hn2, hok, ?_⟩
    refine ⟨by rw [hsl]; show (2 : Nat) ≤ 16777216; decide, ?_⟩
    refine ⟨ok2, ?_⟩
    refine ⟨by rw [hsl]; show (2 : Nat) ≤ 16777216; decide, ?_⟩
    refine ⟨ok2, ?_⟩
    conv => whnf
    rw [seqT]
    show I (i + 1) _ _
    rw [hI]
    exact ⟨rfl, rfl, rfl, rfl, trivial⟩
  intro ρ M2 h
  rw [hI] at h
  obtain ⟨rfl, hh⟩ := h
  obtain ⟨ρ, rfl⟩ := hh.know
  clear hI I hh
  refine ⟨⟨by decide, by decide, by decide, by decide⟩, ?_⟩
  obtain ⟨I, hI⟩ : ∃ I : Nat → Ev → Mm → Prop, I = fun i ρ M2 => M = M2 ∧ Has ρ [(0, .ref a), (1, .int b), (2, p.D)] := ⟨_, rfl⟩
  refine ⟨I, by rw [hI]; exact ⟨rfl, rfl, rfl, rfl, trivial⟩, ?_, ?_⟩
  · intro i d ρ M2 hdi h
    rw [hI] at h
    obtain ⟨rfl, hh⟩ := h
    obtain ⟨ρ, rfl⟩ := hh.know
    obtain ⟨rfl, hi⟩ := upTo_get hdi
    have hi13 : i < 13 := hi
    obtain ⟨t, ht⟩ : ∃ t : Nat, t = i + 1 := ⟨_, rfl⟩
    have e1 : (1 : Int) + (i : Int) = t := by omega
    rw [e1]
    refine ⟨t, b, rfl, ?_⟩
    by_cases hg : Nat.gcd t b = 1
    · rw [decide_eq_true hg]
      obtain ⟨m, hm, hm1, hmm⟩ := ords b (by omega) t (by omega) (by omega) hg
      have hmm' : ((b : Int) ^ m) % t = 1 % t := by
        have := congrArg (Int.ofNat) hmm
        simpa using this
      refine ⟨b, t, m, rfl, by omega, by omega, hb2, hm1, by omega, hmm', fun k hk1 hk2 hkk => ?_⟩
      refine ⟨.inl (.inl ⟨by omega, by omega⟩), ?_⟩
      obtain ⟨n, hn⟩ : ∃ n, n = t * k := ⟨_, rfl⟩
      have e2 : (t : Int) * (k : Int) = n := by rw [hn, Int.natCast_mul]
      rw [e2]
      by_cases hlt : (n : Int) < 61
      · conv => whnf
        rw [decide_eq_true hlt]
        have hn1 : 1 ≤ n := by rw [hn]; exact Nat.mul_pos (by omega) hk1
        refine ⟨b, n, p, rfl, hb2, hn1, by omega, hok, ?_⟩
        refine ⟨rfl, ?_⟩
        refine ⟨b, t, _, rfl, by omega, by omega, hb2, ?_⟩
        refine ⟨b, t, _, rfl, by omega, by omega, hb2, ?_⟩
        have er : resF b t 0 (p.row1 n) = resF b t 0 (p.row2 b n) := by
          have c := (pump_law (by omega) hk1 hn (Cg.of hkk) hok).emod
          have t0 : (0 : Int) < t := by omega
          have a1 := res_val b t t0 (p.row1 n) 0
          have a2 := res_val b t t0 (p.row2 b n) 0
          have b1 := res_rng b t t0 (p.row1 n) 0 ⟨by omega, t0⟩
          have b2 := res_rng b t t0 (p.row2 b n) 0 ⟨by omega, t0⟩
          rw [Int.emod_eq_of_lt b1.1 b1.2] at a1
          rw [Int.emod_eq_of_lt b2.1 b2.2] at a2
          rw [a1, a2, c]
        rw [er]
        conv => whnf
        rw [decide_eq_true rfl]
        obtain ⟨u, w, s, g1, g2, g3⟩ := row_tail p hok hn1
        rw [g1, g2]
        have c1 : DL.cutD (dis (u ++ s)) (some (-(n : Int))) none = dis (s.drop (s.length - n)) := by rw [cut_map, cut_tail hn1 g3]
        have c2 : DL.cutD (dis (w ++ s)) (some (-(n : Int))) none = dis (s.drop (s.length - n)) := by rw [cut_map, cut_tail hn1 g3]
        show okD (.tup (DL.cutD (dis (u ++ s)) (some (-(n : Int))) none)) ∧ okD (.tup (DL.cutD (dis (w ++ s)) (some (-(n : Int))) none)) ∧ _
        rw [c1, c2]
        refine ⟨okT_ints _, okT_ints _, ?_⟩
        have c3 := eqv_self (okT_ints (s.drop (s.length - n)))
        conv => whnf
        show (match true ^^ PyData.eqv (py (.tup (dis (s.drop (s.length - n))))) (py (.tup (dis (s.drop (s.length - n))))) with
          | true => _
          | false => _)
        rw [c3]
        show I (i + 1) _ _
        rw [hI]
        exact ⟨rfl, rfl, rfl, rfl, trivial⟩
      · conv => whnf
        rw [decide_eq_false hlt]
        show I (i + 1) _ _
        rw [hI]
        exact ⟨rfl, rfl, rfl, rfl, trivial⟩
    · rw [decide_eq_false hg]
      show I (i + 1) _ _
      rw [hI]
      exact ⟨rfl, rfl, rfl, rfl, trivial⟩
  intro ρ M2 h
  rw [hI] at h
  obtain ⟨rfl, hh⟩ := h
  exact q
def spLaw : DSp := fun ds M P _ => ∃ ns : List Int, ds = [.scr (ns.map D.int)] ∧ ns.length ≤ 63 ∧ (∀ b, M b = none) ∧ ∀ M', P (.bl true) M'
theorem pure_law : ∀ ds M P PX, spLaw ds M P PX → (d_law  (spDeck KS) (spPick KS) (spRight KS) (spPump KS)) { nx := fun _ M' => P .non M', rt := P, bk := fun _ _ => False, ct := fun _ _ => False, ex := fun _ => PX } (st0 N_law ds) M := by
  intro ds M P PX ⟨ns, e, hl, hM, q⟩
  subst e
  have hsl := sizeLine_eq
  refine ⟨ns, rfl, hl, fun M1 a hd _ => ?_⟩
  refine ⟨⟨by decide, by decide⟩, ?_⟩
  obtain ⟨I, hI⟩ : ∃ I : Nat → Ev → Mm → Prop, I = fun i ρ M2 => M1 = M2 ∧ Has ρ [(1, .ref a)] := ⟨_, rfl⟩
  refine ⟨I, by rw [hI]; exact ⟨rfl, rfl, trivial⟩, ?_, ?_⟩
  · intro i d ρ M2 hdi h
    rw [hI] at h
    obtain ⟨rfl, hh⟩ := h
    obtain ⟨ρ, rfl⟩ := hh.know
    refine ⟨by rw [hsl]; show (7 : Nat) ≤ 16777216; decide, ?_⟩
    refine ⟨a, _, rfl, hd, by simp, by decide, fun x hx => ?_⟩
    have hb : ∃ b : Nat, x = .int b ∧ 2 ≤ b ∧ b ≤ 20 := by
      simp only [List.mem_cons, List.not_mem_nil, or_false] at hx
      rcases hx with z | z | z | z | z | z | z
      · exact ⟨2, z, by omega, by omega⟩
      · exact ⟨3, z, by omega, by omega⟩
      · exact ⟨4, z, by omega, by omega⟩
      · exact ⟨6, z, by omega, by omega⟩
      · exact ⟨7, z, by omega, by omega⟩
      · exact ⟨10, z, by omega, by omega⟩
      · exact ⟨16, z, by omega, by omega⟩
    obtain ⟨b, rfl, hb1, hb2⟩ := hb
    refine ⟨a, b, rfl, hd, hb1, hb2, fun p hp => ?_⟩
    refine ⟨a, b, p, rfl, hd, hb1, hb2, hp, ?_⟩
    show I (i + 1) _ _
    rw [hI]
    exact ⟨rfl, rfl, trivial⟩
  · intro ρ M2 h
    exact q _
end LW

namespace LW
open PySem PySem.Spec PyProof.Rows L2 DL WK
theorem law_start : ∀ (ns : List Int), ns.length ≤ 63 → spLaw [.scr (ns.map D.int)] (fun _ => none) (fun v _ => v = .bl true) XF := fun ns h => ⟨ns, rfl, h, fun _ => rfl, fun _ => rfl⟩
end LW
namespace HD
open PySem PySem.Spec PyProof.Rows L2 DL WK LW
def dd (n : Str) (i : Nat) : He.DefD := ⟨(n, none), n, n, defArgs (top i), defBody (top i), defScope (top i), [], []⟩
def fn : List He.DefD := [dd "rows_of_pump" 3, dd "pump_rows" 5, dd "_law_deck" 7, dd "_law_draw" 8, dd "_law_pick" 9, dd "_law_row" 10, dd "_law_pump" 11, dd "_law_due" 12, dd "_law_rest" 13, dd "_law_order" 14, dd "_law_is_prime_to" 15, dd "_law_right" 16, dd "law" 17]
def fa : List He.Fa := [.glo "rows_of_pump", .glo "pump_rows", .glo "_law_deck", .glo "_law_draw", .glo "_law_pick", .glo "_law_row", .glo "_law_pump", .glo "_law_due", .glo "_law_rest", .glo "_law_order", .glo "_law_is_prime_to", .glo "_law_right", .glo "law", .free "int", .free "len", .free "tuple", .free "range", .free "list", .free "repr", .str "POWER" "power", .str "DIGIT" "digit"]
abbrev R : PySem.W.OpenRow := PySem.W.OpenLaw.row PySem.Challenge.rw_anybase_k27_rows_of_pumps
abbrev hk : PySem.W.Hook := He.hookD 4 fa fn
def ob (s : PySem.W.SharedT) : He.AlD := He.obsDG 4 fa fn (HandSHeadRun.getT s)
theorem ob_eq (s : PySem.W.SharedT) : ob s = hk.obs s.abs := He.obsDG_eq (HandSHeadRun.getT_eq s)
theorem run (w : World) : HandSHeadRun.RunEq R (PySem.W.view R.prog [17]) hk ob 600 ["POWER", "DIGIT", "rows_of_pump", "pump_rows", "_law_deck", "_law_draw", "_law_pick", "_law_row", "_law_pump", "_law_due", "_law_rest", "_law_order", "_law_is_prime_to", "_law_right"] w := by
  intro os
  kernel_rfl
theorem facts {P : Program} {w : World} {K : PySem.W.Frag} {h : Heap} {mg : Str → Option Value} {f : Addr} (X : K.In h) (G : h.Ns mainGlobals mg) (hfa : mg ("law" : Str) = some (.ref f)) (c : He.SaysD fa fn K) :
    ∃ fd : FuncData, (∀ (s : Shared) (v : Value), BindsTo s fd ⟨[v], []⟩ [("_law_script", v)]) ∧ ∀ base : Heap, K.In base → base.Ns mainGlobals mg → DFn GG P w K mg base 4 f fd ["_law_script"] LW.spLaw := by
  obtain ⟨fd0, F0⟩ := c.def_ 0 (d := dd "rows_of_pump" 3) rfl
  obtain ⟨fd1, F1⟩ := c.def_ 1 (d := dd "pump_rows" 5) rfl
  obtain ⟨fd2, F2⟩ := c.def_ 2 (d := dd "_law_deck" 7) rfl
  obtain ⟨fd3, F3⟩ := c.def_ 3 (d := dd "_law_draw" 8) rfl
  obtain ⟨fd4, F4⟩ := c.def_ 4 (d := dd "_law_pick" 9) rfl
  obtain ⟨fd5, F5⟩ := c.def_ 5 (d := dd "_law_row" 10) rfl
  obtain ⟨fd6, F6⟩ := c.def_ 6 (d := dd "_law_pump" 11) rfl
  obtain ⟨fd7, F7⟩ := c.def_ 7 (d := dd "_law_due" 12) rfl
  obtain ⟨fd8, F8⟩ := c.def_ 8 (d := dd "_law_rest" 13) rfl
  obtain ⟨fd9, F9⟩ := c.def_ 9 (d := dd "_law_order" 14) rfl
  obtain ⟨fd10, F10⟩ := c.def_ 10 (d := dd "_law_is_prime_to" 15) rfl
  obtain ⟨fd11, F11⟩ := c.def_ 11 (d := dd "_law_right" 16) rfl
  obtain ⟨fd12, F12⟩ := c.def_ 12 (d := dd "law" 17) rfl
  have e := hfa.symm.trans (He.glo_ok X G (c.fact 12 (f := .glo "law") rfl))
  cases e
  have b := FunD.bindsA (ps := ["_law_script"]) F12 fun _ _ _ _ _ _ us hl => match us, hl with | [_], _ => rfl
  have b_int := He.free_ok X G (c.fact 13 (f := .free "int") rfl)
  have b_len := He.free_ok X G (c.fact 14 (f := .free "len") rfl)
  have b_tuple := He.free_ok X G (c.fact 15 (f := .free "tuple") rfl)
  have b_range := He.free_ok X G (c.fact 16 (f := .free "range") rfl)
  have b_list := He.free_ok X G (c.fact 17 (f := .free "list") rfl)
  have b_repr := He.free_ok X G (c.fact 18 (f := .free "repr") rfl)
  have h_POWER := He.str_ok X G (c.fact 19 (f := .str "POWER" "power") rfl)
  have h_DIGIT := He.str_ok X G (c.fact 20 (f := .str "DIGIT" "digit") rfl)
  refine ⟨fd12, fun s v => b s [v] rfl, fun base _ _ => ?_⟩
  have D0 : DFn GG P w K mg base 1 _ fd0 ["base", "pump", "times"] spRows := ok_rows_of_pump LW.pure_rows_of_pump (fun ds M P PX h => by first | (obtain ⟨_, rfl, _⟩ := h; rfl) | (obtain ⟨_, _, rfl, _⟩ := h; rfl) | (obtain ⟨_, _, _, rfl, _⟩ := h; rfl) | (obtain ⟨_, _, _, _, rfl, _⟩ := h; rfl) | (obtain ⟨_, _, _, _, _, rfl, _⟩ := h; rfl)) F0 h_POWER h_DIGIT
  have C_rows_of_pump := Cal.mk' F0 D0 (He.glo_ok X G (c.fact 0 (f := .glo "rows_of_pump") rfl)) fun _ _ _ _ _ _ us hl => match us, hl with | [_, _, _], _ => rfl
  have D1 : DFn GG P w K mg base 2 _ fd1 ["base", "pump", "times"] spRows := ok_pump_rows LW.pure_pump_rows (fun ds M P PX h => by first | (obtain ⟨_, rfl, _⟩ := h; rfl) | (obtain ⟨_, _, rfl, _⟩ := h; rfl) | (obtain ⟨_, _, _, rfl, _⟩ := h; rfl) | (obtain ⟨_, _, _, _, rfl, _⟩ := h; rfl) | (obtain ⟨_, _, _, _, _, rfl, _⟩ := h; rfl)) F1 C_rows_of_pump
  have C_pump_rows := Cal.mk' F1 D1 (He.glo_ok X G (c.fact 1 (f := .glo "pump_rows") rfl)) fun _ _ _ _ _ _ us hl => match us, hl with | [_, _, _], _ => rfl
  have CK0 : CalK P w K mg base 2 "pump_rows" ["base", "pump", "times"] 0 ["times", "pump", "base"] [2, 1, 0] spRows := CalK.mk' F1 D1 (He.glo_ok X G (c.fact 1 (f := .glo "pump_rows") rfl)) fun _ _ _ _ _ _ us ws h1 h2 => match us, ws, h1, h2 with | [], [_, _, _], _, _ => rfl
  have D2 : DFn GG P w K mg base 1 _ fd2 ["_law_script"] (spDeckO LW.KS) := ok__law_deck LW.pure__law_deck (fun ds M P PX h => by first | (obtain ⟨_, rfl, _⟩ := h; rfl) | (obtain ⟨_, _, rfl, _⟩ := h; rfl) | (obtain ⟨_, _, _, rfl, _⟩ := h; rfl) | (obtain ⟨_, _, _, _, rfl, _⟩ := h; rfl) | (obtain ⟨_, _, _, _, _, rfl, _⟩ := h; rfl)) F2 b_int
  have C__law_deck := Cal.mk' F2 D2 (He.glo_ok X G (c.fact 2 (f := .glo "_law_deck") rfl)) fun _ _ _ _ _ _ us hl => match us, hl with | [_], _ => rfl
  have C__law_deck := Cal.imp (sp' := spDeck LW.KS) C__law_deck deck_close
  have D3 : DFn GG P w K mg base 1 _ fd3 ["_law_deck_here", "_law_many"] (spDrawO LW.KS) := ok__law_draw LW.pure__law_draw (fun ds M P PX h => by first | (obtain ⟨_, rfl, _⟩ := h; rfl) | (obtain ⟨_, _, rfl, _⟩ := h; rfl) | (obtain ⟨_, _, _, rfl, _⟩ := h; rfl) | (obtain ⟨_, _, _, _, rfl, _⟩ := h; rfl) | (obtain ⟨_, _, _, _, _, rfl, _⟩ := h; rfl)) F3 b_int
  have C__law_draw := Cal.mk' F3 D3 (He.glo_ok X G (c.fact 3 (f := .glo "_law_draw") rfl)) fun _ _ _ _ _ _ us hl => match us, hl with | [_, _], _ => rfl
  have C__law_draw := Cal.imp (sp' := spDraw LW.KS) C__law_draw draw_close
  have D4 : DFn GG P w K mg base 2 _ fd4 ["_law_deck_here", "_law_some"] (spPick LW.KS) := ok__law_pick LW.pure__law_pick (fun ds M P PX h => by first | (obtain ⟨_, rfl, _⟩ := h; rfl) | (obtain ⟨_, _, rfl, _⟩ := h; rfl) | (obtain ⟨_, _, _, rfl, _⟩ := h; rfl) | (obtain ⟨_, _, _, _, rfl, _⟩ := h; rfl) | (obtain ⟨_, _, _, _, _, rfl, _⟩ := h; rfl)) F4 C__law_draw b_len
  have C__law_pick := Cal.mk' F4 D4 (He.glo_ok X G (c.fact 4 (f := .glo "_law_pick") rfl)) fun _ _ _ _ _ _ us hl => match us, hl with | [_, _], _ => rfl
  have D5 : DFn GG P w K mg base 2 _ fd5 ["_law_deck_here", "_law_size", "_law_least", "_law_most"] (spRow LW.KS) := ok__law_row LW.pure__law_row (fun ds M P PX h => by first | (obtain ⟨_, rfl, _⟩ := h; rfl) | (obtain ⟨_, _, rfl, _⟩ := h; rfl) | (obtain ⟨_, _, _, rfl, _⟩ := h; rfl) | (obtain ⟨_, _, _, _, rfl, _⟩ := h; rfl) | (obtain ⟨_, _, _, _, _, rfl, _⟩ := h; rfl)) F5 C__law_draw b_tuple b_range
  have C__law_row := Cal.mk' F5 D5 (He.glo_ok X G (c.fact 5 (f := .glo "_law_row") rfl)) fun _ _ _ _ _ _ us hl => match us, hl with | [_, _, _, _], _ => rfl
  have D6 : DFn GG P w K mg base 3 _ fd6 ["_law_deck_here", "_law_size"] (spPump LW.KS) := ok__law_pump LW.pure__law_pump (fun ds M P PX h => by first | (obtain ⟨_, rfl, _⟩ := h; rfl) | (obtain ⟨_, _, rfl, _⟩ := h; rfl) | (obtain ⟨_, _, _, rfl, _⟩ := h; rfl) | (obtain ⟨_, _, _, _, rfl, _⟩ := h; rfl) | (obtain ⟨_, _, _, _, _, rfl, _⟩ := h; rfl)) F6 C__law_pick C__law_row C__law_draw
  have C__law_pump := Cal.mk' F6 D6 (He.glo_ok X G (c.fact 6 (f := .glo "_law_pump") rfl)) fun _ _ _ _ _ _ us hl => match us, hl with | [_, _], _ => rfl
  have D7 : DFn GG P w K mg base 1 _ fd7 ["_law_size", "_law_it", "_law_n"] spDueG := ok__law_due LW.pure__law_due (fun ds M P PX h => by first | (obtain ⟨_, rfl, _⟩ := h; rfl) | (obtain ⟨_, _, rfl, _⟩ := h; rfl) | (obtain ⟨_, _, _, rfl, _⟩ := h; rfl) | (obtain ⟨_, _, _, _, rfl, _⟩ := h; rfl) | (obtain ⟨_, _, _, _, _, rfl, _⟩ := h; rfl)) F7 b_list b_range b_tuple
  have C__law_due := Cal.mk' F7 D7 (He.glo_ok X G (c.fact 7 (f := .glo "_law_due") rfl)) fun _ _ _ _ _ _ us hl => match us, hl with | [_, _, _], _ => rfl
  have C__law_due := Cal.imp (sp' := spDue) C__law_due (forget due_forget)
  have D8 : DFn GG P w K mg base 1 _ fd8 ["_law_size", "_law_row_here", "_law_part"] spRest := ok__law_rest LW.pure__law_rest (fun ds M P PX h => by first | (obtain ⟨_, rfl, _⟩ := h; rfl) | (obtain ⟨_, _, rfl, _⟩ := h; rfl) | (obtain ⟨_, _, _, rfl, _⟩ := h; rfl) | (obtain ⟨_, _, _, _, rfl, _⟩ := h; rfl) | (obtain ⟨_, _, _, _, _, rfl, _⟩ := h; rfl)) F8 b_int
  have C__law_rest := Cal.mk' F8 D8 (He.glo_ok X G (c.fact 8 (f := .glo "_law_rest") rfl)) fun _ _ _ _ _ _ us hl => match us, hl with | [_, _, _], _ => rfl
  have D9 : DFn GG P w K mg base 1 _ fd9 ["_law_size", "_law_part"] spOrd := ok__law_order LW.pure__law_order (fun ds M P PX h => by first | (obtain ⟨_, rfl, _⟩ := h; rfl) | (obtain ⟨_, _, rfl, _⟩ := h; rfl) | (obtain ⟨_, _, _, rfl, _⟩ := h; rfl) | (obtain ⟨_, _, _, _, rfl, _⟩ := h; rfl) | (obtain ⟨_, _, _, _, _, rfl, _⟩ := h; rfl)) F9 b_int
  have C__law_order := Cal.mk' F9 D9 (He.glo_ok X G (c.fact 9 (f := .glo "_law_order") rfl)) fun _ _ _ _ _ _ us hl => match us, hl with | [_, _], _ => rfl
  have D10 : DFn GG P w K mg base 1 _ fd10 ["_law_one", "_law_two"] spPri := ok__law_is_prime_to LW.pure__law_is_prime_to (fun ds M P PX h => by first | (obtain ⟨_, rfl, _⟩ := h; rfl) | (obtain ⟨_, _, rfl, _⟩ := h; rfl) | (obtain ⟨_, _, _, rfl, _⟩ := h; rfl) | (obtain ⟨_, _, _, _, rfl, _⟩ := h; rfl) | (obtain ⟨_, _, _, _, _, rfl, _⟩ := h; rfl)) F10 b_int
  have C__law_is_prime_to := Cal.mk' F10 D10 (He.glo_ok X G (c.fact 10 (f := .glo "_law_is_prime_to") rfl)) fun _ _ _ _ _ _ us hl => match us, hl with | [_, _], _ => rfl
  have D11 : DFn GG P w K mg base 3 _ fd11 ["_law_deck_here", "_law_size", "_law_it"] (spRight LW.KS) := ok__law_right LW.pure__law_right (fun ds M P PX h => by first | (obtain ⟨_, rfl, _⟩ := h; rfl) | (obtain ⟨_, _, rfl, _⟩ := h; rfl) | (obtain ⟨_, _, _, rfl, _⟩ := h; rfl) | (obtain ⟨_, _, _, _, rfl, _⟩ := h; rfl) | (obtain ⟨_, _, _, _, _, rfl, _⟩ := h; rfl)) F11 C__law_draw C__law_due C_pump_rows C__law_is_prime_to C__law_order C__law_rest CK0 b_repr b_range
  have C__law_right := Cal.mk' F11 D11 (He.glo_ok X G (c.fact 11 (f := .glo "_law_right") rfl)) fun _ _ _ _ _ _ us hl => match us, hl with | [_, _, _], _ => rfl
  have D12 : DFn GG P w K mg base 4 _ fd12 ["_law_script"] LW.spLaw := ok_law LW.pure_law (fun ds M P PX h => by first | (obtain ⟨_, rfl, _⟩ := h; rfl) | (obtain ⟨_, _, rfl, _⟩ := h; rfl) | (obtain ⟨_, _, _, rfl, _⟩ := h; rfl) | (obtain ⟨_, _, _, _, rfl, _⟩ := h; rfl) | (obtain ⟨_, _, _, _, _, rfl, _⟩ := h; rfl)) F12 C__law_deck C__law_pick C__law_right C__law_pump b_range
  exact D12
end HD
open PySem PySem.W PySem.Calls PyProof.Rows
theorem PySem.Challenge.cw_anybase_k27_rows_of_pumps_holds : PySem.Challenge.rw_anybase_k27_rows_of_pumps.Holds := by
  w_on; o_law
  refine HandSHeadRun.head_any (r := OpenLaw.row PySem.Challenge.rw_anybase_k27_rows_of_pumps) (q := view (OpenLaw.row PySem.Challenge.rw_anybase_k27_rows_of_pumps).prog [17]) (H := HD.hk) (ob := HD.ob) (M := 600) (loose := ["POWER", "DIGIT", "rows_of_pump", "pump_rows", "_law_deck", "_law_draw", "_law_pick", "_law_row", "_law_pump", "_law_due", "_law_rest", "_law_order", "_law_is_prime_to", "_law_right"]) (d := HandSHeadRun.topDef (OpenLaw.row PySem.Challenge.rw_anybase_k27_rows_of_pumps).prog 17) (kwd := []) HD.ob_eq
    (by kernel_rfl) (fun s => by kernel_rfl) HD.run (by kernel_rfl) (by kernel_rfl) (by kernel_rfl) (by rfl) (by first | assumption | decide +kernel) (by decide +kernel) ⟨rfl, rfl, rfl, rfl, rfl, by decide +kernel⟩ ?hw ?hc
  case hw => w_witness2
  case hc =>
    refine DL.walk_ofG (l := PySem.Challenge.rw_anybase_k27_rows_of_pumps) (n := 63) (k := 4) (x := "_law_script") rfl (by decide) (by kernel_rfl) ⟨rfl, by decide, by decide⟩ ?F
    intro w mg fa h Y G hmg0
    obtain ⟨K, KX, c⟩ := Y
    have hmg : mg ("law" : PySem.Str) = some (.ref fa) := by
      have e : (HandSHeadRun.topDef (OpenLaw.row PySem.Challenge.rw_anybase_k27_rows_of_pumps).prog 17).name = ("law" : PySem.Str) := by kernel_rfl
      rw [← e]
      exact hmg0
    obtain ⟨fd, hb, hF⟩ := HD.facts (P := (PySem.Challenge.rw_anybase_k27_rows_of_pumps).prog) (w := w) KX G hmg c
    exact ⟨K, fd, LW.spLaw, KX, hb, LW.law_start, hF⟩


