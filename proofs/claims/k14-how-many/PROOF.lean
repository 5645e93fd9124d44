import PyProof.Rows.All
import Wide.All
import OpenK.AllK
import Wide.FinOn
import HandS.ForMost
import HandS.TupAny
import HandS.TupMul
import HandS.Flow
import HandS.Wide
import HandS.Deep
import HandS.Exc
import HandS.Star
import HandS.Walk
import KE.KUnpackStar
import HandS.Style
import HandS.HeadEnd
import HandS.Head2
import HandS.HeadHook2
import HandS.Defaults
import PyProof.ReprLen
import HandS.TupLen
import HandS.SetKeys
import HandS.IsInst
import HandS.RaiseMore
import HandS.Zip
import HandS.DictComp
import KE.KCallOwn
import KE.KOpsOwn
import OpenK.KMeth
import OpenK.KOps
import KE.GoesEnum
import KE.GoesMore
import KE.GoesZip
import PySem.Challenge.RW_anybase_k14_how_many
import HandS.HeadHook1
set_option Elab.async false
set_option linter.all false
set_option maxRecDepth 100000
set_option maxHeartbeats 0
/-! DL: a layer over trees of data -/
namespace DL
open PySem PySem.Spec PyProof.Rows L2

/-! ### data: immutable things are trees, things that change are addresses -/
inductive D where
  | non | bl (b : Bool) | int (i : Int) | str (x : Str) | ty (n : String) | ref (a : Addr)
  | tup (ds : List D) | lst (ds : List D) | scr (ds : List D) | obj (C : Addr) (fs : List (Str × D))
  | dct (kvs : List (Key × D)) | dtt (kvs : List (List Key × D))

/-- what stands in the store of things that change -/
inductive MO where
  | lst (ds : List D) | dct (kvs : List (Key × D)) | dtt (kvs : List (List Key × D)) | ins (C : Addr) (fs : List (Str × D)) | deck (c : Addr) (ks : List Key) | cell

abbrev Ev := Nat → Option D
abbrev Mm := Addr → Option MO
abbrev Fz := PySem.W.Frag
abbrev Sx := L2.St

def Ext (H H' : Hp) : Prop := ∀ a o, H a = some o → H' a = some o
theorem Ext.refl (H : Hp) : Ext H H := fun _ _ h => h
theorem Ext.trans {H H1 H2 : Hp} (a : Ext H H1) (b : Ext H1 H2) : Ext H H2 := fun x o h => b x o (a x o h)
theorem Ext.new {H : Hp} {p : Addr} {o : HO} (h : H p = none) : Ext H (upd H p o) := fun a u e => (upd_ne (ne_of_none e h)).trans e
theorem Ext.rd {H H' : Hp} {a : Addr} {u : HO} (e : Ext H H') (h : Rd H a u) : Rd H' a u := h.imp (e a _) fun ⟨o, q⟩ => ⟨o, e a _ q⟩
theorem Ext.sqL {K : Fz} {H H' : Hp} {a : Addr} {xs : List V} (e : Ext H H') (h : SqL K H a xs) : SqL K H' a xs := h.imp e.rd id
theorem Ext.sqT {K : Fz} {H H' : Hp} {a : Addr} {xs : List V} (e : Ext H H') (h : SqT K H a xs) : SqT K H' a xs := h.imp e.rd id

mutual
inductive Rp (K : Fz) (H : Hp) : V → D → Prop
  | non : Rp K H .non .non
  | bl (b : Bool) : Rp K H (.bl b) (.bl b)
  | int (i : Int) : Rp K H (.int i) (.int i)
  | str (x : Str) : Rp K H (.str x) (.str x)
  | ty (n : String) : Rp K H (.ty n) (.ty n)
  | ref (a : Addr) : Rp K H (.ref a) (.ref a)
  | tup {a : Addr} {vs : List V} {ds : List D} : H a = some (.tup vs) → Rps K H vs ds → Rp K H (.ref a) (.tup ds)
  | lst {a : Addr} {vs : List V} {ds : List D} : H a = some (.lst vs) → Rps K H vs ds → Rp K H (.ref a) (.lst ds)
  | scr {a : Addr} {vs : List V} {ds : List D} : SqL K H a vs → Rps K H vs ds → Rp K H (.ref a) (.scr ds)
  | obj {a C dx : Addr} {gs : List (Str × V)} {fs : List (Str × D)} : H a = some (.ins C dx gs) → Rfs K H gs fs → Rp K H (.ref a) (.obj C fs)
  | dct {a : Addr} {gs : List (Key × V)} {fs : List (Key × D)} : H a = some (.dK gs) → Rkk K H gs fs → Rp K H (.ref a) (.dct fs)
  | dtt {a : Addr} {gs : List (List Key × V)} {fs : List (List Key × D)} : H a = some (.dT gs) → Rkt K H gs fs → Rp K H (.ref a) (.dtt fs)
inductive Rps (K : Fz) (H : Hp) : List V → List D → Prop
  | nil : Rps K H [] []
  | cons {v : V} {vs : List V} {d : D} {ds : List D} : Rp K H v d → Rps K H vs ds → Rps K H (v :: vs) (d :: ds)
inductive Rfs (K : Fz) (H : Hp) : List (Str × V) → List (Str × D) → Prop
  | nil : Rfs K H [] []
  | cons {f : Str} {v : V} {vs : List (Str × V)} {d : D} {ds : List (Str × D)} : Rp K H v d → Rfs K H vs ds → Rfs K H ((f, v) :: vs) ((f, d) :: ds)
inductive Rkk (K : Fz) (H : Hp) : List (Key × V) → List (Key × D) → Prop
  | nil : Rkk K H [] []
  | cons {f : Key} {v : V} {vs : List (Key × V)} {d : D} {ds : List (Key × D)} : Rp K H v d → Rkk K H vs ds → Rkk K H ((f, v) :: vs) ((f, d) :: ds)
inductive Rkt (K : Fz) (H : Hp) : List (List Key × V) → List (List Key × D) → Prop
  | nil : Rkt K H [] []
  | cons {f : List Key} {v : V} {vs : List (List Key × V)} {d : D} {ds : List (List Key × D)} : Rp K H v d → Rkt K H vs ds → Rkt K H ((f, v) :: vs) ((f, d) :: ds)
end
inductive Rks (K : Fz) (H : Hp) {κ : Type} : List (κ × V) → List (κ × D) → Prop
  | nil : Rks K H [] []
  | cons {k : κ} {v : V} {vs : List (κ × V)} {d : D} {ds : List (κ × D)} : Rp K H v d → Rks K H vs ds → Rks K H ((k, v) :: vs) ((k, d) :: ds)

section
variable {K : Fz} {H H' : Hp}
mutual
theorem Rp.mono (e : Ext H H') : ∀ {v : V} {d : D}, Rp K H v d → Rp K H' v d
  | _, _, .non => .non
  | _, _, .bl b => .bl b
  | _, _, .int i => .int i
  | _, _, .str x => .str x
  | _, _, .ty n => .ty n
  | _, _, .ref a => .ref a
  | _, _, .tup h r => .tup (e _ _ h) (Rps.mono e r)
  | _, _, .lst h r => .lst (e _ _ h) (Rps.mono e r)
  | _, _, .scr h r => .scr (e.sqL h) (Rps.mono e r)
  | _, _, .obj h r => .obj (e _ _ h) (Rfs.mono e r)
  | _, _, .dct h r => .dct (e _ _ h) (Rkk.mono e r)
  | _, _, .dtt h r => .dtt (e _ _ h) (Rkt.mono e r)
theorem Rps.mono (e : Ext H H') : ∀ {v : List V} {d : List D}, Rps K H v d → Rps K H' v d
  | _, _, .nil => .nil
  | _, _, .cons h r => .cons (Rp.mono e h) (Rps.mono e r)
theorem Rfs.mono (e : Ext H H') : ∀ {v : List (Str × V)} {d : List (Str × D)}, Rfs K H v d → Rfs K H' v d
  | _, _, .nil => .nil
  | _, _, .cons h r => .cons (Rp.mono e h) (Rfs.mono e r)
theorem Rkk.mono (e : Ext H H') : ∀ {v : List (Key × V)} {d : List (Key × D)}, Rkk K H v d → Rkk K H' v d
  | _, _, .nil => .nil
  | _, _, .cons h r => .cons (Rp.mono e h) (Rkk.mono e r)
theorem Rkt.mono (e : Ext H H') : ∀ {v : List (List Key × V)} {d : List (List Key × D)}, Rkt K H v d → Rkt K H' v d
  | _, _, .nil => .nil
  | _, _, .cons h r => .cons (Rp.mono e h) (Rkt.mono e r)
end
theorem Rkk.ks : ∀ {v : List (Key × V)} {d : List (Key × D)}, Rkk K H v d → Rks K H v d
  | _, _, .nil => .nil
  | _, _, .cons h r => .cons h r.ks
theorem Rks.kk : ∀ {v : List (Key × V)} {d : List (Key × D)}, Rks K H v d → Rkk K H v d
  | _, _, .nil => .nil
  | _, _, .cons h r => .cons h r.kk
theorem Rkt.ks : ∀ {v : List (List Key × V)} {d : List (List Key × D)}, Rkt K H v d → Rks K H v d
  | _, _, .nil => .nil
  | _, _, .cons h r => .cons h r.ks
theorem Rks.kt : ∀ {v : List (List Key × V)} {d : List (List Key × D)}, Rks K H v d → Rkt K H v d
  | _, _, .nil => .nil
  | _, _, .cons h r => .cons h r.kt
theorem Rks.mono {κ : Type} (e : Ext H H') : ∀ {v : List (κ × V)} {d : List (κ × D)}, Rks K H v d → Rks K H' v d
  | _, _, .nil => .nil
  | _, _, .cons h r => .cons (h.mono e) (r.mono e)
theorem Rps.len : ∀ {vs : List V} {ds : List D}, Rps K H vs ds → vs.length = ds.length
  | _, _, .nil => rfl
  | _, _, .cons _ r => congrArg Nat.succ r.len
theorem Rps.app : ∀ {vs ws : List V} {ds es : List D}, Rps K H vs ds → Rps K H ws es → Rps K H (vs ++ ws) (ds ++ es)
  | _, _, _, _, .nil, s => s
  | _, _, _, _, .cons h r, s => .cons h (r.app s)
theorem Rps.take : ∀ {vs : List V} {ds : List D} (n : Nat), Rps K H vs ds → Rps K H (vs.take n) (ds.take n)
  | _, _, 0, _ => .nil
  | _, _, _ + 1, .nil => .nil
  | _, _, n + 1, .cons h r => .cons h (r.take n)
theorem Rps.drop : ∀ {vs : List V} {ds : List D} (n : Nat), Rps K H vs ds → Rps K H (vs.drop n) (ds.drop n)
  | _, _, 0, r => r
  | _, _, _ + 1, .nil => .nil
  | _, _, n + 1, .cons _ r => r.drop n
theorem Rps.get : ∀ {vs : List V} {ds : List D} {i : Nat} {d : D}, Rps K H vs ds → ds[i]? = some d → ∃ v, vs[i]? = some v ∧ Rp K H v d
  | _, _, _, _, .nil, h => by simp at h
  | _, _, 0, _, .cons h _, e => by
    simp at e
    subst e
    exact ⟨_, rfl, h⟩
  | _, _, i + 1, _, .cons _ r, e => by
    obtain ⟨v, h1, h2⟩ := r.get (i := i) (by simpa using e)
    exact ⟨v, by simpa using h1, h2⟩
theorem Rps.set {v : V} {d : D} (h : Rp K H v d) : ∀ {vs : List V} {ds : List D} (i : Nat), Rps K H vs ds → Rps K H (vs.set i v) (ds.set i d)
  | _, _, _, .nil => .nil
  | _, _, 0, .cons _ r => .cons h r
  | _, _, i + 1, .cons g r => .cons g (Rps.set h i r)
theorem Rps.rev : ∀ {vs : List V} {ds : List D}, Rps K H vs ds → Rps K H vs.reverse ds.reverse
  | _, _, .nil => .nil
  | _, _, .cons h r => by
    rw [List.reverse_cons, List.reverse_cons]
    exact r.rev.app (.cons h .nil)
theorem Rps.ofInts : ∀ {vs : List V} {ns : List Int}, Rps K H vs (ns.map D.int) → vs = ns.map V.int
  | _, [], .nil => rfl
  | _, n :: ns, .cons h r => by
    cases h
    rw [Rps.ofInts r]
    rfl
theorem Rps.ints : ∀ (ns : List Int), Rps K H (ns.map V.int) (ns.map D.int)
  | [] => .nil
  | n :: ns => .cons (.int n) (Rps.ints ns)
theorem Rps.ofBls : ∀ {vs : List V} {ns : List Bool}, Rps K H vs (ns.map D.bl) → vs = ns.map V.bl
  | _, [], .nil => rfl
  | _, n :: ns, .cons h r => by
    cases h
    rw [Rps.ofBls r]
    rfl
theorem Rps.rep : ∀ {vs : List V} {ds : List D} (n : Nat), Rps K H vs ds → Rps K H (List.replicate n vs).flatten (List.replicate n ds).flatten
  | _, _, 0, _ => .nil
  | _, _, n + 1, r => by
    rw [List.replicate_succ, List.replicate_succ, List.flatten_cons, List.flatten_cons]
    exact r.app (r.rep n)
theorem Rps.dropLast {vs : List V} {ds : List D} (r : Rps K H vs ds) : Rps K H vs.dropLast ds.dropLast := by
  rw [List.dropLast_eq_take, List.dropLast_eq_take, r.len]
  exact r.take _
end

/-! ### the store over the heap -/
def MRep (K : Fz) (Hf : Hp) (H : Hp) (a : Addr) : MO → Prop
  | .lst ds => ∃ vs, H a = some (.lst vs) ∧ Rps K Hf vs ds
  | .dct kvs => ∃ ws, H a = some (.dK ws) ∧ Rks K Hf ws kvs
  | .dtt kvs => ∃ ws, H a = some (.dT ws) ∧ Rks K Hf ws kvs
  | .ins C fs => ∃ dx gs, H a = some (.ins C dx gs) ∧ H dx = some (.own a) ∧ Hf dx = none ∧ Rfs K Hf gs fs
  | .deck c ks => ∃ f : Key → Int, H a = some (.dK (((Sum.inr "cells" : Key), V.ref c) :: ks.map fun k => (k, V.int (f k))))
  | .cell => ∃ ns : List Int, ns.length ≤ 63 ∧ H a = some (.lst (ns.map V.int))
structure HM (K : Fz) (Hf : Hp) (M : Mm) (H : Hp) : Prop where
  sub : Ext Hf H
  mu : ∀ a mo, M a = some mo → Hf a = none ∧ MRep K Hf H a mo
def um (M : Mm) (a : Addr) (o : MO) : Mm := fun b => if b = a then some o else M b
theorem um_same {M : Mm} {a : Addr} {o : MO} : um M a o a = some o := if_pos rfl
theorem um_ne {M : Mm} {a b : Addr} {o : MO} (h : b ≠ a) : um M a o b = M b := if_neg h
theorem um_um {M : Mm} {a : Addr} {o u : MO} : um (um M a o) a u = um M a u := by
  funext b
  unfold um
  split <;> rfl
section
variable {K : Fz} {Hf H : Hp} {M : Mm} {a : Addr}
theorem HM.hit (h : HM K Hf M H) {mo : MO} (e : M a = some mo) : ∃ o, H a = some o := by
  have q := (h.mu a mo e).2
  cases mo with
  | lst ds => exact ⟨_, q.choose_spec.1⟩
  | dct kvs => exact ⟨_, q.choose_spec.1⟩
  | dtt kvs => exact ⟨_, q.choose_spec.1⟩
  | ins C fs =>
    obtain ⟨_, _, q, _⟩ := q
    exact ⟨_, q⟩
  | deck c ks => exact ⟨_, q.choose_spec⟩
  | cell => exact ⟨_, q.choose_spec.2⟩
theorem HM.none_of (h : HM K Hf M H) (e : H a = none) : M a = none := by
  cases q : M a with
  | none => rfl
  | some mo =>
    obtain ⟨o, z⟩ := h.hit q
    rw [e] at z
    cases z
theorem HM.fr_none (h : HM K Hf M H) (e : H a = none) : Hf a = none := by
  cases q : Hf a with
  | none => rfl
  | some o =>
    rw [h.sub a o q] at e
    cases e
/-- a new frozen thing -/
theorem HM.newF (h : HM K Hf M H) {p : Addr} {o : HO} (e : H p = none) : Ext Hf (upd Hf p o) ∧ HM K (upd Hf p o) M (upd H p o) := by
  have e1 : Ext Hf (upd Hf p o) := Ext.new (h.fr_none e)
  have ne : ∀ {b : Addr} {u : HO}, H b = some u → b ≠ p := fun hb z => by
    rw [z, e] at hb
    cases hb
  refine ⟨e1, fun b u hb => ?_, fun b mo hb => ?_⟩
  · by_cases z : b = p
    · rw [z, upd_same] at hb ⊢
      exact hb
    · rw [upd_ne z] at hb ⊢
      exact h.sub b u hb
  · obtain ⟨u, hu⟩ := h.hit hb
    obtain ⟨h1, h2⟩ := h.mu b mo hb
    refine ⟨(upd_ne (ne hu)).trans h1, ?_⟩
    cases mo with
    | lst ds =>
      obtain ⟨vs, q1, q2⟩ := h2
      exact ⟨vs, (upd_ne (ne q1)).trans q1, q2.mono e1⟩
    | dct kvs =>
      obtain ⟨vs, q1, q2⟩ := h2
      exact ⟨vs, (upd_ne (ne q1)).trans q1, q2.mono e1⟩
    | dtt kvs =>
      obtain ⟨vs, q1, q2⟩ := h2
      exact ⟨vs, (upd_ne (ne q1)).trans q1, q2.mono e1⟩
    | ins C fs =>
      obtain ⟨dx, gs, q1, q2, q3, q4⟩ := h2
      exact ⟨dx, gs, (upd_ne (ne q1)).trans q1, (upd_ne (ne q2)).trans q2, (upd_ne (ne q2)).trans q3, q4.mono e1⟩
    | deck c ks =>
      obtain ⟨kvs, q1⟩ := h2
      exact ⟨kvs, (upd_ne (ne q1)).trans q1⟩
    | cell =>
      obtain ⟨kvs, q0, q1⟩ := h2
      exact ⟨kvs, q0, (upd_ne (ne q1)).trans q1⟩
/-- what the store says of b stays where the object at a is another one now, a no part of b's -/
theorem MRep.keep {o : HO} {mo : MO} {b : Addr} {u : HO} (hne : b ≠ a) (ha : H a = some u) (hn : ∀ x, u ≠ .own x) (h2 : MRep K Hf H b mo) : MRep K Hf (upd H a o) b mo := by
  cases mo with
  | lst ds =>
    obtain ⟨vs, q1, q2⟩ := h2
    exact ⟨vs, (upd_ne hne).trans q1, q2⟩
  | dct kvs =>
    obtain ⟨vs, q1, q2⟩ := h2
    exact ⟨vs, (upd_ne hne).trans q1, q2⟩
  | dtt kvs =>
    obtain ⟨vs, q1, q2⟩ := h2
    exact ⟨vs, (upd_ne hne).trans q1, q2⟩
  | ins C fs =>
    obtain ⟨dx, gs, q1, q2, q3, q4⟩ := h2
    refine ⟨dx, gs, (upd_ne hne).trans q1, (upd_ne fun z => ?_).trans q2, q3, q4⟩
    rw [z, ha] at q2
    exact hn _ (Option.some.inj q2)
  | deck c ks =>
    obtain ⟨kvs, q1⟩ := h2
    exact ⟨kvs, (upd_ne hne).trans q1⟩
  | cell =>
    obtain ⟨kvs, q0, q1⟩ := h2
    exact ⟨kvs, q0, (upd_ne hne).trans q1⟩
/-- a thing that changes is another one -/
theorem HM.write (h : HM K Hf M H) {o u : HO} {mo mo' : MO} (hm : M a = some mo) (ha : H a = some u) (hn : ∀ x, u ≠ .own x) (new : MRep K Hf (upd H a o) a mo') : HM K Hf (um M a mo') (upd H a o) := by
  have fa : Hf a = none := (h.mu a mo hm).1
  refine ⟨fun b w hb => ?_, fun b m hb => ?_⟩
  · have : b ≠ a := fun z => by
      rw [z, fa] at hb
      cases hb
    rw [upd_ne this]
    exact h.sub b w hb
  · by_cases z : b = a
    · subst z
      rw [um_same] at hb
      cases hb
      exact ⟨fa, new⟩
    · rw [um_ne z] at hb
      obtain ⟨h1, h2⟩ := h.mu b m hb
      exact ⟨h1, h2.keep z ha hn⟩
/-- a new thing that changes -/
theorem HM.newM (h : HM K Hf M H) {o : HO} {mo : MO} (e : H a = none) (new : MRep K Hf (upd H a o) a mo) : HM K Hf (um M a mo) (upd H a o) := by
  have fa : Hf a = none := h.fr_none e
  have ne : ∀ {b : Addr} {u : HO}, H b = some u → b ≠ a := fun hb z => by
    rw [z, e] at hb
    cases hb
  refine ⟨fun b w hb => ?_, fun b m hb => ?_⟩
  · rw [upd_ne (ne (h.sub b w hb))]
    exact h.sub b w hb
  · by_cases z : b = a
    · subst z
      rw [um_same] at hb
      cases hb
      exact ⟨fa, new⟩
    · rw [um_ne z] at hb
      obtain ⟨h1, h2⟩ := h.mu b m hb
      refine ⟨h1, ?_⟩
      cases m with
      | lst ds =>
        obtain ⟨vs, q1, q2⟩ := h2
        exact ⟨vs, (upd_ne z).trans q1, q2⟩
      | dct kvs =>
        obtain ⟨vs, q1, q2⟩ := h2
        exact ⟨vs, (upd_ne z).trans q1, q2⟩
      | dtt kvs =>
        obtain ⟨vs, q1, q2⟩ := h2
        exact ⟨vs, (upd_ne z).trans q1, q2⟩
      | ins C fs =>
        obtain ⟨dx, gs, q1, q2, q3, q4⟩ := h2
        exact ⟨dx, gs, (upd_ne z).trans q1, (upd_ne (ne q2)).trans q2, q3, q4⟩
      | deck c ks =>
        obtain ⟨kvs, q1⟩ := h2
        exact ⟨kvs, (upd_ne z).trans q1⟩
      | cell =>
        obtain ⟨kvs, q0, q1⟩ := h2
        exact ⟨kvs, q0, (upd_ne z).trans q1⟩
/-- a thing that does not change any more is forgotten by the store, or frozen -/
def dm (M : Mm) (a : Addr) : Mm := fun b => if b = a then none else M b
theorem dm_ne {b : Addr} (h : b ≠ a) : dm M a b = M b := if_neg h
theorem dm_same : dm M a a = none := if_pos rfl
theorem HM.freeze (h : HM K Hf M H) {o : HO} {mo : MO} (hm : M a = some mo) (ha : H a = some o) (hn : ∀ x, o ≠ .own x) : Ext Hf (upd Hf a o) ∧ HM K (upd Hf a o) (dm M a) H := by
  have fa : Hf a = none := (h.mu a mo hm).1
  have e1 : Ext Hf (upd Hf a o) := Ext.new fa
  refine ⟨e1, fun b w hb => ?_, fun b m hb => ?_⟩
  · by_cases z : b = a
    · rw [z, upd_same] at hb
      rw [z, ha]
      exact hb
    · rw [upd_ne z] at hb
      exact h.sub b w hb
  · have z : b ≠ a := fun z => by
      rw [z, dm_same] at hb
      cases hb
    rw [dm_ne z] at hb
    obtain ⟨h1, h2⟩ := h.mu b m hb
    refine ⟨(upd_ne z).trans h1, ?_⟩
    cases m with
    | lst ds =>
      obtain ⟨vs, q1, q2⟩ := h2
      exact ⟨vs, q1, q2.mono e1⟩
    | dct kvs =>
      obtain ⟨vs, q1, q2⟩ := h2
      exact ⟨vs, q1, q2.mono e1⟩
    | dtt kvs =>
      obtain ⟨vs, q1, q2⟩ := h2
      exact ⟨vs, q1, q2.mono e1⟩
    | ins C fs =>
      obtain ⟨dx, gs, q1, q2, q3, q4⟩ := h2
      refine ⟨dx, gs, q1, q2, (upd_ne fun y => ?_).trans q3, q4.mono e1⟩
      rw [y, ha] at q2
      exact hn _ (Option.some.inj q2)
    | deck c ks => exact h2
    | cell => exact h2
end

/-! ### slots -/
def gt (ρ : Ev) (i : Nat) : Option D := ρ i
def st (ρ : Ev) (i : Nat) (d : Option D) : Ev := fun j => bif Nat.beq j i then d else ρ j
structure SR (K : Fz) (ρ : Ev) (M : Mm) (Hf : Hp) (σ : Sx) (H : Hp) : Prop where
  hm : HM K Hf M H
  env : ∀ i d, i < σ.length → gt ρ i = some d → ∃ v, σ[i]? = some (some v) ∧ Rp K Hf v d
theorem gt_same (ρ : Ev) (i : Nat) (d : Option D) : gt (st ρ i d) i = d := by
  show (bif Nat.beq i i then d else ρ i) = d
  rw [Nat.beq_refl]
  rfl
theorem gt_ne (ρ : Ev) (i j : Nat) (d : Option D) (h : i ≠ j) : gt (st ρ i d) j = gt ρ j := by
  show (bif Nat.beq j i then d else ρ j) = ρ j
  have : Nat.beq j i = false := by
    cases q : Nat.beq j i with
    | false => rfl
    | true => exact absurd (Nat.eq_of_beq_eq_true q).symm h
  rw [this]
  rfl
section
variable {K : Fz} {ρ : Ev} {M M' : Mm} {Hf Hf' : Hp} {σ : Sx} {H H' : Hp}
theorem SR.go (s : SR K ρ M Hf σ H) (e : Ext Hf Hf') (h : HM K Hf' M' H') : SR K ρ M' Hf' σ H' :=
  ⟨h, fun i d l q => let ⟨v, h1, h2⟩ := s.env i d l q; ⟨v, h1, h2.mono e⟩⟩
theorem SR.set (s : SR K ρ M Hf σ H) {i : Nat} {v : V} {d : D} (h : Rp K Hf v d) : SR K (st ρ i (some d)) M Hf (σ.set i (some v)) H := by
  refine ⟨s.hm, fun j d' l q => ?_⟩
  rw [List.length_set] at l
  by_cases z : i = j
  · subst z
    rw [gt_same] at q
    cases q
    exact ⟨v, by rw [List.getElem?_set_self l], h⟩
  · rw [gt_ne _ _ _ _ z] at q
    obtain ⟨v', h1, h2⟩ := s.env j d' l q
    exact ⟨v', by rw [List.getElem?_set_ne z]; exact h1, h2⟩
end
/-- what is known of slots -/
def ev (ρ : Ev) : List (Nat × D) → Ev
  | [] => ρ
  | p :: r => fun j => bif Nat.beq j p.1 then some p.2 else ev ρ r j
def Has (ρ : Ev) : List (Nat × D) → Prop
  | [] => True
  | p :: r => ρ p.1 = some p.2 ∧ Has ρ r
theorem Has.ev {ρ : Ev} : ∀ {l : List (Nat × D)}, Has ρ l → ρ = ev ρ l
  | [], _ => rfl
  | p :: r, h => by
    funext j
    show ρ j = bif Nat.beq j p.1 then some p.2 else DL.ev ρ r j
    cases q : Nat.beq j p.1 with
    | true =>
      rw [Nat.eq_of_beq_eq_true q]
      exact h.1
    | false => exact congrFun h.2.ev j
theorem Has.know {ρ : Ev} {l : List (Nat × D)} (h : Has ρ l) : ∃ ρ', ρ = DL.ev ρ' l := ⟨ρ, h.ev⟩

/-! ### wants -/
abbrev XP := Addr → List (Str × D) → Mm → Prop
abbrev DP := D → Mm → Prop
abbrev DE := Ev → Mm → DP → XP → Prop
abbrev DT := Ev → Mm → (Bool → Mm → Prop) → XP → Prop
abbrev DA := Ev → Mm → (List D → Mm → Prop) → XP → Prop
structure DEnds where
  nx : Ev → Mm → Prop
  rt : DP
  bk : Ev → Mm → Prop
  ct : Ev → Mm → Prop
  ex : Ev → XP
abbrev DS := DEnds → Ev → Mm → Prop
/-- an exception of a class at C with its own fields, as it lies -/
def XR (K : Fz) (Hf : Hp) (fs : List (Str × D)) : Option Addr → Prop
  | none => fs = []
  | some dd => ∃ gs, Hf dd = some (.xd gs) ∧ Rfs K Hf gs fs
def FinE (K : Fz) (Hf : Hp) (P : DP) (Q : VK) : Prop := ∀ x M' v Hf' H', P x M' → Ext Hf Hf' → HM K Hf' M' H' → Rp K Hf' v x → Q v H'
def FinX (K : Fz) (Hf : Hp) (σ : Sx) (PX : XP) (W : Value → Option Addr → Sx → Hp → Prop) : Prop := ∀ C fs M' dd Hf' H', PX C fs M' → Ext Hf Hf' → HM K Hf' M' H' → XR K Hf' fs dd → W (.ref C) dd σ H'
abbrev WX' := Value → Option Addr → Sx → Hp → Prop
def liE (K : Fz) (W : WX') (d : DE) : TE := fun σ H Q => ∃ ρ M Hf P PX, SR K ρ M Hf σ H ∧ d ρ M P PX ∧ FinE K Hf P Q ∧ FinX K Hf σ PX W
def liT (K : Fz) (W : WX') (d : DT) : TT := fun σ H Q => ∃ ρ M Hf P PX, SR K ρ M Hf σ H ∧ d ρ M P PX ∧ (∀ x M' Hf' H', P x M' → Ext Hf Hf' → HM K Hf' M' H' → Q x H') ∧ FinX K Hf σ PX W
def liA (K : Fz) (W : WX') (d : DA) : TA := fun σ H Q => ∃ ρ M Hf P PX, SR K ρ M Hf σ H ∧ d ρ M P PX ∧ (∀ x M' v Hf' H', P x M' → Ext Hf Hf' → HM K Hf' M' H' → Rps K Hf' v x → Q v H') ∧ FinX K Hf σ PX W
def FinS (K : Fz) (Hf : Hp) (P : Ev → Mm → Prop) (Q : Sx → Hp → Prop) : Prop := ∀ ρ' M' σ' Hf' H', P ρ' M' → Ext Hf Hf' → SR K ρ' M' Hf' σ' H' → Q σ' H'
structure FinD (K : Fz) (Hf : Hp) (W : WX') (DD : DEnds) (De : Ends) : Prop where
  nx : FinS K Hf DD.nx De.nx
  rt : FinE K Hf DD.rt De.rt
  bk : FinS K Hf DD.bk De.bk
  ct : FinS K Hf DD.ct De.ct
  ex : ∀ ρ C fs M' dd σ' Hf' H', DD.ex ρ C fs M' → Ext Hf Hf' → SR K ρ M' Hf' σ' H' → XR K Hf' fs dd → W (.ref C) dd σ' H'
def liS (K : Fz) (W : WX') (d : DS) : TS := fun De σ H => ∃ ρ M Hf DD, SR K ρ M Hf σ H ∧ d DD ρ M ∧ FinD K Hf W DD De
section
variable {K : Fz} {Hf Hf' : Hp} {W : WX'}
theorem FinE.go {P : DP} {Q : VK} (f : FinE K Hf P Q) (e : Ext Hf Hf') : FinE K Hf' P Q := fun x M' v Hf2 H' h1 h2 => f x M' v Hf2 H' h1 (e.trans h2)
theorem FinX.go {σ : Sx} {PX : XP} (f : FinX K Hf σ PX W) (e : Ext Hf Hf') : FinX K Hf' σ PX W := fun C fs M' dd Hf2 H' h1 h2 => f C fs M' dd Hf2 H' h1 (e.trans h2)
theorem FinS.go {P : Ev → Mm → Prop} {Q : Sx → Hp → Prop} (f : FinS K Hf P Q) (e : Ext Hf Hf') : FinS K Hf' P Q := fun ρ M' σ' Hf2 H' h1 h2 => f ρ M' σ' Hf2 H' h1 (e.trans h2)
theorem FinD.go {DD : DEnds} {De : Ends} (f : FinD K Hf W DD De) (e : Ext Hf Hf') : FinD K Hf' W DD De :=
  ⟨f.nx.go e, f.rt.go e, f.bk.go e, f.ct.go e, fun ρ C fs M' dd σ' Hf2 H' h1 h2 => f.ex ρ C fs M' dd σ' Hf2 H' h1 (e.trans h2)⟩
theorem FinD.x {DD : DEnds} {De : Ends} (f : FinD K Hf W DD De) {ρ : Ev} {M : Mm} {σ : Sx} {H : Hp} (s : SR K ρ M Hf σ H) : FinX K Hf σ (DD.ex ρ) W :=
  fun C fs M' dd Hf' H' h1 h2 h3 h4 => f.ex ρ C fs M' dd σ Hf' H' h1 h2 (s.go h2 h3) h4
end
theorem pe_weak {X : Cx} {e : Expr} {t t' : TE} (h : PE X e t) (w : ∀ σ H Q, t' σ H Q → t σ H Q) : PE X e t' := ⟨fun pins s σ H Q I q => h.run pins s σ H Q I (w σ H Q q)⟩
theorem pt_weak {X : Cx} {e : Expr} {t t' : TT} (h : PT X e t) (w : ∀ σ H Q, t' σ H Q → t σ H Q) : PT X e t' := ⟨fun pins s σ H Q I q => h.run pins s σ H Q I (w σ H Q q)⟩
theorem pw_weak {X : Cx} {e : Expr} {t t' : TT} (h : PW X e t) (w : ∀ σ H Q, t' σ H Q → t σ H Q) : PW X e t' := ⟨fun wh pins s σ H Q I q => h.run wh pins s σ H Q I (w σ H Q q)⟩
theorem pa_weak {X : Cx} {es : List Expr} {t t' : TA} (h : PA X es t) (w : ∀ σ H Q, t' σ H Q → t σ H Q) : PA X es t' := ⟨fun pos pins s σ H Q I q => h.run pos pins s σ H Q I (w σ H Q q)⟩
theorem ps_weak {X : Cx} {e : Stmt} {t t' : TS} (h : PS X e t) (w : ∀ D σ H, t' D σ H → t D σ H) : PS X e t' := ⟨fun pins s σ H Q I q => h.run pins s σ H Q I (w Q σ H q)⟩
theorem pss_weak {X : Cx} {e : List Stmt} {t t' : TS} (h : PSs X e t) (w : ∀ D σ H, t' D σ H → t D σ H) : PSs X e t' := ⟨fun pins s σ H Q I q => h.run pins s σ H Q I (w Q σ H q)⟩
abbrev EJ (X : Cx) (W : WX') (e : Expr) (d : DE) : Prop := PE X e (liE X.K W d)
abbrev TJ (X : Cx) (W : WX') (e : Expr) (d : DT) : Prop := PT X e (liT X.K W d)
abbrev WJ (X : Cx) (W : WX') (e : Expr) (d : DT) : Prop := PW X e (liT X.K W d)
abbrev AJ (X : Cx) (W : WX') (e : List Expr) (d : DA) : Prop := PA X e (liA X.K W d)
abbrev SJ (X : Cx) (W : WX') (e : Stmt) (d : DS) : Prop := PS X e (liS X.K W d)
abbrev BJ (X : Cx) (W : WX') (e : List Stmt) (d : DS) : Prop := PSs X e (liS X.K W d)
end DL

/-! DL: expressions -/
namespace DL
open PySem PySem.Spec PyProof.Rows L2

/-! ### names, constants -/
def dVar (i : Nat) : DE := fun ρ M P _ => match gt ρ i with
  | some d => P d M
  | none => False
def dC (d : D) : DE := fun _ M P _ => P d M
/-- a list that is not changed any more -/
def dVarF (i : Nat) : DE := fun ρ M P _ => match gt ρ i with
  | some (.ref a) => (match M a with
    | some (.lst ds) => P (.lst ds) (dm M a)
    | _ => False)
  | _ => False
section
variable {X : Cx} {W : WX'} {pos : Pos}
theorem ej_var (i : Nat) {x : Str} (hN : X.N[i]? = some x := by rfl) (hv : Vis X.env.scope x := by first | exact Or.inl rfl | exact Or.inr (Or.inl rfl) | exact Or.inr (Or.inr rfl)) (hd : (x == ("__debug__" : Str)) = false := by decide)
    (hcd : (x == ("__classdict__" : Str)) = false := by decide) : EJ X W (.Name x pos) (dVar i) := by
  refine ⟨fun pins s0 σ H Q I ⟨ρ, M, Hf, P, PX, s, d, fe, fx⟩ => (pe_var hN hv hd hcd).run pins s0 σ H Q I ?_⟩
  have hl : i < σ.length := by
    rw [I.len]
    exact (List.getElem?_eq_some_iff.mp hN).1
  unfold dVar at d
  split at d
  · rename_i y e
    obtain ⟨v, h1, h2⟩ := s.env i y hl e
    exact ⟨v, h1, fe y M v Hf H d (Ext.refl _) s.hm h2⟩
  · exact d.elim
theorem ej_varF (i : Nat) {x : Str} (hN : X.N[i]? = some x := by rfl) (hv : Vis X.env.scope x := by first | exact Or.inl rfl | exact Or.inr (Or.inl rfl) | exact Or.inr (Or.inr rfl)) (hd : (x == ("__debug__" : Str)) = false := by decide)
    (hcd : (x == ("__classdict__" : Str)) = false := by decide) : EJ X W (.Name x pos) (dVarF i) := by
  refine ⟨fun pins s0 σ H Q I ⟨ρ, M, Hf, P, PX, s, d, fe, fx⟩ => (pe_var hN hv hd hcd).run pins s0 σ H Q I ?_⟩
  have hl : i < σ.length := by
    rw [I.len]
    exact (List.getElem?_eq_some_iff.mp hN).1
  unfold dVarF at d
  split at d
  · rename_i a e
    split at d
    · rename_i ds em
      obtain ⟨v, h1, h2⟩ := s.env i _ hl e
      cases h2
      obtain ⟨_, vs, q1, q2⟩ := s.hm.mu a _ em
      obtain ⟨e1, m1⟩ := s.hm.freeze em q1 (fun x z => by cases z)
      exact ⟨_, h1, fe _ _ _ _ H d e1 m1 (.lst upd_same (q2.mono e1))⟩
    · exact d.elim
  · exact d.elim
/-- a constant -/
theorem ej_c {e : Expr} {v : V} {y : D} (h : PE X e (tC v)) (r : ∀ K H, Rp K H v y) : EJ X W e (dC y) := pe_weak h fun σ H Q ⟨ρ, M, Hf, P, PX, s, d, fe, fx⟩ => fe y M v Hf H d (Ext.refl _) s.hm (r _ _)
theorem ej_int {i j} : EJ X W (.Constant (.int i) j pos) (dC (.int i)) := ej_c pe_int fun _ _ => .int i
theorem ej_bl {b j} : EJ X W (.Constant (.bool b) j pos) (dC (.bl b)) := ej_c pe_bl fun _ _ => .bl b
theorem ej_non {j} : EJ X W (.Constant .none j pos) (dC .non) := ej_c pe_non fun _ _ => .non
theorem ej_str {x j} : EJ X W (.Constant (.str x) j pos) (dC (.str x)) := ej_c pe_str fun _ _ => .str x
theorem ej_globI {x : Str} {i : Int} {t : Tok} (hg : Gl X x) (hm : X.mg x = some (.int i t)) (hd : (x == ("__debug__" : Str)) = false := by decide) : EJ X W (.Name x pos) (dC (.int i)) := ej_c (pe_glob hg hm (v := .int i) ⟨_, rfl⟩ hd) fun _ _ => .int i
theorem ej_globS {x : Str} {i : Str} {t : Tok} (hg : Gl X x) (hm : X.mg x = some (.str i t)) (hd : (x == ("__debug__" : Str)) = false := by decide) : EJ X W (.Name x pos) (dC (.str i)) := ej_c (pe_glob hg hm (v := .str i) ⟨_, rfl⟩ hd) fun _ _ => .str i
theorem ej_globR {x : Str} {a : Addr} (hg : Gl X x) (hm : X.mg x = some (.ref a)) (hd : (x == ("__debug__" : Str)) = false := by decide) : EJ X W (.Name x pos) (dC (.ref a)) := ej_c (pe_glob hg hm (v := .ref a) rfl hd) fun _ _ => .ref a
end

/-! ### operators by values -/
abbrev RD2 := D → D → Mm → DP → Prop
def R2J (K : Fz) (r : R2) (rD : RD2) : Prop := ∀ {x y : D} {v u : V} {M : Mm} {Hf H : Hp} {P : DP} {Q : VK}, HM K Hf M H → Rp K Hf v x → Rp K Hf u y → rD x y M P → FinE K Hf P Q → r v u H Q
def dOp (r : RD2) (da db : DE) : DE := fun ρ M P PX => da ρ M (fun x M1 => db ρ M1 (fun y M2 => r x y M2 P) PX) PX
theorem opj {K : Fz} {W : WX'} {r : R2} {rD : RD2} {da db : DE} (j : R2J K r rD) : ∀ σ H Q, liE K W (dOp rD da db) σ H Q → tOp r (liE K W da) (liE K W db) σ H Q := fun σ H Q ⟨ρ, M, Hf, P, PX, s, d, fe, fx⟩ =>
  ⟨ρ, M, Hf, _, PX, s, d, fun x M1 v Hf1 H1 d1 e1 m1 r1 => ⟨ρ, M1, Hf1, _, PX, s.go e1 m1, d1, fun y M2 u Hf2 H2 d2 e2 m2 r2 => j m2 (r1.mono e2) r2 d2 (fe.go (e1.trans e2)), fx.go e1⟩, fx⟩
section
variable {X : Cx} {W : WX'} {pos : Pos} {a b : Expr} {da db : DE} {r : R2} {rD : RD2}
theorem ej_op {op : Operator} (ho : OpR X (binaryOp op) r) (j : R2J X.K r rD) (ha : EJ X W a da) (hb : EJ X W b db) : EJ X W (.BinOp a op b pos) (dOp rD da db) := pe_weak (pe_op ho ha hb) (opj j)
theorem ej_cmp {op : CmpOp} (ho : OpR X (compareOp op) r) (j : R2J X.K r rD) (ha : EJ X W a da) (hb : EJ X W b db) (hm : behindInMarks op b = false := by first | exact nobehind _ (by decide) (by decide) | rfl) : EJ X W (.Compare a [op] [b] pos) (dOp rD da db) := pe_weak (pe_cmpR ho ha hb hm) (opj j)
end
/-- one rule or another -/
theorem OpR.or {X : Cx} {f : Value → Value → Sem Value} {r r' : R2} (h : OpR X f r) (h' : OpR X f r') : OpR X f (fun x y H Q => r x y H Q ∨ r' x y H Q) := fun pins s σ H x y v u Q I r1 r2 q =>
  q.elim (h pins s σ H x y v u Q I r1 r2) (h' pins s σ H x y v u Q I r1 r2)

/-! ### ints -/
def rI2 (C : Int → Int → Prop) (g : Int → Int → D) : RD2 := fun x y M P => match x, y with
  | .int i, .int j => C i j ∧ P (g i j) M
  | _, _ => False
theorem rj_i {K : Fz} {C : Int → Int → Prop} {g : Int → Int → V} {g' : Int → Int → D} (h : ∀ H i j, Rp K H (g i j) (g' i j)) : R2J K (rI C g) (rI2 C g') := fun {x y v u M Hf H P Q} m r1 r2 d f => by
  unfold rI2 at d
  split at d
  · cases r1
    cases r2
    exact ⟨_, _, rfl, rfl, d.1, f _ _ _ _ _ d.2 (Ext.refl _) m (h _ _ _)⟩
  · exact d.elim
def rI0' (g : Int → Int → D) : RD2 := fun x y M P => match x, y with
  | .int i, .int j => P (g i j) M
  | _, _ => False
theorem rj_i0 {K : Fz} {g : Int → Int → V} {g' : Int → Int → D} (h : ∀ H i j, Rp K H (g i j) (g' i j)) : R2J K (rI0 g) (rI0' g') := fun {x y v u M Hf H P Q} m r1 r2 d f => by
  unfold rI0' at d
  split at d
  · cases r1
    cases r2
    exact ⟨_, _, rfl, rfl, f _ _ _ _ _ d (Ext.refl _) m (h _ _ _)⟩
  · exact d.elim
/-- a list's items, whether it may change or not -/
def asLs (M : Mm) : D → Option (List D)
  | .lst ds => some ds
  | .ref a => (match M a with
    | some (.lst ds) => some ds
    | _ => none)
  | _ => none
def asL (M : Mm) : D → Option (List D)
  | .scr ds => some ds
  | x => asLs M x
theorem asLs_ok {K : Fz} {M : Mm} {Hf H : Hp} {x : D} {v : V} {ds : List D} (m : HM K Hf M H) (r : Rp K Hf v x) (h : asLs M x = some ds) : ∃ a vs, v = .ref a ∧ H a = some (.lst vs) ∧ Rps K Hf vs ds := by
  unfold asLs at h
  split at h
  · cases h
    cases r with
    | lst h1 h2 => exact ⟨_, _, rfl, m.sub _ _ h1, h2⟩
  · split at h
    · rename_i e
      cases h
      cases r
      obtain ⟨_, vs, q1, q2⟩ := m.mu _ _ e
      exact ⟨_, vs, rfl, q1, q2⟩
    · cases h
  · cases h
theorem asL_ok {K : Fz} {M : Mm} {Hf H : Hp} {x : D} {v : V} {ds : List D} (m : HM K Hf M H) (r : Rp K Hf v x) (h : asL M x = some ds) : ∃ a vs, v = .ref a ∧ SqL K H a vs ∧ Rps K Hf vs ds := by
  unfold asL at h
  split at h
  · cases h
    cases r with
    | scr h1 h2 => exact ⟨_, _, rfl, m.sub.sqL h1, h2⟩
  · obtain ⟨a, vs, h1, h2, h3⟩ := asLs_ok m r h
    exact ⟨a, vs, h1, SqL.of h2, h3⟩
theorem tup_ok {K : Fz} {M : Mm} {Hf H : Hp} {v : V} {ds : List D} (m : HM K Hf M H) (r : Rp K Hf v (.tup ds)) : ∃ a vs, v = .ref a ∧ SqT K H a vs ∧ Rps K Hf vs ds := by
  cases r with
  | tup h1 h2 => exact ⟨_, _, rfl, SqT.of (m.sub _ _ h1), h2⟩
/-- a new thing that stays as it is: what follows -/
theorem FinE.newF {K : Fz} {M : Mm} {Hf H : Hp} {P : DP} {Q : VK} {x : D} {p : Addr} {o : HO} (f : FinE K Hf P Q) (m : HM K Hf M H) (d : P x M) (hp : H p = none) (r : ∀ H', H' p = some o → Ext Hf H' → Rp K H' (.ref p) x) : Q (.ref p) (upd H p o) :=
  let ⟨e1, m1⟩ := m.newF (o := o) hp
  f x M _ _ _ d e1 m1 (r _ upd_same e1)
/-- a + b -/
def rAdd : RD2 := fun x y M P => match x, y with
  | .int i, .int j => P (.int (i + j)) M
  | .str a, .str b => a.length + b.length ≤ sizeLine ∧ P (.str (a ++ b)) M
  | .tup a, .tup b => a.length + b.length ≤ sizeLine ∧ P (.tup (a ++ b)) M
  | x, y => (match asLs M x, asLs M y with
    | some a, some b => a.length + b.length ≤ sizeLine ∧ P (.lst (a ++ b)) M
    | _, _ => False)
theorem Rps.nil_iff {K : Fz} {H : Hp} {vs : List V} {ds : List D} (r : Rps K H vs ds) : vs = [] ↔ ds = [] := by
  cases r <;> simp
theorem op_addJ {X : Cx} : ∃ r, OpR X (binaryOp .Add) r ∧ R2J X.K r rAdd := by
  refine ⟨_, OpR.or op_add (OpR.or op_add_str (OpR.or op_catA op_cat)), fun {x y v u M Hf H P Q} m r1 r2 d f => ?_⟩
  unfold rAdd at d
  split at d
  · cases r1
    cases r2
    exact .inl ⟨_, _, rfl, rfl, f _ _ _ _ _ d (Ext.refl _) m (.int _)⟩
  · cases r1
    cases r2
    exact .inr (.inl ⟨_, _, rfl, rfl, d.1, f _ _ _ _ _ d.2 (Ext.refl _) m (.str _)⟩)
  · obtain ⟨a, vs, rfl, ha, ra⟩ := tup_ok m r1
    obtain ⟨b, ws, rfl, hb, rb⟩ := tup_ok m r2
    refine .inr (.inr (.inl ⟨a, b, vs, ws, rfl, rfl, ha, hb, by rw [ra.len, rb.len]; exact d.1, fun z => ?_, fun z z' => ?_, fun z z' p hp => ?_⟩))
    · have := ra.nil_iff.mp z
      subst this
      exact f _ _ _ _ _ d.2 (Ext.refl _) m r2
    · have := rb.nil_iff.mp z'
      subst this
      rw [List.append_nil] at d
      exact f _ _ _ _ _ d.2 (Ext.refl _) m r1
    · exact f.newF m d.2 hp fun H' h e => .tup h ((ra.mono e).app (rb.mono e))
  · split at d
    · rename_i e1 e2
      obtain ⟨a, vs, rfl, ha, ra⟩ := asLs_ok m r1 e1
      obtain ⟨b, ws, rfl, hb, rb⟩ := asLs_ok m r2 e2
      exact .inr (.inr (.inr ⟨a, b, vs, ws, rfl, rfl, ha, hb, by rw [ra.len, rb.len]; exact d.1, fun p hp => f.newF m d.2 hp fun H' h e => .lst h ((ra.mono e).app (rb.mono e))⟩))
    · exact d.elim
end DL

/-! DL: tuple * int of any size; ints; comparisons -/
namespace DL
open PySem PySem.Spec PyProof.Rows L2
theorem tmul_same (l : Addr) (items : Array Value) (n : Nat) (dd : Option Addr) (sl : Array (Option Value)) (x : Int) (u : Tok) (c0 : (decide (x < -(2 ^ 63)) || decide (x ≥ 2 ^ 63)) = false) (c1 : (items.isEmpty || x == 1) = true) :
    Meets (Builtin.«tuple.__mul__» ⟨[.ref l, .int x u], []⟩) (fun _ R s => s.heap.get? l = some { cls := .type "tuple", dict := dd, data := .seq items n, slots := sl } ∧ R (.ok (.ret (Value.ref l))) s) :=
  .of_wp fun prog w A R s h => by
    obtain ⟨hp, g, d, tk, os⟩ := s
    obtain ⟨hl, h⟩ := h
    have f1 := AutoSeq1.idx_int
    wp_walk using wpAny_loadPart' hl
    repeat (first
      | (refine wpAny_ite_false (decide_eq_false (by rw [c0]; exact Bool.false_ne_true)) ?_; wp_walk using wpAny_loadPart' hl)
      | (refine wpAny_ite_true (decide_eq_true (by rw [c1])) ?_; wp_walk using wpAny_loadPart' hl))
    exact ⟨_, rfl, h⟩
theorem tmul_zero (l : Addr) (items : Array Value) (n : Nat) (dd : Option Addr) (sl : Array (Option Value)) (x : Int) (u : Tok) (c0 : (decide (x < -(2 ^ 63)) || decide (x ≥ 2 ^ 63)) = false) (c1 : (items.isEmpty || x == 1) = false) (c2 : (decide (x ≤ 0) || items.isEmpty) = true) :
    Meets (Builtin.«tuple.__mul__» ⟨[.ref l, .int x u], []⟩) (fun _ R s => s.heap.get? l = some { cls := .type "tuple", dict := dd, data := .seq items n, slots := sl } ∧
      R (.ok (.ret (Value.ref s.heap.objs.size))) { s with heap := s.heap.push { cls := Value.type "tuple", data := Data.seq #[] }, toks := s.toks }) :=
  .of_wp fun prog w A R s h => by
    obtain ⟨hp, g, d, tk, os⟩ := s
    obtain ⟨hl, h⟩ := h
    have f1 := AutoSeq1.idx_int
    wp_walk using wpAny_loadPart' hl
    repeat (first
      | (refine wpAny_ite_false (decide_eq_false (by rw [c0]; exact Bool.false_ne_true)) ?_; wp_walk using wpAny_loadPart' hl)
      | (refine wpAny_ite_false (decide_eq_false (by rw [c1]; exact Bool.false_ne_true)) ?_; wp_walk using wpAny_loadPart' hl)
      | (refine wpAny_ite_true (decide_eq_true (by rw [c2])) ?_; wp_walk using wpAny_loadPart' hl))
    exact ⟨_, rfl, h⟩
def rMulT (K : Fz) : R2 := fun x y H Q => ∃ l k xs, x = .ref l ∧ y = .int k ∧ SqT K H l xs ∧ xs.length ≤ 1000000 ∧ k ≤ 1000000 ∧ -1000000 ≤ k ∧ xs.length * k.toNat ≤ sizeLine ∧
  ((xs = [] ∨ k = 1) → Q (.ref l) H) ∧ (xs ≠ [] → k ≠ 1 → ∀ p, H p = none → Q (.ref p) (upd H p (.tup (List.replicate k.toNat xs).flatten)))
theorem op_mulT {X : Cx} : OpR X (binaryOp .Mult) (rMulT X.K) := by
  intro pins s σ H x y v u Q I rx ry h
  obtain ⟨l, k, xs, rfl, rfl, hT, hl, h1, h2, hz, q1, q2⟩ := h
  cases rx
  obtain ⟨t, rfl⟩ := ry
  obtain ⟨its, r, ⟨⟨cls, dd, data, sl⟩, ho, hc, n, hd⟩, hs⟩ := I.tuple hT
  simp only at hc hd
  subst hc hd
  have hle : its.length = xs.length := r.length.symm
  have hemp : its.toArray.isEmpty = xs.isEmpty := by
    cases r <;> simp
  have c0 : (decide (k < -(2 ^ 63)) || decide (k ≥ 2 ^ 63)) = false := by
    rw [decide_eq_false (by omega), decide_eq_false (by omega)] <;> rfl
  refine wpAny_binaryOp_repeat_ref (T := "tuple") (U := "int") (by decide) ⟨_, ho, rfl⟩ (fun s' => typeIs_int s' k t) noFill_tuple_mul F.fills_int_mul F.slot_int_rmul repeat_tuple F.slot_int_index.lookup
    (call_meets F.slot_int_rmul (typeIs_int s k t) F.entry_int_rmul (F.args_int_rmul_2 _ _) (int_rmul_tuple k t l its.toArray n dd sl) ⟨ho, rfl, ⟨_, ho, rfl⟩, ?_⟩)
  by_cases hw : xs = [] ∨ k = 1
  · have c1 : (its.toArray.isEmpty || k == 1) = true := by
      rw [hemp]
      rcases hw with z | z
      · rw [z]
        rfl
      · rw [z]
        simp
    exact call_meets F.slot_tuple_mul ⟨_, ho, rfl⟩ F.entry_tuple_mul (F.args_tuple_mul_2 _ _) (tmul_same l its.toArray n dd sl k t c0 c1) ⟨ho, .ref l, H, I, rfl, q1 hw⟩
  · have hne : xs ≠ [] := fun z => hw (.inl z)
    have hk1 : k ≠ 1 := fun z => hw (.inr z)
    have he : xs.isEmpty = false := by
      cases xs with
      | nil => exact absurd rfl hne
      | cons _ _ => rfl
    have c1 : (its.toArray.isEmpty || k == 1) = false := by
      rw [hemp, he, Bool.false_or]
      exact beq_eq_false_iff_ne.mpr hk1
    by_cases hk : k ≤ 0
    · have c2 : (decide (k ≤ 0) || its.toArray.isEmpty) = true := by
        rw [decide_eq_true hk]
        rfl
      have hn : k.toNat = 0 := by omega
      have q3 := q2 hne hk1
      rw [hn] at q3
      refine call_meets F.slot_tuple_mul ⟨_, ho, rfl⟩ F.entry_tuple_mul (F.args_tuple_mul_2 _ _) (tmul_zero l its.toArray n dd sl k t c0 c1 c2) ⟨ho, ?_⟩
      refine ⟨.ref s.heap.objs.size, _, I.laid (t' := s.toks) (o := .tup []) (fun b ob q => Heap.get?_push_of_some _ q) (Nat.le_refl _) ?_, rfl, q3 _ (I.hok.fresh (Nat.le_refl _))⟩
      exact ⟨Nat.zero_le _, [], .nil, IsTup.new _ _⟩
    · have hsz0 : its.toArray.size = xs.length := by rw [List.size_toArray, hle]
      have hk0 : ((k.toNat : Nat) : Int) = k := Int.toNat_of_nonneg (by omega)
      have hm : ((its.toArray.size : Nat) : Int) * k ≤ (sizeLine : Int) := by
        rw [hsz0, ← hk0, ← Int.natCast_mul]
        exact Int.ofNat_le.mpr hz
      have hsl := sizeLine_eq
      have flen : (List.replicate k.toNat its).flatten.length ≤ sizeLine := by
        rw [PyProof.Rows.lm_len_rep_flat, hle, Nat.mul_comm]
        exact hz
      have c2 : (decide (k ≤ 0) || its.toArray.isEmpty) = false := by
        rw [hemp, he, Bool.or_false]
        exact decide_eq_false hk
      have c4 : Builtin.Tuple.tupleTooMany (((its.toArray.size : Nat) : Int) * k) = false := by
        unfold Builtin.Tuple.tupleTooMany
        exact decide_eq_false (by omega)
      refine call_meets F.slot_tuple_mul ⟨_, ho, rfl⟩ F.entry_tuple_mul (F.args_tuple_mul_2 _ _) (tuple_mulW l its.toArray n dd sl k t c0 c1 c2 (by omega) c4 (by rw [size_rep, List.size_toArray]; exact flen)) ⟨ho, ?_⟩
      rw [size_rep]
      refine ⟨.ref s.heap.objs.size, _, I.laid (t' := s.toks) (o := .tup (List.replicate k.toNat xs).flatten) (fun b ob q => Heap.get?_push_of_some _ q) (Nat.le_refl _) ?_, rfl, q2 hne hk1 _ (I.hok.fresh (Nat.le_refl _))⟩
      exact ⟨by rw [PyProof.Rows.lm_len_rep_flat, Nat.mul_comm]; exact hz, _, r.rep k.toNat, IsTup.new _ _⟩
/-- a * b -/
def rMul : RD2 := fun x y M P => match x, y with
  | .int i, .int j => (CMul i j ∨ CMulW i j) ∧ P (.int (i * j)) M
  | .tup ds, .int k => ds.length ≤ 1000000 ∧ k ≤ 1000000 ∧ -1000000 ≤ k ∧ ds.length * k.toNat ≤ sizeLine ∧ P (.tup (List.replicate k.toNat ds).flatten) M
  | x, .int k => (match asLs M x with
    | some ds => -(2 ^ 63) ≤ k ∧ k < 2 ^ 63 ∧ ds.length * k.toNat ≤ sizeLine ∧ P (.lst (List.replicate k.toNat ds).flatten) M
    | none => False)
  | _, _ => False
theorem op_mulJ {X : Cx} : ∃ r, OpR X (binaryOp .Mult) r ∧ R2J X.K r rMul := by
  refine ⟨_, OpR.or op_mul (OpR.or op_mulW (OpR.or op_mulT op_rep)), fun {x y v u M Hf H P Q} m r1 r2 d f => ?_⟩
  unfold rMul at d
  split at d
  · cases r1
    cases r2
    obtain ⟨c, d⟩ := d
    rcases c with c | c
    · exact .inl ⟨_, _, rfl, rfl, c, f _ _ _ _ _ d (Ext.refl _) m (.int _)⟩
    · exact .inr (.inl ⟨_, _, rfl, rfl, c, f _ _ _ _ _ d (Ext.refl _) m (.int _)⟩)
  · cases r2
    obtain ⟨a, vs, rfl, ha, ra⟩ := tup_ok m r1
    obtain ⟨c1, c2, c3, c4, d⟩ := d
    refine .inr (.inr (.inl ⟨a, _, vs, rfl, rfl, ha, by rw [ra.len]; exact c1, c2, c3, by rw [ra.len]; exact c4, fun z => ?_, fun z z' p hp => ?_⟩))
    · have e : ∀ ds : List D, (ds = [] ∨ ∀ k : Nat, k = 1 → (List.replicate k ds).flatten = ds) := fun ds => .inr fun k hk => by rw [hk]; simp
      rename_i ds k
      have e2 : (List.replicate k.toNat ds).flatten = ds := by
        rcases z with z | z
        · have := ra.nil_iff.mp z
          subst this
          simp
        · rw [z]
          simp
      rw [e2] at d
      exact f _ _ _ _ _ d (Ext.refl _) m r1
    · exact f.newF m d hp fun H' h e => .tup h ((ra.mono e).rep _)
  · split at d
    · rename_i e1
      cases r2
      obtain ⟨c1, c2, c3, d⟩ := d
      obtain ⟨a, vs, rfl, ha, ra⟩ := asLs_ok m r1 e1
      exact .inr (.inr (.inr ⟨a, _, vs, rfl, rfl, ha, c1, c2, by rw [ra.len]; exact c3, fun p hp => f.newF m d hp fun H' h e => .lst h ((ra.mono e).rep _)⟩))
    · exact d.elim
  · exact d.elim
theorem rj_add {X : Cx} : True := trivial
section
variable {X : Cx} {W : WX'} {pos : Pos} {a b : Expr} {da db : DE}
theorem ej_add (ha : EJ X W a da) (hb : EJ X W b db) : EJ X W (.BinOp a .Add b pos) (dOp rAdd da db) := let ⟨_, h, j⟩ := op_addJ (X := X); ej_op h j ha hb
theorem ej_mul (ha : EJ X W a da) (hb : EJ X W b db) : EJ X W (.BinOp a .Mult b pos) (dOp rMul da db) := let ⟨_, h, j⟩ := op_mulJ (X := X); ej_op h j ha hb
def rSub : RD2 := rI0' fun i j => .int (i - j)
theorem ej_sub (ha : EJ X W a da) (hb : EJ X W b db) : EJ X W (.BinOp a .Sub b pos) (dOp rSub da db) := ej_op op_sub (rj_i0 fun _ _ _ => .int _) ha hb
def rMod : RD2 := rI2 (fun _ j => j ≠ 0) fun i j => .int (i.fmod j)
theorem ej_mod (ha : EJ X W a da) (hb : EJ X W b db) : EJ X W (.BinOp a .Mod b pos) (dOp rMod da db) := ej_op op_modN (rj_i fun _ _ _ => .int _) ha hb
/-- a // b: a small divisor, or a positive one of any usual size -/
def rDiv : RD2 := rI2 (fun _ j => 0 < j ∧ j.natAbs.log2 < 9000) fun i j => .int (i / j)
theorem ej_div (ha : EJ X W a da) (hb : EJ X W b db) : EJ X W (.BinOp a .FloorDiv b pos) (dOp rDiv da db) := ej_op op_fdivW (rj_i fun _ _ _ => .int _) ha hb
def rPow : RD2 := rI2 CPow fun i j => .int (i ^ j.toNat)
theorem ej_pow (ha : EJ X W a da) (hb : EJ X W b db) : EJ X W (.BinOp a .Pow b pos) (dOp rPow da db) := ej_op op_pow (rj_i fun _ _ _ => .int _) ha hb
def rLt : RD2 := rI0' fun i j => .bl (decide (i < j))
def rLe : RD2 := rI0' fun i j => .bl (decide (i ≤ j))
def rGt : RD2 := rI0' fun i j => .bl (decide (j < i))
def rGe : RD2 := rI0' fun i j => .bl (decide (j ≤ i))
theorem ej_lt (ha : EJ X W a da) (hb : EJ X W b db) : EJ X W (.Compare a [.Lt] [b] pos) (dOp rLt da db) := ej_cmp op_lt (rj_i0 fun _ _ _ => .bl _) ha hb
theorem ej_le (ha : EJ X W a da) (hb : EJ X W b db) : EJ X W (.Compare a [.LtE] [b] pos) (dOp rLe da db) := ej_cmp op_le (rj_i0 fun _ _ _ => .bl _) ha hb
theorem ej_gt (ha : EJ X W a da) (hb : EJ X W b db) : EJ X W (.Compare a [.Gt] [b] pos) (dOp rGt da db) := ej_cmp op_gt (rj_i0 fun _ _ _ => .bl _) ha hb
theorem ej_ge (ha : EJ X W a da) (hb : EJ X W b db) : EJ X W (.Compare a [.GtE] [b] pos) (dOp rGe da db) := ej_cmp op_ge (rj_i0 fun _ _ _ => .bl _) ha hb
end

/-! ### == and != -/
mutual
def plain : D → Bool
  | .non | .bl _ | .int _ | .str _ => true
  | .tup ds | .lst ds => plains ds
  | _ => false
def plains : List D → Bool
  | [] => true
  | d :: ds => plain d && plains ds
end
mutual
def py : D → PyData
  | .non => .none
  | .bl b => .bool b
  | .int i => .int i
  | .str x => .str x
  | .tup ds => .tuple (pys ds)
  | .lst ds => .list (pys ds)
  | _ => .none
def pys : List D → List PyData
  | [] => []
  | d :: ds => py d :: pys ds
end
mutual
theorem Rp.dp {K : Fz} {H : Hp} : ∀ {v : V} {d : D}, Rp K H v d → plain d = true → Dp K H v (py d)
  | _, _, .non, _ => .non
  | _, _, .bl b, _ => .bl b
  | _, _, .int i, _ => .int i
  | _, _, .str x, _ => .str x
  | _, _, .ty _, h => by cases h
  | _, _, .ref _, h => by cases h
  | _, _, .tup h r, p => .tup (SqT.of h) (Rps.dp r (by simpa only [plain] using p))
  | _, _, .lst h r, p => .lst (SqL.of h) (Rps.dp r (by simpa only [plain] using p))
  | _, _, .scr _ _, h => by cases h
  | _, _, .obj _ _, h => by cases h
  | _, _, .dct _ _, h => by cases h
  | _, _, .dtt _ _, h => by cases h
theorem Rps.dp {K : Fz} {H : Hp} : ∀ {v : List V} {d : List D}, Rps K H v d → plains d = true → DpAll K H v (pys d)
  | _, _, .nil, _ => .nil
  | _, _, .cons h r, p => by
    simp only [plains, Bool.and_eq_true] at p
    exact .cons (Rp.dp h p.1) (Rps.dp r p.2)
end
/-- the thing itself, a list's content for a list that may change -/
def dr (M : Mm) : D → D
  | .ref a => (match M a with
    | some (.lst ds) => .lst ds
    | _ => .ref a)
  | x => x
theorem dr_ok {K : Fz} {M : Mm} {Hf H : Hp} {x : D} {v : V} (m : HM K Hf M H) (r : Rp K Hf v x) : Rp K H v (dr M x) := by
  cases r with
  | ref a =>
    show Rp K H (.ref a) (match M a with
      | some (.lst ds) => .lst ds
      | _ => .ref a)
    split
    · rename_i e
      obtain ⟨_, vs, q1, q2⟩ := m.mu _ _ e
      exact .lst q1 (q2.mono m.sub)
    · exact .ref _
  | _ =>
    unfold dr
    exact Rp.mono m.sub (by first | exact .non | exact .bl _ | exact .int _ | exact .str _ | exact .ty _ | exact .tup (by assumption) (by assumption) | exact .lst (by assumption) (by assumption) | exact .scr (by assumption) (by assumption) | exact .obj (by assumption) (by assumption) | exact .dct (by assumption) (by assumption) | exact .dtt (by assumption) (by assumption))
def okD (x : D) : Prop := plain x = true ∧ SeqAt.shaped (py x) = true
@[irreducible] def seq (a b : Str) : Bool := decide (a = b)
theorem seq_eq (a b : Str) : seq a b = decide (a = b) := by
  unfold seq
  rfl
def rEqW (neg : Bool) : RD2 := fun x y M P => match x, y with
  | .int i, .int j => P (.bl (neg ^^ decide (i = j))) M
  | .str a, .str b => P (.bl (neg ^^ seq a b)) M
  | x, y => okD (dr M x) ∧ okD (dr M y) ∧ P (.bl (neg ^^ PyData.eqv (py (dr M x)) (py (dr M y)))) M
theorem rj_eq {K : Fz} : R2J K (fun x y H Q => rEq x y H Q ∨ rEqD K x y H Q) (rEqW false) := fun {x y v u M Hf H P Q} m r1 r2 d f => by
  unfold rEqW at d
  split at d
  · cases r1
    cases r2
    rename_i i j
    refine .inl ⟨rfl, f _ _ _ _ _ d (Ext.refl _) m ?_⟩
    have e : decide (V.int i = V.int j) = (false ^^ decide (i = j)) := by simp
    rw [e]
    exact .bl _
  · cases r1
    cases r2
    rename_i i j
    refine .inl ⟨rfl, f _ _ _ _ _ d (Ext.refl _) m ?_⟩
    have e : decide (V.str i = V.str j) = (false ^^ seq i j) := by simp [seq_eq]
    rw [e]
    exact .bl _
  · obtain ⟨⟨p1, s1⟩, ⟨p2, s2⟩, d⟩ := d
    rw [Bool.false_xor] at d
    exact .inr ⟨_, _, (dr_ok m r1).dp p1, (dr_ok m r2).dp p2, s1, s2, f _ _ _ _ _ d (Ext.refl _) m (.bl _)⟩
theorem rj_ne {K : Fz} : R2J K (fun x y H Q => rNe x y H Q ∨ rNeD K x y H Q) (rEqW true) := fun {x y v u M Hf H P Q} m r1 r2 d f => by
  unfold rEqW at d
  split at d
  · cases r1
    cases r2
    rename_i i j
    refine .inl ⟨rfl, f _ _ _ _ _ d (Ext.refl _) m ?_⟩
    have e : (!decide (V.int i = V.int j)) = (true ^^ decide (i = j)) := by simp
    rw [e]
    exact .bl _
  · cases r1
    cases r2
    rename_i i j
    refine .inl ⟨rfl, f _ _ _ _ _ d (Ext.refl _) m ?_⟩
    have e : (!decide (V.str i = V.str j)) = (true ^^ seq i j) := by simp [seq_eq]
    rw [e]
    exact .bl _
  · obtain ⟨⟨p1, s1⟩, ⟨p2, s2⟩, d⟩ := d
    rw [Bool.true_xor] at d
    exact .inr ⟨_, _, (dr_ok m r1).dp p1, (dr_ok m r2).dp p2, s1, s2, f _ _ _ _ _ d (Ext.refl _) m (.bl _)⟩
section
variable {X : Cx} {W : WX'} {pos : Pos} {a b : Expr} {da db : DE}
theorem ej_eq (hu : X.A.units + 64 < cLine) (ha : EJ X W a da) (hb : EJ X W b db) : EJ X W (.Compare a [.Eq] [b] pos) (dOp (rEqW false) da db) := ej_cmp (OpR.or op_eq (op_eqD hu)) rj_eq ha hb
theorem ej_ne (hu : X.A.units + 64 < cLine) (ha : EJ X W a da) (hb : EJ X W b db) : EJ X W (.Compare a [.NotEq] [b] pos) (dOp (rEqW true) da db) := ej_cmp (OpR.or op_ne (op_neD hu)) rj_ne ha hb
end
end DL

/-! DL: items, slices, displays, tests -/
namespace DL
open PySem PySem.Spec PyProof.Rows L2

/-! ### a[i] -/
def rIxD : RD2 := fun x y M P => match x, y with
  | .tup ds, .int i => (match atI ds i with
    | some d => P d M
    | none => False)
  | .str z, .int i => z.length ≤ sizeLine ∧ (match atI z.cps.toList i with
    | some c => P (.str ⟨#[c]⟩) M
    | none => False)
  | x, .int i => (match asL M x with
    | some ds => (match atI ds i with
      | some d => P d M
      | none => False)
    | none => False)
  | _, _ => False
theorem Rps.atI {K : Fz} {H : Hp} {vs : List V} {ds : List D} {i : Int} {d : D} (r : Rps K H vs ds) (h : atI ds i = some d) : ∃ v, L2.atI vs i = some v ∧ Rp K H v d := by
  unfold L2.atI at h ⊢
  rw [r.len]
  cases e : ixN ds.length i with
  | none =>
    rw [e] at h
    cases h
  | some j =>
    rw [e] at h
    obtain ⟨v, h1, h2⟩ := r.get (i := j) h
    exact ⟨v, h1, h2⟩
theorem rj_ix {K : Fz} : R2J K (rIx K) rIxD := fun {x y v u M Hf H P Q} m r1 r2 d f => by
  unfold rIxD at d
  split at d
  · split at d
    · rename_i e
      cases r2
      obtain ⟨a, vs, rfl, ha, ra⟩ := tup_ok m r1
      obtain ⟨w, h1, h2⟩ := ra.atI e
      exact .inr (.inl ⟨_, _, _, _, rfl, rfl, ha, h1, f _ _ _ _ _ d (Ext.refl _) m h2⟩)
    · exact d.elim
  · obtain ⟨hz, d⟩ := d
    split at d
    · rename_i e
      cases r1
      cases r2
      exact .inr (.inr ⟨_, _, _, rfl, rfl, hz, e, f _ _ _ _ _ d (Ext.refl _) m (.str _)⟩)
    · exact d.elim
  · split at d
    · rename_i e0
      split at d
      · rename_i e
        cases r2
        obtain ⟨a, vs, rfl, ha, ra⟩ := asL_ok m r1 e0
        obtain ⟨w, h1, h2⟩ := ra.atI e
        exact .inl ⟨_, _, _, _, rfl, rfl, ha, h1, f _ _ _ _ _ d (Ext.refl _) m h2⟩
      · exact d.elim
    · exact d.elim
  · exact d.elim
section
variable {X : Cx} {W : WX'} {pos : Pos} {a b : Expr} {da db : DE}
theorem ej_ix (ha : EJ X W a da) (hb : EJ X W b db) (hs : PlainIx b := by exact fun _ _ => rfl) : EJ X W (.Subscript a b pos) (dOp rIxD da db) := pe_weak (pe_ix ix_seq ha hb hs) (opj rj_ix)
end

/-! ### a[lo:hi] -/
abbrev DO := Ev → Mm → (Option Int → Mm → Prop) → XP → Prop
def liO (K : Fz) (W : WX') (d : DO) : TO := fun σ H Q => ∃ ρ M Hf P PX, SR K ρ M Hf σ H ∧ d ρ M P PX ∧ (∀ x M' Hf' H', P x M' → Ext Hf Hf' → HM K Hf' M' H' → Q x H') ∧ FinX K Hf σ PX W
abbrev OJ (X : Cx) (W : WX') (e : Option Expr) (d : DO) : Prop := PO X e (liO X.K W d)
theorem po_weak {X : Cx} {e : Option Expr} {t t' : TO} (h : PO X e t) (w : ∀ σ H Q, t' σ H Q → t σ H Q) : PO X e t' := ⟨fun pins s σ H Q I q => h.run pins s σ H Q I (w σ H Q q)⟩
def dNoPart : DO := fun _ M P _ => P none M
def dPart (d : DE) : DO := fun ρ M P PX => d ρ M (fun x M1 => match x with
  | .int i => P (some i) M1
  | _ => False) PX
def sx (n d : Nat) : Option Int → Nat
  | none => d
  | some (.ofNat v) => min v n
  | some (.negSucc v) => n - (v + 1)
theorem sx_eq (n d : Nat) (o : Option Int) : sx n d o = HT.sIx n d o := by
  rcases o with _ | (v | v)
  · rfl
  · exact (HT.sIx_nat n d v).symm
  · show n - (v + 1) = if (Int.negSucc v) < 0 then (Int.negSucc v + (n : Int)).toNat else min (Int.negSucc v).toNat n
    rw [if_pos (Int.negSucc_lt_zero v)]
    omega
def cutD {α : Type} (xs : List α) (lo hi : Option Int) : List α := (xs.drop (sx xs.length 0 lo)).take (sx xs.length xs.length hi - sx xs.length 0 lo)
def rSlD : D → Option Int → Option Int → Mm → DP → Prop := fun x lo hi M P => match x with
  | .tup ds => P (.tup (cutD ds lo hi)) M
  | .str z => z.length ≤ sizeLine ∧ P (.str (cutS z lo hi)) M
  | x => (match asL M x with
    | some ds => P (.lst (cutD ds lo hi)) M
    | none => False)
def dSl (da : DE) (dl dh : DO) : DE := fun ρ M P PX => da ρ M (fun x M1 => dl ρ M1 (fun l M2 => dh ρ M2 (fun u M3 => rSlD x l u M3 P) PX) PX) PX
theorem Rps.cut {K : Fz} {H : Hp} {vs : List V} {ds : List D} (lo hi : Option Int) (r : Rps K H vs ds) : Rps K H (cutV vs lo hi) (cutD ds lo hi) := by
  unfold cutV cutD
  rw [r.len, sx_eq, sx_eq]
  exact (r.drop _).take _
theorem cutD_all {α : Type} (xs : List α) (lo hi : Option Int) (h : HT.sIx xs.length 0 lo = 0 ∧ HT.sIx xs.length xs.length hi = xs.length) : cutD xs lo hi = xs := by
  unfold cutD
  rw [sx_eq, sx_eq, h.1, h.2]
  simp
section
variable {X : Cx} {W : WX'} {pos p2 : Pos} {e : Expr} {lo hi : Option Expr} {da : DE} {dl dh : DO}
theorem oj_none : OJ X W none dNoPart := po_weak po_none fun σ H Q ⟨ρ, M, Hf, P, PX, s, d, fe, fx⟩ => fe none M Hf H d (Ext.refl _) s.hm
theorem oj_some (he : EJ X W e da) : OJ X W (some e) (dPart da) := po_weak (po_some he) fun σ H Q ⟨ρ, M, Hf, P, PX, s, d, fe, fx⟩ =>
  ⟨ρ, M, Hf, _, PX, s, d, fun x M1 v Hf1 H1 d1 e1 m1 r1 => by
    dsimp only at d1
    split at d1
    · cases r1
      exact ⟨_, rfl, fe _ M1 Hf1 H1 d1 e1 m1⟩
    · exact d1.elim, fx⟩
theorem ej_sl (he : EJ X W e da) (hl : OJ X W lo dl) (hh : OJ X W hi dh) : EJ X W (.Subscript e (.Slice lo hi none p2) pos) (dSl da dl dh) :=
  pe_weak (pe_slice (SlR.or sl_tupA (SlR.or sl_str sl_list)) he hl hh) fun σ H Q ⟨ρ, M, Hf, P, PX, s, d, fe, fx⟩ =>
    ⟨ρ, M, Hf, _, PX, s, d, fun x M1 v Hf1 H1 d1 e1 m1 r1 => ⟨ρ, M1, Hf1, _, PX, s.go e1 m1, d1, fun l M2 Hf2 H2 d2 e2 m2 => ⟨ρ, M2, Hf2, _, PX, (s.go e1 m1).go e2 m2, d2, fun u M3 Hf3 H3 d3 e3 m3 => by
      have r3 := (r1.mono e2).mono e3
      have fe3 := fe.go ((e1.trans e2).trans e3)
      unfold rSlD at d3
      split at d3
      · obtain ⟨a, vs, rfl, ha, ra⟩ := tup_ok m3 r3
        refine .inl ⟨a, vs, rfl, ha, fun z => ?_, fun z p hp => ?_⟩
        · rw [ra.len] at z
          rw [cutD_all _ _ _ z] at d3
          exact fe3 _ _ _ _ _ d3 (Ext.refl _) m3 r3
        · exact fe3.newF m3 d3 hp fun H' h e => .tup h ((ra.mono e).cut _ _)
      · cases r3
        exact .inr (.inl ⟨_, rfl, d3.1, fe3 _ _ _ _ _ d3.2 (Ext.refl _) m3 (.str _)⟩)
      · split at d3
        · rename_i e0
          obtain ⟨a, vs, rfl, ha, ra⟩ := asL_ok m3 r3 e0
          exact .inr (.inr ⟨a, vs, rfl, ha, fun p hp => fe3.newF m3 d3 hp fun H' h e => .lst h ((ra.mono e).cut _ _)⟩)
        · exact d3.elim, (fx.go e1).go e2⟩, fx.go e1⟩, fx⟩
end

/-! ### arguments, displays -/
theorem sub_len {K : Fz} {H : Hp} {vs : List V} {ds : List D} {n : Nat} (r : Rps K H vs ds) (h : ds.length ≤ n) : vs.length ≤ n := by rw [r.len]; exact h
def dNil : DA := fun _ M P _ => P [] M
def dCons (da : DE) (dr : DA) : DA := fun ρ M P PX => da ρ M (fun x M1 => dr ρ M1 (fun xs M2 => P (x :: xs) M2) PX) PX
def dTup (d : DA) : DE := fun ρ M P PX => d ρ M (fun xs M1 => xs.length ≤ sizeLine ∧ P (.tup xs) M1) PX
def dLst (d : DA) : DE := fun ρ M P PX => d ρ M (fun xs M1 => xs.length ≤ sizeLine ∧ P (.lst xs) M1) PX
/-- a list that is going to change -/
def dLstM (d : DA) : DE := fun ρ M P PX => d ρ M (fun xs M1 => xs.length ≤ sizeLine ∧ ∀ a, M1 a = none → P (.ref a) (um M1 a (.lst xs))) PX
theorem FinE.newM {K : Fz} {M : Mm} {Hf H : Hp} {P : DP} {Q : VK} {p : Addr} {o : HO} {mo : MO} (f : FinE K Hf P Q) (m : HM K Hf M H) (hp : H p = none) (new : MRep K Hf (upd H p o) p mo) (d : M p = none → P (.ref p) (um M p mo)) : Q (.ref p) (upd H p o) :=
  f (.ref p) _ _ _ _ (d (m.none_of hp)) (Ext.refl _) (m.newM hp new) (.ref p)
section
variable {X : Cx} {W : WX'} {pos : Pos} {e : Expr} {es : List Expr} {da : DE} {d : DA}
theorem aj_nil : AJ X W [] dNil := pa_weak pa_nil fun σ H Q ⟨ρ, M, Hf, P, PX, s, d, fe, fx⟩ => fe [] M [] Hf H d (Ext.refl _) s.hm .nil
theorem aj_cons (ha : EJ X W e da) (hr : AJ X W es d) (hs : starEach (e :: es) X.env = (false, eval e X.env) :: starEach es X.env := by rfl) : AJ X W (e :: es) (dCons da d) :=
  pa_weak (pa_cons ha hr hs) fun σ H Q ⟨ρ, M, Hf, P, PX, s, d, fe, fx⟩ => ⟨ρ, M, Hf, _, PX, s, d, fun x M1 v Hf1 H1 d1 e1 m1 r1 => ⟨ρ, M1, Hf1, _, PX, s.go e1 m1, d1, fun xs M2 vs Hf2 H2 d2 e2 m2 r2 =>
    fe _ M2 _ Hf2 H2 d2 (e1.trans e2) m2 (.cons (r1.mono e2) r2), fx.go e1⟩, fx⟩
theorem ej_tup {x1} (h : AJ X W es d) : EJ X W (.Tuple es x1 pos) (dTup d) := pe_weak (pe_tup h) fun σ H Q ⟨ρ, M, Hf, P, PX, s, d, fe, fx⟩ => ⟨ρ, M, Hf, _, PX, s, d, fun xs M1 vs Hf1 H1 d1 e1 m1 r1 =>
  ⟨sub_len r1 d1.1, fun p hp => (fe.go e1).newF m1 d1.2 hp fun H' h e => .tup h (r1.mono e)⟩, fx⟩
theorem ej_lst (h : AJ X W es d) : EJ X W (.List es pos) (dLst d) := pe_weak (pe_lst h) fun σ H Q ⟨ρ, M, Hf, P, PX, s, d, fe, fx⟩ => ⟨ρ, M, Hf, _, PX, s, d, fun xs M1 vs Hf1 H1 d1 e1 m1 r1 =>
  ⟨sub_len r1 d1.1, fun p hp => (fe.go e1).newF m1 d1.2 hp fun H' h e => .lst h (r1.mono e)⟩, fx⟩
theorem ej_lstM (h : AJ X W es d) : EJ X W (.List es pos) (dLstM d) := pe_weak (pe_lst h) fun σ H Q ⟨ρ, M, Hf, P, PX, s, d, fe, fx⟩ => ⟨ρ, M, Hf, _, PX, s, d, fun xs M1 vs Hf1 H1 d1 e1 m1 r1 =>
  ⟨sub_len r1 d1.1, fun p hp => (fe.go e1).newM (mo := .lst xs) m1 hp ⟨vs, upd_same, r1⟩ (d1.2 p)⟩, fx⟩
end

/-! ### tests -/
def dTst (d : DE) : DT := fun ρ M P PX => d ρ M (fun x M1 => match x with
  | .bl b => P b M1
  | _ => False) PX
def dNot (d : DT) : DT := fun ρ M P PX => d ρ M (fun b M1 => P (!b) M1) PX
def dAnd (d e : DT) : DT := fun ρ M P PX => d ρ M (fun b M1 => match b with
  | true => e ρ M1 P PX
  | false => P false M1) PX
def dOr (d e : DT) : DT := fun ρ M P PX => d ρ M (fun b M1 => match b with
  | true => P true M1
  | false => e ρ M1 P PX) PX
def dIfE (c : DT) (d e : DE) : DE := fun ρ M P PX => c ρ M (fun b M1 => match b with
  | true => d ρ M1 P PX
  | false => e ρ M1 P PX) PX
/-- not, and, or as values -/
def dVal (d : DT) : DE := fun ρ M P PX => d ρ M (fun b M1 => P (.bl b) M1) PX
theorem tstj {K : Fz} {W : WX'} {d : DE} : ∀ σ H Q, liT K W (dTst d) σ H Q → (liE K W d) σ H fun x H' => ∃ k, x = .bl k ∧ Q k H' := fun σ H Q ⟨ρ, M, Hf, P, PX, s, d, fe, fx⟩ =>
  ⟨ρ, M, Hf, _, PX, s, d, fun x M1 v Hf1 H1 d1 e1 m1 r1 => by
    dsimp only at d1
    split at d1
    · cases r1
      exact ⟨_, rfl, fe _ M1 Hf1 H1 d1 e1 m1⟩
    · exact d1.elim, fx⟩
section
variable {X : Cx} {W : WX'} {pos : Pos} {a b c : Expr} {rest : List Expr} {da db : DE} {ta tb : DT} {r : R2} {rD : RD2}
theorem tj_cmp {op : CmpOp} (ho : OpR X (compareOp op) r) (j : R2J X.K r rD) (ha : EJ X W a da) (hb : EJ X W b db) (hm : behindInMarks op b = false := by first | exact nobehind _ (by decide) (by decide) | rfl) : TJ X W (.Compare a [op] [b] pos) (dTst (dOp rD da db)) :=
  pt_weak (pt_cmpR ho ha hb hm) fun σ H Q ⟨ρ, M, Hf, P, PX, s, d, fe, fx⟩ => opj j _ _ _ (tstj σ H Q ⟨ρ, M, Hf, P, PX, s, d, fe, fx⟩)
theorem tj_val (h : EJ X W a da) (he : ∀ whole, isTrue a X.env whole = (do let v ← whole; standAt a.pos; holding [v] (truthy v)) := by intro _; rfl) : TJ X W a (dTst da) := pt_weak (pt_val h he) tstj
theorem tj_not (h : TJ X W a ta) : TJ X W (.UnaryOp .Not a pos) (dNot ta) := pt_weak (pt_not h) fun σ H Q ⟨ρ, M, Hf, P, PX, s, d, fe, fx⟩ => ⟨ρ, M, Hf, _, PX, s, d, fun x M1 Hf1 H1 d1 e1 m1 => fe _ M1 Hf1 H1 d1 e1 m1, fx⟩
theorem wj_and1 (h : TJ X W a ta) : WJ X W (.BoolOp .And [a] pos) ta := pw_and1 h
theorem wj_or1 (h : TJ X W a ta) : WJ X W (.BoolOp .Or [a] pos) ta := pw_or1 h
theorem wj_and (ha : TJ X W a ta) (hb : WJ X W (.BoolOp .And (b :: rest) pos) tb) : WJ X W (.BoolOp .And (a :: b :: rest) pos) (dAnd ta tb) := pw_weak (pw_and ha hb) fun σ H Q ⟨ρ, M, Hf, P, PX, s, d, fe, fx⟩ =>
  ⟨ρ, M, Hf, _, PX, s, d, fun x M1 Hf1 H1 d1 e1 m1 => by
    cases x with
    | true => exact ⟨ρ, M1, Hf1, P, PX, s.go e1 m1, d1, fun y M2 Hf2 H2 d2 e2 m2 => fe y M2 Hf2 H2 d2 (e1.trans e2) m2, fx.go e1⟩
    | false => exact fe false M1 Hf1 H1 d1 e1 m1, fx⟩
theorem wj_or (ha : TJ X W a ta) (hb : WJ X W (.BoolOp .Or (b :: rest) pos) tb) : WJ X W (.BoolOp .Or (a :: b :: rest) pos) (dOr ta tb) := pw_weak (pw_or ha hb) fun σ H Q ⟨ρ, M, Hf, P, PX, s, d, fe, fx⟩ =>
  ⟨ρ, M, Hf, _, PX, s, d, fun x M1 Hf1 H1 d1 e1 m1 => by
    cases x with
    | true => exact fe true M1 Hf1 H1 d1 e1 m1
    | false => exact ⟨ρ, M1, Hf1, P, PX, s.go e1 m1, d1, fun y M2 Hf2 H2 d2 e2 m2 => fe y M2 Hf2 H2 d2 (e1.trans e2) m2, fx.go e1⟩, fx⟩
theorem tj_w (h : WJ X W a ta) : TJ X W a ta := h.pt
theorem ej_ifE (hc : TJ X W c ta) (ha : EJ X W a da) (hb : EJ X W b db) : EJ X W (.IfExp c a b pos) (dIfE ta da db) := pe_weak (pe_ifExp hc ha hb) fun σ H Q ⟨ρ, M, Hf, P, PX, s, d, fe, fx⟩ =>
  ⟨ρ, M, Hf, _, PX, s, d, fun x M1 Hf1 H1 d1 e1 m1 => by
    cases x with
    | true => exact ⟨ρ, M1, Hf1, P, PX, s.go e1 m1, d1, fe.go e1, fx.go e1⟩
    | false => exact ⟨ρ, M1, Hf1, P, PX, s.go e1 m1, d1, fe.go e1, fx.go e1⟩, fx⟩
end
/-- and, or, not as values, of bools -/
def dAndE (d e : DE) : DE := fun ρ M P PX => d ρ M (fun x M1 => match x with
  | .bl true => e ρ M1 P PX
  | .bl false => P (.bl false) M1
  | _ => False) PX
def dOrE (d e : DE) : DE := fun ρ M P PX => d ρ M (fun x M1 => match x with
  | .bl true => P (.bl true) M1
  | .bl false => e ρ M1 P PX
  | _ => False) PX
def dNotE (d : DE) : DE := fun ρ M P PX => d ρ M (fun x M1 => match x with
  | .bl b => P (.bl (!b)) M1
  | _ => False) PX
section
variable {X : Cx} {W : WX'} {pos : Pos} {a b c : Expr} {rest : List Expr} {da db : DE}
theorem ej_one {op} (h : EJ X W a da) : EJ X W (.BoolOp op [a] pos) da := pe_one h
theorem ej_and (ha : EJ X W a da) (hb : EJ X W (.BoolOp .And (b :: rest) pos) db) : EJ X W (.BoolOp .And (a :: b :: rest) pos) (dAndE da db) := pe_weak (pe_and ha hb) fun σ H Q ⟨ρ, M, Hf, P, PX, s, d, fe, fx⟩ =>
  ⟨ρ, M, Hf, _, PX, s, d, fun x M1 v Hf1 H1 d1 e1 m1 r1 => by
    dsimp only at d1
    split at d1
    · cases r1
      exact ⟨true, rfl, (if_pos rfl).mpr ⟨ρ, M1, Hf1, P, PX, s.go e1 m1, d1, fe.go e1, fx.go e1⟩⟩
    · cases r1
      exact ⟨false, rfl, (if_neg Bool.false_ne_true).mpr (fe _ _ _ _ _ d1 e1 m1 (.bl _))⟩
    · exact d1.elim, fx⟩
theorem ej_or (ha : EJ X W a da) (hb : EJ X W (.BoolOp .Or (b :: rest) pos) db) : EJ X W (.BoolOp .Or (a :: b :: rest) pos) (dOrE da db) := pe_weak (pe_or ha hb) fun σ H Q ⟨ρ, M, Hf, P, PX, s, d, fe, fx⟩ =>
  ⟨ρ, M, Hf, _, PX, s, d, fun x M1 v Hf1 H1 d1 e1 m1 r1 => by
    dsimp only at d1
    split at d1
    · cases r1
      exact ⟨true, rfl, (if_pos rfl).mpr (fe _ _ _ _ _ d1 e1 m1 (.bl _))⟩
    · cases r1
      exact ⟨false, rfl, (if_neg Bool.false_ne_true).mpr ⟨ρ, M1, Hf1, P, PX, s.go e1 m1, d1, fe.go e1, fx.go e1⟩⟩
    · exact d1.elim, fx⟩
theorem ej_not (ha : EJ X W a da) : EJ X W (.UnaryOp .Not a pos) (dNotE da) := pe_weak (pe_not ha) fun σ H Q ⟨ρ, M, Hf, P, PX, s, d, fe, fx⟩ =>
  ⟨ρ, M, Hf, _, PX, s, d, fun x M1 v Hf1 H1 d1 e1 m1 r1 => by
    dsimp only at d1
    split at d1
    · cases r1
      exact ⟨_, rfl, fe _ _ _ _ _ d1 e1 m1 (.bl _)⟩
    · exact d1.elim, fx⟩
def rUnI (g : Int → D) : D → Mm → DP → Prop := fun x M P => match x with
  | .int i => P (g i) M
  | _ => False
def dUn (r : D → Mm → DP → Prop) (da : DE) : DE := fun ρ M P PX => da ρ M (fun x M1 => r x M1 P) PX
def rNeg := rUnI fun i => .int (-i)
theorem ej_neg (ha : EJ X W a da) : EJ X W (.UnaryOp .USub a pos) (dUn rNeg da) := pe_weak (pe_un un_neg ha) fun σ H Q ⟨ρ, M, Hf, P, PX, s, d, fe, fx⟩ =>
  ⟨ρ, M, Hf, _, PX, s, d, fun x M1 v Hf1 H1 d1 e1 m1 r1 => by
    unfold rNeg rUnI at d1
    dsimp only at d1
    split at d1
    · cases r1
      exact ⟨_, rfl, fe _ _ _ _ _ d1 e1 m1 (.int _)⟩
    · exact d1.elim, fx⟩
end
end DL

/-! DL: defs and calls. G: what is known of what runs around (no repr is under way) -/
namespace DL
open PySem PySem.Spec PyProof.Rows L2
abbrev GT : Around → Prop := fun _ => True
abbrev GG : Around → Prop := fun A => A.guards = some []
structure Fn (G : Around → Prop) (P : Program) (w : World) (K : Fz) (mg : Str → Option Value) (base : Heap) (k : Nat) (f : Addr)
    (fd : FuncData) (ps : List Str) (sp : Sp) : Prop where
  len : ∀ vs H Q E, sp vs H Q E → vs.length = ps.length
  run : ∀ (A : Around) (outer : List Env) (s : Shared) (H : Hp) (args : Args) (us : List Value) (vs : List V) (Q : VK) (E : XK),
    Room k A → G A → Env0 P w K mg base A outer s H → BindsTo s fd args (ps.zip us) → Vals vs us → sp vs H Q E →
      codeAny (model P w) A (.call (.ref f) args) (CR (L2.CX P w) outer P w H s Q E) s
section
variable {G : Around → Prop} {P : Program} {w : World} {K : Fz} {mg : Str → Option Value} {base : Heap} {k j : Nat} {f : Addr} {fd : FuncData} {ps : List Str} {sp sp' : Sp}
theorem Fn.up (F : Fn G P w K mg base j f fd ps sp) (h : j ≤ k) : Fn G P w K mg base k f fd ps sp :=
  ⟨F.len, fun A outer s H args us vs Q E hr => F.run A outer s H args us vs Q E (hr.mono h)⟩
theorem Fn.imp (F : Fn G P w K mg base k f fd ps sp) (h : ∀ vs H Q E, sp' vs H Q E → sp vs H Q E) : Fn G P w K mg base k f fd ps sp' :=
  ⟨fun vs H Q E q => F.len vs H Q E (h _ _ _ _ q), fun A outer s H args us vs Q E hr hg he hb hv hs => F.run A outer s H args us vs Q E hr hg he hb hv (h _ _ _ _ hs)⟩
theorem Fn.ok (F : Fn GT P w K mg base k f fd ps sp) : FnOk P w K mg base (L2.CX P w) k f fd ps sp :=
  ⟨F.len, fun A outer s H args us vs Q E hr => F.run A outer s H args us vs Q E hr trivial⟩
theorem Fn.any (F : Fn GT P w K mg base k f fd ps sp) : Fn G P w K mg base k f fd ps sp :=
  ⟨F.len, fun A outer s H args us vs Q E hr _ => F.run A outer s H args us vs Q E hr trivial⟩
end
/-- what a body's exceptions are wanted to be -/
abbrev WB (E : XK) : WX' := fun cls d _ H => E cls d H
abbrev W0 : WX' := fun _ _ _ _ => False
theorem takes00 {X : Cx} : Takes X W0 := fun _ _ ⟨_, _, _, _, _, _, _, _, _, _, _, _, _, _, _, _, w⟩ => w.elim
/-- THE RULE for a def of the text -/
theorem Fn.mk' {G : Around → Prop} {P : Program} {w : World} {K : Fz} {mg : Str → Option Value} {base : Heap} {x qual : Str} {stm : Stmt} {f : Addr} {fd : FuncData} {N ps : List Str} {k : Nat} {sp : Sp}
    (hG : ∀ A env, G A → G (A.deeper env))
    (F : ∃ (oc : Value) (od : Option Addr) (dV kV doc pm : Value) (an : Option Addr) (cdv ct : Value) (osl : Array (Option Value)),
      fd = PySem.W.fnOf x qual (defArgs stm) (defBody stm) (defScope stm) dV kV doc pm an cdv ct ∧ K.lookup f = some ⟨oc, od, .func fd, osl⟩ ∧ PySem.W.codeIn K cdv qual = true)
    (S : FnScope N ps (defScope stm)) (len : ∀ vs H Q E, sp vs H Q E → vs.length = ps.length)
    (hbody : ∀ (cdv : Value) (A : Around) (outer : List Env) (s : Shared) (H : Hp) (vs : List V) (Q : VK) (E : XK),
      Room k (A.deeper (envOfC qual (defScope stm) s.heap.objs.size f cdv)) → G (A.deeper (envOfC qual (defScope stm) s.heap.objs.size f cdv)) → sp vs H Q E →
      ∃ t, PSs (cxOf (L2.CX P w) P w K mg base N qual (defScope stm) f cdv A outer s H E) (defBody stm) t ∧ t { nx := fun _ H' => Q .non H', rt := Q } (start N vs) H) :
    Fn G P w K mg base (k + 1) f fd ps sp := by
  obtain ⟨oc, od, dV, kV, doc, pm, an, cdv, ct, osl, rfl, lk, hcd⟩ := F
  refine ⟨len, fun A outer s H args us vs Q E hr hg e0 hb r hsp => ?_⟩
  have hl := len _ _ _ _ hsp
  have inH : K.In s.heap := e0.mod.kin.keeps fun b o e => (e0.bs b o e).1
  have noLim : s.heap.NoLimit := e0.mod.nolimit.keeps fun b o e => (e0.bs b o e).1
  have kinds : ∀ y ∈ ps.zip us, (defScope stm).names.lookup y.1 = some .local ∨
      ((defScope stm).names.lookup y.1 = some .cell ∧ ((cellsFrom (s.heap.objs.size + 1) (defScope stm).names []).lookup y.1).isSome = true) := fun ⟨n, v⟩ hy =>
    (S.par n (List.of_mem_zip hy).1).imp id fun q => ⟨q, PySem.W.cellsFrom_some _ _ _ (.inl q)⟩
  refine codeAny_call_function hr.depth (inH _ _ lk) rfl S.co S.gen rfl
    (PySem.W.codeRec_of inH hcd) (hb _ _ _ _ ?_)
  refine wpAny_newFunctionEnv_cells S.kind kinds fun env he s1 x => ?_
  subst he
  refine ⟨noLim.keeps x.toInCall.keep, codeAny_func ?_⟩
  obtain ⟨t, ht, hq⟩ := hbody cdv A outer s H vs Q E (hr.deeper _) (hG _ _ hg) hsp
  have I := inv_start (CX := L2.CX P w) (E := E) S hr.hd e0 hl r x
  refine wpAny_mono (ht.run [] s1 (start N vs) H _ I hq) (fun fl s' hs => ?_) fun e s' hs => hs
  cases fl with
  | ret u =>
    obtain ⟨v, σ', H', J, rv, q⟩ := hs
    exact ⟨v, H', J.os, J.bare, J.base, J.hok, rv, q⟩
  | next =>
    obtain ⟨σ', H', J, q⟩ := hs
    exact ⟨V.non, H', J.os, J.bare, J.base, J.hok, rfl, q⟩
  | brk =>
    obtain ⟨_, _, _, q⟩ := hs
    exact False.elim q
  | cont =>
    obtain ⟨_, _, _, q⟩ := hs
    exact False.elim q

/-! ### promises over data -/
abbrev DSp := List D → Mm → DP → XP → Prop
def liSp (K : Fz) (sp : DSp) : Sp := fun vs H Q E => ∃ ds M Hf P PX, Rps K Hf vs ds ∧ HM K Hf M H ∧ sp ds M P PX ∧ FinE K Hf P Q ∧ FinX K Hf [] PX (WB E)
theorem FinX.wb {K : Fz} {Hf : Hp} {σ : Sx} {PX : XP} {E : XK} (f : FinX K Hf [] PX (WB E)) : FinX K Hf σ PX (WB E) := f
abbrev DFn (G : Around → Prop) (P : Program) (w : World) (K : Fz) (mg : Str → Option Value) (base : Heap) (k : Nat) (f : Addr) (fd : FuncData) (ps : List Str) (sp : DSp) : Prop := Fn G P w K mg base k f fd ps (liSp K sp)
/-- the parameters, then what is not there yet -/
def nth : List D → Nat → Option D
  | [], _ => none
  | d :: r, j => match j with
    | 0 => some d
    | j + 1 => nth r j
def st0 (N : List Str) (ds : List D) : Ev := nth ds
theorem nth_get : ∀ {ds : List D} {i : Nat} {d : D}, nth ds i = some d → ds[i]? = some d
  | [], _, _, h => by cases h
  | _ :: _, 0, _, h => h
  | _ :: r, i + 1, _, h => nth_get (ds := r) (i := i) h
theorem sr0 {K : Fz} {N : List Str} {vs : List V} {ds : List D} {M : Mm} {Hf H : Hp} (r : Rps K Hf vs ds) (m : HM K Hf M H) : SR K (st0 N ds) M Hf (start N vs) H := by
  refine ⟨m, fun i d l h => ?_⟩
  obtain ⟨v, h1, h2⟩ := r.get (nth_get h)
  refine ⟨v, ?_, h2⟩
  unfold L2.start
  have hi : i < vs.length := (List.getElem?_eq_some_iff.mp h1).1
  rw [List.getElem?_append_left (by rw [List.length_map]; exact hi), List.getElem?_map, h1]
  rfl
/-- a def by its body's reading over data -/
theorem DFn.mk' {G : Around → Prop} {P : Program} {w : World} {K : Fz} {mg : Str → Option Value} {base : Heap} {x qual : Str} {stm : Stmt} {f : Addr} {fd : FuncData} {N ps : List Str} {k : Nat} {sp : DSp} {d : DS}
    (hG : ∀ A env, G A → G (A.deeper env))
    (F : ∃ (oc : Value) (od : Option Addr) (dV kV doc pm : Value) (an : Option Addr) (cdv ct : Value) (osl : Array (Option Value)),
      fd = PySem.W.fnOf x qual (defArgs stm) (defBody stm) (defScope stm) dV kV doc pm an cdv ct ∧ K.lookup f = some ⟨oc, od, .func fd, osl⟩ ∧ PySem.W.codeIn K cdv qual = true)
    (S : FnScope N ps (defScope stm)) (len : ∀ ds M P PX, sp ds M P PX → ds.length = ps.length)
    (pure : ∀ ds M P PX, sp ds M P PX → d { nx := fun _ M' => P .non M', rt := P, bk := fun _ _ => False, ct := fun _ _ => False, ex := fun _ => PX } (st0 N ds) M)
    (hbody : ∀ (cdv : Value) (A : Around) (outer : List Env) (s : Shared) (H : Hp) (E : XK),
      Room k (A.deeper (envOfC qual (defScope stm) s.heap.objs.size f cdv)) → G (A.deeper (envOfC qual (defScope stm) s.heap.objs.size f cdv)) →
      BJ (cxOf (L2.CX P w) P w K mg base N qual (defScope stm) f cdv A outer s H E) (WB E) (defBody stm) d) :
    DFn G P w K mg base (k + 1) f fd ps sp := by
  refine Fn.mk' hG F S (fun vs H Q E h => ?_) fun cdv A outer s H vs Q E hr hg h => ⟨_, hbody cdv A outer s H E hr hg, ?_⟩
  · obtain ⟨ds, M, Hf, P, PX, r, _, h, _⟩ := h
    rw [r.len]
    exact len _ _ _ _ h
  · obtain ⟨ds, M, Hf, P, PX, r, m, h, fe, fx⟩ := h
    exact ⟨_, M, Hf, _, sr0 r m, pure ds M P PX h, ⟨fun _ M' σ' Hf' H' p e s => fe .non M' .non Hf' H' p e s.hm .non, fe, fun _ _ _ _ _ p => p.elim, fun _ _ _ _ _ p => p.elim,
      fun ρ C fs M' dd σ' Hf' H' p e s x => fx C fs M' dd Hf' H' p e s.hm x⟩⟩

/-! ### calls -/
section
variable {G : Around → Prop} {X : Cx} {W : WX'} {k : Nat} {f C : Addr} {fd : FuncData} {ps ks : List Str} {sp : Sp} {dsp : DSp} {ds : List Value} {x m : Str} {p pos apos kpos : Pos} {e o : Expr} {es : List Expr} {kws : List Keyword} {ta : TE} {t : TA}
theorem run_g {args : Args} {pins : List (Addr × Obj)} {σ : Sx} {H : Hp} {s : Shared} {Q : VK} {us : List Value} {vs : List V} (F : Fn G X.prog X.w X.K X.mg X.base k f fd ps sp) (hr : Room k X.A) (hG : G X.A) (tk : Takes X W)
    (hb : BindsTo s fd args (ps.zip us)) (I : Inv X pins σ H s) (r : Vals vs us) (h : sp vs H Q fun c d H' => W c d σ H') :
    wpAny (model X.prog X.w) X.A (call (.ref f) args.pos args.kw) (EP X pins σ Q) X.xe s := by
  refine wpAny_call (codeAny_mono (F.run X.A X.stack s H args us vs Q _ hr hG I.env0 hb r h) fun r s' hq => ?_)
  cases r with
  | error e => exact tk e s' (XE.of_call I (fun _ _ _ z => z) hq)
  | ok fl =>
    cases fl with
    | ret u => exact I.after hq
    | _ => exact False.elim hq
/-- f(e, ..), what follows, exceptions by the slots -/
def tCallG (sp : Sp) (W : WX') (t : TA) : TE := fun σ H Q => t σ H fun vs H1 => sp vs H1 Q fun c d H' => W c d σ H'
theorem pe_callG (F : Fn G X.prog X.w X.K X.mg X.base k f fd ps sp) (hr : Room k X.A) (hG : G X.A) (tk : Takes X W) (hg : Gl X x) (hm : X.mg x = some (.ref f))
    (hk : PySem.W.keepIn X.K (.ref f) = true) (hb : Binds X.K fd ps []) (ha : PA X (e :: es) t) (hdb : (x == ("__debug__" : Str)) = false := by decide)
    (he : starEach (e :: es) X.env = (false, eval e X.env) :: starEach es X.env := by rfl)
    (hpl : (backTo pos (starEach es X.env)).any (·.1) = false := by rfl) : PE X (.Call (.Name x p) (e :: es) [] pos) (tCallG sp W t) := by
  refine ⟨fun pins s σ H Q I h => wpAny_Call_Name_kw (ld_glob I hg hm ?_ hdb)⟩
  refine PySem.W.callWith_K (h₀ := X.base) I.ok.mod.kin hk
    (thn (ha.run pos pins s σ H _ I h) fun us s1 ⟨vs, H1, I1, r, q⟩ => ⟨I1.kIn, ?_⟩) he hpl
  have hl : (us ++ []).length = ps.length := by
    rw [List.append_nil, ← r.length]
    exact F.len _ _ _ _ q
  have b := hb s1 us I1.kIn hl
  rw [List.append_nil] at b
  exact run_g (args := ⟨us, []⟩) F hr hG tk b I1 r q
theorem pe_callG0 (F : Fn G X.prog X.w X.K X.mg X.base k f fd ps sp) (hr : Room k X.A) (hG : G X.A) (tk : Takes X W) (hg : Gl X x) (hm : X.mg x = some (.ref f))
    (hk : PySem.W.keepIn X.K (.ref f) = true) (hb : Binds X.K fd ps []) (hdb : (x == ("__debug__" : Str)) = false := by decide) : PE X (.Call (.Name x p) [] [] pos) (tCallG sp W tNil) := by
  refine ⟨fun pins s σ H Q I h => wpAny_Call_Name_kw (ld_glob I hg hm ?_ hdb)⟩
  have hl : (([] : List Value) ++ []).length = ps.length := F.len [] _ _ _ h
  have b := hb s [] I.kIn hl
  exact PySem.W.callWith_K0 I.kIn hk (run_g (args := ⟨[], []⟩) (us := []) F hr hG tk b I .nil h)
/-- with keywords; first: values by their places -/
theorem pe_callGK {tk' : TA} {g : List Value → List Value → List Value} {gV : List V → List V → List V} (F : Fn G X.prog X.w X.K X.mg X.base k f fd ps sp) (hr : Room k X.A) (hG : G X.A) (tk : Takes X W)
    (hg : Gl X x) (hm : X.mg x = some (.ref f)) (hk : PySem.W.keepIn X.K (.ref f) = true) (hb : KBinds X.K fd ps ks g gV) (ha : PA X (e :: es) t) (hkw : PK X kws tk')
    (hall : (backToKw pos (keywordEach kws X.env)).all (·.1.isSome) = true := by rfl) (hks : (backToKw pos (keywordEach kws X.env)).filterMap (·.1) = ks := by rfl)
    (hdb : (x == ("__debug__" : Str)) = false := by decide) (he : starEach (e :: es) X.env = (false, eval e X.env) :: starEach es X.env := by rfl)
    (hpl : ((backTo pos (starEach (e :: es) X.env)).any (·.1) || (backToKw pos (keywordEach kws X.env)).any (·.1.isNone)) = false := by rfl) :
    PE X (.Call (.Name x p) (e :: es) kws pos) (fun σ H Q => t σ H fun vs H1 => tk' σ H1 fun zs H2 => sp (gV vs zs) H2 Q fun c d H' => W c d σ H') := by
  refine ⟨fun pins s σ H Q I h => wpAny_Call_Name_kw (ld_glob I hg hm ?_ hdb)⟩
  refine PySem.W.callWith_KW (h₀ := X.base) I.ok.mod.kin hk hall
    (thn (ha.run pos pins s σ H _ I h) fun us s1 ⟨vs, H1, I1, r, q⟩ => ?_) hpl he
  refine thn (hkw.run pos pins s1 σ H1 _ I1 q) fun ws s2 ⟨zs, H2, I2, rz, q2⟩ => ⟨I2.kIn, ?_⟩
  rw [hks]
  have r2 := hb.rel r rz
  have hl : (g us ws).length = ps.length := by
    rw [← r2.length]
    exact F.len _ _ _ _ q2
  exact run_g (args := ⟨us, ks.zip ws⟩) F hr hG tk (hb.to s2 us ws I2.kIn hl) I2 r2 q2
def dCall (sp : DSp) (d : DA) : DE := fun ρ M P PX => d ρ M (fun xs M1 => sp xs M1 P PX) PX
theorem callj {K : Fz} {W : WX'} {d : DA} : ∀ σ H Q, liE K W (dCall dsp d) σ H Q → tCallG (liSp K dsp) W (liA K W d) σ H Q := fun σ H Q ⟨ρ, M, Hf, P, PX, s, d, fe, fx⟩ =>
  ⟨ρ, M, Hf, _, PX, s, d, fun xs M1 vs Hf1 H1 d1 e1 m1 r1 => ⟨xs, M1, Hf1, P, PX, r1, m1, d1, fe.go e1, fun C fs M' dd Hf' H' p e m x => fx C fs M' dd Hf' H' p (e1.trans e) m x⟩, fx⟩
theorem ej_call {d : DA} (F : DFn G X.prog X.w X.K X.mg X.base k f fd ps dsp) (hr : Room k X.A) (hG : G X.A) (tk : Takes X W) (hg : Gl X x) (hm : X.mg x = some (.ref f))
    (hk : PySem.W.keepIn X.K (.ref f) = true) (hb : Binds X.K fd ps []) (ha : AJ X W (e :: es) d) (hdb : (x == ("__debug__" : Str)) = false := by decide)
    (he : starEach (e :: es) X.env = (false, eval e X.env) :: starEach es X.env := by rfl)
    (hpl : (backTo pos (starEach es X.env)).any (·.1) = false := by rfl) : EJ X W (.Call (.Name x p) (e :: es) [] pos) (dCall dsp d) := pe_weak (pe_callG F hr hG tk hg hm hk hb ha hdb he hpl) callj
theorem ej_call0 (F : DFn G X.prog X.w X.K X.mg X.base k f fd ps dsp) (hr : Room k X.A) (hG : G X.A) (tk : Takes X W) (hg : Gl X x) (hm : X.mg x = some (.ref f))
    (hk : PySem.W.keepIn X.K (.ref f) = true) (hb : Binds X.K fd ps []) (hdb : (x == ("__debug__" : Str)) = false := by decide) : EJ X W (.Call (.Name x p) [] [] pos) (dCall dsp dNil) :=
  pe_weak (pe_callG0 F hr hG tk hg hm hk hb hdb) fun σ H Q ⟨ρ, M, Hf, P, PX, s, d, fe, fx⟩ => ⟨[], M, Hf, P, PX, .nil, s.hm, d, fe, fx⟩
end
end DL

/-! DL: keywords, built-ins, methods -/
namespace DL
open PySem PySem.Spec PyProof.Rows L2
/-! ### keywords -/
def pick {α : Type} (π : List Nat) (xs : List α) : List α := π.filterMap fun i => xs[i]?
theorem Rps.pick {K : Fz} {H : Hp} {vs : List V} {ds : List D} (r : Rps K H vs ds) : ∀ π : List Nat, Rps K H (pick π vs) (pick π ds)
  | [] => .nil
  | i :: π => by
    have ih := Rps.pick r π
    unfold DL.pick at ih ⊢
    rw [List.filterMap_cons, List.filterMap_cons]
    cases e : ds[i]? with
    | none =>
      have : vs[i]? = none := by
        rw [List.getElem?_eq_none_iff] at e ⊢
        rw [r.len]
        exact e
      rw [this]
      exact ih
    | some d =>
      obtain ⟨v, h1, h2⟩ := r.get e
      rw [h1]
      exact .cons h2 ih
theorem vals_pick {vs : List V} {us : List Value} (r : Vals vs us) : ∀ π : List Nat, Vals (pick π vs) (pick π us)
  | [] => .nil
  | i :: π => by
    have ih := vals_pick r π
    unfold DL.pick at ih ⊢
    rw [List.filterMap_cons, List.filterMap_cons]
    cases e : vs[i]? with
    | none =>
      rw [r.none_of e]
      exact ih
    | some d =>
      obtain ⟨v, h1, h2⟩ := r.get e
      rw [h1]
      exact .cons h2 ih
/-- how keywords bind: n values by their places, then those named ks; π: where each parameter's value is among all of them -/
def KwB (fd : FuncData) (ps : List Str) (n : Nat) (ks : List Str) (π : List Nat) : Prop :=
  ∀ (s : Shared) (us ws : List Value), us.length = n → ws.length = ks.length → BindsTo s fd ⟨us, ks.zip ws⟩ (ps.zip (pick π (us ++ ws)))
def liK (X : Cx) (W : WX') (kws : List Keyword) (d : DA) : Prop := PK X kws (liA X.K W d)
theorem pk_weak {X : Cx} {es : List Keyword} {t t' : TA} (h : PK X es t) (w : ∀ σ H Q, t' σ H Q → t σ H Q) : PK X es t' := ⟨fun pos pins s σ H Q I q => h.run pos pins s σ H Q I (w σ H Q q)⟩
section
variable {X : Cx} {W : WX'} {e : Expr} {nm : Option Str} {kpos : Pos} {kws : List Keyword} {da : DE} {d : DA}
theorem kj_nil : liK X W [] dNil := pk_weak pk_nil fun σ H Q ⟨ρ, M, Hf, P, PX, s, d, fe, fx⟩ => fe [] M [] Hf H d (Ext.refl _) s.hm .nil
theorem kj_cons (ha : EJ X W e da) (hr : liK X W kws d) : liK X W (⟨nm, e, kpos⟩ :: kws) (dCons da d) :=
  pk_weak (pk_cons ha hr) fun σ H Q ⟨ρ, M, Hf, P, PX, s, d, fe, fx⟩ => ⟨ρ, M, Hf, _, PX, s, d, fun x M1 v Hf1 H1 d1 e1 m1 r1 => ⟨ρ, M1, Hf1, _, PX, s.go e1 m1, d1, fun xs M2 vs Hf2 H2 d2 e2 m2 r2 =>
    fe _ M2 _ Hf2 H2 d2 (e1.trans e2) m2 (.cons (r1.mono e2) r2), fx.go e1⟩, fx⟩
end
def dCallK (sp : DSp) (n m : Nat) (π : List Nat) (d dk : DA) : DE := fun ρ M P PX => d ρ M (fun xs M1 => dk ρ M1 (fun ys M2 => xs.length = n ∧ ys.length = m ∧ sp (pick π (xs ++ ys)) M2 P PX) PX) PX
section
variable {G : Around → Prop} {X : Cx} {W : WX'} {k n : Nat} {f : Addr} {fd : FuncData} {ps ks : List Str} {dsp : DSp} {π : List Nat} {x : Str} {p pos : Pos} {e : Expr} {es : List Expr} {kws : List Keyword} {d dk : DA}
theorem ej_callK (F : DFn G X.prog X.w X.K X.mg X.base k f fd ps dsp) (hr : Room k X.A) (hG : G X.A) (tk : Takes X W)
    (hg : Gl X x) (hm : X.mg x = some (.ref f)) (hk : PySem.W.keepIn X.K (.ref f) = true) (hb : KwB fd ps n ks π) (ha : AJ X W (e :: es) d) (hkw : liK X W kws dk)
    (hall : (backToKw pos (keywordEach kws X.env)).all (·.1.isSome) = true := by rfl) (hks : (backToKw pos (keywordEach kws X.env)).filterMap (·.1) = ks := by rfl)
    (hdb : (x == ("__debug__" : Str)) = false := by decide) (he : starEach (e :: es) X.env = (false, eval e X.env) :: starEach es X.env := by rfl)
    (hpl : ((backTo pos (starEach (e :: es) X.env)).any (·.1) || (backToKw pos (keywordEach kws X.env)).any (·.1.isNone)) = false := by rfl) :
    EJ X W (.Call (.Name x p) (e :: es) kws pos) (dCallK dsp n ks.length π d dk) := by
  refine ⟨fun pins s σ H Q I ⟨ρ, M, Hf, P, PX, sr, d, fe, fx⟩ => wpAny_Call_Name_kw (ld_glob I hg hm ?_ hdb)⟩
  refine PySem.W.callWith_KW (h₀ := X.base) I.ok.mod.kin hk hall
    (thn (ha.run pos pins s σ H (fun vs H1 => ∃ M1 Hf1 xs, Ext Hf Hf1 ∧ HM X.K Hf1 M1 H1 ∧ Rps X.K Hf1 vs xs ∧ dk ρ M1 (fun ys M2 => xs.length = n ∧ ys.length = ks.length ∧ dsp (pick π (xs ++ ys)) M2 P PX) PX) I
      ⟨ρ, M, Hf, _, PX, sr, d, fun xs M1 vs Hf1 H1 d1 e1 m1 r1 => ⟨M1, Hf1, xs, e1, m1, r1, d1⟩, fx⟩) fun us s1 ⟨vs, H1, I1, r, M1, Hf1, xs, e1, m1, r1, d1⟩ => ?_) hpl he
  refine thn (hkw.run pos pins s1 σ H1 (fun zs H2 => ∃ M2 Hf2 ys, Ext Hf1 Hf2 ∧ HM X.K Hf2 M2 H2 ∧ Rps X.K Hf2 zs ys ∧ (xs.length = n ∧ ys.length = ks.length ∧ dsp (pick π (xs ++ ys)) M2 P PX)) I1
      ⟨ρ, M1, Hf1, _, PX, sr.go e1 m1, d1, fun ys M2 zs Hf2 H2 d2 e2 m2 r2 => ⟨M2, Hf2, ys, e2, m2, r2, d2⟩, fx.go e1⟩) fun ws s2 ⟨zs, H2, I2, rz, M2, Hf2, ys, e2, m2, r2, l1, l2, d2⟩ => ⟨I2.kIn, ?_⟩
  rw [hks]
  have rr : Rps X.K Hf2 (pick π (vs ++ zs)) (pick π (xs ++ ys)) := ((r1.mono e2).app r2).pick π
  have b := hb s2 us ws (by rw [← r.length, r1.len]; exact l1) (by rw [← rz.length, r2.len]; exact l2)
  exact run_g (args := ⟨us, ks.zip ws⟩) F hr hG tk b I2 (vals_pick (r.append rz) π) ⟨_, M2, Hf2, P, PX, rr, m2, d2, fe.go (e1.trans e2), fun C fs M' dd Hf' H' p e m x => fx C fs M' dd Hf' H' p ((e1.trans e2).trans e) m x⟩
theorem ej_callK0 (F : DFn G X.prog X.w X.K X.mg X.base k f fd ps dsp) (hr : Room k X.A) (hG : G X.A) (tk : Takes X W)
    (hg : Gl X x) (hm : X.mg x = some (.ref f)) (hk : PySem.W.keepIn X.K (.ref f) = true) (hb : KwB fd ps 0 ks π) (hkw : liK X W kws dk)
    (hall : (backToKw pos (keywordEach kws X.env)).all (·.1.isSome) = true := by rfl) (hks : (backToKw pos (keywordEach kws X.env)).filterMap (·.1) = ks := by rfl)
    (hdb : (x == ("__debug__" : Str)) = false := by decide)
    (hpl : ((backTo pos (starEach [] X.env)).any (·.1) || (backToKw pos (keywordEach kws X.env)).any (·.1.isNone)) = false := by rfl) :
    EJ X W (.Call (.Name x p) [] kws pos) (dCallK dsp 0 ks.length π dNil dk) := by
  refine ⟨fun pins s σ H Q I ⟨ρ, M, Hf, P, PX, sr, d, fe, fx⟩ => wpAny_Call_Name_kw (ld_glob I hg hm ?_ hdb)⟩
  refine PySem.W.callWith_KW0 (h₀ := X.base) I.ok.mod.kin hk hall ?_ hpl
  refine thn (hkw.run pos pins s σ H (fun zs H2 => ∃ M2 Hf2 ys, Ext Hf Hf2 ∧ HM X.K Hf2 M2 H2 ∧ Rps X.K Hf2 zs ys ∧ (([] : List D).length = 0 ∧ ys.length = ks.length ∧ dsp (pick π ([] ++ ys)) M2 P PX)) I
      ⟨ρ, M, Hf, _, PX, sr, d, fun ys M2 zs Hf2 H2 d2 e2 m2 r2 => ⟨M2, Hf2, ys, e2, m2, r2, d2⟩, fx⟩) fun ws s2 ⟨zs, H2, I2, rz, M2, Hf2, ys, e2, m2, r2, l1, l2, d2⟩ => ⟨I2.kIn, ?_⟩
  rw [hks]
  have rr : Rps X.K Hf2 (pick π ([] ++ zs)) (pick π ([] ++ ys)) := (Rps.nil.app r2).pick π
  have b := hb s2 [] ws rfl (by rw [← rz.length, r2.len]; exact l2)
  exact run_g (args := ⟨[], ks.zip ws⟩) F hr hG tk b I2 (vals_pick (Vals.append (xs := []) (us := []) .nil rz) π) ⟨_, M2, Hf2, P, PX, rr, m2, d2, fe.go e2, fun C fs M' dd Hf' H' p e m x => fx C fs M' dd Hf' H' p (e2.trans e) m x⟩
end

/-! ### built-ins by values -/
abbrev RDL := List D → Mm → DP → Prop
def CJ (K : Fz) (r : List V → Hp → VK → Prop) (rD : RDL) : Prop := ∀ {xs : List D} {vs : List V} {M : Mm} {Hf H : Hp} {P : DP} {Q : VK}, HM K Hf M H → Rps K Hf vs xs → rD xs M P → FinE K Hf P Q → r vs H Q
def dCB (r : RDL) (d : DA) : DE := fun ρ M P PX => d ρ M (fun xs M1 => r xs M1 P) PX
theorem cbj {K : Fz} {W : WX'} {r : List V → Hp → VK → Prop} {rD : RDL} {d : DA} (j : CJ K r rD) : ∀ σ H Q, liE K W (dCB rD d) σ H Q → tCB r (liA K W d) σ H Q := fun σ H Q ⟨ρ, M, Hf, P, PX, s, d, fe, fx⟩ =>
  ⟨ρ, M, Hf, _, PX, s, d, fun xs M1 vs Hf1 H1 d1 e1 m1 r1 => j m1 r1 d1 (fe.go e1), fx⟩
section
variable {X : Cx} {W : WX'} {x : Str} {p pos : Pos} {e : Expr} {es : List Expr} {d : DA} {id T : String} {r : List V → Hp → VK → Prop} {rD : RDL}
theorem ej_cb (hc : CallR X (.builtin id) r) (j : CJ X.K r rD) (hm : X.mg x = none) (ha : AJ X W (e :: es) d) (hg : Gl X x := by rfl) (hv : bootBuiltins x = some (.builtin id) := by decide +kernel) (hn : x ≠ "__name__" := by decide) (hdb : (x == ("__debug__" : Str)) = false := by decide)
    (he : starEach (e :: es) X.env = (false, eval e X.env) :: starEach es X.env := by rfl) (hpl : (backTo pos (starEach es X.env)).any (·.1) = false := by rfl) : EJ X W (.Call (.Name x p) (e :: es) [] pos) (dCB rD d) := pe_weak (pe_callB hc hg hm hv ha hn hdb he hpl) (cbj j)
theorem ej_ct (hc : CallR X (.type T) r) (j : CJ X.K r rD) (hm : X.mg x = none) (ha : AJ X W (e :: es) d) (hg : Gl X x := by rfl) (hv : bootBuiltins x = some (.type T) := by decide +kernel) (hn : x ≠ "__name__" := by decide) (hdb : (x == ("__debug__" : Str)) = false := by decide)
    (he : starEach (e :: es) X.env = (false, eval e X.env) :: starEach es X.env := by rfl) (hpl : (backTo pos (starEach es X.env)).any (·.1) = false := by rfl) : EJ X W (.Call (.Name x p) (e :: es) [] pos) (dCB rD d) := pe_weak (pe_callTy hc hg hm hv ha hn hdb he hpl) (cbj j)
end
/-- len -/
def rLenD : RDL := fun xs M P => match xs with
  | [.tup ds] => P (.int ds.length) M
  | [.str z] => z.length ≤ sizeLine ∧ P (.int z.length) M
  | [x] => (match asL M x with
    | some ds => P (.int ds.length) M
    | none => False)
  | _ => False
theorem cj_len {K : Fz} : CJ K (fun xs H Q => (∃ p ys, xs = [.ref p] ∧ (SqL K H p ys ∨ SqT K H p ys) ∧ Q (.int ys.length) H) ∨ ∃ z, xs = [.str z] ∧ z.length ≤ sizeLine ∧ Q (.int z.length) H) rLenD := fun {xs vs M Hf H P Q} m r d f => by
  unfold rLenD at d
  split at d
  · cases r with
    | cons h t =>
      cases t
      obtain ⟨a, ws, rfl, ha, ra⟩ := tup_ok m h
      refine .inl ⟨a, ws, rfl, .inr ha, ?_⟩
      rw [ra.len]
      exact f _ _ _ _ _ d (Ext.refl _) m (.int _)
  · cases r with
    | cons h t =>
      cases t
      cases h
      exact .inr ⟨_, rfl, d.1, f _ _ _ _ _ d.2 (Ext.refl _) m (.int _)⟩
  · split at d
    · rename_i e
      cases r with
      | cons h t =>
        cases t
        obtain ⟨a, ws, rfl, ha, ra⟩ := asL_ok m h e
        refine .inl ⟨a, ws, rfl, .inl ha, ?_⟩
        rw [ra.len]
        exact f _ _ _ _ _ d (Ext.refl _) m (.int _)
    · exact d.elim
  · exact d.elim
/-- int -/
def rIntD : RDL := fun xs M P => match xs with
  | [.int i] => P (.int i) M
  | [.bl b] => P (.int (if b then 1 else 0)) M
  | _ => False
theorem cj_int {K : Fz} : CJ K (fun xs H Q => (∃ i, xs = [.int i] ∧ Q (.int i) H) ∨ ∃ k, xs = [.bl k] ∧ Q (.int (if k then 1 else 0)) H) rIntD := fun {xs vs M Hf H P Q} m r d f => by
  unfold rIntD at d
  split at d
  · cases r with
    | cons h t =>
      cases t
      cases h
      exact .inl ⟨_, rfl, f _ _ _ _ _ d (Ext.refl _) m (.int _)⟩
  · cases r with
    | cons h t =>
      cases t
      cases h
      exact .inr ⟨_, rfl, f _ _ _ _ _ d (Ext.refl _) m (.int _)⟩
  · exact d.elim
/-- tuple, list -/
def rTupD : RDL := fun xs M P => match xs with
  | [.tup ds] => P (.tup ds) M
  | [x] => (match asL M x with
    | some ds => P (.tup ds) M
    | none => False)
  | _ => False
theorem cj_tup {K : Fz} : CJ K (fun xs H Q => ∃ p ys, xs = [.ref p] ∧ ((SqL K H p ys ∧ ∀ l, H l = none → Q (.ref l) (upd H l (.tup ys))) ∨ (SqT K H p ys ∧ Q (.ref p) H))) rTupD := fun {xs vs M Hf H P Q} m r d f => by
  unfold rTupD at d
  split at d
  · cases r with
    | cons h t =>
      cases t
      obtain ⟨a, ws, rfl, ha, ra⟩ := tup_ok m h
      exact ⟨a, ws, rfl, .inr ⟨ha, f _ _ _ _ _ d (Ext.refl _) m h⟩⟩
  · split at d
    · rename_i e
      cases r with
      | cons h t =>
        cases t
        obtain ⟨a, ws, rfl, ha, ra⟩ := asL_ok m h e
        exact ⟨a, ws, rfl, .inl ⟨ha, fun l hl => f.newF m d hl fun H' h e => .tup h (ra.mono e)⟩⟩
    · exact d.elim
  · exact d.elim
def rListD : RDL := fun xs M P => match xs with
  | [.tup ds] => P (.lst ds) M
  | [x] => (match asL M x with
    | some ds => P (.lst ds) M
    | none => False)
  | _ => False
theorem cj_list {K : Fz} : CJ K (fun xs H Q => ∃ p ys, xs = [.ref p] ∧ (SqL K H p ys ∨ SqT K H p ys) ∧ ∀ l, H l = none → Q (.ref l) (upd H l (.lst ys))) rListD := fun {xs vs M Hf H P Q} m r d f => by
  unfold rListD at d
  split at d
  · cases r with
    | cons h t =>
      cases t
      obtain ⟨a, ws, rfl, ha, ra⟩ := tup_ok m h
      exact ⟨a, ws, rfl, .inr ha, fun l hl => f.newF m d hl fun H' h e => .lst h (ra.mono e)⟩
  · split at d
    · rename_i e
      cases r with
      | cons h t =>
        cases t
        obtain ⟨a, ws, rfl, ha, ra⟩ := asL_ok m h e
        exact ⟨a, ws, rfl, .inl ha, fun l hl => f.newF m d hl fun H' h e => .lst h (ra.mono e)⟩
    · exact d.elim
  · exact d.elim
section
variable {X : Cx} {W : WX'} {pos p : Pos} {e : Expr} {es : List Expr} {d : DA}
theorem ej_len (hm : X.mg "len" = none) (ha : AJ X W [e] d) (hg : Gl X "len" := by rfl) (he : starEach [e] X.env = (false, eval e X.env) :: starEach [] X.env := by rfl) : EJ X W (.Call (.Name "len" p) [e] [] pos) (dCB rLenD d) :=
  ej_cb (CallR.or call_len_seq call_len_str) cj_len hm ha hg (by decide +kernel) (by decide) (by decide) he
theorem ej_intc (hm : X.mg "int" = none) (ha : AJ X W [e] d) (hg : Gl X "int" := by rfl) (he : starEach [e] X.env = (false, eval e X.env) :: starEach [] X.env := by rfl) : EJ X W (.Call (.Name "int" p) [e] [] pos) (dCB rIntD d) :=
  ej_ct call_int1 cj_int hm ha hg (by decide +kernel) (by decide) (by decide) he
theorem ej_tuple (hm : X.mg "tuple" = none) (ha : AJ X W [e] d) (hg : Gl X "tuple" := by rfl) (he : starEach [e] X.env = (false, eval e X.env) :: starEach [] X.env := by rfl) : EJ X W (.Call (.Name "tuple" p) [e] [] pos) (dCB rTupD d) :=
  ej_ct call_tuple_of cj_tup hm ha hg (by decide +kernel) (by decide) (by decide) he
theorem ej_list (hm : X.mg "list" = none) (ha : AJ X W [e] d) (hg : Gl X "list" := by rfl) (he : starEach [e] X.env = (false, eval e X.env) :: starEach [] X.env := by rfl) : EJ X W (.Call (.Name "list" p) [e] [] pos) (dCB rListD d) :=
  ej_ct call_list_of cj_list hm ha hg (by decide +kernel) (by decide) (by decide) he
end
/-! ### repr -/
mutual
theorem noDict : ∀ d : D, (py d).hasDict = false
  | .non | .bl _ | .int _ | .str _ | .ty _ | .ref _ | .scr _ | .obj _ _ | .dct _ | .dtt _ => rfl
  | .tup ds => noDicts ds
  | .lst ds => noDicts ds
theorem noDicts : ∀ ds : List D, PyData.hasDictAll (pys ds) = false
  | [] => rfl
  | d :: ds => by
    show ((py d).hasDict || PyData.hasDictAll (pys ds)) = false
    rw [noDict d, noDicts ds]
    rfl
end
structure OkR (x : D) : Prop where
  plain : plain x = true
  show_ : (py x).showable = true
  size : (py x).shown.length ≤ sizeLine
  deep : (py x).depth ≤ 60
def rReprD : RDL := fun xs M P => match xs with
  | [x] => OkR (dr M x) ∧ P (.str (py (dr M x)).shown) M
  | _ => False
def rReprV (K : Fz) : List V → Hp → VK → Prop := fun xs H Q => ∃ x d, xs = [x] ∧ Dp K H x d ∧ d.showable = true ∧ d.hasDict = false ∧ d.shown.length ≤ sizeLine ∧ d.depth ≤ 60 ∧ Q (.str d.shown) H
theorem call_reprJ {X : Cx} (hG : GG X.A) (hu : X.A.units + 64 < cLine) : CallR X (.builtin "repr") (rReprV X.K) := by
  intro pins s σ H xs us Q I r h
  obtain ⟨x, d, rfl, hd, hs, hn, hz, hp, q⟩ := h
  cases r with
  | cons rx rn =>
    cases rn
    cases hd with
    | non =>
      cases rx
      exact PySem.P.repr_of_none ⟨.str _, H, I.tok _, ⟨_, rfl⟩, q⟩
    | bl b =>
      cases rx
      exact PySem.P.repr_of_bool ⟨.str _, H, I.tok _, ⟨_, rfl⟩, q⟩
    | int i =>
      obtain ⟨t, rfl⟩ := rx
      exact PySem.P.repr_of_int (by simpa [PyData.showable] using hs) ⟨.str _, H, I.tok _, ⟨_, rfl⟩, q⟩
    | str z =>
      obtain ⟨t, rfl⟩ := rx
      exact PySem.P.repr_of_str ⟨.str _, H, I.tok _, ⟨_, rfl⟩, q⟩ hz
    | lst h1 h2 =>
      obtain ⟨as, rd⟩ := Dp.reads I _ _ _ (.lst h1 h2) rx
      cases rx
      exact repr_of_reads' rd hs (fun z => by rw [hn] at z; cases z) hG (by omega) (fun _ _ e => e) (fun h' u tk hk => ⟨.str _, H, I.kept (t' := tk) hk, ⟨_, rfl⟩, q⟩) hz
    | tup h1 h2 =>
      obtain ⟨as, rd⟩ := Dp.reads I _ _ _ (.tup h1 h2) rx
      cases rx
      exact repr_of_reads' rd hs (fun z => by rw [hn] at z; cases z) hG (by omega) (fun _ _ e => e) (fun h' u tk hk => ⟨.str _, H, I.kept (t' := tk) hk, ⟨_, rfl⟩, q⟩) hz
theorem cj_repr {K : Fz} : CJ K (rReprV K) rReprD := fun {xs vs M Hf H P Q} m r d f => by
  unfold rReprD at d
  split at d
  · cases r with
    | cons h t =>
      cases t
      exact ⟨_, _, rfl, (dr_ok m h).dp d.1.plain, d.1.show_, noDict _, d.1.size, d.1.deep, f _ _ _ _ _ d.2 (Ext.refl _) m (.str _)⟩
  · exact d.elim
section
variable {X : Cx} {W : WX'} {pos p : Pos} {e : Expr} {es : List Expr} {d : DA}
theorem ej_repr (hG : GG X.A) (hu : X.A.units + 64 < cLine) (hm : X.mg "repr" = none) (ha : AJ X W [e] d) (hg : Gl X "repr" := by rfl) (he : starEach [e] X.env = (false, eval e X.env) :: starEach [] X.env := by rfl) : EJ X W (.Call (.Name "repr" p) [e] [] pos) (dCB rReprD d) :=
  ej_cb (call_reprJ hG hu) cj_repr hm ha hg (by decide +kernel) (by decide) (by decide) he
end

/-! ### methods of lists -/
def MJ (K : Fz) (T : String) (r : V → List V → Hp → VK → Prop) (rD : D → List D → Mm → DP → Prop) : Prop := ∀ {x : D} {v : V} {xs : List D} {vs : List V} {M : Mm} {Hf H : Hp} {P : DP} {Q : VK}, HM K Hf M H → Rp K Hf v x → Rps K Hf vs xs → rD x xs M P → FinE K Hf P Q → r v vs H Q
/-- what is known of the receiver's kind ahead of the arguments -/
def TyJ (K : Fz) (T : String) (kD : D → Mm → Prop) : Prop := ∀ {x : D} {v : V} {M : Mm} {Hf H : Hp}, HM K Hf M H → Rp K Hf v x → kD x M → tyV K T v H
def dBM (kD : D → Mm → Prop) (r : D → List D → Mm → DP → Prop) (dx : DE) (d : DA) : DE := fun ρ M P PX => dx ρ M (fun x M1 => kD x M1 ∧ d ρ M1 (fun xs M2 => r x xs M2 P) PX) PX
section
variable {X : Cx} {W : WX'} {cpos apos : Pos} {o e : Expr} {es : List Expr} {dx : DE} {d : DA} {T id : String} {name : Str} {r : V → List V → Hp → VK → Prop} {rD : D → List D → Mm → DP → Prop} {kD : D → Mm → Prop}
theorem bmj (j : MJ X.K T r rD) (jt : TyJ X.K T kD) : ∀ σ H Q, liE X.K W (dBM kD rD dx d) σ H Q → tBM X.K T r (liE X.K W dx) (liA X.K W d) σ H Q := fun σ H Q ⟨ρ, M, Hf, P, PX, s, d, fe, fx⟩ =>
  ⟨ρ, M, Hf, _, PX, s, d, fun x M1 v Hf1 H1 d1 e1 m1 r1 => ⟨jt m1 r1 d1.1, ρ, M1, Hf1, _, PX, s.go e1 m1, d1.2, fun xs M2 vs Hf2 H2 d2 e2 m2 r2 => j m2 (r1.mono e2) r2 d2 (fe.go (e1.trans e2)), fx.go e1⟩, fx⟩
theorem ej_bm (pa : PlainAttrs T) (slot : Slot T name id) (hty : typeOf (.builtin id) = pure (.type "method_descriptor")) (hm : MtR X id r) (j : MJ X.K T r rD) (jt : TyJ X.K T kD) (ho : EJ X W o dx) (ha : AJ X W (e :: es) d)
    (hbase : attributeBase o name X.env (eval o X.env) = eval o X.env := by rfl)
    (hfew : ((backTo cpos (starEach (e :: es) X.env)).all (fun x => !x.1) && (backToKw cpos (keywordEach [] X.env)).all (fun x => x.1.isSome)
      && decide ((e :: es).length + ([] : List Keyword).length + (if ([] : List Keyword).isEmpty then 0 else 1) < 30)) = true := by rfl)
    (hline : (apos.endLine == cpos.line) = true := by rfl) (hs : starEach (e :: es) X.env = (false, eval e X.env) :: starEach es X.env := by rfl)
    (hplain : (backTo cpos (starEach es X.env)).any (·.1) = false := by rfl) : EJ X W (.Call (.Attribute o name apos) (e :: es) [] cpos) (dBM kD rD dx d) :=
  pe_weak (pe_bm pa slot hty hm ho ha hbase hfew hline hs hplain) (bmj j jt)
theorem ej_bm0 (pa : PlainAttrs T) (slot : Slot T name id) (hty : typeOf (.builtin id) = pure (.type "method_descriptor")) (hm : MtR X id r) (j : MJ X.K T r rD) (jt : TyJ X.K T kD) (ho : EJ X W o dx)
    (hbase : attributeBase o name X.env (eval o X.env) = eval o X.env := by rfl) (hline : (apos.endLine == cpos.line) = true := by rfl) : EJ X W (.Call (.Attribute o name apos) [] [] cpos) (dBM kD rD dx dNil) :=
  pe_weak (pe_bm0 pa slot hty hm ho hbase hline) fun σ H Q ⟨ρ, M, Hf, P, PX, s, d, fe, fx⟩ =>
    ⟨ρ, M, Hf, _, PX, s, d, fun x M1 v Hf1 H1 d1 e1 m1 r1 => ⟨jt m1 r1 d1.1, j m1 r1 .nil d1.2 (fe.go e1)⟩, fx⟩
end
/-- a list of any sort -/
def kList : D → Mm → Prop := fun x M => (asL M x).isSome = true
theorem ty_list {K : Fz} : TyJ K "list" kList := fun {x v M Hf H} m r k => by
  obtain ⟨ds, e⟩ := Option.isSome_iff_exists.mp k
  obtain ⟨a, vs, rfl, h, _⟩ := asL_ok m r e
  exact .inl ⟨rfl, vs, h⟩
/-- the list at a, which may change -/
def rAppD : D → List D → Mm → DP → Prop := fun x xs M P => match x, xs with
  | .ref a, [y] => (match M a with
    | some (.lst ds) => ds.length < sizeLine ∧ P .non (um M a (.lst (ds ++ [y])))
    | _ => False)
  | _, _ => False
theorem mj_append {K : Fz} : MJ K "list" rAppend rAppD := fun {x v xs vs M Hf H P Q} m r rs d f => by
  unfold rAppD at d
  split at d
  · split at d
    · rename_i e
      cases r
      cases rs with
      | cons h t =>
        cases t
        obtain ⟨_, ws, q1, q2⟩ := m.mu _ _ e
        refine ⟨_, ws, _, rfl, rfl, q1, by rw [q2.len]; exact d.1, ?_⟩
        exact f _ _ _ _ _ d.2 (Ext.refl _) (m.write e q1 (fun x z => by cases z) ⟨_, upd_same, q2.app (.cons h .nil)⟩) .non
    · exact d.elim
  · exact d.elim
def rPopD : D → List D → Mm → DP → Prop := fun x xs M P => match x, xs with
  | .ref a, [] => (match M a with
    | some (.lst ds) => (match ds[ds.length - 1]? with
      | some y => P y (um M a (.lst ds.dropLast))
      | none => False)
    | _ => False)
  | _, _ => False
theorem mj_pop {K : Fz} : MJ K "list" rPop rPopD := fun {x v xs vs M Hf H P Q} m r rs d f => by
  unfold rPopD at d
  split at d
  · split at d
    · rename_i e
      split at d
      · rename_i e2
        cases r
        cases rs
        obtain ⟨_, ws, q1, q2⟩ := m.mu _ _ e
        obtain ⟨v, h1, h2⟩ := q2.get e2
        refine ⟨_, ws, v, rfl, rfl, q1, by rw [q2.len]; exact h1, ?_⟩
        exact f _ _ _ _ _ d (Ext.refl _) (m.write e q1 (fun x z => by cases z) ⟨_, upd_same, q2.dropLast⟩) h2
      · exact d.elim
    · exact d.elim
  · exact d.elim
section
variable {X : Cx} {W : WX'} {cpos apos : Pos} {o e : Expr} {dx : DE} {d : DA}
theorem ej_append (ho : EJ X W o dx) (ha : AJ X W [e] d) (hbase : attributeBase o "append" X.env (eval o X.env) = eval o X.env := by rfl)
    (hfew : ((backTo cpos (starEach [e] X.env)).all (fun x => !x.1) && (backToKw cpos (keywordEach [] X.env)).all (fun x => x.1.isSome)
      && decide ([e].length + ([] : List Keyword).length + (if ([] : List Keyword).isEmpty then 0 else 1) < 30)) = true := by rfl)
    (hline : (apos.endLine == cpos.line) = true := by rfl) (hs : starEach [e] X.env = (false, eval e X.env) :: starEach [] X.env := by rfl) : EJ X W (.Call (.Attribute o "append" apos) [e] [] cpos) (dBM kList rAppD dx d) :=
  ej_bm PySem.F.plainAttrs_list PySem.F.slot_list_append PySem.F.type_list_append mt_append mj_append ty_list ho ha hbase hfew hline hs
theorem ej_pop (ho : EJ X W o dx) (hbase : attributeBase o "pop" X.env (eval o X.env) = eval o X.env := by rfl)
    (hline : (apos.endLine == cpos.line) = true := by rfl) : EJ X W (.Call (.Attribute o "pop" apos) [] [] cpos) (dBM kList rPopD dx dNil) :=
  ej_bm0 PySem.F.plainAttrs_list PySem.F.slot_list_pop PySem.F.type_list_pop mt_pop mj_pop ty_list ho hbase hline
end
end DL

/-! DL: statements, targets, loops, comprehensions -/
namespace DL
open PySem PySem.Spec PyProof.Rows L2
/-! ### blocks -/
def dSeq (d e : DS) : DS := fun DD ρ M => d { DD with nx := e DD } ρ M
def dNext : DS := fun DD ρ M => DD.nx ρ M
def dBrk : DS := fun DD ρ M => DD.bk ρ M
def dCnt : DS := fun DD ρ M => DD.ct ρ M
def dRet (d : DE) : DS := fun DD ρ M => d ρ M DD.rt (DD.ex ρ)
def dRetN : DS := fun DD ρ M => DD.rt .non M
def dDrop (d : DE) : DS := fun DD ρ M => d ρ M (fun _ M1 => DD.nx ρ M1) (DD.ex ρ)
def dIf (c : DT) (d e : DS) : DS := fun DD ρ M => c ρ M (fun b M1 => match b with
  | true => d DD ρ M1
  | false => e DD ρ M1) (DD.ex ρ)
def dNever : DS := fun _ _ _ => False
theorem FinD.nxS {K : Fz} {Hf : Hp} {W : WX'} {DD : DEnds} {De : Ends} {P : Ev → Mm → Prop} {Q : Sx → Hp → Prop} (f : FinD K Hf W DD De) (n : FinS K Hf P Q) : FinD K Hf W { DD with nx := P } { De with nx := Q } := ⟨n, f.rt, f.bk, f.ct, f.ex⟩
section
variable {X : Cx} {W : WX'} {stm : Stmt} {rest : List Stmt} {d e : DS} {pos : Pos}
theorem seqj {K : Fz} : ∀ De σ H, liS K W (dSeq d e) De σ H → tSeq (liS K W d) (liS K W e) De σ H := fun De σ H ⟨ρ, M, Hf, DD, s, d, f⟩ =>
  ⟨ρ, M, Hf, _, s, d, f.nxS fun ρ' M' σ' Hf' H' d' e s' => ⟨ρ', M', Hf', DD, s', d', f.go e⟩⟩
theorem bj_nil : BJ X W [] dNext := pss_weak pss_nil fun De σ H ⟨ρ, M, Hf, DD, s, d, f⟩ => f.nx ρ M σ Hf H d (Ext.refl _) s
theorem bj_cons (h1 : SJ X W stm d) (h2 : BJ X W rest e) : BJ X W (stm :: rest) (dSeq d e) := pss_weak (pss_cons h1 h2) seqj
theorem bj_one (h1 : SJ X W stm d) : BJ X W [stm] d := pss_one h1
theorem sj_pass : SJ X W (.Pass pos) dNext := ps_weak ps_pass fun De σ H ⟨ρ, M, Hf, DD, s, d, f⟩ => f.nx ρ M σ Hf H d (Ext.refl _) s
theorem sj_break : SJ X W (.Break pos) dBrk := ps_weak ps_break fun De σ H ⟨ρ, M, Hf, DD, s, d, f⟩ => f.bk ρ M σ Hf H d (Ext.refl _) s
theorem sj_continue : SJ X W (.Continue pos) dCnt := ps_weak ps_continue fun De σ H ⟨ρ, M, Hf, DD, s, d, f⟩ => f.ct ρ M σ Hf H d (Ext.refl _) s
theorem sj_doc {x j pos'} : SJ X W (.Expr (.Constant (.str x) j pos) pos') dNext := ps_weak ps_doc fun De σ H ⟨ρ, M, Hf, DD, s, d, f⟩ => f.nx ρ M σ Hf H d (Ext.refl _) s
theorem sj_retN : SJ X W (.Return none pos) dRetN := ps_weak ps_retN fun De σ H ⟨ρ, M, Hf, DD, s, d, f⟩ => f.rt .non M .non Hf H d (Ext.refl _) s.hm .non
theorem sj_never : SJ X W stm dNever := ps_weak ps_never fun De σ H ⟨ρ, M, Hf, DD, s, d, f⟩ => d
variable {ex : Expr} {de : DE} {tc : DT} {a b : List Stmt}
theorem sj_ret (he : EJ X W ex de) : SJ X W (.Return (some ex) pos) (dRet de) := ps_weak (ps_ret he) fun De σ H ⟨ρ, M, Hf, DD, s, d, f⟩ => ⟨ρ, M, Hf, _, _, s, d, f.rt, f.x s⟩
theorem sj_expr (he : EJ X W ex de) (hs : swapsWith ex none pos.line X.env = pure false := by rfl) : SJ X W (.Expr ex pos) (dDrop de) := ps_weak (ps_expr he hs) fun De σ H ⟨ρ, M, Hf, DD, s, d, f⟩ =>
  ⟨ρ, M, Hf, _, _, s, d, fun x M1 v Hf1 H1 d1 e1 m1 r1 => f.nx ρ M1 σ Hf1 H1 d1 e1 (s.go e1 m1), f.x s⟩
theorem sj_if (hc : TJ X W ex tc) (ha : BJ X W a d) (hb : BJ X W b e) : SJ X W (.If ex a b pos) (dIf tc d e) := ps_weak (ps_if hc ha hb) fun De σ H ⟨ρ, M, Hf, DD, s, d, f⟩ =>
  ⟨ρ, M, Hf, _, _, s, d, fun x M1 Hf1 H1 d1 e1 m1 => by
    cases x with
    | true => exact ⟨ρ, M1, Hf1, DD, s.go e1 m1, d1, f.go e1⟩
    | false => exact ⟨ρ, M1, Hf1, DD, s.go e1 m1, d1, f.go e1⟩, f.x s⟩
end

/-! ### targets -/
abbrev DG := D → Ev → Mm → (Ev → Mm → Prop) → Prop
abbrev DGs := List D → Ev → Mm → (Ev → Mm → Prop) → Prop
def liG (K : Fz) (g : DG) : TG := fun v σ H Q => ∃ x ρ M Hf P, SR K ρ M Hf σ H ∧ Rp K Hf v x ∧ g x ρ M P ∧ FinS K Hf P Q
def liGs (K : Fz) (g : DGs) : TGs := fun vs σ H Q => ∃ xs ρ M Hf P, SR K ρ M Hf σ H ∧ Rps K Hf vs xs ∧ g xs ρ M P ∧ FinS K Hf P Q
abbrev GJ (X : Cx) (e : Expr) (g : DG) : Prop := PG X e (liG X.K g)
abbrev GsJ (X : Cx) (e : List Expr) (g : DGs) : Prop := PGs X e (liGs X.K g)
def dgName (i : Nat) : DG := fun d ρ M P => P (st ρ i (some d)) M
def dgNil : DGs := fun ds ρ M P => match ds with
  | [] => P ρ M
  | _ => False
def dgCons (g : DG) (gs : DGs) : DGs := fun ds ρ M P => match ds with
  | d :: r => g d ρ M (fun ρ1 M1 => gs r ρ1 M1 P)
  | [] => False
def dgTup (n : Nat) (g : DGs) : DG := fun d ρ M P => match d with
  | .tup ds => ds.length = n ∧ g ds ρ M P
  | _ => False
theorem pg_weak {X : Cx} {e : Expr} {t t' : TG} (h : PG X e t) (w : ∀ v σ H Q, t' v σ H Q → t v σ H Q) : PG X e t' := ⟨fun pins s σ H v u Q I r q => h.run pins s σ H v u Q I r (w v σ H Q q)⟩
theorem pgs_weak {X : Cx} {e : List Expr} {t t' : TGs} (h : PGs X e t) (w : ∀ v σ H Q, t' v σ H Q → t v σ H Q) : PGs X e t' := ⟨fun pins s σ H v u Q I r q => h.run pins s σ H v u Q I r (w v σ H Q q)⟩
section
variable {X : Cx} {W : WX'} {pos : Pos} {e : Expr} {es : List Expr} {g : DG} {gs : DGs}
theorem gj_name {x : Str} (i : Nat) (hN : X.N.Nodup) (hi : X.N[i]? = some x := by rfl) (hx : Loc X.env.scope x := by exact Or.inl rfl)
    (hf : X.fn x = true ∨ X.env.scope.names.lookup x = some .local := by first | exact .inl rfl | exact .inr rfl) : GJ X (.Name x pos) (dgName i) :=
  pg_weak (pg_name hN hi hx hf) fun v σ H Q ⟨d, ρ, M, Hf, P, s, r, g, f⟩ => f _ M _ Hf H g (Ext.refl _) (s.set r)
theorem gsj_nil : GsJ X [] dgNil := pgs_weak pgs_nil fun v σ H Q ⟨d, ρ, M, Hf, P, s, r, g, f⟩ => by
  unfold dgNil at g
  split at g
  · cases r
    exact ⟨rfl, f _ M _ Hf H g (Ext.refl _) s⟩
  · exact g.elim
theorem gsj_cons (h1 : GJ X e g) (h2 : GsJ X es gs) (hs : (assignEach (e :: es) X.env).map (·.2) = assign e X.env :: (assignEach es X.env).map (·.2) := by rfl) : GsJ X (e :: es) (dgCons g gs) :=
  pgs_weak (pgs_cons h1 h2 hs) fun v σ H Q ⟨d, ρ, M, Hf, P, s, r, g, f⟩ => by
    unfold dgCons at g
    split at g
    · cases r with
      | cons h t => exact ⟨_, _, rfl, _, ρ, M, Hf, _, s, h, g, fun ρ1 M1 σ1 Hf1 H1 d1 e1 s1 => ⟨_, ρ1, M1, Hf1, P, s1, t.mono e1, d1, f.go e1⟩⟩
    · exact g.elim
theorem gj_tup {k n : Nat} (hc : X.calm = true) (h : GsJ X es gs) (hn : (assignEach es X.env).length = n := by rfl) (hst : (assignEach es X.env).findIdx? (·.1) = none := by rfl) : GJ X (.Tuple es k pos) (dgTup n gs) :=
  pg_weak (pg_tup hc h hn hst) fun v σ H Q ⟨d, ρ, M, Hf, P, s, r, g, f⟩ => by
    unfold dgTup at g
    split at g
    · obtain ⟨a, vs, rfl, ha, ra⟩ := tup_ok s.hm r
      exact ⟨a, vs, rfl, ha, by rw [ra.len]; exact g.1, _, ρ, M, Hf, P, s, ra, g.2, f⟩
    · exact g.elim
end
/-- x = e -/
def dAsg (de : DE) (g : DG) : DS := fun DD ρ M => de ρ M (fun x M1 => g x ρ M1 DD.nx) (DD.ex ρ)
section
variable {X : Cx} {W : WX'} {pos : Pos} {e tg : Expr} {de : DE} {g : DG}
theorem asgj {K : Fz} : ∀ De σ H, liS K W (dAsg de g) De σ H → tAsg (liE K W de) (liG K g) De σ H := fun De σ H ⟨ρ, M, Hf, DD, s, d, f⟩ =>
  ⟨ρ, M, Hf, _, _, s, d, fun x M1 v Hf1 H1 d1 e1 m1 r1 => ⟨x, ρ, M1, Hf1, _, s.go e1 m1, r1, d1, f.nx.go e1⟩, f.x s⟩
theorem sj_asg (he : EJ X W e de) (hg : GJ X tg g) (hs : swapsWithSole [tg] e pos.line X.env = pure false := by rfl) (hw : swappedStores [tg] e X.env = pure none := by rfl)
    (h1 : (assignEach [tg] X.env).map (·.2) = [assign tg X.env] := by rfl) : SJ X W (.Assign [tg] e pos) (dAsg de g) := ps_weak (ps_asg he hg hs hw h1) asgj
theorem sj_set {x : Str} {pos' : Pos} (i : Nat) (hN : X.N.Nodup) (he : EJ X W e de) (hi : X.N[i]? = some x := by rfl) (hx : Loc X.env.scope x := by exact Or.inl rfl) (hs : swapsWith e (some (.Name x pos')) pos.line X.env = pure false := by rfl)
    (hf : X.fn x = true ∨ X.env.scope.names.lookup x = some .local := by first | exact .inl rfl | exact .inr rfl) : SJ X W (.Assign [.Name x pos'] e pos) (dAsg de (dgName i)) :=
  ps_weak (ps_set hN hi hx he hs hf) fun De σ H ⟨ρ, M, Hf, DD, s, d, f⟩ =>
    ⟨ρ, M, Hf, _, _, s, d, fun x M1 v Hf1 H1 d1 e1 m1 r1 => f.nx _ M1 _ Hf1 H1 d1 e1 ((s.go e1 m1).set r1), f.x s⟩
/-- a, b = e1, e2 -/
def dPar (i j : Nat) (d : DA) : DS := fun DD ρ M => d ρ M (fun xs M1 => match xs with
  | [x, y] => DD.nx (st (st ρ i (some x)) j (some y)) M1
  | _ => False) (DD.ex ρ)
theorem sj_par {x y : Str} {a b : Expr} {d : DA} {px py pt : Pos} {kt k2 pt2} (i j : Nat) (hc : X.calm = true) (hN : X.N.Nodup) (h : AJ X W [a, b] d) (hi : X.N[i]? = some x := by rfl) (hj : X.N[j]? = some y := by rfl) (hij : i ≠ j := by decide)
    (hp : ∀ t, PA X [a, b] t → PS X (.Assign [.Tuple [.Name x px, .Name y py] kt pt] (.Tuple [a, b] k2 pt2) pos) (tPar i j t)) : SJ X W (.Assign [.Tuple [.Name x px, .Name y py] kt pt] (.Tuple [a, b] k2 pt2) pos) (dPar i j d) :=
  ps_weak (hp _ h) fun De σ H ⟨ρ, M, Hf, DD, s, d, f⟩ => ⟨ρ, M, Hf, _, _, s, d, fun xs M1 vs Hf1 H1 d1 e1 m1 r1 => by
    try dsimp only at d1
    split at d1
    · cases r1 with
      | cons h1 t1 =>
        cases t1 with
        | cons h2 t2 =>
          cases t2
          exact ⟨_, _, rfl, f.nx _ M1 _ Hf1 H1 d1 e1 (((s.go e1 m1).set h1).set h2)⟩
    · exact d1.elim, f.x s⟩
/-- x += e -/
def dAug (i : Nat) (r : RD2) (de : DE) : DS := fun DD ρ M => match gt ρ i with
  | some x => de ρ M (fun y M1 => r x y M1 (fun z M2 => DD.nx (st ρ i (some z)) M2)) (DD.ex ρ)
  | none => False
theorem sj_aug {x : Str} {op : Operator} {ti : TIp} {rD : RD2} {pos' : Pos} (i : Nat) (hN : X.N.Nodup) (ho : PIp X op ti) (j : ∀ {x y : D} {v u : V} {M : Mm} {Hf H : Hp} {P : DP} {Q : VK}, HM X.K Hf M H → Rp X.K Hf v x → Rp X.K Hf u y → rD x y M P → FinE X.K Hf P Q → ti v u H Q)
    (he : EJ X W e de) (hi : X.N[i]? = some x := by rfl) (hx : Loc X.env.scope x := by exact Or.inl rfl) (hf : X.fn x = true ∨ X.env.scope.names.lookup x = some .local := by first | exact .inl rfl | exact .inr rfl) :
    SJ X W (.AugAssign (.Name x pos') op e pos) (dAug i rD de) := by
  refine ⟨fun pins s0 σ H De I ⟨ρ, M, Hf, DD, s, d, f⟩ => (ps_aug hN hi hx he ho hf).run pins s0 σ H De I ?_⟩
  · have hl : i < σ.length := by
      rw [I.len]
      exact (List.getElem?_eq_some_iff.mp hi).1
    unfold dAug at d
    split at d
    · rename_i x0 e0
      obtain ⟨v, h1, h2⟩ := s.env i x0 hl e0
      exact ⟨v, h1, ρ, M, Hf, _, _, s, d, fun y M1 u Hf1 H1 d1 e1 m1 r1 => j m1 (h2.mono e1) r1 d1 fun z M2 w Hf2 H2 d2 e2 m2 r2 => f.nx _ M2 _ Hf2 H2 d2 (e1.trans e2) (((s.go e1 m1).go e2 m2).set r2), f.x s⟩
    · exact d.elim
def rAddI : RD2 := rI0' fun i j => .int (i + j)
theorem sj_augI {x : Str} {pos' : Pos} (i : Nat) (hN : X.N.Nodup) (he : EJ X W e de) (hi : X.N[i]? = some x := by rfl) (hx : Loc X.env.scope x := by exact Or.inl rfl) (hf : X.fn x = true ∨ X.env.scope.names.lookup x = some .local := by first | exact .inl rfl | exact .inr rfl) :
    SJ X W (.AugAssign (.Name x pos') .Add e pos) (dAug i rAddI de) := sj_aug i hN ip_add (fun {x y v u M Hf H P Q} m r1 r2 d f => by
  unfold rAddI rI0' at d
  split at d
  · cases r1
    cases r2
    exact ⟨_, _, rfl, rfl, f _ _ _ _ _ d (Ext.refl _) m (.int _)⟩
  · exact d.elim) he hi hx hf
theorem sj_subI {x : Str} {pos' : Pos} (i : Nat) (hN : X.N.Nodup) (he : EJ X W e de) (hi : X.N[i]? = some x := by rfl) (hx : Loc X.env.scope x := by exact Or.inl rfl) (hf : X.fn x = true ∨ X.env.scope.names.lookup x = some .local := by first | exact .inl rfl | exact .inr rfl) :
    SJ X W (.AugAssign (.Name x pos') .Sub e pos) (dAug i rSub de) := sj_aug i hN ip_sub (fun {x y v u M Hf H P Q} m r1 r2 d f => by
  unfold rSub rI0' at d
  split at d
  · cases r1
    cases r2
    exact ⟨_, _, rfl, rfl, f _ _ _ _ _ d (Ext.refl _) m (.int _)⟩
  · exact d.elim) he hi hx hf
end

/-! ### while -/
def dWhile (c : DT) (tb : DS) : DS := fun DD ρ M => ∃ I : Nat → Ev → Mm → Prop, (∃ n, I n ρ M) ∧ ∀ n ρ M, I n ρ M →
  c ρ M (fun b M1 => match b with
    | true => tb { DD with nx := fun ρ' M' => ∃ n', n' < n ∧ I n' ρ' M', ct := fun ρ' M' => ∃ n', n' < n ∧ I n' ρ' M', bk := DD.nx } ρ M1
    | false => DD.nx ρ M1) (DD.ex ρ)
theorem sj_while {X : Cx} {W : WX'} {c : Expr} {body : List Stmt} {pos : Pos} {tc : DT} {tb : DS} (hp : PassesOwn (model X.prog X.w) X.A X.env X.xe) (hc : TJ X W c tc) (hb : BJ X W body tb) : SJ X W (.While c body [] pos) (dWhile tc tb) :=
  ps_weak (ps_while hp hc hb) fun De σ H ⟨ρ, M, Hf, DD, s, d, f⟩ => by
    obtain ⟨I, ⟨n0, i0⟩, step⟩ := d
    refine ⟨fun n σ H => ∃ ρ M Hf', Ext Hf Hf' ∧ SR X.K ρ M Hf' σ H ∧ I n ρ M, ⟨n0, ρ, M, Hf, Ext.refl _, s, i0⟩, ?_⟩
    rintro n σ1 H1 ⟨ρ1, M1, Hf1, e1, s1, i1⟩
    refine ⟨ρ1, M1, Hf1, _, _, s1, step n ρ1 M1 i1, fun b M2 Hf2 H2 d2 e2 m2 => ?_, (f.go e1).x s1⟩
    have f2 := f.go (e1.trans e2)
    cases b with
    | true =>
      refine ⟨_, fun _ _ z => z, ρ1, M2, Hf2, _, s1.go e2 m2, d2, ?_⟩
      refine ⟨?_, f2.rt, f2.nx, ?_, f2.ex⟩ <;>
      · rintro ρ3 M3 σ3 Hf3 H3 ⟨n3, l3, i3⟩ e3 s3
        exact ⟨n3, l3, ρ3, M3, Hf3, (e1.trans e2).trans e3, s3, i3⟩
    | false => exact f2.nx ρ1 M2 σ1 Hf2 H2 d2 (Ext.refl _) (s1.go e2 m2)

/-! ### what is walked -/
abbrev DI := Ev → Mm → (List D → Mm → Prop) → XP → Prop
/-- J walks over ds, while what stays stays -/
structure ItD (K : Fz) (J : It) (ds : List D) (Hf : Hp) : Prop where
  go : ∀ i M2 Hf2 H2, i < ds.length → Ext Hf Hf2 → HM K Hf2 M2 H2 → J.go i H2
  stop : ∀ M2 Hf2 H2, Ext Hf Hf2 → HM K Hf2 M2 H2 → J.stop ds.length H2
  yld : ∀ i d M2 Hf2 H2 x H3, ds[i]? = some d → Ext Hf Hf2 → HM K Hf2 M2 H2 → J.yld i H2 x H3 → ∃ Hf3, Ext Hf2 Hf3 ∧ HM K Hf3 M2 H3 ∧ Rp K Hf3 x d
def liI (K : Fz) (W : WX') (d : DI) : TI := fun σ H R => ∃ ρ M Hf P PX, SR K ρ M Hf σ H ∧ d ρ M P PX ∧ (∀ ds M' Hf' H', P ds M' → Ext Hf Hf' → HM K Hf' M' H' → ∀ J, ItD K J ds Hf' → R J H') ∧ FinX K Hf σ PX W
abbrev IJ (X : Cx) (W : WX') (tg e : Expr) (d : DI) : Prop := PI X tg e (liI X.K W d)
theorem pi_weak {X : Cx} {tg e : Expr} {t t' : TI} (h : PI X tg e t) (w : ∀ σ H Q, t' σ H Q → t σ H Q) : PI X tg e t' := ⟨fun pins s σ H Q I q => h.run pins s σ H Q I (w σ H Q q)⟩
def tSeqI (K : Fz) (tl : TE) : TI := fun σ H R => tl σ H fun x H1 => ∃ a, x = .ref a ∧ (((∃ xs, SqL K H1 a xs) ∧ R (Itl K a) H1) ∨ ((∃ xs, SqT K H1 a xs) ∧ R (Itt K a) H1))
theorem pi_seq {X : Cx} {tg l : Expr} {tl : TE} (hl : PE X l tl) : PI X tg l (tSeqI X.K tl) := by
  refine ⟨fun pins s0 σ H0 R I0 h0 => thn (hl.run pins s0 σ H0 _ I0 h0) fun u s ⟨x, H, I, r, a, e, q⟩ => ?_⟩
  subst e
  cases r
  have fp : ∀ b ∈ [s.heap.objs.size], FpOk X pins H b := fun b hb => by
    obtain rfl : b = s.heap.objs.size := by simpa using hb
    exact I.fpOk (Nat.le_refl _) (I.hok.fresh (Nat.le_refl _))
  rcases q with ⟨⟨xs, hq⟩, q⟩ | ⟨⟨xs, hq⟩, q⟩
  · obtain ⟨its, _, pl, _⟩ := I.list hq
    exact wpAny_pyIter_list pl.isList ⟨s.heap.objs.size, [s.heap.objs.size], _, _, H, rfl,
      I.kept (t' := s.toks) fun b o e => Heap.get?_push_of_some _ e, turn_list a _, ⟨_, Heap.get?_push_size _ rfl, rfl, rfl⟩, fp, q⟩
  · obtain ⟨its, _, pt, _⟩ := I.tuple hq
    exact wpAny_pyIter_tuple (items := its.toArray) pt ⟨s.heap.objs.size, [s.heap.objs.size], _, _, H, rfl,
      I.kept (t' := s.toks) fun b o e => Heap.get?_push_of_some _ e, turn_tuple a _, ⟨_, Heap.get?_push_size _ rfl, rfl, rfl⟩, fp, q⟩
theorem sqL_one {K : Fz} {H : Hp} {a : Addr} {xs ys : List V} : True := trivial
/-- a list that stays -/
theorem itd_list {K : Fz} {Hf : Hp} {a : Addr} {vs : List V} {ds : List D} (h : SqL K Hf a vs) (r : Rps K Hf vs ds) : ItD K (Itl K a) ds Hf := by
  refine ⟨fun i M2 Hf2 H2 hi e m => ?_, fun M2 Hf2 H2 e m => ⟨vs, m.sub.sqL (e.sqL h), by rw [r.len]; exact Nat.le_refl _⟩, fun i d M2 Hf2 H2 x H3 hd e m y => ?_⟩
  · obtain ⟨v, h1, _⟩ := r.get (List.getElem?_eq_getElem hi)
    exact ⟨vs, v, m.sub.sqL (e.sqL h), h1⟩
  · obtain ⟨rfl, y⟩ := y
    obtain ⟨v, h1, h2⟩ := r.get hd
    have := y vs (m.sub.sqL (e.sqL h))
    rw [h1] at this
    cases this
    exact ⟨Hf2, Ext.refl _, m, h2.mono e⟩
theorem itd_tup {K : Fz} {Hf : Hp} {a : Addr} {vs : List V} {ds : List D} (h : SqT K Hf a vs) (r : Rps K Hf vs ds) : ItD K (Itt K a) ds Hf := by
  refine ⟨fun i M2 Hf2 H2 hi e m => ?_, fun M2 Hf2 H2 e m => ⟨vs, m.sub.sqT (e.sqT h), by rw [r.len]; exact Nat.le_refl _⟩, fun i d M2 Hf2 H2 x H3 hd e m y => ?_⟩
  · obtain ⟨v, h1, _⟩ := r.get (List.getElem?_eq_getElem hi)
    exact ⟨vs, v, m.sub.sqT (e.sqT h), h1⟩
  · obtain ⟨rfl, y⟩ := y
    obtain ⟨v, h1, h2⟩ := r.get hd
    have := y vs (m.sub.sqT (e.sqT h))
    rw [h1] at this
    cases this
    exact ⟨Hf2, Ext.refl _, m, h2.mono e⟩
/-- lo, lo + 1, .. -/
def upTo (lo : Int) (n : Nat) : List D := (List.range n).map fun i : Nat => D.int (lo + (i : Int))
theorem itd_range {K : Fz} {Hf : Hp} {lo : Int} {n : Nat} : ItD K (Itr lo n) (upTo lo n) Hf := by
  have hl : (upTo lo n).length = n := by simp [upTo]
  refine ⟨fun i M2 Hf2 H2 hi e m => by rw [hl] at hi; exact hi, fun M2 Hf2 H2 e m => by rw [hl]; exact Nat.le_refl _, fun i d M2 Hf2 H2 x H3 hd e m y => ?_⟩
  obtain ⟨rfl, rfl⟩ := y
  have hi : i < n := by
    have := (List.getElem?_eq_some_iff.mp hd).1
    rw [hl] at this
    exact this
  have : d = .int (lo + (i : Int)) := by
    simp [upTo, hi] at hd
    exact hd.symm
  rw [this]
  exact ⟨Hf2, Ext.refl _, m, .int _⟩
/-- a tuple, or a list that stays -/
def dItS (de : DE) : DI := fun ρ M P PX => de ρ M (fun x M1 => match x with
  | .tup ds => P ds M1
  | .lst ds => P ds M1
  | .scr ds => P ds M1
  | _ => False) PX
def dRng1 (d : DA) : DI := fun ρ M P PX => d ρ M (fun xs M1 => match xs with
  | [.int j] => (-(2 ^ 62) ≤ j ∧ j < 2 ^ 62) ∧ P (upTo 0 j.toNat) M1
  | _ => False) PX
def dRng2 (d : DA) : DI := fun ρ M P PX => d ρ M (fun xs M1 => match xs with
  | [.int i, .int j] => (-(2 ^ 62) ≤ i ∧ i < 2 ^ 62 ∧ -(2 ^ 62) ≤ j ∧ j < 2 ^ 62) ∧ P (upTo i (j - i).toNat) M1
  | _ => False) PX
section
variable {X : Cx} {W : WX'} {tg e a b : Expr} {de : DE} {d : DA} {p pos : Pos}
theorem ij_seq (he : EJ X W e de) : IJ X W tg e (dItS de) := pi_weak (pi_seq he) fun σ H Q ⟨ρ, M, Hf, P, PX, s, d, fe, fx⟩ => ⟨ρ, M, Hf, _, _, s, d, fun x M1 v Hf1 H1 d1 e1 m1 r1 => by
  try dsimp only at d1
  split at d1
  · cases r1 with
    | tup h r => exact ⟨_, rfl, .inr ⟨⟨_, SqT.of (m1.sub _ _ h)⟩, fe _ M1 Hf1 H1 d1 e1 m1 _ (itd_tup (SqT.of h) r)⟩⟩
  · cases r1 with
    | lst h r => exact ⟨_, rfl, .inl ⟨⟨_, SqL.of (m1.sub _ _ h)⟩, fe _ M1 Hf1 H1 d1 e1 m1 _ (itd_list (SqL.of h) r)⟩⟩
  · cases r1 with
    | scr h r => exact ⟨_, rfl, .inl ⟨⟨_, m1.sub.sqL h⟩, fe _ M1 Hf1 H1 d1 e1 m1 _ (itd_list h r)⟩⟩
  · exact d1.elim, fx⟩
theorem ij_range1 (hm : X.mg "range" = none) (ha : AJ X W [a] d) (hg : Gl X "range" := by rfl) (hs : starEach [a] X.env = [(false, eval a X.env)] := by rfl) : IJ X W tg (.Call (.Name "range" p) [a] [] pos) (dRng1 d) :=
  pi_weak (pi_range1 hg hm ha hs) fun σ H Q ⟨ρ, M, Hf, P, PX, s, d, fe, fx⟩ => ⟨ρ, M, Hf, _, _, s, d, fun xs M1 vs Hf1 H1 d1 e1 m1 r1 => by
    try dsimp only at d1
    split at d1
    · cases r1 with
      | cons h t =>
        cases t
        cases h
        exact ⟨_, rfl, d1.1.1, d1.1.2, fe _ M1 Hf1 H1 d1.2 e1 m1 _ itd_range⟩
    · exact d1.elim, fx⟩
theorem ij_range2 (hm : X.mg "range" = none) (ha : AJ X W [a, b] d) (hg : Gl X "range" := by rfl) (hs : starEach [a, b] X.env = [(false, eval a X.env), (false, eval b X.env)] := by rfl) (hs2 : starEach [b] X.env = [(false, eval b X.env)] := by rfl) : IJ X W tg (.Call (.Name "range" p) [a, b] [] pos) (dRng2 d) :=
  pi_weak (pi_range2 hg hm ha hs hs2) fun σ H Q ⟨ρ, M, Hf, P, PX, s, d, fe, fx⟩ => ⟨ρ, M, Hf, _, _, s, d, fun xs M1 vs Hf1 H1 d1 e1 m1 r1 => by
    try dsimp only at d1
    split at d1
    · cases r1 with
      | cons h t =>
        cases t with
        | cons h' t =>
          cases t
          cases h
          cases h'
          exact ⟨_, _, rfl, d1.1, fe _ M1 Hf1 H1 d1.2 e1 m1 _ itd_range⟩
    · exact d1.elim, fx⟩
end

/-! ### for -/
def dFor (di : DI) (g : DG) (tb : DS) : DS := fun DD ρ M => di ρ M (fun ds M1 => ∃ I : Nat → Ev → Mm → Prop, I 0 ρ M1 ∧
  (∀ i d ρ M, ds[i]? = some d → I i ρ M → g d ρ M (fun ρ2 M2 => tb { DD with nx := I (i + 1), ct := I (i + 1), bk := DD.nx } ρ2 M2)) ∧ ∀ ρ M, I ds.length ρ M → DD.nx ρ M) (DD.ex ρ)
theorem sj_for {X : Cx} {W : WX'} {tg iter : Expr} {body : List Stmt} {pos : Pos} {di : DI} {g : DG} {tb : DS} (hp : PassesOwn (model X.prog X.w) X.A X.env X.xe) (hc : X.calm = true) (hi : IJ X W tg iter di) (hg : GJ X tg g) (hb : BJ X W body tb)
    (hs : ∀ x, foldedSetIterable iter X.env x = pure x := by intro _; rfl) : SJ X W (.For tg iter body [] pos) (dFor di g tb) :=
  ps_weak (ps_for hp hc hi hg hb hs) fun De σ H ⟨ρ, M, Hf, DD, s, d, f⟩ => ⟨ρ, M, Hf, _, _, s, d, fun ds M1 Hf1 H1 d1 e1 m1 J it => by
    obtain ⟨I, i0, step, fin⟩ := d1
    refine ⟨fun i m σ H => m = ds.length - i ∧ i ≤ ds.length ∧ ∃ ρ M Hf2, Ext Hf1 Hf2 ∧ SR X.K ρ M Hf2 σ H ∧ I i ρ M, ⟨_, rfl, Nat.zero_le _, ρ, M1, Hf1, Ext.refl _, s.go e1 m1, i0⟩, ?_⟩
    rintro i m σ2 H2 ⟨rfl, hi, ρ2, M2, Hf2, e2, s2, i2⟩
    by_cases hlt : i < ds.length
    · refine .inr ⟨it.go i M2 Hf2 H2 hlt e2 s2.hm, fun σ H => ∃ ρ M Hf3, Ext Hf1 Hf3 ∧ SR X.K ρ M Hf3 σ H ∧ I (i + 1) ρ M, fun σ' H' p => ⟨ds.length - (i + 1), by omega, rfl, hlt, p⟩, fun x H3 y => ?_⟩
      obtain ⟨Hf3, e3, m3, r3⟩ := it.yld i _ M2 Hf2 H2 x H3 (List.getElem?_eq_getElem hlt) e2 s2.hm y
      have f3 := f.go ((e1.trans e2).trans e3)
      refine ⟨_, ρ2, M2, Hf3, _, s2.go e3 m3, r3, step i _ ρ2 M2 (List.getElem?_eq_getElem hlt) i2, fun ρ4 M4 σ4 Hf4 H4 d4 e4 s4 => ⟨ρ4, M4, Hf4, _, s4, d4, ?_⟩⟩
      have f4 := f3.go e4
      refine ⟨?_, f4.rt, f4.nx, ?_, f4.ex⟩ <;>
      · intro ρ5 M5 σ5 Hf5 H5 i5 e5 s5
        exact ⟨ρ5, M5, Hf5, ((e2.trans e3).trans e4).trans e5, s5, i5⟩
    · obtain rfl : i = ds.length := by omega
      exact .inl ⟨it.stop M2 Hf2 H2 e2 s2.hm, f.nx _ M2 _ Hf2 H2 (fin ρ2 M2 i2) (e1.trans e2) s2⟩, f.x s⟩

/-! ### list comprehensions -/
def wpD (ρ : Ev) : List Nat → Ev
  | [] => ρ
  | v :: vs => st (wpD ρ vs) v none
theorem SR.unset {K : Fz} {ρ : Ev} {M : Mm} {Hf : Hp} {σ : Sx} {H : Hp} (s : SR K ρ M Hf σ H) (i : Nat) : SR K (st ρ i none) M Hf (σ.set i none) H := by
  refine ⟨s.hm, fun j d' l q => ?_⟩
  rw [List.length_set] at l
  by_cases z : i = j
  · subst z
    rw [gt_same] at q
    cases q
  · rw [gt_ne _ _ _ _ z] at q
    obtain ⟨v', h1, h2⟩ := s.env j d' l q
    exact ⟨v', by rw [List.getElem?_set_ne z]; exact h1, h2⟩
theorem SR.wipe {K : Fz} {ρ : Ev} {M : Mm} {Hf : Hp} {σ : Sx} {H : Hp} (s : SR K ρ M Hf σ H) : ∀ vs : List Nat, SR K (wpD ρ vs) M Hf (L2.wipe σ vs) H
  | [] => s
  | v :: vs => (s.wipe vs).unset v
theorem wipe_in {σ : Sx} {i : Nat} : ∀ {vs : List Nat}, i ∈ vs → i < σ.length → (L2.wipe σ vs)[i]? = some none
  | v :: vs, h, l => by
    unfold L2.wipe
    by_cases e : v = i
    · subst e
      rw [List.getElem?_set_self (by rw [wipe_length]; exact l)]
    · rw [List.getElem?_set_ne e]
      exact wipe_in ((List.mem_cons.mp h).resolve_left fun z => e z.symm) l
theorem wipe_eq {σ τ : Sx} {vs : List Nat} (hl : σ.length = τ.length) (h : ∀ i, i ∉ vs → σ[i]? = τ[i]?) : L2.wipe σ vs = L2.wipe τ vs := by
  apply List.ext_getElem?
  intro i
  by_cases m : i ∈ vs
  · by_cases l : i < σ.length
    · rw [wipe_in m l, wipe_in m (by rw [← hl]; exact l)]
    · rw [List.getElem?_eq_none (by rw [wipe_length]; omega), List.getElem?_eq_none (by rw [wipe_length]; omega)]
  · rw [wipe_out m, wipe_out m, h i m]
/-- a target that fills names of the block alone -/
def TgOk (K : Fz) (g : TG) (vs : List Nat) (dg : D → Ev → (Ev → Prop) → Prop) : Prop :=
  ∀ {v : V} {d : D} {σ : Sx} {H : Hp} {ρ : Ev} {M : Mm} {Hf : Hp} {k : Ev → Prop} {Q : Sx → Hp → Prop}, SR K ρ M Hf (L2.wipe σ vs) H → Rp K Hf v d → dg d ρ k →
    (∀ σ2 ρ2, k ρ2 → L2.wipe σ2 vs = L2.wipe σ vs → SR K ρ2 M Hf σ2 H → Q σ2 H) → g v (L2.wipe σ vs) H Q
def tgN (i : Nat) : D → Ev → (Ev → Prop) → Prop := fun d ρ k => k (st ρ i (some d))
theorem tg_name {K : Fz} {i : Nat} {vs : List Nat} (h : i ∈ vs) : TgOk K (gName i) vs (tgN i) := fun {v d σ H ρ M Hf k Q} s r d q =>
  q _ _ d ((wipe_eq (by rw [List.length_set]) fun j hj => by rw [List.getElem?_set_ne (fun z => hj (by rw [← z]; exact h))]).trans (wipe_eq (by rw [wipe_length]) fun j hj => wipe_out hj)) (s.set r)
def stL (ρ : Ev) : List Nat → List D → Ev
  | i :: is, d :: ds => stL (st ρ i (some d)) is ds
  | _, _ => ρ
def tgT (is : List Nat) : D → Ev → (Ev → Prop) → Prop := fun d ρ k => match d with
  | .tup ds => ds.length = is.length ∧ k (stL ρ is ds)
  | _ => False
def gNames : List Nat → TGs
  | [] => gNil
  | i :: is => gCons (gName i) (gNames is)
def setL (σ : Sx) : List Nat → List V → Sx
  | i :: is, v :: vs => setL (σ.set i (some v)) is vs
  | _, _ => σ
theorem gNames_do {H : Hp} {Q : Sx → Hp → Prop} : ∀ {is : List Nat} {vs : List V} {σ : Sx}, vs.length = is.length → Q (setL σ is vs) H → gNames is vs σ H Q
  | [], [], _, _, q => ⟨rfl, q⟩
  | i :: is, v :: vs, σ, h, q => ⟨v, vs, rfl, gNames_do (is := is) (vs := vs) (Nat.succ.inj h) q⟩
  | [], _ :: _, _, h, _ => by cases h
  | _ :: _, [], _, h, _ => by cases h
theorem setL_len : ∀ {is : List Nat} {vs : List V} {σ : Sx}, (setL σ is vs).length = σ.length
  | [], [], _ => rfl
  | i :: is, v :: vs, σ => by
    show (setL (σ.set i (some v)) is vs).length = _
    rw [setL_len, List.length_set]
  | [], _ :: _, _ => rfl
  | _ :: _, [], _ => rfl
theorem setL_out {j : Nat} : ∀ {is : List Nat} {vs : List V} {σ : Sx}, j ∉ is → (setL σ is vs)[j]? = σ[j]?
  | [], [], _, _ => rfl
  | i :: is, v :: vs, σ, h => by
    show (setL (σ.set i (some v)) is vs)[j]? = _
    rw [setL_out (fun z => h (List.mem_cons_of_mem _ z)), List.getElem?_set_ne fun z => h (by rw [z]; exact List.mem_cons_self)]
  | [], _ :: _, _, _ => rfl
  | _ :: _, [], _, _ => rfl
theorem SR.setL {K : Fz} {M : Mm} {Hf : Hp} {H : Hp} : ∀ {is : List Nat} {vs : List V} {ds : List D} {ρ : Ev} {σ : Sx}, SR K ρ M Hf σ H → Rps K Hf vs ds → SR K (stL ρ is ds) M Hf (DL.setL σ is vs) H
  | [], _, _, _, _, s, .nil => s
  | [], _, _, _, _, s, .cons _ _ => s
  | _ :: _, _, _, _, _, s, .nil => s
  | i :: is, _, _, _, _, s, .cons h t => SR.setL (is := is) (s.set h) t
theorem tg_tup {K : Fz} {is : List Nat} {vs : List Nat} (h : ∀ i ∈ is, i ∈ vs) : TgOk K (gTup K is.length (gNames is)) vs (tgT is) := fun {v d σ H ρ M Hf k Q} s r d q => by
  unfold tgT at d
  split at d
  · obtain ⟨a, ws, rfl, ha, ra⟩ := tup_ok s.hm r
    refine ⟨a, ws, rfl, ha, by rw [ra.len]; exact d.1, gNames_do (by rw [ra.len]; exact d.1) (q _ _ d.2 ?_ (s.setL ra))⟩
    exact (wipe_eq setL_len fun j hj => setL_out fun z => hj (h j z)).trans (wipe_eq (by rw [wipe_length]) fun j hj => wipe_out hj)
  · exact d.elim
def XF : XP := fun _ _ _ => False
def dYes : DT := fun _ M P _ => P true M
/-- the new list stands at D meanwhile -/
def dLc (di : DI) (dg : D → Ev → (Ev → Prop) → Prop) (tt : DT) (te : DE) (vs : List Nat) : DE := fun ρ M P PX => di ρ M (fun ds M1 => ∀ D, M1 D = none → ∃ I : Nat → Mm → Prop, I 0 (um M1 D (.lst [])) ∧
  (∀ i d M, ds[i]? = some d → I i M → dg d (wpD ρ vs) (fun ρ2 => tt ρ2 M (fun b M3 => match b with
    | true => te ρ2 M3 (fun y M4 => match M4 D with
      | some (.lst acc) => acc.length < sizeLine ∧ I (i + 1) (um M4 D (.lst (acc ++ [y])))
      | _ => False) XF
    | false => I (i + 1) M3) XF)) ∧
  ∀ M, I ds.length M → match M D with
    | some (.lst acc) => P (.lst acc) (dm M D)
    | _ => False) PX
theorem lcj {K : Fz} {W : WX'} {di : DI} {g : TG} {dg : D → Ev → (Ev → Prop) → Prop} {tt : DT} {te : DE} {vs : List Nat} (tg : TgOk K g vs dg) : ∀ σ H Q, liE K W (dLc di dg tt te vs) σ H Q → tLc (liI K W di) g (liT K W0 tt) (liE K W0 te) vs σ H Q :=
  fun σ H Q ⟨ρ, M, Hf, P, PX, s, d, fe, fx⟩ => ⟨ρ, M, Hf, _, _, s, d, fun ds M1 Hf1 H1 d1 e1 m1 J it D hD => by
    obtain ⟨I, i0, step, fin⟩ := d1 D (m1.none_of hD)
    have s1 := s.go e1 m1
    have nf : ∀ {σ : Sx} {Hf : Hp}, FinX K Hf σ XF W0 := fun _ _ _ _ _ _ z => z.elim
    refine ⟨fun i m H => m = ds.length - i ∧ i ≤ ds.length ∧ ∃ M Hf2, Ext Hf1 Hf2 ∧ HM K Hf2 M H ∧ I i M, ⟨_, rfl, Nat.zero_le _, _, Hf1, Ext.refl _, m1.newM (mo := .lst []) hD ⟨[], upd_same, .nil⟩, i0⟩, ?_⟩
    rintro i m H2 ⟨rfl, hi, M2, Hf2, e2, m2, i2⟩
    by_cases hlt : i < ds.length
    · refine .inr ⟨it.go i M2 Hf2 H2 hlt e2 m2, fun H => ∃ M Hf3, Ext Hf1 Hf3 ∧ HM K Hf3 M H ∧ I (i + 1) M, fun H' p => ⟨ds.length - (i + 1), by omega, rfl, hlt, p⟩, fun x H3 y => ?_⟩
      obtain ⟨Hf3, e3, m3, r3⟩ := it.yld i _ M2 Hf2 H2 x H3 (List.getElem?_eq_getElem hlt) e2 m2 y
      have s3 := ((s1.go (e2.trans e3) m3).wipe vs)
      refine tg s3 r3 (step i _ M2 (List.getElem?_eq_getElem hlt) i2) fun σ4 ρ4 k4 w4 s4 => ⟨w4, ρ4, M2, Hf3, _, XF, s4, k4, fun b M5 Hf5 H5 d5 e5 m5 => ?_, nf⟩
      cases b with
      | false =>
        rw [if_neg Bool.false_ne_true]
        exact ⟨M5, Hf5, (e2.trans e3).trans e5, m5, d5⟩
      | true =>
        rw [if_pos rfl]
        refine ⟨ρ4, M5, Hf5, _, XF, s4.go e5 m5, d5, fun z M6 v6 Hf6 H6 d6 e6 m6 r6 => ?_, nf⟩
        try dsimp only at d6
        split at d6
        · rename_i acc em
          obtain ⟨_, vs6, q1, q2⟩ := m6.mu _ _ em
          exact ⟨vs6, q1, by rw [q2.len]; exact d6.1, _, Hf6, ((e2.trans e3).trans e5).trans e6, m6.write (mo' := .lst (acc ++ [z])) em q1 (fun x z => by cases z) ⟨_, upd_same, q2.app (.cons r6 .nil)⟩, d6.2⟩
        · exact d6.elim
    · obtain rfl : i = ds.length := by omega
      refine .inl ⟨it.stop M2 Hf2 H2 e2 m2, ?_⟩
      have d7 := fin M2 i2
      split at d7
      · rename_i acc em
        obtain ⟨_, vs6, q1, q2⟩ := m2.mu _ _ em
        obtain ⟨e8, m8⟩ := m2.freeze em q1 (fun x z => by cases z)
        exact fe _ _ _ _ H2 d7 ((e1.trans e2).trans e8) m8 (.lst upd_same (q2.mono e8))
      · exact d7.elim, fx⟩
/-- tests of a comprehension -/
theorem ptsj_nil {X : Cx} : PTs X [] (liT X.K W0 dYes) := ⟨fun pins s σ H Q I ⟨ρ, M, Hf, P, PX, sr, d, fe, fx⟩ => pts_nil.run pins s σ H Q I (fe true M Hf H d (Ext.refl _) sr.hm)⟩
theorem ptsj_one {X : Cx} {c : Expr} {t : DT} (h : TJ X W0 c t) : PTs X [c] (liT X.K W0 t) := pts_one h
section
variable {X : Cx} {W : WX'} {elt tg iter : Expr} {ifs : List Expr} {scope : Scope} {own : List (Str × Nat)} {pos : Pos} {di : DI} {g : TG} {dg : D → Ev → (Ev → Prop) → Prop} {tt : DT} {te : DE}
theorem ej_lc (hc : X.calm = true) (hN : X.N.Nodup) (hi : IJ X W tg iter di) (ok : BlkOk X.N X.env.scope scope own) (ht0 : TgOk X.K g (own.map (·.2)) dg)
    (hg : ∀ (s : Shared) (H : Hp) (C : Addr) (cl : List (Str × Addr)) (fp : List Addr), PG (X.blk s H scope (compEnvC scope cl C X.env) fp) tg g)
    (ht : ∀ (s : Shared) (H : Hp) (C : Addr) (cl : List (Str × Addr)) (fp : List Addr), PTs (X.blk s H scope (compEnvC scope cl C X.env) fp) ifs (liT X.K W0 tt))
    (he : ∀ (s : Shared) (H : Hp) (C : Addr) (cl : List (Str × Addr)) (fp : List Addr), EJ (X.blk s H scope (compEnvC scope cl C X.env) fp) W0 elt te)
    (hs : ∀ x, foldedSetIterable iter X.env x = pure x := by intro _; rfl) : EJ X W (.ListComp elt [⟨tg, iter, ifs, 0⟩] scope pos) (dLc di dg tt te (own.map (·.2))) :=
  pe_weak (pe_lc hc hN hi ok hg ht he hs) (lcj ht0)
theorem sj_setLc {y : Str} {py spos : Pos} (i : Nat) (hc : X.calm = true) (hN : X.N.Nodup) (hi : IJ X W tg iter di) (ok : BlkOk X.N X.env.scope scope own) (ht0 : TgOk X.K g (own.map (·.2)) dg)
    (hg : ∀ (s : Shared) (H : Hp) (C : Addr) (cl : List (Str × Addr)) (fp : List Addr), PG (X.blk s H scope (compEnvC scope cl C X.env) fp) tg g)
    (ht : ∀ (s : Shared) (H : Hp) (C : Addr) (cl : List (Str × Addr)) (fp : List Addr), PTs (X.blk s H scope (compEnvC scope cl C X.env) fp) ifs (liT X.K W0 tt))
    (he : ∀ (s : Shared) (H : Hp) (C : Addr) (cl : List (Str × Addr)) (fp : List Addr), EJ (X.blk s H scope (compEnvC scope cl C X.env) fp) W0 elt te)
    (hy : X.N[i]? = some y := by rfl) (hyl : X.env.scope.names.lookup y = some .local := by rfl) (hsw : swapsWith (.ListComp elt [⟨tg, iter, ifs, 0⟩] scope pos) (some (.Name y py)) spos.line X.env = pure true)
    (hs : ∀ x, foldedSetIterable iter X.env x = pure x := by intro _; rfl) : SJ X W (.Assign [.Name y py] (.ListComp elt [⟨tg, iter, ifs, 0⟩] scope pos) spos) (dAsg (dLc di dg tt te (own.map (·.2))) (dgName i)) :=
  ps_weak (ps_setLc (i := i) hc hN hy hyl hsw hi ok hg ht he hs) fun De σ H ⟨ρ, M, Hf, DD, s, d, f⟩ => lcj ht0 σ H _ ⟨ρ, M, Hf, _, _, s, d, fun x M1 v Hf1 H1 d1 e1 m1 r1 => f.nx _ M1 _ Hf1 H1 d1 e1 ((s.go e1 m1).set r1), f.x s⟩
end
end DL

/-! DL: a star in targets; dicts -/
namespace DL
open PySem PySem.Spec PyProof.Rows L2
/-! ### a, b, *c = e -/
section
variable {prog : Program} {w : World} {A : Around} {E : Value → Shared → Prop} {s : Shared} {env : Env}
/-- the last target is starred -/
theorem unpack_star {v : Value} {T T' id : String} {items : Array Value} {n : Nat} {ax : Addr} {St : Nat → Heap → Prop} {Q : List Value → Shared → Prop}
    (hTy : s.TypeIs v T) (hsl : typeLookup (.type T) "__iter__" = pure (some (.builtin id)))
    (hit : ∀ Q : Value → Shared → Prop, (∀ h', (∀ b o, s.heap.get? b = some o → h'.get? b = some o) → h'.get? s.heap.objs.size ≠ none → St 0 h' → Q (.ref s.heap.objs.size) { s with heap := h' }) → wpAny (model prog w) A (pyIter v) Q E s)
    (hdr : ∀ (s' : Shared) (Q : List Value → Shared → Prop), St 0 s'.heap → (∀ h', St n h' → Heap.SameBut s.heap.objs.size s'.heap h' → Q (items.toList.take n) { s' with heap := h' }) → wpAny (model prog w) A (draw (.ref s.heap.objs.size) n) Q E s')
    (hT' : T' = "str_ascii_iterator" ∨ T' = "str_iterator" ∨ T' = "list_iterator" ∨ T' = "tuple_iterator")
    (W : Walks prog w A.in1 s.heap.objs.size [s.heap.objs.size, ax] [s.heap.objs.size] items.size (fun i v => items[i]? = some v) St)
    (hTT : ∀ i (u : Shared), St i u.heap → u.TypeIs (.ref s.heap.objs.size) T') (hlt : ∀ i h, St i h → s.heap.objs.size < h.objs.size ∧ ax < h.objs.size)
    (hn : n ≤ items.size) (hz : items.size ≤ sizeLine)
    (h : ∀ (h' : Heap) (tk : Nat), (∀ b o, s.heap.get? b = some o → h'.get? b = some o) → Q (items.toList.take n ++ [.ref h'.objs.size]) { s with heap := h'.push { cls := .type "list", data := .seq (items.toList.drop n).toArray }, toks := tk }) :
    wpAny (model prog w) A (unpackItems v (n + 1) (some n)) Q E s := by
  unfold unpackItems
  refine wpAny_bind ?_
  unfold notIterableAtAll
  refine wpAny_bind (wpAny_specialOf hTy hsl (wpAny_pure ?_))
  simp only [Bool.false_eq_true, if_false]
  refine wpAny_bind (wpAny_holding (hit _ fun h1 k1 ne1 st1 => ?_))
  refine wpAny_bind (wpAny_holding (hdr { s with heap := h1 } _ st1 fun h2 st2 sb2 => ?_))
  have fl : (items.toList.take n).length = n := by
    rw [List.length_take, Array.length_toList]
    omega
  rw [if_neg (show ¬ (items.toList.take n).length < n by rw [fl]; omega)]
  refine wpAny_bind (wpAny_holding (PySem.W.kun_collect (s := { s with heap := h2 }) (T := T') (ax := ax) hT' W hTT hn st2 (hlt _ _ st2).1 (hlt _ _ st2).2 (fun h3 tk k3 => ?_) hz))
  have e0 : n + 1 - 1 - n = 0 := by omega
  rw [e0]
  show wpAny _ _ (newList ((items.toList.drop n).take ((items.toList.drop n).length - 0)) >>= fun d => pure (items.toList.take n ++ [d] ++ (items.toList.drop n).drop ((items.toList.drop n).length - 0))) _ _ _
  rw [Nat.sub_zero, List.take_length, List.drop_length]
  have keep : ∀ b o, s.heap.get? b = some o → h3.get? b = some o := fun b o e => by
    have nb : b ≠ s.heap.objs.size := Nat.ne_of_lt (Heap.lt_size e)
    exact k3 b o nb ((sb2.2 b nb).trans (k1 b o e))
  refine wpAny_bind (wpAny_newList (s := { s with heap := h3, toks := tk }) (wpAny_pure ?_) (by rw [List.length_drop, Array.length_toList]; omega))
  rw [List.append_nil]
  exact h h3 tk keep
end
/-- a, b, *c = a list or a tuple -/
def gStar (K : Fz) (n : Nat) (t : TGs) : TG := fun v σ H Q => ∃ a xs, v = .ref a ∧ (SqL K H a xs ∨ SqT K H a xs) ∧ n ≤ xs.length ∧ ∀ D, H D = none → t (xs.take n ++ [.ref D]) σ (upd H D (.lst (xs.drop n))) Q
theorem pg_star {X : Cx} {es : List Expr} {kk n : Nat} {pos : Pos} {t : TGs} (hc : X.calm = true) (h : PGs X es t) (hn : (assignEach es X.env).length = n + 1 := by rfl) (hst : (assignEach es X.env).findIdx? (·.1) = some n := by rfl) : PG X (.Tuple es kk pos) (gStar X.K n t) := by
  refine ⟨fun pins s σ H v u Q I r hw => ?_⟩
  obtain ⟨a, xs, rfl, hq, hl, hw⟩ := hw
  cases r
  have hh := I.ok.hd hc
  rw [assign_Tuple]
  refine wpAny_bind (wpAny_standAt ?_)
  unfold unpack
  rw [hn, hst]
  have fin : ∀ (its : List Value), Vals xs its → xs.length ≤ sizeLine → ∀ (h' : Heap) (tk : Nat), (∀ b o, s.heap.get? b = some o → h'.get? b = some o) →
      wpAny (model X.prog X.w) X.A (assignInOrder ((assignEach es X.env).map (·.2)) (its.toArray.toList.take n ++ [.ref h'.objs.size])) (fun _ s' => ∃ σ' H', Inv X pins σ' H' s' ∧ Q σ' H') X.xe
        { s with heap := h'.push { cls := .type "list", data := .seq (its.toArray.toList.drop n).toArray }, toks := tk } := fun its rv hz h' tk kp => by
    have I1 := I.kept (t' := tk) kp
    have fr : H h'.objs.size = none := I1.hok.fresh (Nat.le_refl _)
    have I2 := I1.laid (t' := tk) (a := h'.objs.size) (o := .lst (xs.drop n)) (h' := h'.push { cls := .type "list", data := .seq (its.drop n).toArray }) (fun b o e => Heap.get?_push_of_some _ e) (Nat.le_refl _)
      ⟨by rw [List.length_drop]; omega, its.drop n, 0, rv.drop n, Heap.get?_push_size _ rfl⟩
    exact h.run pins _ σ _ _ _ Q I2 ((rv.take n).append (show Vals [V.ref h'.objs.size] [Value.ref h'.objs.size] from .cons rfl .nil)) (hw _ fr)
  rcases hq with hq | hq
  · obtain ⟨its, rv, pl, hz⟩ := I.list hq
    have hlt : a ≠ s.heap.objs.size := by
      obtain ⟨o, _, e, _⟩ := pl
      exact Nat.ne_of_lt (Heap.lt_size e)
    have hx : n ≤ its.toArray.size := by
      rw [List.size_toArray, ← rv.length]
      exact hl
    refine wpAny_bind (wpAny_holding (unpack_star (T := "list") (T' := "list_iterator") (ax := a) (items := its.toArray) (St := fun i h => h.IsListIter s.heap.objs.size a i ∧ h.IsList a its.toArray) pl.isList.typeIs PySem.slot_list_iter.lookup
      (fun Q' h' => wpAny_pyIter_list pl.isList (h' _ (fun b o e => Heap.get?_push_of_some _ e) (by rw [Heap.get?_push_size _ rfl]; exact fun z => by cases z) ⟨⟨_, Heap.get?_push_size _ rfl, rfl, rfl⟩, pl.isList.push _⟩))
      (fun s' Q' st' h' => PySem.W.kun_draw hlt n 0 s' Q' st'.1 st'.2 (by omega) fun h2 i2 sb => h' h2 ⟨by rw [Nat.zero_add] at i2; exact i2, st'.2.extBut sb.extBut hlt⟩ sb)
      (.inr (.inr (.inl rfl))) (Walks.list (A := X.A.in1) hh s.heap.objs.size a hlt its.toArray) (fun i u st' => st'.1.typeIs) (fun i h st' => ?_) hx (by rw [List.size_toArray, ← rv.length]; exact hz) (fin its rv hz)))
    obtain ⟨⟨_, e1, _⟩, ⟨_, e2, _⟩⟩ := st'
    exact ⟨Heap.lt_size e1, Heap.lt_size e2⟩
  · obtain ⟨its, rv, pl, hz⟩ := I.tuple hq
    have hlt : a ≠ s.heap.objs.size := by
      obtain ⟨o, e, _⟩ := pl
      exact Nat.ne_of_lt (Heap.lt_size e)
    have hx : n ≤ its.toArray.size := by
      rw [List.size_toArray, ← rv.length]
      exact hl
    refine wpAny_bind (wpAny_holding (unpack_star (T := "tuple") (T' := "tuple_iterator") (ax := a) (items := its.toArray) (St := fun i h => h.IsTupleIter s.heap.objs.size a i ∧ h.IsTuple a its.toArray) pl.typeIs PyProof.Rows.slot_tuple_iter.lookup
      (fun Q' h' => wpAny_pyIter_tuple (items := its.toArray) pl (h' _ (fun b o e => Heap.get?_push_of_some _ e) (by rw [Heap.get?_push_size _ rfl]; exact fun z => by cases z) ⟨⟨_, Heap.get?_push_size _ rfl, rfl, rfl⟩, pl.push _⟩))
      (fun s' Q' st' h' => PyProof.Rows.draw_tuple hlt n 0 s' Q' st'.1 st'.2 (by omega) fun h2 i2 sb => h' h2 ⟨by rw [Nat.zero_add] at i2; exact i2, IsTup.extBut st'.2 sb.extBut hlt⟩ sb)
      (.inr (.inr (.inr rfl))) (Walks.tuple (A := X.A.in1) hh s.heap.objs.size a hlt its.toArray) (fun i u st' => st'.1.typeIs) (fun i h st' => ?_) hx (by rw [List.size_toArray, ← rv.length]; exact hz) (fin its rv hz)))
    obtain ⟨⟨_, e1, _⟩, ⟨_, e2, _⟩⟩ := st'
    exact ⟨Heap.lt_size e1, Heap.lt_size e2⟩
theorem pgs_star1 {X : Cx} {e : Expr} {p : Pos} {t : TG} (h1 : PG X e t) (hs : (assignEach [.Starred e p] X.env).map (·.2) = [assign e X.env] := by rfl) : PGs X [.Starred e p] (gCons t gNil) := by
  refine ⟨fun pins s σ H vs us Q I r ⟨v, vr, e1, hw⟩ => ?_⟩
  subst e1
  cases r with
  | cons r rr =>
    rw [hs]
    refine assignInOrder_cons (thn (h1.run pins s σ H _ _ _ I r hw) fun _ s1 ⟨σ1, H1, I1, q1⟩ => ?_)
    obtain ⟨rfl, q1⟩ := q1
    cases rr
    exact assignInOrder_nil ⟨σ1, H1, I1, q1⟩
/-- the items of a tuple or a list -/
def seqD (M : Mm) : D → Option (List D)
  | .tup ds => some ds
  | d => asL M d
theorem seqD_ok {K : Fz} {M : Mm} {Hf H : Hp} {v : V} {d : D} {ds : List D} (m : HM K Hf M H) (r : Rp K Hf v d) (h : seqD M d = some ds) : ∃ a vs, v = .ref a ∧ (SqL K H a vs ∨ SqT K H a vs) ∧ Rps K Hf vs ds := by
  unfold seqD at h
  split at h
  · cases h
    obtain ⟨a, vs, rfl, h, r2⟩ := tup_ok m r
    exact ⟨a, vs, rfl, .inr h, r2⟩
  · obtain ⟨a, vs, rfl, h, r2⟩ := asL_ok m r h
    exact ⟨a, vs, rfl, .inl h, r2⟩
/-- a, b, *c: n names ahead, the rest a list that may change or that stays -/
def dgStar (n : Nat) (gs : DGs) : DG := fun d ρ M P => match seqD M d with
  | some ds => n ≤ ds.length ∧ gs (ds.take n ++ [.lst (ds.drop n)]) ρ M P
  | none => False
def dgStarM (n : Nat) (gs : DGs) : DG := fun d ρ M P => match seqD M d with
  | some ds => n ≤ ds.length ∧ ∀ a, M a = none → gs (ds.take n ++ [.ref a]) ρ (um M a (.lst (ds.drop n))) P
  | none => False
section
variable {X : Cx} {pos : Pos} {es : List Expr} {gs : DGs}
theorem gsj_star {e : Expr} {p : Pos} {g : DG} (h1 : GJ X e g) (hs : (assignEach [.Starred e p] X.env).map (·.2) = [assign e X.env] := by rfl) : GsJ X [.Starred e p] (dgCons g dgNil) :=
  pgs_weak (pgs_star1 h1 hs) fun v σ H Q ⟨d, ρ, M, Hf, P, s, r, g, f⟩ => by
    unfold dgCons at g
    split at g
    · cases r with
      | cons h t => exact ⟨_, _, rfl, _, ρ, M, Hf, _, s, h, g, fun ρ1 M1 σ1 Hf1 H1 d1 e1 s1 => by
          unfold dgNil at d1
          split at d1
          · cases t
            exact ⟨rfl, f _ _ _ _ _ d1 e1 s1⟩
          · exact d1.elim⟩
    · exact g.elim
theorem gj_star {k n : Nat} (hc : X.calm = true) (h : GsJ X es gs) (hn : (assignEach es X.env).length = n + 1 := by rfl) (hst : (assignEach es X.env).findIdx? (·.1) = some n := by rfl) : GJ X (.Tuple es k pos) (dgStar n gs) :=
  pg_weak (pg_star hc h hn hst) fun v σ H Q ⟨d, ρ, M, Hf, P, s, r, g, f⟩ => by
    unfold dgStar at g
    split at g
    case h_2 => exact g.elim
    rename_i ds eq
    obtain ⟨a, vs, rfl, hq, rr⟩ := seqD_ok s.hm r eq
    obtain ⟨l, g⟩ := g
    refine ⟨a, vs, rfl, hq, by rw [rr.len]; exact l, fun D hD => ?_⟩
    obtain ⟨e1, m1⟩ := s.hm.newF (o := .lst (vs.drop n)) hD
    exact ⟨_, ρ, M, _, P, s.go e1 m1, ((rr.mono e1).take n).app (.cons (.lst upd_same ((rr.mono e1).drop n)) .nil), g, f.go e1⟩
theorem gj_starM {k n : Nat} (hc : X.calm = true) (h : GsJ X es gs) (hn : (assignEach es X.env).length = n + 1 := by rfl) (hst : (assignEach es X.env).findIdx? (·.1) = some n := by rfl) : GJ X (.Tuple es k pos) (dgStarM n gs) :=
  pg_weak (pg_star hc h hn hst) fun v σ H Q ⟨d, ρ, M, Hf, P, s, r, g, f⟩ => by
    unfold dgStarM at g
    split at g
    case h_2 => exact g.elim
    rename_i ds eq
    obtain ⟨a, vs, rfl, hq, rr⟩ := seqD_ok s.hm r eq
    obtain ⟨l, g⟩ := g
    refine ⟨a, vs, rfl, hq, by rw [rr.len]; exact l, fun D hD => ?_⟩
    exact ⟨_, ρ, _, Hf, P, s.go (Ext.refl _) (s.hm.newM (mo := .lst (ds.drop n)) hD ⟨_, upd_same, rr.drop n⟩), (rr.take n).app (.cons (.ref D) .nil), g D (s.hm.none_of hD), f⟩
end
end DL

/-! DL: dicts by ints and texts, lists turned round -/
namespace DL
open PySem PySem.Spec PyProof.Rows L2
/-! ### tables -/
section
variable {α : Type}
def lk (kvs : List (Key × α)) (k : Key) : Option α := (kvs.find? fun kv => decide (kv.1 = k)).map (·.2)
def ins (kvs : List (Key × α)) (k : Key) (v : α) : List (Key × α) := if (kvs.any fun kv => decide (kv.1 = k)) = true then kvs.map (fun kv => if kv.1 = k then (kv.1, v) else kv) else kvs ++ [(k, v)]
def out (kvs : List (Key × α)) (k : Key) : List (Key × α) := kvs.filter fun kv => decide (kv.1 ≠ k)
end
def keyOf : D → Option Key
  | .int i => some (.inl i)
  | .str x => some (.inr x)
  | _ => none
theorem keyOf_ok {K : Fz} {H : Hp} {v : V} {d : D} {k : Key} (r : Rp K H v d) (h : keyOf d = some k) : v = kV k := by
  unfold keyOf at h
  split at h
  · cases h
    cases r
    rfl
  · cases h
    cases r
    rfl
  · cases h
section
variable {K : Fz} {H : Hp}
theorem Rks.any {k : Key} : ∀ {ws : List (Key × V)} {kvs : List (Key × D)}, Rks K H ws kvs → (ws.any fun kv => decide (kv.1 = k)) = (kvs.any fun kv => decide (kv.1 = k))
  | _, _, .nil => rfl
  | _, _, .cons _ r => by
    rw [List.any_cons, List.any_cons, r.any]
theorem Rks.app {κ : Type} : ∀ {ws vs : List (κ × V)} {kvs es : List (κ × D)}, Rks K H ws kvs → Rks K H vs es → Rks K H (ws ++ vs) (kvs ++ es)
  | _, _, _, _, .nil, s => s
  | _, _, _, _, .cons h r, s => .cons h (r.app s)
theorem Rks.map {k : Key} {v : V} {d : D} (h : Rp K H v d) : ∀ {ws : List (Key × V)} {kvs : List (Key × D)}, Rks K H ws kvs → Rks K H (ws.map fun kv => if kv.1 = k then (kv.1, v) else kv) (kvs.map fun kv => if kv.1 = k then (kv.1, d) else kv)
  | _, _, .nil => .nil
  | _, _, .cons (k := k') g r => by
    rw [List.map_cons, List.map_cons]
    by_cases e : k' = k
    · rw [if_pos e, if_pos e]
      exact .cons h (r.map h)
    · rw [if_neg e, if_neg e]
      exact .cons g (r.map h)
theorem Rks.ins {k : Key} {v : V} {d : D} {ws : List (Key × V)} {kvs : List (Key × D)} (r : Rks K H ws kvs) (h : Rp K H v d) : Rks K H (putK ws k v) (ins kvs k d) := by
  unfold putK DL.ins
  rw [r.any]
  split
  · exact r.map h
  · exact r.app (.cons h .nil)
theorem Rks.out {k : Key} : ∀ {ws : List (Key × V)} {kvs : List (Key × D)}, Rks K H ws kvs → Rks K H (dropK ws k) (out kvs k)
  | _, _, .nil => .nil
  | _, _, .cons (k := k') g r => by
    unfold dropK DL.out
    rw [List.filter_cons, List.filter_cons]
    by_cases e : k' = k
    · rw [if_neg (by simp [e]), if_neg (by simp [e])]
      exact r.out
    · rw [if_pos (by simp [e]), if_pos (by simp [e])]
      exact .cons g r.out
theorem Rks.lk {k : Key} : ∀ {ws : List (Key × V)} {kvs : List (Key × D)}, Rks K H ws kvs → (valV ws k = none ∧ lk kvs k = none) ∨ ∃ v d, valV ws k = some v ∧ lk kvs k = some d ∧ Rp K H v d
  | _, _, .nil => .inl ⟨rfl, rfl⟩
  | _, _, .cons (k := k') (v := v) (d := d) g r => by
    by_cases e : k' = k
    · refine .inr ⟨v, d, ?_, ?_, g⟩
      · unfold valV
        rw [List.find?_cons_of_pos (by simp [e])]
        rfl
      · unfold DL.lk
        rw [List.find?_cons_of_pos (by simp [e])]
        rfl
    · have ih := r.lk (k := k)
      unfold valV DL.lk at ih ⊢
      rw [List.find?_cons_of_neg (by simp [e]), List.find?_cons_of_neg (by simp [e])]
      exact ih
theorem Rks.len {κ : Type} : ∀ {ws : List (κ × V)} {kvs : List (κ × D)}, Rks K H ws kvs → ws.length = kvs.length
  | _, _, .nil => rfl
  | _, _, .cons _ r => congrArg Nat.succ r.len
end
/-- the table at a -/
def tab (M : Mm) : D → Option (Addr × List (Key × D))
  | .ref a => (match M a with
    | some (.dct kvs) => some (a, kvs)
    | _ => none)
  | _ => none
theorem tab_ok {K : Fz} {M : Mm} {Hf H : Hp} {x : D} {v : V} {a : Addr} {kvs : List (Key × D)} (m : HM K Hf M H) (r : Rp K Hf v x) (h : tab M x = some (a, kvs)) : ∃ ws, v = .ref a ∧ H a = some (.dK ws) ∧ Rks K Hf ws kvs ∧ M a = some (.dct kvs) := by
  unfold tab at h
  split at h
  · split at h
    · rename_i e
      cases h
      cases r
      obtain ⟨_, ws, q1, q2⟩ := m.mu _ _ e
      exact ⟨ws, rfl, q1, q2, e⟩
    · cases h
  · cases h
/-- d[k], d a table -/
def dGet (td ty : DE) : DE := fun ρ M P PX => td ρ M (fun x M1 => ty ρ M1 (fun y M2 => match tab M2 x, keyOf y with
  | some (_, kvs), some k => (match lk kvs k with
    | some z => P z M2
    | none => False)
  | _, _ => False) PX) PX
def dInT (neg : Bool) (ty td : DE) : DE := fun ρ M P PX => ty ρ M (fun y M1 => td ρ M1 (fun x M2 => match tab M2 x, keyOf y with
  | some (_, kvs), some k => P (.bl (neg ^^ (lk kvs k).isSome)) M2
  | _, _ => False) PX) PX
/-- d[k] = e -/
def dPut (td ty tv : DE) : DS := fun DD ρ M => tv ρ M (fun v M1 => td ρ M1 (fun x M2 => ty ρ M2 (fun y M3 => match tab M3 x, keyOf y with
  | some (a, kvs), some k => kvs.length < sizeLine ∧ DD.nx ρ (um M3 a (.dct (ins kvs k v)))
  | _, _ => False) (DD.ex ρ)) (DD.ex ρ)) (DD.ex ρ)
section
variable {X : Cx} {W : WX'} {pos pos' : Pos} {o i value : Expr} {td ty tv : DE}
theorem ej_dget (hu : X.A.units + 1 < cLine) (ho : EJ X W o td) (hi : EJ X W i ty) (hs : NoSl i := by exact fun _ _ => rfl) : EJ X W (.Subscript o i pos) (dGet td ty) := pe_weak (pe_dget hu ho hi hs) fun σ H Q ⟨ρ, M, Hf, P, PX, s, d, fe, fx⟩ =>
  ⟨ρ, M, Hf, _, PX, s, d, fun x M1 v Hf1 H1 d1 e1 m1 r1 => ⟨ρ, M1, Hf1, _, PX, s.go e1 m1, d1, fun y M2 u Hf2 H2 d2 e2 m2 r2 => by
    dsimp only at d2
    split at d2
    · rename_i h1 h2
      obtain ⟨ws, rfl, ha, rk, _⟩ := tab_ok m2 (r1.mono e2) h1
      obtain rfl := keyOf_ok r2 h2
      split at d2
      · rename_i z hz
        rcases rk.lk with ⟨_, q⟩ | ⟨v', d', q1, q2, q3⟩
        · rw [hz] at q
          cases q
        · rw [hz] at q2
          cases q2
          exact ⟨_, v', rfl, q1 ▸ DGet.k ha, fe _ _ _ _ _ d2 (e1.trans e2) m2 q3⟩
      · exact d2.elim
    · exact d2.elim, fx.go e1⟩, fx⟩
theorem in_tab {K : Fz} {Hf H : Hp} {M : Mm} {x y : D} {v u : V} {a : Addr} {kvs : List (Key × D)} {k : Key} (m : HM K Hf M H) (r1 : Rp K Hf v x) (r2 : Rp K Hf u y) (h1 : tab M x = some (a, kvs)) (h2 : keyOf y = some k) : ∃ o : Option V, v = .ref a ∧ DGet H a u o ∧ o.isSome = (lk kvs k).isSome := by
  obtain ⟨ws, rfl, ha, rk, _⟩ := tab_ok m r1 h1
  obtain rfl := keyOf_ok r2 h2
  refine ⟨_, rfl, DGet.k ha, ?_⟩
  rcases rk.lk (k := k) with ⟨q1, q⟩ | ⟨v', d', q1, q2, q3⟩
  · rw [q1, q]
    rfl
  · rw [q1, q2]
    rfl
theorem ej_din (hu : X.A.units + 1 < cLine) (hi : EJ X W i ty) (ho : EJ X W o td) (hb : behindInMarks .In o = false := by rfl) : EJ X W (.Compare i [.In] [o] pos) (dInT false ty td) := pe_weak (pe_cmp (pc_din hu hi ho) hb) fun σ H Q ⟨ρ, M, Hf, P, PX, s, d, fe, fx⟩ =>
  ⟨ρ, M, Hf, _, PX, s, d, fun y M1 v Hf1 H1 d1 e1 m1 r1 => ⟨ρ, M1, Hf1, _, PX, s.go e1 m1, d1, fun x M2 u Hf2 H2 d2 e2 m2 r2 => by
    dsimp only at d2
    split at d2
    · rename_i h1 h2
      obtain ⟨o, rfl, q1, q2⟩ := in_tab m2 r2 (r1.mono e2) h1 h2
      rw [Bool.false_xor, ← q2] at d2
      exact ⟨_, o, rfl, q1, fe _ _ _ _ _ d2 (e1.trans e2) m2 (.bl _)⟩
    · exact d2.elim, fx.go e1⟩, fx⟩
theorem ej_dnotin (hu : X.A.units + 1 < cLine) (hi : EJ X W i ty) (ho : EJ X W o td) (hb : behindInMarks .NotIn o = false := by rfl) : EJ X W (.Compare i [.NotIn] [o] pos) (dInT true ty td) := pe_weak (pe_cmp (pc_dnotin hu hi ho) hb) fun σ H Q ⟨ρ, M, Hf, P, PX, s, d, fe, fx⟩ =>
  ⟨ρ, M, Hf, _, PX, s, d, fun y M1 v Hf1 H1 d1 e1 m1 r1 => ⟨ρ, M1, Hf1, _, PX, s.go e1 m1, d1, fun x M2 u Hf2 H2 d2 e2 m2 r2 => by
    dsimp only at d2
    split at d2
    · rename_i h1 h2
      obtain ⟨o, rfl, q1, q2⟩ := in_tab m2 r2 (r1.mono e2) h1 h2
      rw [Bool.true_xor, ← q2] at d2
      exact ⟨_, o, rfl, q1, fe _ _ _ _ _ d2 (e1.trans e2) m2 (.bl _)⟩
    · exact d2.elim, fx.go e1⟩, fx⟩
/-- as tests -/
theorem tj_din (hu : X.A.units + 1 < cLine) (hi : EJ X W i ty) (ho : EJ X W o td) (hb : behindInMarks .In o = false := by rfl) : TJ X W (.Compare i [.In] [o] pos) (dTst (dInT false ty td)) := pt_weak (pt_cmp (pc_din hu hi ho) hb) fun σ H Q z => by
  obtain ⟨ρ, M, Hf, P, PX, s, d, fe, fx⟩ := tstj σ H Q z
  exact ⟨ρ, M, Hf, _, PX, s, d, fun y M1 v Hf1 H1 d1 e1 m1 r1 => ⟨ρ, M1, Hf1, _, PX, s.go e1 m1, d1, fun x M2 u Hf2 H2 d2 e2 m2 r2 => by
    dsimp only at d2
    split at d2
    · rename_i h1 h2
      obtain ⟨o, rfl, q1, q2⟩ := in_tab m2 r2 (r1.mono e2) h1 h2
      rw [Bool.false_xor, ← q2] at d2
      exact ⟨_, o, rfl, q1, fe _ _ _ _ _ d2 (e1.trans e2) m2 (.bl _)⟩
    · exact d2.elim, fx.go e1⟩, fx⟩
theorem tj_dnotin (hu : X.A.units + 1 < cLine) (hi : EJ X W i ty) (ho : EJ X W o td) (hb : behindInMarks .NotIn o = false := by rfl) : TJ X W (.Compare i [.NotIn] [o] pos) (dTst (dInT true ty td)) := pt_weak (pt_cmp (pc_dnotin hu hi ho) hb) fun σ H Q z => by
  obtain ⟨ρ, M, Hf, P, PX, s, d, fe, fx⟩ := tstj σ H Q z
  exact ⟨ρ, M, Hf, _, PX, s, d, fun y M1 v Hf1 H1 d1 e1 m1 r1 => ⟨ρ, M1, Hf1, _, PX, s.go e1 m1, d1, fun x M2 u Hf2 H2 d2 e2 m2 r2 => by
    dsimp only at d2
    split at d2
    · rename_i h1 h2
      obtain ⟨o, rfl, q1, q2⟩ := in_tab m2 r2 (r1.mono e2) h1 h2
      rw [Bool.true_xor, ← q2] at d2
      exact ⟨_, o, rfl, q1, fe _ _ _ _ _ d2 (e1.trans e2) m2 (.bl _)⟩
    · exact d2.elim, fx.go e1⟩, fx⟩
theorem sj_dput (hu : X.A.units + 1 < cLine) (ho : EJ X W o td) (hi : EJ X W i ty) (hv : EJ X W value tv) (hs : swapsWith value (some (.Subscript o i pos')) pos.line X.env = pure false := by rfl) : SJ X W (.Assign [.Subscript o i pos'] value pos) (dPut td ty tv) :=
  ps_weak (ps_dput hu ho hi hv hs) fun De σ H ⟨ρ, M, Hf, DD, s, d, f⟩ =>
    ⟨ρ, M, Hf, _, _, s, d, fun v M1 wv Hf1 H1 d1 e1 m1 r1 => ⟨ρ, M1, Hf1, _, _, s.go e1 m1, d1, fun x M2 wx Hf2 H2 d2 e2 m2 r2 => ⟨ρ, M2, Hf2, _, _, (s.go e1 m1).go e2 m2, d2, fun y M3 wy Hf3 H3 d3 e3 m3 r3 => by
      dsimp only at d3
      split at d3
      · rename_i h1 h2
        obtain ⟨ws, rfl, ha, rk, em⟩ := tab_ok m3 (r2.mono e3) h1
        obtain rfl := keyOf_ok r3 h2
        have rv := (r1.mono e2).mono e3
        refine ⟨_, _, rfl, DPut.k ha (by rw [rk.len]; exact d3.1), f.nx _ _ _ Hf3 _ d3.2 ((e1.trans e2).trans e3) ?_⟩
        exact (((s.go e1 m1).go e2 m2).go e3 m3).go (Ext.refl _) (m3.write em ha (fun x z => by cases z) ⟨_, upd_same, rk.ins rv⟩)
      · exact d3.elim, ((f.x s).go e1).go e2⟩, (f.x s).go e1⟩, f.x s⟩
end

/-! ### {k: v, ..} -/
def dPairs : List (DE × DE) → Ev → Mm → (List (D × D) → Mm → Prop) → XP → Prop
  | [], _, M, P, _ => P [] M
  | (tk, tv) :: r, ρ, M, P, PX => tk ρ M (fun x M1 => tv ρ M1 (fun y M2 => dPairs r ρ M2 (fun ps M3 => P ((x, y) :: ps) M3) PX) PX) PX
def keysOf : List (D × D) → Option (List (Key × D))
  | [] => some []
  | (x, y) :: r => (match keyOf x, keysOf r with
    | some k, some kvs => some ((k, y) :: kvs)
    | _, _ => none)
def merged (kvs more : List (Key × D)) : List (Key × D) := more.foldl (fun acc kv => ins acc kv.1 kv.2) kvs
/-- the new table stands at p meanwhile -/
def dDisp (trs : List (DE × DE)) : DE := fun ρ M P PX => ∀ p, M p = none → dPairs trs ρ (um M p (.dct [])) (fun ps M2 => match M2 p, keysOf ps with
  | some (.dct []), some kvs => kvs.length ≤ 15 ∧ P (.ref p) (um M2 p (.dct (merged [] kvs)))
  | _, _ => False) PX
inductive RPs (K : Fz) (H : Hp) : List (V × V) → List (D × D) → Prop
  | nil : RPs K H [] []
  | cons {x y : V} {a b : D} {vs : List (V × V)} {ds : List (D × D)} : Rp K H x a → Rp K H y b → RPs K H vs ds → RPs K H ((x, y) :: vs) ((a, b) :: ds)
theorem pairsj {K : Fz} {W : WX'} : ∀ (trs : List (DE × DE)) {σ : Sx} {H : Hp} {ρ : Ev} {M : Mm} {Hf : Hp} {P : List (D × D) → Mm → Prop} {PX : XP} {Q : List (V × V) → Hp → Prop}, SR K ρ M Hf σ H → dPairs trs ρ M P PX →
    (∀ ps M' vs Hf' H', P ps M' → Ext Hf Hf' → HM K Hf' M' H' → RPs K Hf' vs ps → Q vs H') → FinX K Hf σ PX W → tPairs (trs.map fun t => (liE K W t.1, liE K W t.2)) σ H Q
  | [], σ, H, ρ, M, Hf, P, PX, Q, s, d, f, fx => f [] M [] Hf H d (Ext.refl _) s.hm .nil
  | (tk, tv) :: r, σ, H, ρ, M, Hf, P, PX, Q, s, d, f, fx =>
    ⟨ρ, M, Hf, _, PX, s, d, fun x M1 v Hf1 H1 d1 e1 m1 r1 => ⟨ρ, M1, Hf1, _, PX, s.go e1 m1, d1, fun y M2 u Hf2 H2 d2 e2 m2 r2 =>
      pairsj r ((s.go e1 m1).go e2 m2) d2 (fun ps M3 vs Hf3 H3 d3 e3 m3 r3 => f _ M3 _ Hf3 H3 d3 ((e1.trans e2).trans e3) m3 (.cons ((r1.mono e2).mono e3) (r2.mono e3) r3)) (fx.go (e1.trans e2)), fx.go e1⟩, fx⟩
theorem keysOf_ok {K : Fz} {H : Hp} : ∀ {vs : List (V × V)} {ps : List (D × D)} {kvs : List (Key × D)}, RPs K H vs ps → keysOf ps = some kvs → ∃ ws : List (Key × V), vs = ws.map (fun kv => (kV kv.1, kv.2)) ∧ Rks K H ws kvs
  | _, _, _, .nil, h => by
    cases h
    exact ⟨[], rfl, .nil⟩
  | _, _, _, .cons r1 r2 r3, h => by
    unfold keysOf at h
    split at h
    · rename_i h1 h2
      cases h
      obtain ⟨ws, rfl, rk⟩ := keysOf_ok r3 h2
      obtain rfl := keyOf_ok r1 h1
      exact ⟨(_, _) :: ws, rfl, .cons r2 rk⟩
    · cases h
theorem Rks.merged {K : Fz} {H : Hp} : ∀ {ws more' : List (Key × V)} {kvs more : List (Key × D)}, Rks K H more' more → Rks K H ws kvs → Rks K H (mergeK ws more') (merged kvs more)
  | _, _, _, _, .nil, r => r
  | ws, _, kvs, _, .cons (k := k) (v := v) (vs := vs) (d := d) (ds := ds) h t, r => show Rks K H (mergeK (putK ws k v) vs) (DL.merged (DL.ins kvs k d) ds) from Rks.merged t (r.ins h)
section
variable {X : Cx} {W : WX'} {pos : Pos}
/-- pairs of a display -/
def PsJ (X : Cx) (W : WX') (pos : Pos) (keys : List (Option Expr)) (values : List Expr) (trs : List (DE × DE)) : Prop := PPs X pos keys values (trs.map fun t => (liE X.K W t.1, liE X.K W t.2))
theorem psj_nil : PsJ X W pos [] [] [] := pps_nil
theorem psj_cons {k v : Expr} {ks : List (Option Expr)} {vs : List Expr} {tk tv : DE} {trs : List (DE × DE)} (hk : EJ X W k tk) (hv : EJ X W v tv) (hr : PsJ X W pos ks vs trs) : PsJ X W pos (some k :: ks) (v :: vs) ((tk, tv) :: trs) := pps_cons hk hv hr
theorem ej_disp {keys : List (Option Expr)} {values : List Expr} {trs : List (DE × DE)} (h : PsJ X W pos keys values trs) (hall : keys.all (·.isSome) = true := by rfl) (hl : keys.length = values.length := by rfl) (h0 : keys ≠ [] := by exact fun z => by cases z)
    (h15 : keys.length ≤ 15 := by decide) : EJ X W (.Dict keys values pos) (dDisp trs) := pe_weak (pe_disp h hall hl h0 h15) fun σ H Q ⟨ρ, M, Hf, P, PX, s, d, fe, fx⟩ p hp => by
  have mp := s.hm.none_of hp
  have m1 := s.hm.newM (mo := .dct []) (o := .dK []) hp ⟨[], upd_same, .nil⟩
  refine pairsj trs (s.go (Ext.refl _) m1) (d p mp) (fun ps M' vs Hf' H' d' e' m' r' => ?_) fx
  try dsimp only at d'
  split at d'
  · rename_i h1 h2
    obtain ⟨ws, rfl, rk⟩ := keysOf_ok r' h2
    obtain ⟨_, us, q1, q2⟩ := m'.mu _ _ h1
    cases q2
    refine ⟨q1, ws, rfl, by rw [rk.len]; exact d'.1, ?_⟩
    exact fe _ _ _ _ _ d'.2 e' (m'.write h1 q1 (fun x z => by cases z) ⟨_, upd_same, Rks.merged rk .nil⟩) (.ref p)
  · exact d'.elim
theorem ej_dnew : EJ X W (.Dict [] [] pos) (fun ρ M P PX => ∀ p, M p = none → P (.ref p) (um M p (.dct []))) := pe_weak pe_dnewK fun σ H Q ⟨ρ, M, Hf, P, PX, s, d, fe, fx⟩ p hp =>
  fe _ _ _ _ _ (d p (s.hm.none_of hp)) (Ext.refl _) (s.hm.newM (mo := .dct []) hp ⟨[], upd_same, .nil⟩) (.ref p)
end
/-! ### xs[::-1] -/
def dRev (de : DE) : DE := fun ρ M P PX => de ρ M (fun x M1 => match asL M1 x with
  | some ds => P (.lst ds.reverse) M1
  | none => False) PX
def dRevM (de : DE) : DE := fun ρ M P PX => de ρ M (fun x M1 => match asL M1 x with
  | some ds => ∀ a, M1 a = none → P (.ref a) (um M1 a (.lst ds.reverse))
  | none => False) PX
section
variable {X : Cx} {W : WX'} {e : Expr} {de : DE} {k : Nat} {p1 p2 p3 pos : Pos}
theorem ej_rev (he : EJ X W e de) : EJ X W (.Subscript e (.Slice none none (some (.UnaryOp .USub (.Constant (.int 1) k p1) p2)) p3) pos) (dRev de) := pe_weak (pe_revL he) fun σ H Q ⟨ρ, M, Hf, P, PX, s, d, fe, fx⟩ =>
  ⟨ρ, M, Hf, _, PX, s, d, fun x M1 v Hf1 H1 d1 e1 m1 r1 => by
    dsimp only at d1
    split at d1
    · rename_i h
      obtain ⟨a, vs, rfl, ha, ra⟩ := asL_ok m1 r1 h
      exact ⟨a, vs, rfl, ha, fun p hp => (fe.go e1).newF m1 d1 hp fun H' h e => .lst h (ra.mono e).rev⟩
    · exact d1.elim, fx⟩
theorem ej_revM (he : EJ X W e de) : EJ X W (.Subscript e (.Slice none none (some (.UnaryOp .USub (.Constant (.int 1) k p1) p2)) p3) pos) (dRevM de) := pe_weak (pe_revL he) fun σ H Q ⟨ρ, M, Hf, P, PX, s, d, fe, fx⟩ =>
  ⟨ρ, M, Hf, _, PX, s, d, fun x M1 v Hf1 H1 d1 e1 m1 r1 => by
    dsimp only at d1
    split at d1
    · rename_i ds h
      obtain ⟨a, vs, rfl, ha, ra⟩ := asL_ok m1 r1 h
      exact ⟨a, vs, rfl, ha, fun p hp => (fe.go e1).newM (mo := .lst ds.reverse) m1 hp ⟨_, upd_same, ra.rev⟩ (d1 p)⟩
    · exact d1.elim, fx⟩
end
end DL

/-! DL: the law's end; decks -/
namespace DL
open PySem PySem.Spec PyProof.Rows L2
theorem law_callG {P : Program} {w : World} {K : Fz} {mg mb : Str → Option Value} {k : Nat} {fa a : Addr} {fd : FuncData} {x : Str} {sp : DSp} {s₁ : Shared} {vs : List Value} {ns : List Int}
    (KX : K.In s₁.heap) (hns : s₁.heap.Ns mainGlobals mg) (hb : s₁.heap.Ns builtinsNs mb) (hbb : ∀ x : Str, x ≠ "__name__" → mb x = bootBuiltins x) (hlim : s₁.heap.NoLimit) (hg : s₁.gens = #[])
    (ha : s₁.heap.get? a = some { cls := .type "list", data := .seq vs.toArray }) (hi : IntsAre vs ns) (hl : ns.length ≤ sizeLine) (hr : Room k callerA)
    (F : ∀ base : Heap, K.In base → base.Ns mainGlobals mg → DFn GG P w K mg base k fa fd [x] sp) (hbind : ∀ (s : Shared) (u : Value), BindsTo s fd ⟨[u], []⟩ [(x, u)])
    (hsp : sp [.scr (ns.map D.int)] (fun _ => none) (fun v _ => v = .bl true) XF) :
    codeAny (model P w) callerA (.call (.ref fa) ⟨[.ref a], []⟩) (fun r s' => r = .ok (.ret (.bool true)) ∧ OldK s₁.heap s'.heap ∧ s'.os = s₁.os ∧ AllBare s'.gens) s₁ := by
  have rv := vals_ints hi
  have lenV := hi.length
  have core : ∀ H : Hp, Only H → SqL K H a (ns.map V.int) → HOk P w H s₁.heap → (∀ b, H b ≠ none → b = a) → (H a ≠ none → K.lookup a = none) →
      codeAny (model P w) callerA (.call (.ref fa) ⟨[.ref a], []⟩) (fun r s' => r = .ok (.ret (.bool true)) ∧ OldK s₁.heap s'.heap ∧ s'.os = s₁.os ∧ AllBare s'.gens) s₁ := by
    intro H hO hS hok hA hK
    have base_of : ∀ {b : Addr} {o : Obj}, s₁.heap.get? b = some o → H b = none → (hidT s₁.heap H).get? b = some o := fun e n => hidT_get e n
    have noA : ∀ {b : Addr} {o : Obj} {es : Array DictEntry} {ep : Nat}, s₁.heap.get? b = some o → o.data = .dict es ep → H b = none := fun {b o es ep} e d => by
      cases q : H b with
      | none => rfl
      | some u =>
        have e' : b = a := hA b (by rw [q]; simp)
        subst e'
        rw [ha] at e; cases e
        have d' : Data.seq vs.toArray _ = Data.dict es ep := d
        cases d'
    have nsK : ∀ {b : Addr} {m : Str → Option Value}, s₁.heap.Ns b m → (hidT s₁.heap H).Ns b m := fun {b m} ⟨o, es, ep, e, d, r⟩ => ⟨o, es, ep, base_of e (noA e d), d, r⟩
    have hKb : K.In (hidT s₁.heap H) := fun b o e => base_of (KX b o e) (by
      cases q : H b with
      | none => rfl
      | some u =>
        have e' : b = a := hA b (by rw [q]; simp)
        subst e'
        rw [hK (by rw [q]; simp)] at e; cases e)
    have hM : Mod K mg (hidT s₁.heap H) := ⟨hKb, nsK hns, ⟨mb, nsK hb, hbb⟩, let ⟨mc, h1, h2⟩ := hlim; ⟨mc, nsK h1, h2⟩⟩
    have e0 : Env0 P w K mg (hidT s₁.heap H) callerA [] s₁ H := ⟨rfl, hM, fun b o e => of_hidT e, Nat.le_of_eq (hidT_size _ _), trivial, fun b hb => absurd (show b ∈ ([] : List Addr) from hb) (by simp), hok, .of_eq hg⟩
    have hsp' : liSp K sp [.ref a] H (fun v _ => v = .bl true) (fun _ _ _ => False) :=
      ⟨_, fun _ => none, H, _, XF, .cons (.scr hS (Rps.ints ns)) .nil, ⟨Ext.refl _, fun b mo z => by cases z⟩, hsp, fun y M' v Hf' H' p _ _ r => by
        subst p
        cases r
        rfl, fun _ _ _ _ _ _ z => z.elim⟩
    refine codeAny_mono ((F _ hKb (nsK hns)).run callerA [] s₁ H ⟨[.ref a], []⟩ [.ref a] [.ref a] _ _ hr rfl e0 (hbind s₁ (.ref a)) (.cons rfl .nil) hsp') fun r s' h => ?_
    cases r with
    | error e =>
      obtain ⟨_, _, _, _, _, _, _, _, _, _, _, _, z⟩ := h
      exact z.elim
    | ok fl =>
      cases fl with
      | next => exact False.elim h
      | brk => exact False.elim h
      | cont => exact False.elim h
      | ret u =>
        obtain ⟨v, H', os, bare, un, hok', r', q⟩ := h
        have q' : v = .bl true := q
        subst q'
        obtain rfl : u = Value.bool true := r'
        refine ⟨rfl, OldK.of_keep fun b o e => ?_, os, bare⟩
        cases q : H b with
        | none => exact un.keep b o e q (by intro z; exact absurd (show b ∈ ([] : List Addr) from z) (by simp)) (by simp)
        | some u =>
          rcases hO b with z | ⟨ob, xs, z⟩
          · rw [q] at z; cases z
          · have z2 := un.frzs b ob _ z
            obtain ⟨e1, _⟩ := hok b _ z
            obtain ⟨e2, _⟩ := hok' b _ z2
            rw [e] at e1; cases e1
            exact e2
  cases hk : K.lookup a with
  | some o =>
    have e := KX a o hk
    rw [ha] at e
    cases e
    refine core (fun _ => none) (fun _ => .inl rfl) (.inr ⟨_, vs.toArray, _, hk, rfl, rfl, rfl, by rw [List.size_toArray, lenV]; exact hl, by simpa using rv⟩) (fun b u z => by have z' : (none : Option HO) = some u := z; cases z') (fun b z => absurd rfl z) fun z => absurd rfl z
  | none =>
    refine core (fun b => if b = a then some (.frz { cls := .type "list", data := .seq vs.toArray } (.lst (ns.map V.int))) else none) (fun b => ?_) (.inl (.inr ⟨{ cls := .type "list", data := .seq vs.toArray }, if_pos rfl⟩)) (fun b u z => ?_) (fun b z => ?_) fun _ => hk
    · by_cases hb : b = a
      · exact .inr ⟨_, _, if_pos hb⟩
      · exact .inl (if_neg hb)
    · by_cases hb : b = a
      · have z' := (if_pos hb).symm.trans z
        cases z'
        subst hb
        exact ⟨ha, by rw [List.length_map]; exact hl, vs, _, rv, ha⟩
      · have z' := (if_neg hb).symm.trans z
        cases z'
    · by_cases hb : b = a
      · exact hb
      · exact absurd (if_neg hb) z
/-- a law over data: F gives the written part, the function object, the promise over every base -/
theorem walk_ofG {l : PySem.W.OpenLaw} {n k : Nat} {q : Program} {loose : List Str} {XP : (Str → Option Value) → Heap → Prop} {YP : World → Heap → Prop} {d : DefRec} {x : Str}
    (hn : l.most = some n) (hn2 : n ≤ sizeLine) (hdf : d.params.defaults = []) (hr : Room k callerA)
    (F : ∀ (w : World) (mg : Str → Option Value) (fa : Addr) (h : Heap), YP w h → h.Ns mainGlobals mg → mg d.name = some (.ref fa) →
      ∃ (K : PySem.W.Frag) (fd : FuncData) (sp : DSp), K.In h ∧ (∀ (s : Shared) (u : Value), BindsTo s fd ⟨[u], []⟩ [(x, u)]) ∧
        (∀ (ns : List Int), ns.length ≤ n → sp [.scr (ns.map D.int)] (fun _ => none) (fun v _ => v = .bl true) XF) ∧
        ∀ base : Heap, K.In base → base.Ns mainGlobals mg → DFn GG l.prog w K mg base k fa fd [x] sp) :
    PySem.W.WalkO q loose XP YP l.row.toRowW d [] (fun f vs => PySem.call f vs) := by
  refine Att.attach_call hn hdf fun w s₀ s₁ mg mb fa o pm cd doc a vs ns G Y ho hd hcd hmg hobj hints hlen hg => ?_
  obtain ⟨K, fd, sp, KX, hb, hsp, hF⟩ := F w mg fa _ Y G.T.g hmg
  exact law_callG KX G.T.g G.T.b G.T.builtins G.T.nolimit hg hobj hints (Nat.le_trans hlen hn2) hr hF hb (hsp ns hlen)

/-! ### decks -/
/-- a is a deck (ks: its keys but "cells"), and nothing is known of it -/
def DeckAt (ks : List Key) (M : Mm) (a : Addr) : Prop := ∃ c, M a = some (.deck c ks) ∧ M c = some .cell
section
variable {ks : List Key} {M : Mm} {a b : Addr} {o : MO}
theorem DeckAt.um (h : DeckAt ks M a) (hb : M b = none) : DeckAt ks (um M b o) a := by
  obtain ⟨c, h1, h2⟩ := h
  refine ⟨c, (um_ne fun z => ?_).trans h1, (um_ne fun z => ?_).trans h2⟩
  · rw [← z, h1] at hb
    cases hb
  · rw [← z, h2] at hb
    cases hb
theorem DeckAt.uml {ds : List D} (h : DeckAt ks M a) (hb : M b = some (.lst ds)) : DeckAt ks (DL.um M b o) a := by
  obtain ⟨c, h1, h2⟩ := h
  refine ⟨c, (um_ne fun z => ?_).trans h1, (um_ne fun z => ?_).trans h2⟩
  · rw [← z, h1] at hb
    cases hb
  · rw [← z, h2] at hb
    cases hb
theorem DeckAt.ne (h : DeckAt ks M a) (hb : M b = none) : a ≠ b := fun z => by
  obtain ⟨c, h1, _⟩ := h
  rw [z, hb] at h1
  cases h1
end
abbrev dkT (c : Addr) (ks : List Key) (f : Key → Int) : MO := .dct (((Sum.inr "cells" : Key), .ref c) :: ks.map fun k => (k, .int (f k)))
theorem rks_ints {K : Fz} {H : Hp} (f : Key → Int) : ∀ ks : List Key, Rks K H (ks.map fun k => (k, V.int (f k))) (ks.map fun k => (k, D.int (f k)))
  | [] => .nil
  | p :: r => .cons (.int _) (rks_ints f r)
theorem rks_of_ints {K : Fz} {H : Hp} {f : Key → Int} : ∀ {ws : List (Key × V)} {ks : List Key}, Rks K H ws (ks.map fun k => (k, D.int (f k))) → ws = ks.map fun k => (k, V.int (f k))
  | _, [], .nil => rfl
  | _, p :: r, .cons h t => by
    cases h
    rw [rks_of_ints t]
    rfl
theorem HM.open_ {K : Fz} {Hf H : Hp} {M : Mm} {a c : Addr} {ks : List Key} (m : HM K Hf M H) (h1 : M a = some (.deck c ks)) (h2 : M c = some .cell) :
    ∃ (f : Key → Int) (ns : List Int), ns.length ≤ 63 ∧ HM K Hf (um (um M a (dkT c ks f)) c (.lst (ns.map D.int))) H := by
  obtain ⟨fa, f, e1⟩ := m.mu _ _ h1
  obtain ⟨fc, ns, hl, e2⟩ := m.mu _ _ h2
  refine ⟨f, ns, hl, m.sub, fun b mo q => ?_⟩
  by_cases z : b = c
  · rw [z, um_same] at q
    cases q
    rw [z]
    exact ⟨fc, _, e2, Rps.ints ns⟩
  · rw [um_ne z] at q
    by_cases y : b = a
    · rw [y, um_same] at q
      cases q
      rw [y]
      exact ⟨fa, _, e1, .cons (.ref c) (rks_ints f ks)⟩
    · rw [um_ne y] at q
      exact m.mu b mo q
theorem HM.close {K : Fz} {Hf H : Hp} {M : Mm} {a c : Addr} {ks : List Key} {f : Key → Int} {ns : List Int} (m : HM K Hf (um (um M a (dkT c ks f)) c (.lst (ns.map D.int))) H) (hac : a ≠ c) (hl : ns.length ≤ 63) :
    HM K Hf (um (um M a (.deck c ks)) c .cell) H := by
  refine ⟨m.sub, fun b mo q => ?_⟩
  by_cases z : b = c
  · rw [z, um_same] at q
    cases q
    rw [z]
    obtain ⟨fc, ws, q1, q2⟩ := m.mu c _ um_same
    have := q2.ofInts
    subst this
    exact ⟨fc, ns, hl, q1⟩
  · rw [um_ne z] at q
    by_cases y : b = a
    · rw [y, um_same] at q
      cases q
      rw [y]
      obtain ⟨fa, ws, q1, q2⟩ := m.mu a _ ((um_ne hac).trans um_same)
      cases q2 with
      | cons h t =>
        cases h
        have := rks_of_ints t
        subst this
        exact ⟨fa, f, q1⟩
    · rw [um_ne y] at q
      exact m.mu b mo (by rw [um_ne z, um_ne y]; exact q)
/-- what a draw answers: one of 0, .., many - 1 -/
def spDraw (ks : List Key) : DSp := fun ds M P _ => ∃ a many, ds = [.ref a, .int many] ∧ DeckAt ks M a ∧ 0 < many ∧ many < 2 ^ 62 ∧ ∀ r, 0 ≤ r → r < many → P (.int r) M
/-- the same, its deck laid open -/
def spDrawO (ks : List Key) : DSp := fun ds M P _ => ∃ (a c : Addr) (many : Int) (f : Key → Int) (ns : List Int), ds = [.ref a, .int many] ∧ 0 < many ∧ many < 2 ^ 62 ∧ a ≠ c ∧ ns.length ≤ 63 ∧ M a = some (dkT c ks f) ∧ M c = some (.lst (ns.map D.int)) ∧
  (∀ M' r f' (ns' : List Int), 0 ≤ r → r < many → ns'.length ≤ 63 → M' = um (um M a (dkT c ks f')) c (.lst (ns'.map D.int)) → P (.int r) M')
theorem um_um2 {M : Mm} {a c : Addr} {o u : MO} {o' u' : MO} : um (um (um (um M a o) c u) a o') c u' = um (um M a o') c u' := by
  funext b
  unfold um
  by_cases z : b = c <;> by_cases y : b = a <;> simp [z, y]
theorem draw_close {K : Fz} {ks : List Key} : ∀ vs H Q E, liSp K (spDraw ks) vs H Q E → liSp K (spDrawO ks) vs H Q E := fun vs H Q E ⟨ds, M, Hf, P, PX, r, m, d, fe, fx⟩ => by
  obtain ⟨a, many, rfl, ⟨c, h1, h2⟩, hp, hp2, q⟩ := d
  have hac : a ≠ c := fun z => by
    rw [z, h2] at h1
    cases h1
  obtain ⟨f, ns, hl, m1⟩ := m.open_ h1 h2
  refine ⟨_, _, Hf, fun x M1 => (∃ i : Int, x = .int i ∧ 0 ≤ i ∧ i < many) ∧ ∃ (f' : Key → Int) (ns' : List Int), ns'.length ≤ 63 ∧ M1 = um (um M a (dkT c ks f')) c (.lst (ns'.map D.int)), XF, r, m1,
    ⟨a, c, many, f, ns, rfl, hp, hp2, hac, hl, (um_ne hac).trans um_same, um_same, fun M' r f' ns' h0 hr hl' e => ?_⟩, fun x M1 v Hf' H' ⟨p1, f', ns', hl', e⟩ e1 m' rv => ?_, fun _ _ _ _ _ _ z => z.elim⟩
  · rw [um_um2] at e
    exact ⟨⟨r, rfl, h0, hr⟩, f', ns', hl', e⟩
  · subst e
    have m2 := m'.close hac hl'
    obtain ⟨i, rfl, hi0, hi⟩ := p1
    have e : um (um M a (.deck c ks)) c .cell = M := by
      funext b
      unfold um
      by_cases z : b = c
      · rw [if_pos z, z, h2]
      · rw [if_neg z]
        by_cases y : b = a
        · rw [if_pos y, y, h1]
        · rw [if_neg y]
    rw [e] at m2
    exact fe _ M v Hf' H' (q i hi0 hi) e1 m2 rv
/-- a new deck -/
def spDeck (ks : List Key) : DSp := fun ds M P _ => ∃ ns : List Int, ds = [.scr (ns.map D.int)] ∧ ns.length ≤ 63 ∧ ∀ M' a, DeckAt ks M' a → (∀ b, M b ≠ none → M' b = M b) → P (.ref a) M'
/-- the same, laid open -/
def spDeckO (ks : List Key) : DSp := fun ds M P _ => ∃ ns : List Int, ds = [.scr (ns.map D.int)] ∧ ns.length ≤ 63 ∧ ∀ a c f (cs : List Int), cs.length ≤ 63 → a ≠ c → M a = none → M c = none → ∀ M', M' = um (um M a (dkT c ks f)) c (.lst (cs.map D.int)) → P (.ref a) M'
theorem deck_close {K : Fz} {ks : List Key} : ∀ vs H Q E, liSp K (spDeck ks) vs H Q E → liSp K (spDeckO ks) vs H Q E := fun vs H Q E ⟨ds, M, Hf, P, PX, r, m, d, fe, fx⟩ => by
  obtain ⟨ns, rfl, hl, q⟩ := d
  refine ⟨_, M, Hf, fun x M1 => ∃ (a c : Addr) (f : Key → Int) (cs : List Int), x = .ref a ∧ cs.length ≤ 63 ∧ a ≠ c ∧ M a = none ∧ M c = none ∧ M1 = um (um M a (dkT c ks f)) c (.lst (cs.map D.int)), XF, r, m,
    ⟨ns, rfl, hl, fun a c f cs hl2 hac h1 h2 M' e => ⟨a, c, f, cs, rfl, hl2, hac, h1, h2, e⟩⟩, fun x M1 v Hf' H' ⟨a, c, f, cs, e0, hl2, hac, h1, h2, e⟩ e1 m' rv => ?_, fun _ _ _ _ _ _ z => z.elim⟩
  subst e
  subst e0
  refine fe _ _ v Hf' H' (q _ a ⟨c, (um_ne hac).trans um_same, um_same⟩ fun b hb => ?_) e1 (m'.close hac hl2) rv
  have n1 : b ≠ c := fun z => hb (by rw [z]; exact h2)
  have n2 : b ≠ a := fun z => hb (by rw [z]; exact h1)
  rw [um_ne n1, um_ne n2]
end DL

/-! DL: what a call needs, bundled; three names at once -/
namespace DL
open PySem PySem.Spec PyProof.Rows L2
structure Cal (P : Program) (w : World) (K : Fz) (mg : Str → Option Value) (base : Heap) (k : Nat) (x : Str) (ps : List Str) (sp : DSp) : Prop where
  ex : ∃ f fd, DFn GG P w K mg base k f fd ps sp ∧ mg x = some (.ref f) ∧ PySem.W.keepIn K (.ref f) = true ∧ Binds K fd ps []
structure CalK (P : Program) (w : World) (K : Fz) (mg : Str → Option Value) (base : Heap) (k : Nat) (x : Str) (ps : List Str) (n : Nat) (ks : List Str) (π : List Nat) (sp : DSp) : Prop where
  ex : ∃ f fd, DFn GG P w K mg base k f fd ps sp ∧ mg x = some (.ref f) ∧ PySem.W.keepIn K (.ref f) = true ∧ KwB fd ps n ks π
section
variable {X : Cx} {W : WX'} {k j n : Nat} {ps ks : List Str} {π : List Nat} {dsp : DSp} {x : Str} {p pos : Pos} {e : Expr} {es : List Expr} {kws : List Keyword} {d dk : DA}
theorem ej_callC (C : Cal X.prog X.w X.K X.mg X.base j x ps dsp) (hr : Room k X.A) (hG : GG X.A) (tk : Takes X W) (ha : AJ X W (e :: es) d) (hj : j ≤ k := by decide) (hg : Gl X x := by rfl) (hdb : (x == ("__debug__" : Str)) = false := by decide)
    (he : starEach (e :: es) X.env = (false, eval e X.env) :: starEach es X.env := by rfl)
    (hpl : (backTo pos (starEach es X.env)).any (·.1) = false := by rfl) : EJ X W (.Call (.Name x p) (e :: es) [] pos) (dCall dsp d) := by
  obtain ⟨f, fd, F, h1, h2, h3⟩ := C.ex
  exact ej_call F (hr.mono hj) hG tk hg h1 h2 h3 ha hdb he hpl
theorem ej_callC0 (C : Cal X.prog X.w X.K X.mg X.base j x ps dsp) (hr : Room k X.A) (hG : GG X.A) (tk : Takes X W) (hj : j ≤ k := by decide) (hg : Gl X x := by rfl) (hdb : (x == ("__debug__" : Str)) = false := by decide) : EJ X W (.Call (.Name x p) [] [] pos) (dCall dsp dNil) := by
  obtain ⟨f, fd, F, h1, h2, h3⟩ := C.ex
  exact ej_call0 F (hr.mono hj) hG tk hg h1 h2 h3 hdb
theorem ej_callCK (C : CalK X.prog X.w X.K X.mg X.base j x ps n ks π dsp) (hr : Room k X.A) (hG : GG X.A) (tk : Takes X W) (ha : AJ X W (e :: es) d) (hkw : liK X W kws dk) (hj : j ≤ k := by decide) (hg : Gl X x := by rfl)
    (hall : (backToKw pos (keywordEach kws X.env)).all (·.1.isSome) = true := by rfl) (hks : (backToKw pos (keywordEach kws X.env)).filterMap (·.1) = ks := by rfl)
    (hdb : (x == ("__debug__" : Str)) = false := by decide) (he : starEach (e :: es) X.env = (false, eval e X.env) :: starEach es X.env := by rfl)
    (hpl : ((backTo pos (starEach (e :: es) X.env)).any (·.1) || (backToKw pos (keywordEach kws X.env)).any (·.1.isNone)) = false := by rfl) :
    EJ X W (.Call (.Name x p) (e :: es) kws pos) (dCallK dsp n ks.length π d dk) := by
  obtain ⟨f, fd, F, h1, h2, h3⟩ := C.ex
  exact ej_callK F (hr.mono hj) hG tk hg h1 h2 h3 ha hkw hall hks hdb he hpl
theorem ej_callCK0 (C : CalK X.prog X.w X.K X.mg X.base j x ps 0 ks π dsp) (hr : Room k X.A) (hG : GG X.A) (tk : Takes X W) (hkw : liK X W kws dk) (hj : j ≤ k := by decide) (hg : Gl X x := by rfl)
    (hall : (backToKw pos (keywordEach kws X.env)).all (·.1.isSome) = true := by rfl) (hks : (backToKw pos (keywordEach kws X.env)).filterMap (·.1) = ks := by rfl)
    (hdb : (x == ("__debug__" : Str)) = false := by decide)
    (hpl : ((backTo pos (starEach [] X.env)).any (·.1) || (backToKw pos (keywordEach kws X.env)).any (·.1.isNone)) = false := by rfl) :
    EJ X W (.Call (.Name x p) [] kws pos) (dCallK dsp 0 ks.length π dNil dk) := by
  obtain ⟨f, fd, F, h1, h2, h3⟩ := C.ex
  exact ej_callK0 F (hr.mono hj) hG tk hg h1 h2 h3 hkw hall hks hdb hpl
end
section
variable {P : Program} {w : World} {K : Fz} {mg : Str → Option Value} {base : Heap} {x qual : Str} {params : Arguments} {body : List Stmt} {scope : Scope} {kws : List (Str × V)} {f : Addr} {fd : FuncData} {ps ks : List Str} {k n : Nat} {π : List Nat} {sp sp' : DSp}
theorem kwb_of (F : FunD K x qual params body scope [] kws f fd)
    (h : ∀ (kV doc pm : Value) (an : Option Addr) (cdv ct : Value) (us ws : List Value), us.length = n → ws.length = ks.length → bindArgs (PySem.W.fnOf x qual params body scope .none kV doc pm an cdv ct) ⟨us, ks.zip ws⟩ = pure (ps.zip (pick π (us ++ ws)))) : KwB fd ps n ks π := by
  obtain ⟨oc, od, dV, kV, doc, pm, an, cdv, ct, osl, rfl, lk, hcd, hD, hK⟩ := F.ex
  rcases hD with ⟨_, rfl⟩ | ⟨e, _⟩
  · exact fun s us ws h1 h2 => .of_eq (h kV doc pm an cdv ct us ws h1 h2)
  · exact absurd rfl e
theorem Cal.mk' (F : FunD K x qual params body scope [] kws f fd) (h : DFn GG P w K mg base k f fd ps sp) (g : mg x = some (.ref f))
    (b : ∀ (kV doc pm : Value) (an : Option Addr) (cdv ct : Value) (us : List Value), us.length = ps.length → bindArgs (PySem.W.fnOf x qual params body scope .none kV doc pm an cdv ct) ⟨us, []⟩ = pure (ps.zip us)) : Cal P w K mg base k x ps sp :=
  ⟨f, fd, h, g, F.kp, F.bindsN b⟩
theorem CalK.mk' (F : FunD K x qual params body scope [] kws f fd) (h : DFn GG P w K mg base k f fd ps sp) (g : mg x = some (.ref f))
    (b : ∀ (kV doc pm : Value) (an : Option Addr) (cdv ct : Value) (us ws : List Value), us.length = n → ws.length = ks.length → bindArgs (PySem.W.fnOf x qual params body scope .none kV doc pm an cdv ct) ⟨us, ks.zip ws⟩ = pure (ps.zip (pick π (us ++ ws)))) : CalK P w K mg base k x ps n ks π sp :=
  ⟨f, fd, h, g, F.kp, kwb_of F b⟩
theorem Cal.imp {y : Str} (C : Cal P w K mg base k y ps sp) (h : ∀ vs H Q E, liSp K sp' vs H Q E → liSp K sp vs H Q E) : Cal P w K mg base k y ps sp' := by
  obtain ⟨f, fd, F, h1, h2, h3⟩ := C.ex
  exact ⟨f, fd, F.imp h, h1, h2, h3⟩
end
/-- a, b, c = e1, e2, e3 -/
def dPar3 (i j l : Nat) (d : DA) : DS := fun DD ρ M => d ρ M (fun xs M1 => match xs with
  | [x, y, z] => DD.nx (st (st (st ρ i (some x)) j (some y)) l (some z)) M1
  | _ => False) (DD.ex ρ)
section
variable {X : Cx} {W : WX'} {pos : Pos}
theorem sj_par3 {x y z : Str} {a b c : Expr} {d : DA} {px py pz pt : Pos} {kt k2 pt2} (i j l : Nat) (hc : X.calm = true) (hN : X.N.Nodup) (h : AJ X W [a, b, c] d) (hi : X.N[i]? = some x := by rfl) (hj : X.N[j]? = some y := by rfl) (hl : X.N[l]? = some z := by rfl)
    (hij : i ≠ j := by decide) (hil : i ≠ l := by decide) (hjl : j ≠ l := by decide)
    (hx : X.env.scope.names.lookup x = some .local := by rfl) (hy : X.env.scope.names.lookup y = some .local := by rfl) (hz : X.env.scope.names.lookup z = some .local := by rfl)
    (hw : swappedStores [.Tuple [.Name x px, .Name y py, .Name z pz] kt pt] (.Tuple [a, b, c] k2 pt2) X.env = pure (some [x, y, z]) := by rfl)
    (hs : swapsWithSole [.Tuple [.Name x px, .Name y py, .Name z pz] kt pt] (.Tuple [a, b, c] k2 pt2) pos.line X.env = pure false := by rfl) :
    SJ X W (.Assign [.Tuple [.Name x px, .Name y py, .Name z pz] kt pt] (.Tuple [a, b, c] k2 pt2) pos) (dPar3 i j l d) :=
  ps_weak (ps_par3 hc hN hi hj hl hij hil hjl hx hy hz h hw hs) fun De σ H ⟨ρ, M, Hf, DD, s, d, f⟩ => ⟨ρ, M, Hf, _, _, s, d, fun xs M1 vs Hf1 H1 d1 e1 m1 r1 => by
    try dsimp only at d1
    split at d1
    · cases r1 with
      | cons h1 t1 =>
        cases t1 with
        | cons h2 t2 =>
          cases t2 with
          | cons h3 t3 =>
            cases t3
            exact ⟨_, _, _, rfl, f.nx _ M1 _ Hf1 H1 d1 e1 ((((s.go e1 m1).set h1).set h2).set h3)⟩
    · exact d1.elim, f.x s⟩
theorem sj_par2 {x y : Str} {a b : Expr} {d : DA} {px py pt : Pos} {kt k2 pt2} (i j : Nat) (hc : X.calm = true) (hN : X.N.Nodup) (h : AJ X W [a, b] d) (hi : X.N[i]? = some x := by rfl) (hj : X.N[j]? = some y := by rfl) (hij : i ≠ j := by decide)
    (hx : X.env.scope.names.lookup x = some .local := by rfl) (hy : X.env.scope.names.lookup y = some .local := by rfl)
    (hw : swappedStores [.Tuple [.Name x px, .Name y py] kt pt] (.Tuple [a, b] k2 pt2) X.env = pure (some [x, y]) := by rfl)
    (hs : swapsWithSole [.Tuple [.Name x px, .Name y py] kt pt] (.Tuple [a, b] k2 pt2) pos.line X.env = pure false := by rfl) :
    SJ X W (.Assign [.Tuple [.Name x px, .Name y py] kt pt] (.Tuple [a, b] k2 pt2) pos) (dPar i j d) :=
  sj_par i j hc hN h hi hj hij fun t ht => ps_par hc hN hi hj hij hx hy ht hw hs
end
end DL
namespace DL
open PySem PySem.Spec PyProof.Rows L2
section
variable {X : Cx} {W : WX'} {pos : Pos} {a b : Expr} {da db : DE}
theorem tj_lt (ha : EJ X W a da) (hb : EJ X W b db) : TJ X W (.Compare a [.Lt] [b] pos) (dTst (dOp rLt da db)) := tj_cmp op_lt (rj_i0 fun _ _ _ => .bl _) ha hb
theorem tj_le (ha : EJ X W a da) (hb : EJ X W b db) : TJ X W (.Compare a [.LtE] [b] pos) (dTst (dOp rLe da db)) := tj_cmp op_le (rj_i0 fun _ _ _ => .bl _) ha hb
theorem tj_gt (ha : EJ X W a da) (hb : EJ X W b db) : TJ X W (.Compare a [.Gt] [b] pos) (dTst (dOp rGt da db)) := tj_cmp op_gt (rj_i0 fun _ _ _ => .bl _) ha hb
theorem tj_ge (ha : EJ X W a da) (hb : EJ X W b db) : TJ X W (.Compare a [.GtE] [b] pos) (dTst (dOp rGe da db)) := tj_cmp op_ge (rj_i0 fun _ _ _ => .bl _) ha hb
theorem tj_eq (hu : X.A.units + 64 < cLine) (ha : EJ X W a da) (hb : EJ X W b db) : TJ X W (.Compare a [.Eq] [b] pos) (dTst (dOp (rEqW false) da db)) := tj_cmp (OpR.or op_eq (op_eqD hu)) rj_eq ha hb
theorem tj_ne (hu : X.A.units + 64 < cLine) (ha : EJ X W a da) (hb : EJ X W b db) : TJ X W (.Compare a [.NotEq] [b] pos) (dTst (dOp (rEqW true) da db)) := tj_cmp (OpR.or op_ne (op_neD hu)) rj_ne ha hb
end
end DL

/-! DL: sizes of what is shown, equality of data -/
namespace DL
open PySem PySem.Spec PyProof.Rows L2
/-! ### what is small -/
mutual
def fit : D → Bool
  | .non | .bl _ => true
  | .int i => decide (i.natAbs < 10 ^ 12)
  | .str x => x.cps.all (· < 0x110000)
  | .tup ds | .lst ds => fits ds
  | _ => false
def fits : List D → Bool
  | [] => true
  | d :: ds => fit d && fits ds
end
mutual
def wgt : D → Nat
  | .int i => if i.natAbs < 32 then 5 else 40
  | .str x => x.cps.size
  | .tup ds | .lst ds => wgts ds
  | _ => 0
def wgts : List D → Nat
  | [] => 0
  | d :: ds => wgt d + 1 + wgts ds
end
mutual
def dep : D → Nat
  | .tup ds | .lst ds => deps ds + 1
  | _ => 0
def deps : List D → Nat
  | [] => 0
  | d :: ds => max (dep d) (deps ds)
end
structure Fit (d : D) : Prop where
  plain : plain d = true
  lay : (py d).canLay0 = true
  short : (py d).intsShort 13 = true
  show_ : (py d).showable = true
  wt : (py d).weight ≤ wgt d
  dp : (py d).depth = dep d
structure FitA (d : List D) : Prop where
  plain : plains d = true
  lay : PyData.canLayAll0 (pys d) = true
  short : PyData.intsShortAll 13 (pys d) = true
  show_ : PyData.showableAll (pys d) = true
  wt : PyData.weightAll (pys d) ≤ wgts d
  dp : PyData.depthAll (pys d) = deps d
theorem log_lt {n : Nat} (h : n < 10 ^ 12) : n.log2 < 40 := by
  by_cases z : n = 0
  · rw [z]
    decide
  · exact (Nat.log2_lt z).mpr (Nat.lt_trans h (by decide))
mutual
theorem fit_ok : ∀ d : D, fit d = true → Fit d
  | .non, _ => ⟨rfl, by simp [py, PyData.canLay0], by simp [py, PyData.intsShort], by simp [py, PyData.showable], by simp [py, PyData.weight, wgt], by simp [py, PyData.depth, dep]⟩
  | .bl b, _ => ⟨rfl, by simp [py, PyData.canLay0], by simp [py, PyData.intsShort], by simp [py, PyData.showable], by simp [py, PyData.weight, wgt], by simp [py, PyData.depth, dep]⟩
  | .int i, h => by
    have h1 : i.natAbs < 10 ^ 12 := by simpa [fit] using h
    have h2 := log_lt h1
    refine ⟨rfl, by simp [py, PyData.canLay0], ?_, ?_, ?_, by simp [py, PyData.depth, dep]⟩
    · show PyData.intsShort 13 (.int i) = true
      simp only [PyData.intsShort]
      exact decide_eq_true (PyData.shown_int_le h1)
    · show PyData.showable (.int i) = true
      simp only [PyData.showable]
      exact decide_eq_true (by omega)
    · show PyData.weight (.int i) ≤ if i.natAbs < 32 then 5 else 40
      simp only [PyData.weight]
      split
      · omega
      · rename_i hz
        have hz' : i.natAbs ≠ 0 := fun z => hz (by simpa using z)
        split
        · rename_i h5
          have : i.natAbs.log2 < 5 := (Nat.log2_lt hz').mpr (by omega)
          omega
        · omega
  | .str x, h => ⟨rfl, by simpa [py, PyData.canLay0, PyData.strOk, fit] using h, by simp [py, PyData.intsShort], by simp [py, PyData.showable], by simp [py, PyData.weight, wgt], by simp [py, PyData.depth, dep]⟩
  | .tup ds, h => by
    obtain ⟨h1, h2, h3, h4, h5, h6⟩ := fits_ok ds (by simpa [fit] using h)
    exact ⟨by simpa [plain] using h1, by simpa [py, PyData.canLay0] using h2, by simpa [py, PyData.intsShort] using h3, by simpa [py, PyData.showable] using h4, by simpa [py, PyData.weight, wgt] using h5, by simp [py, PyData.depth, dep, h6]⟩
  | .lst ds, h => by
    obtain ⟨h1, h2, h3, h4, h5, h6⟩ := fits_ok ds (by simpa [fit] using h)
    exact ⟨by simpa [plain] using h1, by simpa [py, PyData.canLay0] using h2, by simpa [py, PyData.intsShort] using h3, by simpa [py, PyData.showable] using h4, by simpa [py, PyData.weight, wgt] using h5, by simp [py, PyData.depth, dep, h6]⟩
  | .ty _, h => by simp [fit] at h
  | .ref _, h => by simp [fit] at h
  | .scr _, h => by simp [fit] at h
  | .obj _ _, h => by simp [fit] at h
  | .dct _, h => by simp [fit] at h
  | .dtt _, h => by simp [fit] at h
theorem fits_ok : ∀ ds : List D, fits ds = true → FitA ds
  | [], _ => ⟨by simp [plains], by simp [pys, PyData.canLayAll0], by simp [pys, PyData.intsShortAll], by simp [pys, PyData.showableAll], by simp [pys, PyData.weightAll, wgts], by simp [pys, PyData.depthAll, deps]⟩
  | d :: ds, h => by
    have h' : fit d = true ∧ fits ds = true := by simpa [fits] using h
    obtain ⟨h1, h2, h3, h4, h5, h6⟩ := fit_ok d h'.1
    obtain ⟨g1, g2, g3, g4, g5, g6⟩ := fits_ok ds h'.2
    refine ⟨by simp [plains, h1, g1], by simp [pys, PyData.canLayAll0, h2, g2], by simp [pys, PyData.intsShortAll, h3, g3], by simp [pys, PyData.showableAll, h4, g4], ?_, by simp [pys, PyData.depthAll, deps, h6, g6]⟩
    simp only [pys, PyData.weightAll, wgts]
    omega
end
theorem okR_of {d : D} (h : fit d = true) (hw : wgt d ≤ 1048576) (hd : dep d ≤ 60) : OkR d := by
  obtain ⟨h1, h2, h3, h4, h5, h6⟩ := fit_ok d h
  exact ⟨h1, h4, PyData.shown_fits (by decide) (by decide) (PyData.leavesShort_of_canLay0 13 _ h2 h3) (by rw [show (2 : Nat) ^ 20 = 1048576 by decide]; omega), by omega⟩
theorem okD_of {d : D} (h : fit d = true) (hd : dep d ≤ 60) : okD d := by
  obtain ⟨h1, h2, h3, h4, h5, h6⟩ := fit_ok d h
  refine ⟨h1, ?_⟩
  unfold SeqAt.shaped
  rw [h2, Bool.true_and]
  exact decide_eq_true (by omega)
/-! ### ints -/
theorem fits_app : ∀ a b : List D, fits (a ++ b) = (fits a && fits b)
  | [], _ => by simp [fits]
  | x :: a, b => by
    rw [List.cons_append]
    simp only [fits]
    rw [fits_app a b, Bool.and_assoc]
theorem fits_ints : ∀ {ns : List Int}, (∀ n ∈ ns, n.natAbs < 10 ^ 12) → fits (ns.map D.int) = true
  | [], _ => by simp [fits]
  | n :: ns, h => by
    rw [List.map_cons]
    simp only [fits, fit]
    rw [fits_ints (fun m hm => h m (List.mem_cons_of_mem _ hm)), Bool.and_true]
    exact decide_eq_true (h n List.mem_cons_self)
theorem wgts_ints : ∀ ns : List Int, wgts (ns.map D.int) ≤ 41 * ns.length
  | [] => by simp [wgts]
  | n :: ns => by
    rw [List.map_cons]
    simp only [wgts, wgt]
    have := wgts_ints ns
    rw [List.length_cons]
    split <;> omega
theorem wgts_digs : ∀ {ns : List Int}, (∀ n ∈ ns, n.natAbs < 32) → wgts (ns.map D.int) = 6 * ns.length
  | [], _ => by simp [wgts]
  | n :: ns, h => by
    rw [List.map_cons]
    simp only [wgts, wgt]
    rw [wgts_digs fun m hm => h m (List.mem_cons_of_mem _ hm), if_pos (h n List.mem_cons_self), List.length_cons]
    omega
theorem deps_ints : ∀ ns : List Int, deps (ns.map D.int) = 0
  | [] => by simp [deps]
  | n :: ns => by
    rw [List.map_cons]
    simp only [deps, dep]
    rw [deps_ints ns]
    rfl
theorem plains_ints : ∀ ns : List Int, plains (ns.map D.int) = true
  | [] => by simp [plains]
  | n :: ns => by
    rw [List.map_cons]
    simp only [plains, plain]
    rw [plains_ints ns, Bool.and_true]
theorem pys_ints : ∀ ns : List Int, pys (ns.map D.int) = ns.map PyData.int
  | [] => by simp [pys]
  | n :: ns => by
    rw [List.map_cons]
    simp only [pys, py]
    rw [pys_ints ns, List.map_cons]
theorem lays_ints : ∀ ns : List Int, PyData.canLayAll0 (ns.map PyData.int) = true
  | [] => by simp [PyData.canLayAll0]
  | n :: ns => by
    rw [List.map_cons]
    simp only [PyData.canLayAll0, PyData.canLay0]
    rw [lays_ints ns, Bool.and_true]
theorem dps_ints : ∀ ns : List Int, PyData.depthAll (ns.map PyData.int) = 0
  | [] => by simp [PyData.depthAll]
  | n :: ns => by
    rw [List.map_cons]
    simp only [PyData.depthAll, PyData.depth]
    rw [dps_ints ns]
    rfl
theorem eqv_ints : ∀ a b : List Int, PyData.eqvAll (a.map PyData.int) (b.map PyData.int) = decide (a = b)
  | [], [] => by simp [PyData.eqvAll]
  | [], _ :: _ => by simp [PyData.eqvAll]
  | _ :: _, [] => by simp [PyData.eqvAll]
  | x :: a, y :: b => by
    rw [List.map_cons, List.map_cons]
    simp only [PyData.eqvAll, PyData.eqv]
    rw [eqv_ints a b]
    by_cases h : x = y <;> simp [h]
theorem okT_ints (ns : List Int) : okD (.tup (ns.map D.int)) := by
  refine ⟨by simp only [plain]; exact plains_ints ns, ?_⟩
  simp only [py, SeqAt.shaped, PyData.canLay0, PyData.depth]
  rw [pys_ints, lays_ints, dps_ints]
  rfl
theorem okL_ints (ns : List Int) : okD (.lst (ns.map D.int)) := by
  refine ⟨by simp only [plain]; exact plains_ints ns, ?_⟩
  simp only [py, SeqAt.shaped, PyData.canLay0, PyData.depth]
  rw [pys_ints, lays_ints, dps_ints]
  rfl
theorem eqT_ints (a b : List Int) : PyData.eqv (py (.tup (a.map D.int))) (py (.tup (b.map D.int))) = decide (a = b) := by
  simp only [py, PyData.eqv]
  rw [pys_ints, pys_ints, eqv_ints]
theorem eqL_ints (a b : List Int) : PyData.eqv (py (.lst (a.map D.int))) (py (.lst (b.map D.int))) = decide (a = b) := by
  simp only [py, PyData.eqv]
  rw [pys_ints, pys_ints, eqv_ints]
/-- a thing equals itself -/
theorem eqv_self {d : D} (h : okD d) : PyData.eqv (py d) (py d) = true := SeqAt.eqv_refl _ (SeqAt.canLay_of_shaped h.2)
/-! ### what stands where -/
theorem tab_of {M : Mm} {a : Addr} {kvs : List (Key × D)} (h : M a = some (.dct kvs)) : tab M (.ref a) = some (a, kvs) := by
  show (match M a with
    | some (.dct kvs) => some (a, kvs)
    | _ => none) = _
  rw [h]
theorem asLs_of {M : Mm} {a : Addr} {ds : List D} (h : M a = some (.lst ds)) : asLs M (.ref a) = some ds := by
  show (match M a with
    | some (.lst ds) => some ds
    | _ => none) = _
  rw [h]
theorem asL_of {M : Mm} {a : Addr} {ds : List D} (h : M a = some (.lst ds)) : asL M (.ref a) = some ds := asLs_of h
theorem dr_of {M : Mm} {a : Addr} {ds : List D} (h : M a = some (.lst ds)) : dr M (.ref a) = .lst ds := by
  show (match M a with
    | some (.lst ds) => D.lst ds
    | _ => .ref a) = D.lst ds
  rw [h]
end DL

/-! DL: what is left over is forgotten -/
namespace DL
open PySem PySem.Spec PyProof.Rows L2
def Le (M M' : Mm) : Prop := ∀ b mo, M b = some mo → M' b = some mo
theorem Le.refl (M : Mm) : Le M M := fun _ _ h => h
theorem Le.trans {M M' M'' : Mm} (h : Le M M') (k : Le M' M'') : Le M M'' := fun b mo e => k b mo (h b mo e)
theorem Le.um {M : Mm} {a : Addr} {o : MO} (h : M a = none) : Le M (um M a o) := fun b mo e => by
  rw [um_ne fun z => ?_]
  · exact e
  · rw [z, h] at e
    cases e
theorem Le.um2 {M M' : Mm} {a : Addr} {o : MO} (k : Le M M') (h : M a = none) : Le M (DL.um M' a o) := fun b mo e => by
  rw [um_ne fun z => ?_]
  · exact k b mo e
  · rw [z, h] at e
    cases e
theorem Le.none {M M' : Mm} {a : Addr} (k : Le M M') (h : M' a = none) : M a = none := by
  cases e : M a with
  | none => rfl
  | some mo =>
    rw [k a mo e] at h
    cases h
def Fg (P : DP) : DP := fun x M' => ∃ M, Le M M' ∧ P x M
theorem HM.le {K : Fz} {Hf H : Hp} {M M' : Mm} (m : HM K Hf M' H) (h : Le M M') : HM K Hf M H := ⟨m.sub, fun a mo e => m.mu a mo (h a mo e)⟩
theorem FinE.fg {K : Fz} {Hf : Hp} {P : DP} {Q : VK} (f : FinE K Hf P Q) : FinE K Hf (Fg P) Q := fun x M' v Hf' H' ⟨M, l, p⟩ e m r => f x M v Hf' H' p e (m.le l) r
theorem forget {K : Fz} {sp spG : DSp} (h : ∀ ds M P PX, sp ds M P PX → spG ds M (Fg P) PX) : ∀ vs H Q E, liSp K sp vs H Q E → liSp K spG vs H Q E := fun vs H Q E ⟨ds, M, Hf, P, PX, r, m, d, fe, fx⟩ =>
  ⟨ds, M, Hf, Fg P, PX, r, m, h ds M P PX d, fe.fg, fx⟩
/-- the garbage of a def may stay -/
def gar (sp : DSp) : DSp := fun ds M P PX => sp ds M (fun x M1 => ∀ M', Le M1 M' → P x M') PX
theorem upTo_len (lo : Int) (n : Nat) : (DL.upTo lo n).length = n := by simp [DL.upTo]
theorem upTo_get {lo : Int} {n i : Nat} {d : D} (h : (DL.upTo lo n)[i]? = some d) : d = .int (lo + (i : Int)) ∧ i < n := by
  have hi : i < n := by
    have := (List.getElem?_eq_some_iff.mp h).1
    rw [upTo_len] at this
    exact this
  refine ⟨?_, hi⟩
  simp [DL.upTo, hi] at h
  exact h.symm
end DL

/-! DL: instances: fields, methods, making -/
namespace DL
open PySem PySem.Spec PyProof.Rows L2
/-- an instance's class and fields, whether it may change or not -/
def asO (M : Mm) : D → Option (Addr × List (Str × D))
  | .obj C fs => some (C, fs)
  | .ref a => (match M a with
    | some (.ins C fs) => some (C, fs)
    | _ => none)
  | _ => none
theorem asO_ok {K : Fz} {M : Mm} {Hf H : Hp} {x : D} {v : V} {C : Addr} {fs : List (Str × D)} (m : HM K Hf M H) (r : Rp K Hf v x) (h : asO M x = some (C, fs)) : ∃ a dx gs, v = .ref a ∧ H a = some (.ins C dx gs) ∧ Rfs K Hf gs fs := by
  unfold asO at h
  split at h
  · cases h
    cases r with
    | obj h1 h2 => exact ⟨_, _, _, rfl, m.sub _ _ h1, h2⟩
  · split at h
    · rename_i e
      cases h
      cases r
      obtain ⟨_, dx, gs, q1, q2, q3, q4⟩ := m.mu _ _ e
      exact ⟨_, dx, gs, rfl, q1, q4⟩
    · cases h
  · cases h
def nm (fs : List (Str × D)) : List Str := fs.map (·.1)
def fldI : List (Str × D) → Nat → Option D
  | [], _ => none
  | p :: r, j => match j with
    | 0 => some p.2
    | j + 1 => fldI r j
theorem Rfs.names {K : Fz} {H : Hp} : ∀ {gs : List (Str × V)} {fs : List (Str × D)}, Rfs K H gs fs → gs.map (·.1) = nm fs
  | _, _, .nil => rfl
  | _, _, .cons h t => congrArg _ t.names
theorem Rfs.at {K : Fz} {H : Hp} {f : Str} : ∀ {gs : List (Str × V)} {fs : List (Str × D)} {i : Nat} {d : D}, Rfs K H gs fs → (nm fs).idxOf? f = some i → fldI fs i = some d → ∃ v, gs.lookup f = some v ∧ Rp K H v d
  | _, _, _, _, .nil, h, _ => by cases h
  | _, _, i, d, .cons (f := g) (v := v) (vs := vs) (ds := dsr) h t, e, q => by
    unfold nm at e
    rw [List.map_cons, List.idxOf?_cons] at e
    by_cases z : g = f
    · subst z
      simp at e
      subst e
      cases q
      exact ⟨v, by simp [List.lookup], h⟩
    · have hz : (g == f) = false := beq_eq_false_iff_ne.mpr z
      rw [hz] at e
      cases i with
      | zero =>
        simp at e
      | succ i =>
        have e' : (nm dsr).idxOf? f = some i := by simpa [nm] using e
        obtain ⟨w, h1, h2⟩ := Rfs.at t e' q
        exact ⟨w, by rw [List.lookup_cons, beq_eq_false_iff_ne.mpr (fun y => z y.symm)]; exact h1, h2⟩
/-- e.f, the i-th field of a C of fields NS -/
def dFld (C : Addr) (NS : List Str) (i : Nat) (de : DE) : DE := fun ρ M P PX => de ρ M (fun x M1 => match asO M1 x with
  | some (C', fs) => (C' = C ∧ nm fs = NS) ∧ (match fldI fs i with
    | some d => P d M1
    | none => False)
  | none => False) PX
section
variable {X : Cx} {W : WX'} {pos pos' : Pos} {e o value : Expr} {de dv : DE} {C : Addr} {NS : List Str} {i : Nat} {f : Str}
theorem ej_fld (c : Cls X.K C) (n : NoAttr X.K C f) (he : EJ X W e de) (hi : NS.idxOf? f = some i := by decide +kernel) (hb : attributeBase e f X.env (eval e X.env) = eval e X.env := by rfl) : EJ X W (.Attribute e f pos) (dFld C NS i de) :=
  pe_weak (pe_fld he hb) fun σ H Q ⟨ρ, M, Hf, P, PX, s, d, fe, fx⟩ => ⟨ρ, M, Hf, _, PX, s, d, fun x M1 v Hf1 H1 d1 e1 m1 r1 => by
    dsimp only at d1
    split at d1
    · rename_i C' fs h
      obtain ⟨⟨rfl, rfl⟩, d1⟩ := d1
      obtain ⟨a, dx, gs, rfl, ha, rf⟩ := asO_ok m1 r1 h
      split at d1
      · rename_i d hd
        obtain ⟨w, h1, h2⟩ := rf.at hi hd
        exact ⟨a, _, dx, gs, w, rfl, ha, c, n, h1, fe _ _ _ _ _ d1 e1 m1 h2⟩
      · exact d1.elim
    · exact d1.elim, fx⟩
/-- self.f = e, a new field -/
theorem putF_new {f : Str} {v : V} : ∀ {gs : List (Str × V)}, f ∉ gs.map (·.1) → putF f v gs = gs ++ [(f, v)]
  | [], _ => rfl
  | (g, x) :: r, h => by
    unfold putF
    rw [List.map_cons, List.mem_cons, not_or] at h
    rw [if_neg fun z => h.1 z.symm, putF_new h.2]
    rfl
theorem Rfs.snoc {K : Fz} {H : Hp} {f : Str} {v : V} {d : D} (h : Rp K H v d) : ∀ {gs : List (Str × V)} {fs : List (Str × D)}, Rfs K H gs fs → Rfs K H (gs ++ [(f, v)]) (fs ++ [(f, d)])
  | _, _, .nil => .cons h .nil
  | _, _, .cons g t => .cons g (Rfs.snoc h t)
def setFD : List (Str × D) → Nat → D → List (Str × D)
  | [], _, _ => []
  | p :: r, j, d => match j with
    | 0 => (p.1, d) :: r
    | j + 1 => p :: setFD r j d
theorem Rfs.put {K : Fz} {H : Hp} {f : Str} {v : V} {d : D} (h : Rp K H v d) : ∀ {gs : List (Str × V)} {fs : List (Str × D)} {i : Nat}, Rfs K H gs fs → (nm fs).idxOf? f = some i → Rfs K H (putF f v gs) (setFD fs i d)
  | _, _, _, .nil, e => by cases e
  | _, _, i, .cons (f := g) (v := w) (vs := vs) (ds := dsr) k t, e => by
    unfold nm at e
    rw [List.map_cons, List.idxOf?_cons] at e
    unfold putF
    by_cases z : g = f
    · subst z
      simp at e
      subst e
      rw [if_pos rfl]
      exact .cons h t
    · have hz : (g == f) = false := beq_eq_false_iff_ne.mpr z
      rw [hz] at e
      rw [if_neg z]
      cases i with
      | zero => simp at e
      | succ i =>
        have e' : (nm dsr).idxOf? f = some i := by simpa [nm] using e
        exact .cons k (Rfs.put h t e')
def dSetNew (C : Addr) (NS : List Str) (f : Str) (de dv : DE) : DS := fun DD ρ M => dv ρ M (fun y M1 => de ρ M1 (fun x M2 => match x with
  | .ref a => (match M2 a with
    | some (.ins C' fs) => (C' = C ∧ nm fs = NS) ∧ DD.nx ρ (um M2 a (.ins C (fs ++ [(f, y)])))
    | _ => False)
  | _ => False) (DD.ex ρ)) (DD.ex ρ)
def dSetFld (C : Addr) (NS : List Str) (i : Nat) (de dv : DE) : DS := fun DD ρ M => dv ρ M (fun y M1 => de ρ M1 (fun x M2 => match x with
  | .ref a => (match M2 a with
    | some (.ins C' fs) => (C' = C ∧ nm fs = NS) ∧ DD.nx ρ (um M2 a (.ins C (setFD fs i y)))
    | _ => False)
  | _ => False) (DD.ex ρ)) (DD.ex ρ)
theorem nm_len (fs : List (Str × D)) : (nm fs).length = fs.length := List.length_map _
theorem Rfs.len {K : Fz} {H : Hp} {gs : List (Str × V)} {fs : List (Str × D)} (r : Rfs K H gs fs) : gs.length = fs.length := by
  have := congrArg List.length r.names
  rw [List.length_map, nm_len] at this
  exact this
theorem sj_setNew (c : Cls X.K C) (n : NoAttr X.K C f) (ho : EJ X W o de) (hv : EJ X W value dv) (hi : f ∉ NS := by decide +kernel) (hl : NS.length < 1000 := by decide) (hs : swapsWith value (some (.Attribute o f pos')) pos.line X.env = pure false := by rfl) :
    SJ X W (.Assign [.Attribute o f pos'] value pos) (dSetNew C NS f de dv) := ps_weak (ps_fld ho hv hs) fun De σ H ⟨ρ, M, Hf, DD, s, d, fd⟩ =>
  ⟨ρ, M, Hf, _, _, s, d, fun y M1 wy Hf1 H1 d1 e1 m1 r1 => ⟨ρ, M1, Hf1, _, _, s.go e1 m1, d1, fun x M2 wx Hf2 H2 d2 e2 m2 r2 => by
    dsimp only at d2
    split at d2
    · split at d2
      · rename_i C' fs em
        obtain ⟨⟨rfl, rfl⟩, d2⟩ := d2
        cases r2
        obtain ⟨fa, dx, gs, q1, q2, q3, q4⟩ := m2.mu _ _ em
        have hf : f ∉ gs.map (·.1) := by
          rw [q4.names]
          exact hi
        refine ⟨_, _, dx, gs, rfl, q1, c, n, by rw [q4.len, ← nm_len]; exact hl, ?_⟩
        rw [putF_new hf]
        refine fd.nx _ _ _ Hf2 _ d2 (e1.trans e2) (((s.go e1 m1).go e2 m2).go (Ext.refl _) (m2.write em q1 (fun x z => by cases z) ⟨dx, _, upd_same, ?_, q3, q4.snoc (r1.mono e2)⟩))
        have : dx ≠ _ := fun z => by
          rw [z, q1] at q2
          cases q2
        rw [upd_ne this]
        exact q2
      · exact d2.elim
    · exact d2.elim, (fd.x s).go e1⟩, fd.x s⟩
theorem sj_setFld (c : Cls X.K C) (n : NoAttr X.K C f) (ho : EJ X W o de) (hv : EJ X W value dv) (hi : NS.idxOf? f = some i := by decide +kernel) (hl : NS.length < 1000 := by decide) (hs : swapsWith value (some (.Attribute o f pos')) pos.line X.env = pure false := by rfl) :
    SJ X W (.Assign [.Attribute o f pos'] value pos) (dSetFld C NS i de dv) := ps_weak (ps_fld ho hv hs) fun De σ H ⟨ρ, M, Hf, DD, s, d, fd⟩ =>
  ⟨ρ, M, Hf, _, _, s, d, fun y M1 wy Hf1 H1 d1 e1 m1 r1 => ⟨ρ, M1, Hf1, _, _, s.go e1 m1, d1, fun x M2 wx Hf2 H2 d2 e2 m2 r2 => by
    dsimp only at d2
    split at d2
    · split at d2
      · rename_i C' fs em
        obtain ⟨⟨rfl, rfl⟩, d2⟩ := d2
        cases r2
        obtain ⟨fa, dx, gs, q1, q2, q3, q4⟩ := m2.mu _ _ em
        refine ⟨_, _, dx, gs, rfl, q1, c, n, by rw [q4.len, ← nm_len]; exact hl, ?_⟩
        refine fd.nx _ _ _ Hf2 _ d2 (e1.trans e2) (((s.go e1 m1).go e2 m2).go (Ext.refl _) (m2.write em q1 (fun x z => by cases z) ⟨dx, _, upd_same, ?_, q3, q4.put (r1.mono e2) hi⟩))
        have : dx ≠ _ := fun z => by
          rw [z, q1] at q2
          cases q2
        rw [upd_ne this]
        exact q2
      · exact d2.elim
    · exact d2.elim, (fd.x s).go e1⟩, fd.x s⟩
end
/-! ### o.m(..) -/
/-- the receiver is a C that has no field m -/
def isC (C : Addr) (NS : List Str) (M : Mm) (x : D) : Prop := match asO M x with
  | some (C', fs) => C' = C ∧ nm fs = NS
  | none => False
def dMeth (C : Addr) (NS : List Str) (sp : DSp) (de : DE) (d : DA) : DE := fun ρ M P PX => de ρ M (fun x M1 => isC C NS M1 x ∧ d ρ M1 (fun xs M2 => sp (x :: xs) M2 P PX) PX) PX
section
variable {G : Around → Prop} {X : Cx} {W : WX'} {k j : Nat} {f C : Addr} {fd : FuncData} {ps : List Str} {dsp : DSp} {m x : Str} {p pos apos : Pos} {e o : Expr} {es : List Expr} {de : DE} {d : DA} {NS : List Str}
theorem noFld {K : Fz} {H : Hp} {m : Str} : ∀ {gs : List (Str × V)} {fs : List (Str × D)}, Rfs K H gs fs → m ∉ nm fs → gs.lookup m = none
  | _, _, .nil, _ => rfl
  | _, _, .cons (f := g) (ds := dsr) h t, n => by
    have n' : m ≠ g ∧ m ∉ nm dsr := by simpa [nm] using n
    rw [List.lookup_cons, beq_eq_false_iff_ne.mpr n'.1]
    exact noFld t n'.2
theorem ej_meth {pl : Sem Bool} (he : EJ X W o de) (c : Cls X.K C) (hm : Meth X.K C m f) (F : DFn G X.prog X.w X.K X.mg X.base k f fd ps dsp) (hr : Room k X.A) (hG : G X.A) (tk : Takes X W) (hb : Binds X.K fd ps []) (ha : AJ X W (e :: es) d)
    (hn : m ∉ NS := by decide +kernel) (hst : starEach (e :: es) X.env = (false, eval e X.env) :: starEach es X.env := by rfl) (hpl : (backTo pos (starEach es X.env)).any (·.1) = false := by rfl)
    (ht : eval (.Call (.Attribute o m apos) (e :: es) [] pos) X.env = (do
      let ov ← eval o X.env
      standAt apos.atName
      let (f, first) ← holding [ov] (getMethod ov m pl)
      callWith pos f first (backTo pos (starEach (e :: es) X.env)) (backToKw pos (keywordEach [] X.env))) := by rfl) :
    EJ X W (.Call (.Attribute o m apos) (e :: es) [] pos) (dMeth C NS dsp de d) := by
  refine ⟨fun pins s σ H Q I ⟨ρ, M, Hf, P, PX, sr, dd, fe, fx⟩ => ?_⟩
  refine PySem.W.methodCall_KW (pl := pl) (thn (he.run pins s σ H (fun v H1 => ∃ x M1 Hf1, Ext Hf Hf1 ∧ HM X.K Hf1 M1 H1 ∧ Rp X.K Hf1 v x ∧ isC C NS M1 x ∧ d ρ M1 (fun xs M2 => dsp (x :: xs) M2 P PX) PX) I
    ⟨ρ, M, Hf, _, PX, sr, dd, fun x M1 v Hf1 H1 d1 e1 m1 r1 => ⟨x, M1, Hf1, e1, m1, r1, d1⟩, fx⟩) fun u s1 ⟨v, H1, I1, rx, x, M1, Hf1, e1, m1, r1, ic, d1⟩ => ?_) ht
  unfold isC at ic
  split at ic
  case h_2 => exact ic.elim
  rename_i C' fs hx
  obtain ⟨rfl, rfl⟩ := ic
  obtain ⟨a, dx, gs, rfl, ea, rf⟩ := asO_ok m1 r1 hx
  obtain rfl : u = Value.ref a := rx
  refine getmeth_ok I1 ea c hm (noFld rf hn) ?_
  refine PySem.W.callWith_K (first := [.ref a]) (h₀ := X.base) I.ok.mod.kin hm.kp (thn (ha.run pos pins s1 σ H1 (fun vs H2 => ∃ xs M2 Hf2, Ext Hf1 Hf2 ∧ HM X.K Hf2 M2 H2 ∧ Rps X.K Hf2 vs xs ∧ dsp (x :: xs) M2 P PX) I1
    ⟨ρ, M1, Hf1, _, PX, sr.go e1 m1, d1, fun xs M2 vs Hf2 H2 d2 e2 m2 r2 => ⟨xs, M2, Hf2, e2, m2, r2, d2⟩, fx.go e1⟩) fun us s2 ⟨vs, H2, I2, r, xs, M2, Hf2, e2, m2, r2, d2⟩ => ⟨I2.kIn, ?_⟩) hst hpl
  have q : liSp X.K dsp (.ref a :: vs) H2 Q fun cc dd H' => W cc dd σ H' := ⟨_, M2, Hf2, P, PX, .cons (r1.mono e2) r2, m2, d2, fe.go (e1.trans e2), fun Cc ff M' dd Hf' H' pp ee mm xx => fx Cc ff M' dd Hf' H' pp ((e1.trans e2).trans ee) mm xx⟩
  have hl : (Value.ref a :: us ++ []).length = ps.length := by
    have e0 := F.len _ _ _ _ q
    rw [List.append_nil, ← e0, List.length_cons, List.length_cons, r.length]
  have b := hb s2 (.ref a :: us) I2.kIn hl
  rw [List.append_nil] at b
  exact run_g (args := ⟨.ref a :: us, []⟩) (us := .ref a :: us) (vs := V.ref a :: vs) F hr hG tk b I2 (.cons rfl r) q
theorem ej_meth0 {pl : Sem Bool} (he : EJ X W o de) (c : Cls X.K C) (hm : Meth X.K C m f) (F : DFn G X.prog X.w X.K X.mg X.base k f fd ps dsp) (hr : Room k X.A) (hG : G X.A) (tk : Takes X W) (hb : Binds X.K fd ps [])
    (hn : m ∉ NS := by decide +kernel)
    (ht : eval (.Call (.Attribute o m apos) [] [] pos) X.env = (do
      let ov ← eval o X.env
      standAt apos.atName
      let (f, first) ← holding [ov] (getMethod ov m pl)
      callWith pos f first (backTo pos (starEach [] X.env)) (backToKw pos (keywordEach [] X.env))) := by rfl) :
    EJ X W (.Call (.Attribute o m apos) [] [] pos) (dMeth C NS dsp de dNil) := by
  refine ⟨fun pins s σ H Q I ⟨ρ, M, Hf, P, PX, sr, dd, fe, fx⟩ => ?_⟩
  refine PySem.W.methodCall_KW (pl := pl) (thn (he.run pins s σ H (fun v H1 => ∃ x M1 Hf1, Ext Hf Hf1 ∧ HM X.K Hf1 M1 H1 ∧ Rp X.K Hf1 v x ∧ isC C NS M1 x ∧ dsp [x] M1 P PX) I
    ⟨ρ, M, Hf, _, PX, sr, dd, fun x M1 v Hf1 H1 d1 e1 m1 r1 => ⟨x, M1, Hf1, e1, m1, r1, d1⟩, fx⟩) fun u s1 ⟨v, H1, I1, rx, x, M1, Hf1, e1, m1, r1, ic, d1⟩ => ?_) ht
  unfold isC at ic
  split at ic
  case h_2 => exact ic.elim
  rename_i C' fs hx
  obtain ⟨rfl, rfl⟩ := ic
  obtain ⟨a, dx, gs, rfl, ea, rf⟩ := asO_ok m1 r1 hx
  obtain rfl : u = Value.ref a := rx
  refine getmeth_ok I1 ea c hm (noFld rf hn) ?_
  have q : liSp X.K dsp [.ref a] H1 Q fun cc dd H' => W cc dd σ H' := ⟨_, M1, Hf1, P, PX, .cons r1 .nil, m1, d1, fe.go e1, fun Cc ff M' dd Hf' H' pp ee mm xx => fx Cc ff M' dd Hf' H' pp (e1.trans ee) mm xx⟩
  have hl : ([Value.ref a] ++ []).length = ps.length := F.len _ _ _ _ q
  have b := hb s1 [.ref a] I1.kIn hl
  exact PySem.W.callWith_K0 (first := [.ref a]) I1.kIn hm.kp (run_g (args := ⟨[.ref a], []⟩) (us := [.ref a]) (vs := [V.ref a]) F hr hG tk b I1 (.cons rfl .nil) q)
end
end DL

/-! DL: C(..) -/
namespace DL
open PySem PySem.Spec PyProof.Rows L2
theorem gg_make {A : Around} (h : GG A) (C : Addr) (us : List Value) (kw : List (Str × Value)) : GG (A.under (.builtin "type.__call__" ⟨.ref C :: us, kw⟩)) := by
  show (A.under _).guards = some []
  first | exact h | (simp [Around.under, Code.isGuard, guardIds]; exact h) | (unfold Around.under; simp [Code.isGuard, guardIds, h])
theorem run_makeG {X : Cx} {W : WX'} {k : Nat} {f C : Addr} {fd : FuncData} {ps : List Str} {sp : Sp} {pins : List (Addr × Obj)} {σ : Sx} {H : Hp} {s : Shared} {Q : VK} {us zs : List Value} {kw : List (Str × Value)} {vs : List V}
    (M : Mk X.K C f) (F : Fn GG X.prog X.w X.K X.mg X.base k f fd ps sp) (hr : Room (k + 1) X.A) (hG : GG X.A) (tk : Takes X W) (hb : ∀ (s : Shared) (x : Addr), X.K.In s.heap → BindsTo s fd ⟨.ref x :: us, kw⟩ (ps.zip (.ref x :: zs))) (I : Inv X pins σ H s) (r : Vals vs zs)
    (h : ∀ x dx, H x = none → H dx = none → dx ≠ x → sp (.ref x :: vs) (upd (upd H dx (.own x)) x (.ins C dx [])) (fun v H2 => v = .non ∧ Q (.ref x) H2) fun c d H' => W c d σ H') :
    wpAny (model X.prog X.w) X.A (PySem.call (.ref C) us kw) (EP X pins σ Q) X.xe s := by
  have hq := h (s.heap.objs.size + 1) s.heap.objs.size (I.hok.fresh (Nat.le_succ _)) (I.hok.fresh (Nat.le_refl _)) (Nat.ne_of_lt (Nat.lt_succ_self _))
  have I2 := Inv.made (C := C) I
  have r2 : Vals (V.ref (s.heap.objs.size + 1) :: vs) (Value.ref (s.heap.objs.size + 1) :: zs) := .cons rfl r
  refine wpAny_call (make_map (f := f) I.kIn M.makes M.init (beq_iff_eq.mp M.fn) (codeAny_mono (F.run _ X.stack _ _ ⟨Value.ref (s.heap.objs.size + 1) :: us, kw⟩ (Value.ref (s.heap.objs.size + 1) :: zs) _ _ _ (hr.make C us kw) (gg_make hG C us kw)
    (I2.env0.make C us kw) (hb _ _ I2.kIn) r2 hq) fun r s' hq' => ?_))
  cases r with
  | error e => exact tk e s' (XE.of_call I2 (fun _ _ _ z => z) hq')
  | ok fl =>
    cases fl with
    | ret u =>
      obtain ⟨v, H', I3, rv, ev, q3⟩ := I2.after hq'
      subst ev
      exact ⟨rv, ⟨V.ref (s.heap.objs.size + 1), H', I3, rfl, q3⟩⟩
    | next => exact False.elim hq'
    | brk => exact False.elim hq'
    | cont => exact False.elim hq'
theorem HM.free {K : Fz} {Hf H : Hp} {M : Mm} {p : Addr} {o : HO} (h : HM K Hf M H) (e : H p = none) : HM K Hf M (upd H p o) := by
  have ne : ∀ {b : Addr} {u : HO}, H b = some u → b ≠ p := fun hb z => by
    rw [z, e] at hb
    cases hb
  refine ⟨fun b u hb => ?_, fun b mo hb => ?_⟩
  · have := h.sub b u hb
    rw [upd_ne (ne this)]
    exact this
  · obtain ⟨h1, h2⟩ := h.mu b mo hb
    refine ⟨h1, ?_⟩
    cases mo with
    | lst ds =>
      obtain ⟨vs, q1, q2⟩ := h2
      exact ⟨vs, (upd_ne (ne q1)).trans q1, q2⟩
    | dct kvs =>
      obtain ⟨vs, q1, q2⟩ := h2
      exact ⟨vs, (upd_ne (ne q1)).trans q1, q2⟩
    | dtt kvs =>
      obtain ⟨vs, q1, q2⟩ := h2
      exact ⟨vs, (upd_ne (ne q1)).trans q1, q2⟩
    | ins C fs =>
      obtain ⟨dx, gs, q1, q2, q3, q4⟩ := h2
      exact ⟨dx, gs, (upd_ne (ne q1)).trans q1, (upd_ne (ne q2)).trans q2, q3, q4⟩
    | deck c ks =>
      obtain ⟨f, q1⟩ := h2
      exact ⟨f, (upd_ne (ne q1)).trans q1⟩
    | cell =>
      obtain ⟨ns, q0, q1⟩ := h2
      exact ⟨ns, q0, (upd_ne (ne q1)).trans q1⟩
/-- what a made thing is: one that may change (fz = false), or one that stays as it is -/
def made (fz : Bool) (P : DP) (x : Addr) : DP := fun v M2 => v = .non ∧ (match fz with
  | false => P (.ref x) M2
  | true => (match M2 x with
    | some (.ins C' fs) => P (.obj C' fs) (dm M2 x)
    | _ => False))
def dMake (fz : Bool) (C : Addr) (sp : DSp) (d : DA) : DE := fun ρ M P PX => d ρ M (fun xs M1 => ∀ x, M1 x = none → sp (.ref x :: xs) (um M1 x (.ins C [])) (made fz P x) PX) PX
theorem made_ok {K : Fz} {W : WX'} {fz : Bool} {C : Addr} {sp : DSp} {xs : List D} {vs : List V} {M1 : Mm} {Hf1 H1 : Hp} {P : DP} {PX : XP} {Q : VK} {σ : Sx} (m1 : HM K Hf1 M1 H1) (r1 : Rps K Hf1 vs xs) (fe : FinE K Hf1 P Q) (fx : FinX K Hf1 σ PX W)
    (d1 : ∀ x, M1 x = none → sp (.ref x :: xs) (um M1 x (.ins C [])) (made fz P x) PX) :
    ∀ x dx, H1 x = none → H1 dx = none → dx ≠ x → liSp K sp (.ref x :: vs) (upd (upd H1 dx (.own x)) x (.ins C dx [])) (fun v H2 => v = .non ∧ Q (.ref x) H2) fun c d H' => W c d σ H' := fun x dx hx hdx hne => by
  have m2 : HM K Hf1 M1 (upd H1 dx (.own x)) := m1.free hdx
  have hx2 : upd H1 dx (.own x) x = none := (upd_ne hne.symm).trans hx
  have m3 : HM K Hf1 (um M1 x (.ins C [])) (upd (upd H1 dx (.own x)) x (.ins C dx [])) := m2.newM (mo := .ins C []) hx2 ⟨dx, [], upd_same, (upd_ne hne).trans upd_same, m1.fr_none hdx, .nil⟩
  refine ⟨_, _, Hf1, made fz P x, PX, .cons (.ref x) r1, m3, d1 x (m1.none_of hx), fun y M2 v Hf' H' p e m r => ?_, fun Cc ff M' dd Hf' H' pp ee mm xx => fx Cc ff M' dd Hf' H' pp ee mm xx⟩
  obtain ⟨rfl, p⟩ := p
  cases r
  refine ⟨rfl, ?_⟩
  cases fz with
  | false => exact fe _ _ _ _ _ p e m (.ref x)
  | true =>
    dsimp only at p
    split at p
    · rename_i C' fs em
      obtain ⟨fa, dx', gs, q1, q2, q3, q4⟩ := m.mu _ _ em
      obtain ⟨e2, m4⟩ := m.freeze em q1 (fun x z => by cases z)
      exact fe _ _ _ _ _ p (e.trans e2) m4 (.obj upd_same (Rfs.mono e2 q4))
    · exact p.elim
section
variable {X : Cx} {W : WX'} {k j n : Nat} {f C : Addr} {fd : FuncData} {ps ks : List Str} {π : List Nat} {dsp : DSp} {x : Str} {p pos : Pos} {e : Expr} {es : List Expr} {kws : List Keyword} {d dk : DA}
theorem ej_make (fz : Bool) (Mc : Mk X.K C f) (F : DFn GG X.prog X.w X.K X.mg X.base k f fd ps dsp) (hr : Room (k + 1) X.A) (hG : GG X.A) (tk : Takes X W) (hm : X.mg x = some (.ref C)) (hb : Binds X.K fd ps []) (ha : AJ X W (e :: es) d) (hg : Gl X x := by rfl)
    (hdb : (x == ("__debug__" : Str)) = false := by decide) (he : starEach (e :: es) X.env = (false, eval e X.env) :: starEach es X.env := by rfl)
    (hpl : (backTo pos (starEach es X.env)).any (·.1) = false := by rfl) : EJ X W (.Call (.Name x p) (e :: es) [] pos) (dMake fz C dsp d) := by
  refine ⟨fun pins s σ H Q I ⟨ρ, M, Hf, P, PX, sr, dd, fe, fx⟩ => wpAny_Call_Name_kw (ld_glob I hg hm ?_ hdb)⟩
  refine PySem.W.callWith_K (h₀ := X.base) I.ok.mod.kin Mc.kp (thn (ha.run pos pins s σ H (fun vs H1 => ∃ xs M1 Hf1, Ext Hf Hf1 ∧ HM X.K Hf1 M1 H1 ∧ Rps X.K Hf1 vs xs ∧ ∀ x, M1 x = none → dsp (.ref x :: xs) (um M1 x (.ins C [])) (made fz P x) PX) I
    ⟨ρ, M, Hf, _, PX, sr, dd, fun xs M1 vs Hf1 H1 d1 e1 m1 r1 => ⟨xs, M1, Hf1, e1, m1, r1, d1⟩, fx⟩) fun us s1 ⟨vs, H1, I1, r, xs, M1, Hf1, e1, m1, r1, d1⟩ => ⟨I1.kIn, ?_⟩) he hpl
  have q := made_ok m1 r1 (fe.go e1) (fx.go e1) d1
  refine run_makeG (zs := us) Mc F hr hG tk (fun s x hk => ?_) I1 r q
  have q0 := F.len _ _ _ _ (q (s1.heap.objs.size + 1) s1.heap.objs.size (I1.hok.fresh (Nat.le_succ _)) (I1.hok.fresh (Nat.le_refl _)) (Nat.ne_of_lt (Nat.lt_succ_self _)))
  have hl : (Value.ref x :: us ++ []).length = ps.length := by
    rw [List.append_nil, ← q0, List.length_cons, List.length_cons, r.length]
  have b := hb s (.ref x :: us) hk hl
  rw [List.append_nil] at b
  exact b
theorem ej_make0 (fz : Bool) (Mc : Mk X.K C f) (F : DFn GG X.prog X.w X.K X.mg X.base k f fd ps dsp) (hr : Room (k + 1) X.A) (hG : GG X.A) (tk : Takes X W) (hm : X.mg x = some (.ref C)) (hb : Binds X.K fd ps []) (hg : Gl X x := by rfl)
    (hdb : (x == ("__debug__" : Str)) = false := by decide) : EJ X W (.Call (.Name x p) [] [] pos) (dMake fz C dsp dNil) := by
  refine ⟨fun pins s σ H Q I ⟨ρ, M, Hf, P, PX, sr, dd, fe, fx⟩ => wpAny_Call_Name_kw (ld_glob I hg hm ?_ hdb)⟩
  have q := made_ok sr.hm .nil fe fx dd
  refine PySem.W.callWith_K0 I.kIn Mc.kp (run_makeG (us := []) (zs := []) Mc F hr hG tk (fun s' x hk => ?_) I .nil q)
  have q0 := F.len _ _ _ _ (q (s.heap.objs.size + 1) s.heap.objs.size (I.hok.fresh (Nat.le_succ _)) (I.hok.fresh (Nat.le_refl _)) (Nat.ne_of_lt (Nat.lt_succ_self _)))
  exact hb s' [.ref x] hk q0
end
end DL

/-! DL: dicts of both kinds, whether they change or not -/
namespace DL
open PySem PySem.Spec PyProof.Rows L2
section
variable {κ α : Type} [DecidableEq κ]
def lkg (kvs : List (κ × α)) (k : κ) : Option α := (kvs.find? fun kv => decide (kv.1 = k)).map (·.2)
def insg (kvs : List (κ × α)) (k : κ) (v : α) : List (κ × α) := if (kvs.any fun kv => decide (kv.1 = k)) = true then kvs.map (fun kv => if kv.1 = k then (kv.1, v) else kv) else kvs ++ [(k, v)]
def outg (kvs : List (κ × α)) (k : κ) : List (κ × α) := kvs.filter fun kv => decide (kv.1 ≠ k)
variable {K : Fz} {H : Hp}
theorem Rks.lkg {k : κ} : ∀ {ws : List (κ × V)} {kvs : List (κ × D)}, Rks K H ws kvs → (valV ws k = none ∧ lkg kvs k = none) ∨ ∃ v d, valV ws k = some v ∧ lkg kvs k = some d ∧ Rp K H v d
  | _, _, .nil => .inl ⟨rfl, rfl⟩
  | _, _, .cons (k := k') (v := v) (d := d) g r => by
    by_cases e : k' = k
    · refine .inr ⟨v, d, ?_, ?_, g⟩
      · unfold valV
        rw [List.find?_cons_of_pos (by simp [e])]
        rfl
      · unfold DL.lkg
        rw [List.find?_cons_of_pos (by simp [e])]
        rfl
    · have ih := r.lkg (k := k)
      unfold valV DL.lkg at ih ⊢
      rw [List.find?_cons_of_neg (by simp [e]), List.find?_cons_of_neg (by simp [e])]
      exact ih
theorem Rks.anyg {k : κ} : ∀ {ws : List (κ × V)} {kvs : List (κ × D)}, Rks K H ws kvs → (ws.any fun kv => decide (kv.1 = k)) = (kvs.any fun kv => decide (kv.1 = k))
  | _, _, .nil => rfl
  | _, _, .cons _ r => by
    rw [List.any_cons, List.any_cons, r.anyg]
theorem Rks.mapg {k : κ} {v : V} {d : D} (h : Rp K H v d) : ∀ {ws : List (κ × V)} {kvs : List (κ × D)}, Rks K H ws kvs → Rks K H (ws.map fun kv => if kv.1 = k then (kv.1, v) else kv) (kvs.map fun kv => if kv.1 = k then (kv.1, d) else kv)
  | _, _, .nil => .nil
  | _, _, .cons (k := k') g r => by
    rw [List.map_cons, List.map_cons]
    by_cases e : k' = k
    · rw [if_pos e, if_pos e]
      exact .cons h (r.mapg h)
    · rw [if_neg e, if_neg e]
      exact .cons g (r.mapg h)
theorem Rks.insg {k : κ} {v : V} {d : D} {ws : List (κ × V)} {kvs : List (κ × D)} (r : Rks K H ws kvs) (h : Rp K H v d) : Rks K H (putK ws k v) (insg kvs k d) := by
  unfold putK DL.insg
  rw [r.anyg]
  split
  · exact r.mapg h
  · exact r.app (.cons h .nil)
theorem Rks.outg {k : κ} : ∀ {ws : List (κ × V)} {kvs : List (κ × D)}, Rks K H ws kvs → Rks K H (dropK ws k) (outg kvs k)
  | _, _, .nil => .nil
  | _, _, .cons (k := k') g r => by
    unfold dropK DL.outg
    rw [List.filter_cons, List.filter_cons]
    by_cases e : k' = k
    · rw [if_neg (by simp [e]), if_neg (by simp [e])]
      exact r.outg
    · rw [if_pos (by simp [e]), if_pos (by simp [e])]
      exact .cons g r.outg
end
/-- a key that is a tuple -/
def keysT : List D → Option (List Key)
  | [] => some []
  | d :: ds => match keyOf d, keysT ds with
    | some k, some ks => some (k :: ks)
    | _, _ => none
def keyT : D → Option (List Key)
  | .tup ds => keysT ds
  | _ => none
theorem keysT_ok {K : Fz} {H : Hp} : ∀ {vs : List V} {ds : List D} {ks : List Key}, Rps K H vs ds → keysT ds = some ks → vs = ks.map kV
  | _, _, _, .nil, h => by cases h; rfl
  | _, _, _, .cons r1 r2, h => by
    unfold keysT at h
    split at h
    · rename_i h1 h2
      cases h
      rw [keyOf_ok r1 h1, keysT_ok r2 h2]
      rfl
    · cases h
theorem keyT_ok {K : Fz} {H : Hp} {v : V} {d : D} {k : List Key} (r : Rp K H v d) (h : keyT d = some k) : ∃ b, v = .ref b ∧ H b = some (.tup (k.map kV)) := by
  unfold keyT at h
  split at h
  · cases r with
    | tup h1 h2 =>
      rw [keysT_ok h2 h] at h1
      exact ⟨_, rfl, h1⟩
  · cases h
inductive Tab where
  | k (kvs : List (Key × D))
  | t (kvs : List (List Key × D))
def tabR (M : Mm) : D → Option Tab
  | .dct kvs => some (.k kvs)
  | .dtt kvs => some (.t kvs)
  | .ref a => match M a with
    | some (.dct kvs) => some (.k kvs)
    | some (.dtt kvs) => some (.t kvs)
    | _ => none
  | _ => none
def TabIs (K : Fz) (Hf H : Hp) (a : Addr) : Tab → Prop
  | .k kvs => ∃ ws, H a = some (.dK ws) ∧ Rks K Hf ws kvs
  | .t kvs => ∃ ws, H a = some (.dT ws) ∧ Rks K Hf ws kvs
theorem tabR_ok {K : Fz} {M : Mm} {Hf H : Hp} {x : D} {v : V} {t : Tab} (m : HM K Hf M H) (r : Rp K Hf v x) (h : tabR M x = some t) : ∃ a, v = .ref a ∧ TabIs K Hf H a t := by
  unfold tabR at h
  split at h
  · cases h
    cases r with
    | dct h1 h2 => exact ⟨_, rfl, _, m.sub _ _ h1, h2.ks⟩
  · cases h
    cases r with
    | dtt h1 h2 => exact ⟨_, rfl, _, m.sub _ _ h1, h2.ks⟩
  · cases r
    split at h
    · rename_i e
      cases h
      obtain ⟨_, ws, q1, q2⟩ := m.mu _ _ e
      exact ⟨_, rfl, ws, q1, q2⟩
    · rename_i e
      cases h
      obtain ⟨_, ws, q1, q2⟩ := m.mu _ _ e
      exact ⟨_, rfl, ws, q1, q2⟩
    · cases h
  · cases h
/-- what x holds at y -/
def look (M : Mm) (x y : D) : Option (Option D) := match tabR M x with
  | some (.k kvs) => (keyOf y).map (lkg kvs)
  | some (.t kvs) => (keyT y).map (lkg kvs)
  | none => none
def RpO (K : Fz) (H : Hp) : Option V → Option D → Prop
  | none, none => True
  | some v, some d => Rp K H v d
  | _, _ => False
theorem look_ok {K : Fz} {M : Mm} {Hf H : Hp} {x y : D} {v u : V} {r : Option D} (m : HM K Hf M H) (r1 : Rp K Hf v x) (r2 : Rp K Hf u y) (h : look M x y = some r) : ∃ a o, v = .ref a ∧ DGet H a u o ∧ RpO K Hf o r ∧ IsD H a := by
  unfold look at h
  split at h
  · rename_i kvs e
    obtain ⟨a, rfl, ws, ha, rk⟩ := tabR_ok m r1 e
    cases hk : keyOf y with
    | none => rw [hk] at h; cases h
    | some k =>
      rw [hk] at h
      cases h
      obtain rfl := keyOf_ok r2 hk
      refine ⟨a, _, rfl, DGet.k ha, ?_, .inl ⟨_, .inl ha⟩⟩
      rcases rk.lkg (k := k) with ⟨q1, q2⟩ | ⟨v', d', q1, q2, q3⟩
      · rw [q1, q2]
        trivial
      · rw [q1, q2]
        exact q3
  · rename_i kvs e
    obtain ⟨a, rfl, ws, ha, rk⟩ := tabR_ok m r1 e
    cases hk : keyT y with
    | none => rw [hk] at h; cases h
    | some k =>
      rw [hk] at h
      cases h
      obtain ⟨b, rfl, hb⟩ := keyT_ok r2 hk
      refine ⟨a, _, rfl, DGet.t ha (m.sub _ _ hb), ?_, .inr ⟨_, .inl ha⟩⟩
      rcases rk.lkg (k := k) with ⟨q1, q2⟩ | ⟨v', d', q1, q2, q3⟩
      · rw [q1, q2]
        trivial
      · rw [q1, q2]
        exact q3
  · cases h
/-- the table behind x[y] = d -/
def putM (M : Mm) (x y d : D) : Option (Nat × Mm) := match x with
  | .ref a => match M a with
    | some (.dct kvs) => (keyOf y).map fun k => (kvs.length, um M a (.dct (insg kvs k d)))
    | some (.dtt kvs) => (keyT y).map fun k => (kvs.length, um M a (.dtt (insg kvs k d)))
    | _ => none
  | _ => none
theorem putM_ok {K : Fz} {M M' : Mm} {Hf H : Hp} {x y d : D} {v u w : V} {n : Nat} (m : HM K Hf M H) (r1 : Rp K Hf v x) (r2 : Rp K Hf u y) (r3 : Rp K Hf w d) (h : putM M x y d = some (n, M')) (hn : n < sizeLine) : ∃ a H', v = .ref a ∧ DPut H a u w H' ∧ HM K Hf M' H' := by
  unfold putM at h
  split at h
  · rename_i a
    cases r1
    split at h
    · rename_i kvs e
      obtain ⟨_, ws, q1, q2⟩ := m.mu _ _ e
      cases hk : keyOf y with
      | none => rw [hk] at h; cases h
      | some k =>
        rw [hk] at h
        cases h
        obtain rfl := keyOf_ok r2 hk
        exact ⟨a, _, rfl, DPut.k q1 (by rw [q2.len]; exact hn), m.write e q1 (fun x z => by cases z) ⟨_, upd_same, q2.insg r3⟩⟩
    · rename_i kvs e
      obtain ⟨_, ws, q1, q2⟩ := m.mu _ _ e
      cases hk : keyT y with
      | none => rw [hk] at h; cases h
      | some k =>
        rw [hk] at h
        cases h
        obtain ⟨b, rfl, hb⟩ := keyT_ok r2 hk
        exact ⟨a, _, rfl, DPut.t q1 (m.sub _ _ hb) (by rw [q2.len]; exact hn), m.write e q1 (fun x z => by cases z) ⟨_, upd_same, q2.insg r3⟩⟩
    · cases h
  · cases h
/-! ### the rules -/
def dGetG (td ty : DE) : DE := fun ρ M P PX => td ρ M (fun x M1 => ty ρ M1 (fun y M2 => match look M2 x y with
  | some (some z) => P z M2
  | _ => False) PX) PX
def dInG (neg : Bool) (ty td : DE) : DE := fun ρ M P PX => ty ρ M (fun y M1 => td ρ M1 (fun x M2 => match look M2 x y with
  | some r => P (.bl (neg ^^ r.isSome)) M2
  | none => False) PX) PX
def dPutG (td ty tv : DE) : DS := fun DD ρ M => tv ρ M (fun v M1 => td ρ M1 (fun x M2 => ty ρ M2 (fun y M3 => match putM M3 x y v with
  | some (n, M4) => n < sizeLine ∧ DD.nx ρ M4
  | none => False) (DD.ex ρ)) (DD.ex ρ)) (DD.ex ρ)
def dGet1 (td ty : DE) : DE := fun ρ M P PX => td ρ M (fun x M1 => (∃ t, tabR M1 x = some t) ∧ ty ρ M1 (fun y M2 => match look M2 x y with
  | some r => P (r.getD .non) M2
  | none => False) PX) PX
def dGet2 (td ty tz : DE) : DE := fun ρ M P PX => td ρ M (fun x M1 => (∃ t, tabR M1 x = some t) ∧ ty ρ M1 (fun y M2 => tz ρ M2 (fun z M3 => match look M3 x y with
  | some r => P (r.getD z) M3
  | none => False) PX) PX) PX
theorem isD_of {K : Fz} {M : Mm} {Hf H : Hp} {x : D} {v : V} {t : Tab} (m : HM K Hf M H) (r : Rp K Hf v x) (h : tabR M x = some t) : ∃ a, v = .ref a ∧ IsD H a := by
  obtain ⟨a, rfl, q⟩ := tabR_ok m r h
  cases t with
  | k kvs => obtain ⟨ws, h, _⟩ := q; exact ⟨a, rfl, .inl ⟨ws, .inl h⟩⟩
  | t kvs => obtain ⟨ws, h, _⟩ := q; exact ⟨a, rfl, .inr ⟨ws, .inl h⟩⟩
section
variable {X : Cx} {W : WX'} {pos pos' apos cpos : Pos} {o i value e f : Expr} {td ty tv tz : DE}
theorem ej_dgetG (hu : X.A.units + 1 < cLine) (ho : EJ X W o td) (hi : EJ X W i ty) (hs : NoSl i := by exact fun _ _ => rfl) : EJ X W (.Subscript o i pos) (dGetG td ty) := pe_weak (pe_dget hu ho hi hs) fun σ H Q ⟨ρ, M, Hf, P, PX, s, d, fe, fx⟩ =>
  ⟨ρ, M, Hf, _, PX, s, d, fun x M1 v Hf1 H1 d1 e1 m1 r1 => ⟨ρ, M1, Hf1, _, PX, s.go e1 m1, d1, fun y M2 u Hf2 H2 d2 e2 m2 r2 => by
    dsimp only at d2
    split at d2
    · rename_i z h
      obtain ⟨a, o, rfl, q1, q2, _⟩ := look_ok m2 (r1.mono e2) r2 h
      cases o with
      | none => exact q2.elim
      | some w => exact ⟨a, w, rfl, q1, fe _ _ _ _ _ d2 (e1.trans e2) m2 q2⟩
    · exact d2.elim, fx.go e1⟩, fx⟩
theorem RpO.isSome {K : Fz} {H : Hp} {o : Option V} {r : Option D} (h : RpO K H o r) : o.isSome = r.isSome := by
  cases o <;> cases r <;> first | rfl | exact h.elim
theorem RpO.getD {K : Fz} {H : Hp} {o : Option V} {r : Option D} {v : V} {d : D} (h : RpO K H o r) (g : Rp K H v d) : Rp K H (o.getD v) (r.getD d) := by
  cases o <;> cases r <;> first | exact g | exact h.elim | exact h
theorem ej_inG (hu : X.A.units + 1 < cLine) (hi : EJ X W i ty) (ho : EJ X W o td) (hb : behindInMarks .In o = false := by rfl) : EJ X W (.Compare i [.In] [o] pos) (dInG false ty td) := pe_weak (pe_cmp (pc_din hu hi ho) hb) fun σ H Q ⟨ρ, M, Hf, P, PX, s, d, fe, fx⟩ =>
  ⟨ρ, M, Hf, _, PX, s, d, fun y M1 v Hf1 H1 d1 e1 m1 r1 => ⟨ρ, M1, Hf1, _, PX, s.go e1 m1, d1, fun x M2 u Hf2 H2 d2 e2 m2 r2 => by
    dsimp only at d2
    split at d2
    · rename_i r h
      obtain ⟨a, o, rfl, q1, q2, _⟩ := look_ok m2 r2 (r1.mono e2) h
      rw [Bool.false_xor, ← q2.isSome] at d2
      exact ⟨_, o, rfl, q1, fe _ _ _ _ _ d2 (e1.trans e2) m2 (.bl _)⟩
    · exact d2.elim, fx.go e1⟩, fx⟩
theorem ej_notinG (hu : X.A.units + 1 < cLine) (hi : EJ X W i ty) (ho : EJ X W o td) (hb : behindInMarks .NotIn o = false := by rfl) : EJ X W (.Compare i [.NotIn] [o] pos) (dInG true ty td) := pe_weak (pe_cmp (pc_dnotin hu hi ho) hb) fun σ H Q ⟨ρ, M, Hf, P, PX, s, d, fe, fx⟩ =>
  ⟨ρ, M, Hf, _, PX, s, d, fun y M1 v Hf1 H1 d1 e1 m1 r1 => ⟨ρ, M1, Hf1, _, PX, s.go e1 m1, d1, fun x M2 u Hf2 H2 d2 e2 m2 r2 => by
    dsimp only at d2
    split at d2
    · rename_i r h
      obtain ⟨a, o, rfl, q1, q2, _⟩ := look_ok m2 r2 (r1.mono e2) h
      rw [Bool.true_xor, ← q2.isSome] at d2
      exact ⟨_, o, rfl, q1, fe _ _ _ _ _ d2 (e1.trans e2) m2 (.bl _)⟩
    · exact d2.elim, fx.go e1⟩, fx⟩
theorem tj_inG (hu : X.A.units + 1 < cLine) (hi : EJ X W i ty) (ho : EJ X W o td) (hb : behindInMarks .In o = false := by rfl) : TJ X W (.Compare i [.In] [o] pos) (dTst (dInG false ty td)) := pt_weak (pt_cmp (pc_din hu hi ho) hb) fun σ H Q z => by
  obtain ⟨ρ, M, Hf, P, PX, s, d, fe, fx⟩ := tstj σ H Q z
  exact ⟨ρ, M, Hf, _, PX, s, d, fun y M1 v Hf1 H1 d1 e1 m1 r1 => ⟨ρ, M1, Hf1, _, PX, s.go e1 m1, d1, fun x M2 u Hf2 H2 d2 e2 m2 r2 => by
    dsimp only at d2
    split at d2
    · rename_i r h
      obtain ⟨a, o, rfl, q1, q2, _⟩ := look_ok m2 r2 (r1.mono e2) h
      rw [Bool.false_xor, ← q2.isSome] at d2
      exact ⟨_, o, rfl, q1, fe _ _ _ _ _ d2 (e1.trans e2) m2 (.bl _)⟩
    · exact d2.elim, fx.go e1⟩, fx⟩
theorem tj_notinG (hu : X.A.units + 1 < cLine) (hi : EJ X W i ty) (ho : EJ X W o td) (hb : behindInMarks .NotIn o = false := by rfl) : TJ X W (.Compare i [.NotIn] [o] pos) (dTst (dInG true ty td)) := pt_weak (pt_cmp (pc_dnotin hu hi ho) hb) fun σ H Q z => by
  obtain ⟨ρ, M, Hf, P, PX, s, d, fe, fx⟩ := tstj σ H Q z
  exact ⟨ρ, M, Hf, _, PX, s, d, fun y M1 v Hf1 H1 d1 e1 m1 r1 => ⟨ρ, M1, Hf1, _, PX, s.go e1 m1, d1, fun x M2 u Hf2 H2 d2 e2 m2 r2 => by
    dsimp only at d2
    split at d2
    · rename_i r h
      obtain ⟨a, o, rfl, q1, q2, _⟩ := look_ok m2 r2 (r1.mono e2) h
      rw [Bool.true_xor, ← q2.isSome] at d2
      exact ⟨_, o, rfl, q1, fe _ _ _ _ _ d2 (e1.trans e2) m2 (.bl _)⟩
    · exact d2.elim, fx.go e1⟩, fx⟩
theorem sj_dputG (hu : X.A.units + 1 < cLine) (ho : EJ X W o td) (hi : EJ X W i ty) (hv : EJ X W value tv) (hs : swapsWith value (some (.Subscript o i pos')) pos.line X.env = pure false := by rfl) : SJ X W (.Assign [.Subscript o i pos'] value pos) (dPutG td ty tv) :=
  ps_weak (ps_dput hu ho hi hv hs) fun De σ H ⟨ρ, M, Hf, DD, s, d, f⟩ =>
    ⟨ρ, M, Hf, _, _, s, d, fun v M1 wv Hf1 H1 d1 e1 m1 r1 => ⟨ρ, M1, Hf1, _, _, s.go e1 m1, d1, fun x M2 wx Hf2 H2 d2 e2 m2 r2 => ⟨ρ, M2, Hf2, _, _, (s.go e1 m1).go e2 m2, d2, fun y M3 wy Hf3 H3 d3 e3 m3 r3 => by
      dsimp only at d3
      split at d3
      · rename_i n M4 h
        obtain ⟨a, H4, rfl, q1, q2⟩ := putM_ok m3 (r2.mono e3) r3 ((r1.mono e2).mono e3) h d3.1
        exact ⟨a, H4, rfl, q1, f.nx _ _ _ Hf3 _ d3.2 ((e1.trans e2).trans e3) ((((s.go e1 m1).go e2 m2).go e3 m3).go (Ext.refl _) q2)⟩
      · exact d3.elim, ((f.x s).go e1).go e2⟩, (f.x s).go e1⟩, f.x s⟩
theorem ej_get1 (hu : X.A.units + 1 < cLine) (ho : EJ X W o td) (he : EJ X W e ty) (m : M1 X o "get" apos e cpos) : EJ X W (.Call (.Attribute o "get" apos) [e] [] cpos) (dGet1 td ty) := pe_weak (pe_dget1 hu ho he m) fun σ H Q ⟨ρ, M, Hf, P, PX, s, d, fe, fx⟩ =>
  ⟨ρ, M, Hf, _, PX, s, d, fun x M1 v Hf1 H1 d1 e1 m1 r1 => by
    obtain ⟨⟨t, ht⟩, d1⟩ := d1
    obtain ⟨a, rfl, hd⟩ := isD_of m1 r1 ht
    refine ⟨a, rfl, hd, ρ, M1, Hf1, _, PX, s.go e1 m1, d1, fun y M2 u Hf2 H2 d2 e2 m2 r2 => ?_, fx.go e1⟩
    dsimp only at d2
    split at d2
    · rename_i r h
      obtain ⟨a', o, e, q1, q2, _⟩ := look_ok m2 (r1.mono e2) r2 h
      cases e
      exact ⟨o, q1, fe _ _ _ _ _ d2 (e1.trans e2) m2 (q2.getD .non)⟩
    · exact d2.elim, fx⟩
theorem ej_get2 (hu : X.A.units + 1 < cLine) (ho : EJ X W o td) (he : EJ X W e ty) (hf : EJ X W f tz) (m : M2 X o "get" apos e f cpos) : EJ X W (.Call (.Attribute o "get" apos) [e, f] [] cpos) (dGet2 td ty tz) := pe_weak (pe_dget2 hu ho he hf m) fun σ H Q ⟨ρ, M, Hf, P, PX, s, d, fe, fx⟩ =>
  ⟨ρ, M, Hf, _, PX, s, d, fun x M1 v Hf1 H1 d1 e1 m1 r1 => by
    obtain ⟨⟨t, ht⟩, d1⟩ := d1
    obtain ⟨a, rfl, hd⟩ := isD_of m1 r1 ht
    refine ⟨a, rfl, hd, ρ, M1, Hf1, _, PX, s.go e1 m1, d1, fun y M2 u Hf2 H2 d2 e2 m2 r2 => ⟨ρ, M2, Hf2, _, PX, (s.go e1 m1).go e2 m2, d2, fun z M3 w Hf3 H3 d3 e3 m3 r3 => ?_, (fx.go e1).go e2⟩, fx.go e1⟩
    dsimp only at d3
    split at d3
    · rename_i r h
      obtain ⟨a', o, e, q1, q2, _⟩ := look_ok m3 ((r1.mono e2).mono e3) (r2.mono e3) h
      cases e
      exact ⟨o, q1, fe _ _ _ _ _ d3 ((e1.trans e2).trans e3) m3 (q2.getD r3)⟩
    · exact d3.elim, fx⟩
theorem ej_newK : EJ X W (.Dict [] [] pos) (fun ρ M P PX => ∀ p, M p = none → P (.ref p) (um M p (.dct []))) := ej_dnew
theorem ej_newT : EJ X W (.Dict [] [] pos) (fun ρ M P PX => ∀ p, M p = none → P (.ref p) (um M p (.dtt []))) := pe_weak pe_dnewT fun σ H Q ⟨ρ, M, Hf, P, PX, s, d, fe, fx⟩ p hp =>
  fe _ _ _ _ _ (d p (s.hm.none_of hp)) (Ext.refl _) (s.hm.newM (mo := .dtt []) hp ⟨[], upd_same, .nil⟩) (.ref p)
end
/-- how many things x holds -/
def lenT (M : Mm) (x : D) : Option Nat := match tabR M x with
  | some (.k kvs) => some kvs.length
  | some (.t kvs) => some kvs.length
  | none => none
end DL

/-! DL: more built-ins by values -/
namespace DL
open PySem PySem.Spec PyProof.Rows L2
def rSumD : RDL := fun xs M P => match xs with
  | [x] => ∃ ns : List Int, asL M x = some (ns.map .int) ∧ P (.int ns.sum) M
  | _ => False
theorem cj_sum {K : Fz} : CJ K (rSum K) rSumD := fun {xs vs M Hf H P Q} m r d f => by
  unfold rSumD at d
  split at d
  · obtain ⟨ns, h1, h2⟩ := d
    cases r with
    | cons h t =>
      cases t
      obtain ⟨a, ws, rfl, ha, ra⟩ := asL_ok m h h1
      rw [Rps.ofInts ra] at ha
      exact ⟨a, ns, rfl, ha, f _ _ _ _ _ h2 (Ext.refl _) m (.int _)⟩
  · exact d.elim
def rMaxD : RDL := fun xs M P => match xs with
  | [x] => ∃ (ns : List Int) (k : Int), asL M x = some (ns.map .int) ∧ k ∈ ns ∧ (∀ y ∈ ns, y ≤ k) ∧ P (.int k) M
  | _ => False
theorem cj_max {K : Fz} : CJ K (rMax K) rMaxD := fun {xs vs M Hf H P Q} m r d f => by
  unfold rMaxD at d
  split at d
  · obtain ⟨ns, k, h1, h2, h3, h4⟩ := d
    cases r with
    | cons h t =>
      cases t
      obtain ⟨a, ws, rfl, ha, ra⟩ := asL_ok m h h1
      rw [Rps.ofInts ra] at ha
      refine ⟨a, ns, rfl, ha, List.length_pos_of_mem h2, fun k' g1 g2 => ?_⟩
      have : k' = k := Int.le_antisymm (h3 k' g1) (g2 k h2)
      rw [this]
      exact f _ _ _ _ _ h4 (Ext.refl _) m (.int _)
  · exact d.elim
def rMinD : RDL := fun xs M P => match xs with
  | [x] => ∃ (ns : List Int) (k : Int), asL M x = some (ns.map .int) ∧ k ∈ ns ∧ (∀ y ∈ ns, k ≤ y) ∧ P (.int k) M
  | _ => False
theorem cj_min {K : Fz} : CJ K (rMin K) rMinD := fun {xs vs M Hf H P Q} m r d f => by
  unfold rMinD at d
  split at d
  · obtain ⟨ns, k, h1, h2, h3, h4⟩ := d
    cases r with
    | cons h t =>
      cases t
      obtain ⟨a, ws, rfl, ha, ra⟩ := asL_ok m h h1
      rw [Rps.ofInts ra] at ha
      refine ⟨a, ns, rfl, ha, List.length_pos_of_mem h2, fun k' g1 g2 => ?_⟩
      have : k' = k := Int.le_antisymm (g2 k h2) (h3 k' g1)
      rw [this]
      exact f _ _ _ _ _ h4 (Ext.refl _) m (.int _)
  · exact d.elim
def rAnyD : RDL := fun xs M P => match xs with
  | [x] => ∃ ns : List Bool, asL M x = some (ns.map .bl) ∧ P (.bl (ns.any id)) M
  | _ => False
theorem cj_any {K : Fz} : CJ K (rAny K) rAnyD := fun {xs vs M Hf H P Q} m r d f => by
  unfold rAnyD at d
  split at d
  · obtain ⟨ns, h1, h2⟩ := d
    cases r with
    | cons h t =>
      cases t
      obtain ⟨a, ws, rfl, ha, ra⟩ := asL_ok m h h1
      rw [Rps.ofBls ra] at ha
      exact ⟨a, ns, rfl, ha, f _ _ _ _ _ h2 (Ext.refl _) m (.bl _)⟩
  · exact d.elim
def rAllD : RDL := fun xs M P => match xs with
  | [x] => ∃ ns : List Bool, asL M x = some (ns.map .bl) ∧ P (.bl (ns.all id)) M
  | _ => False
theorem cj_all {K : Fz} : CJ K (rAll K) rAllD := fun {xs vs M Hf H P Q} m r d f => by
  unfold rAllD at d
  split at d
  · obtain ⟨ns, h1, h2⟩ := d
    cases r with
    | cons h t =>
      cases t
      obtain ⟨a, ws, rfl, ha, ra⟩ := asL_ok m h h1
      rw [Rps.ofBls ra] at ha
      exact ⟨a, ns, rfl, ha, f _ _ _ _ _ h2 (Ext.refl _) m (.bl _)⟩
  · exact d.elim
def rMax2D : RDL := fun xs M P => match xs with
  | [.int i, .int j] => P (.int (max i j)) M
  | _ => False
theorem cj_max2 {K : Fz} : CJ K (fun xs H Q => ∃ i j, xs = [.int i, .int j] ∧ Q (.int (if j > i then j else i)) H) rMax2D := fun {xs vs M Hf H P Q} m r d f => by
  unfold rMax2D at d
  split at d
  · rename_i i j
    cases r with
    | cons h t => cases t with
      | cons h2 t =>
        cases t
        cases h
        cases h2
        refine ⟨i, j, rfl, ?_⟩
        have e : (if j > i then j else i) = max i j := by split <;> omega
        rw [e]
        exact f _ _ _ _ _ d (Ext.refl _) m (.int _)
  · exact d.elim
def rMin2D : RDL := fun xs M P => match xs with
  | [.int i, .int j] => P (.int (min i j)) M
  | _ => False
theorem cj_min2 {K : Fz} : CJ K (fun xs H Q => ∃ i j, xs = [.int i, .int j] ∧ Q (.int (if j < i then j else i)) H) rMin2D := fun {xs vs M Hf H P Q} m r d f => by
  unfold rMin2D at d
  split at d
  · rename_i i j
    cases r with
    | cons h t => cases t with
      | cons h2 t =>
        cases t
        cases h
        cases h2
        refine ⟨i, j, rfl, ?_⟩
        have e : (if j < i then j else i) = min i j := by split <;> omega
        rw [e]
        exact f _ _ _ _ _ d (Ext.refl _) m (.int _)
  · exact d.elim
def rStrD : RDL := fun xs M P => match xs with
  | [.int i] => i.natAbs.log2 < 1920 ∧ P (.str (toString i)) M
  | [.str x] => P (.str x) M
  | _ => False
theorem cj_str {K : Fz} : CJ K (fun xs H Q => (∃ i, xs = [.int i] ∧ i.natAbs.log2 < 1920 ∧ Q (.str (toString i)) H) ∨ ∃ a, xs = [.str a] ∧ Q (.str a) H) rStrD := fun {xs vs M Hf H P Q} m r d f => by
  unfold rStrD at d
  split at d
  · cases r with
    | cons h t =>
      cases t
      cases h
      exact .inl ⟨_, rfl, d.1, f _ _ _ _ _ d.2 (Ext.refl _) m (.str _)⟩
  · cases r with
    | cons h t =>
      cases t
      cases h
      exact .inr ⟨_, rfl, f _ _ _ _ _ d (Ext.refl _) m (.str _)⟩
  · exact d.elim
/-- the built-in type of a thing -/
def tyD (M : Mm) : D → Option String
  | .non => some "NoneType"
  | .bl _ => some "bool"
  | .int _ => some "int"
  | .str _ => some "str"
  | .tup _ => some "tuple"
  | .lst _ => some "list"
  | .dct _ => some "dict"
  | .dtt _ => some "dict"
  | .ref a => match M a with
    | some (.lst _) => some "list"
    | some (.dct _) => some "dict"
    | some (.dtt _) => some "dict"
    | _ => none
  | _ => none
theorem tyD_ok {K : Fz} {M : Mm} {Hf H : Hp} {x : D} {v : V} {T : String} (m : HM K Hf M H) (r : Rp K Hf v x) (h : tyD M x = some T) : TyX K H v (.type T) := by
  cases r with
  | non => cases h; exact .base .non
  | bl b => cases h; exact .base (.bl b)
  | int b => cases h; exact .base (.int b)
  | str b => cases h; exact .base (.str b)
  | ty n => cases h
  | ref a =>
    unfold tyD at h
    dsimp only at h
    split at h
    · rename_i e
      cases h
      obtain ⟨_, vs, q1, _⟩ := m.mu _ _ e
      exact .base (.lst q1)
    · rename_i e
      cases h
      obtain ⟨_, vs, q1, _⟩ := m.mu _ _ e
      exact .base (.dK q1)
    · rename_i e
      cases h
      obtain ⟨_, vs, q1, _⟩ := m.mu _ _ e
      exact .base (.dT q1)
    · cases h
  | tup h1 h2 => cases h; exact .base (.tup (m.sub _ _ h1))
  | lst h1 h2 => cases h; exact .base (.lst (m.sub _ _ h1))
  | scr h1 h2 => cases h
  | obj h1 h2 => cases h
  | dct h1 h2 => cases h; exact .base (.dK (m.sub _ _ h1))
  | dtt h1 h2 => cases h; exact .base (.dT (m.sub _ _ h1))
/-- isinstance(x, c), c a built-in class -/
def subT (t c : String) : Bool := t == c || (t == "bool" && c == "int")
def rIsD (c : String) : RDL := fun xs M P => match xs with
  | [x, .ty c'] => c' = c ∧ (match tyD M x with
    | some T => P (.bl (subT T c)) M
    | none => False)
  | _ => False
def KnowsT (K : Fz) (c : String) : Prop := ∀ T ∈ ["NoneType", "bool", "int", "str", "tuple", "list", "dict"], PySem.W.kitOne K (.type T) (.type c) = some (subT T c)
theorem tyD_mem {M : Mm} {x : D} {T : String} (h : tyD M x = some T) : T ∈ ["NoneType", "bool", "int", "str", "tuple", "list", "dict"] := by
  cases x with
  | ref a =>
    unfold tyD at h
    dsimp only at h
    split at h <;> cases h <;> decide
  | _ => first | (cases h; decide) | cases h
theorem cj_is {K : Fz} {c : String} (hk : KnowsT K c) : CJ K (rIsi K) (rIsD c) := fun {xs vs M Hf H P Q} m r d f => by
  unfold rIsD at d
  split at d
  · obtain ⟨rfl, d⟩ := d
    split at d
    · rename_i T e
      cases r with
      | cons h t => cases t with
        | cons h2 t =>
          cases t
          cases h2
          refine ⟨_, _, .type T, .type _, _, rfl, ?_, tyD_ok m h e, hk T (tyD_mem e), f _ _ _ _ _ d (Ext.refl _) m (.bl _)⟩
          first | exact .inl ⟨_, rfl, rfl⟩ | exact .ty _ | constructor
    · exact d.elim
  · exact d.elim
section
variable {X : Cx} {W : WX'} {pos p : Pos} {e e2 : Expr} {es : List Expr} {d : DA}
theorem ej_sum (hc : X.calm = true) (hm : X.mg "sum" = none) (ha : AJ X W [e] d) (hg : Gl X "sum" := by rfl) (he : starEach [e] X.env = (false, eval e X.env) :: starEach [] X.env := by rfl) : EJ X W (.Call (.Name "sum" p) [e] [] pos) (dCB rSumD d) := ej_cb (cr_sum hc) cj_sum hm ha hg (by decide +kernel) (by decide) (by decide) he
theorem ej_max (hc : X.calm = true) (hm : X.mg "max" = none) (ha : AJ X W [e] d) (hg : Gl X "max" := by rfl) (he : starEach [e] X.env = (false, eval e X.env) :: starEach [] X.env := by rfl) : EJ X W (.Call (.Name "max" p) [e] [] pos) (dCB rMaxD d) := ej_cb (cr_max hc) cj_max hm ha hg (by decide +kernel) (by decide) (by decide) he
theorem ej_min (hc : X.calm = true) (hm : X.mg "min" = none) (ha : AJ X W [e] d) (hg : Gl X "min" := by rfl) (he : starEach [e] X.env = (false, eval e X.env) :: starEach [] X.env := by rfl) : EJ X W (.Call (.Name "min" p) [e] [] pos) (dCB rMinD d) := ej_cb (cr_min hc) cj_min hm ha hg (by decide +kernel) (by decide) (by decide) he
theorem ej_any (hc : X.calm = true) (hm : X.mg "any" = none) (ha : AJ X W [e] d) (hg : Gl X "any" := by rfl) (he : starEach [e] X.env = (false, eval e X.env) :: starEach [] X.env := by rfl) : EJ X W (.Call (.Name "any" p) [e] [] pos) (dCB rAnyD d) := ej_cb (cr_any hc) cj_any hm ha hg (by decide +kernel) (by decide) (by decide) he
theorem ej_all (hc : X.calm = true) (hm : X.mg "all" = none) (ha : AJ X W [e] d) (hg : Gl X "all" := by rfl) (he : starEach [e] X.env = (false, eval e X.env) :: starEach [] X.env := by rfl) : EJ X W (.Call (.Name "all" p) [e] [] pos) (dCB rAllD d) := ej_cb (cr_all hc) cj_all hm ha hg (by decide +kernel) (by decide) (by decide) he
theorem ej_max2 (hc : X.calm = true) (hm : X.mg "max" = none) (ha : AJ X W [e, e2] d) (hg : Gl X "max" := by rfl) (he : starEach [e, e2] X.env = (false, eval e X.env) :: starEach [e2] X.env := by rfl) (hpl : (backTo pos (starEach [e2] X.env)).any (·.1) = false := by rfl) : EJ X W (.Call (.Name "max" p) [e, e2] [] pos) (dCB rMax2D d) := ej_cb (call_max2 hc) cj_max2 hm ha hg (by decide +kernel) (by decide) (by decide) he hpl
theorem ej_min2 (hc : X.calm = true) (hm : X.mg "min" = none) (ha : AJ X W [e, e2] d) (hg : Gl X "min" := by rfl) (he : starEach [e, e2] X.env = (false, eval e X.env) :: starEach [e2] X.env := by rfl) (hpl : (backTo pos (starEach [e2] X.env)).any (·.1) = false := by rfl) : EJ X W (.Call (.Name "min" p) [e, e2] [] pos) (dCB rMin2D d) := ej_cb (call_min2 hc) cj_min2 hm ha hg (by decide +kernel) (by decide) (by decide) he hpl
theorem ej_str1 (hm : X.mg "str" = none) (ha : AJ X W [e] d) (hg : Gl X "str" := by rfl) (he : starEach [e] X.env = (false, eval e X.env) :: starEach [] X.env := by rfl) : EJ X W (.Call (.Name "str" p) [e] [] pos) (dCB rStrD d) := ej_ct (CallR.or call_str_int SkE.call_str_str) cj_str hm ha hg (by decide +kernel) (by decide) (by decide) he
theorem ej_is (c : String) (hk : KnowsT X.K c) (hm : X.mg "isinstance" = none) (ha : AJ X W [e, e2] d) (hg : Gl X "isinstance" := by rfl) (he : starEach [e, e2] X.env = (false, eval e X.env) :: starEach [e2] X.env := by rfl) (hpl : (backTo pos (starEach [e2] X.env)).any (·.1) = false := by rfl) : EJ X W (.Call (.Name "isinstance" p) [e, e2] [] pos) (dCB (rIsD c) d) := ej_cb call_isi (cj_is hk) hm ha hg (by decide +kernel) (by decide) (by decide) he hpl
end
end DL

/-! DL: own lists of comprehensions, fields as targets, items stored, stars, pairs walked, texts -/
namespace DL
open PySem PySem.Spec PyProof.Rows L2 RZ StX
/-! ### a comprehension's list that may change -/
def dLcM (di : DI) (dg : D → Ev → (Ev → Prop) → Prop) (tt : DT) (te : DE) (vs : List Nat) : DE := fun ρ M P PX => di ρ M (fun ds M1 => ∀ D, M1 D = none → ∃ I : Nat → Mm → Prop, I 0 (um M1 D (.lst [])) ∧
  (∀ i d M, ds[i]? = some d → I i M → dg d (wpD ρ vs) (fun ρ2 => tt ρ2 M (fun b M3 => match b with
    | true => te ρ2 M3 (fun y M4 => match M4 D with
      | some (.lst acc) => acc.length < sizeLine ∧ I (i + 1) (um M4 D (.lst (acc ++ [y])))
      | _ => False) XF
    | false => I (i + 1) M3) XF)) ∧
  ∀ M, I ds.length M → P (.ref D) M) PX
theorem lcMj {K : Fz} {W : WX'} {di : DI} {g : TG} {dg : D → Ev → (Ev → Prop) → Prop} {tt : DT} {te : DE} {vs : List Nat} (tg : TgOk K g vs dg) : ∀ σ H Q, liE K W (dLcM di dg tt te vs) σ H Q → tLc (liI K W di) g (liT K W0 tt) (liE K W0 te) vs σ H Q :=
  fun σ H Q ⟨ρ, M, Hf, P, PX, s, d, fe, fx⟩ => ⟨ρ, M, Hf, _, _, s, d, fun ds M1 Hf1 H1 d1 e1 m1 J it D hD => by
    obtain ⟨I, i0, step, fin⟩ := d1 D (m1.none_of hD)
    have s1 := s.go e1 m1
    have nf : ∀ {σ : Sx} {Hf : Hp}, FinX K Hf σ XF W0 := fun _ _ _ _ _ _ z => z.elim
    refine ⟨fun i m H => m = ds.length - i ∧ i ≤ ds.length ∧ ∃ M Hf2, Ext Hf1 Hf2 ∧ HM K Hf2 M H ∧ I i M, ⟨_, rfl, Nat.zero_le _, _, Hf1, Ext.refl _, m1.newM (mo := .lst []) hD ⟨[], upd_same, .nil⟩, i0⟩, ?_⟩
    rintro i m H2 ⟨rfl, hi, M2, Hf2, e2, m2, i2⟩
    by_cases hlt : i < ds.length
    · refine .inr ⟨it.go i M2 Hf2 H2 hlt e2 m2, fun H => ∃ M Hf3, Ext Hf1 Hf3 ∧ HM K Hf3 M H ∧ I (i + 1) M, fun H' p => ⟨ds.length - (i + 1), by omega, rfl, hlt, p⟩, fun x H3 y => ?_⟩
      obtain ⟨Hf3, e3, m3, r3⟩ := it.yld i _ M2 Hf2 H2 x H3 (List.getElem?_eq_getElem hlt) e2 m2 y
      have s3 := ((s1.go (e2.trans e3) m3).wipe vs)
      refine tg s3 r3 (step i _ M2 (List.getElem?_eq_getElem hlt) i2) fun σ4 ρ4 k4 w4 s4 => ⟨w4, ρ4, M2, Hf3, _, XF, s4, k4, fun b M5 Hf5 H5 d5 e5 m5 => ?_, nf⟩
      cases b with
      | false =>
        rw [if_neg Bool.false_ne_true]
        exact ⟨M5, Hf5, (e2.trans e3).trans e5, m5, d5⟩
      | true =>
        rw [if_pos rfl]
        refine ⟨ρ4, M5, Hf5, _, XF, s4.go e5 m5, d5, fun z M6 v6 Hf6 H6 d6 e6 m6 r6 => ?_, nf⟩
        try dsimp only at d6
        split at d6
        · rename_i acc em
          obtain ⟨_, vs6, q1, q2⟩ := m6.mu _ _ em
          exact ⟨vs6, q1, by rw [q2.len]; exact d6.1, _, Hf6, ((e2.trans e3).trans e5).trans e6, m6.write (mo' := .lst (acc ++ [z])) em q1 (fun x z => by cases z) ⟨_, upd_same, q2.app (.cons r6 .nil)⟩, d6.2⟩
        · exact d6.elim
    · obtain rfl : i = ds.length := by omega
      exact .inl ⟨it.stop M2 Hf2 H2 e2 m2, fe _ M2 _ Hf2 H2 (fin M2 i2) (e1.trans e2) m2 (.ref D)⟩, fx⟩
section
variable {X : Cx} {W : WX'} {elt tg iter : Expr} {ifs : List Expr} {scope : Scope} {own : List (Str × Nat)} {pos : Pos} {di : DI} {g : TG} {dg : D → Ev → (Ev → Prop) → Prop} {tt : DT} {te : DE}
theorem ej_lcM (hc : X.calm = true) (hN : X.N.Nodup) (hi : IJ X W tg iter di) (ok : BlkOk X.N X.env.scope scope own) (ht0 : TgOk X.K g (own.map (·.2)) dg)
    (hg : ∀ (s : Shared) (H : Hp) (C : Addr) (cl : List (Str × Addr)) (fp : List Addr), PG (X.blk s H scope (compEnvC scope cl C X.env) fp) tg g)
    (ht : ∀ (s : Shared) (H : Hp) (C : Addr) (cl : List (Str × Addr)) (fp : List Addr), PTs (X.blk s H scope (compEnvC scope cl C X.env) fp) ifs (liT X.K W0 tt))
    (he : ∀ (s : Shared) (H : Hp) (C : Addr) (cl : List (Str × Addr)) (fp : List Addr), EJ (X.blk s H scope (compEnvC scope cl C X.env) fp) W0 elt te)
    (hs : ∀ x, foldedSetIterable iter X.env x = pure x := by intro _; rfl) : EJ X W (.ListComp elt [⟨tg, iter, ifs, 0⟩] scope pos) (dLcM di dg tt te (own.map (·.2))) :=
  pe_weak (pe_lc hc hN hi ok hg ht he hs) (lcMj ht0)
end
/-! ### x.f as a target -/
def gFld (K : Fz) (f : Str) (ta : TE) : TG := fun v σ H Q => ta σ H fun x H1 => ∃ a C dx fs, x = .ref a ∧ H1 a = some (.ins C dx fs) ∧ Cls K C ∧ NoAttr K C f ∧ fs.length < 1000 ∧ Q σ (upd H1 a (.ins C dx (putF f v fs)))
theorem pg_fld {X : Cx} {o : Expr} {f : Str} {pos : Pos} {ta : TE} (ha : PE X o ta) : PG X (.Attribute o f pos) (gFld X.K f ta) := by
  refine ⟨fun pins s σ H v u Q I r h => ?_⟩
  rw [assign_Attribute]
  refine wpAny_bind (wpAny_holding (thn (ha.run pins s σ H _ I h) fun ov s1 ⟨x, H1, I1, rx, a, C, dx, fs, ex, ea, c, n, l, q⟩ => ?_))
  subst ex
  obtain rfl : ov = Value.ref a := rx
  refine wpAny_bind (wpAny_standAt (wpAny_bind (wpAny_holding (setattr_ok I1 ea c n l r fun s2 I2 => ?_))))
  exact wpAny_release ⟨σ, _, I2, q⟩
def dgFldNew (C : Addr) (NS : List Str) (f : Str) (de : DE) : DG := fun y ρ M P => de ρ M (fun x M2 => match x with
  | .ref a => (match M2 a with
    | some (.ins C' fs) => (C' = C ∧ nm fs = NS) ∧ P ρ (um M2 a (.ins C (fs ++ [(f, y)])))
    | _ => False)
  | _ => False) XF
theorem gj_fldNew {X : Cx} {o : Expr} {f : Str} {pos : Pos} {C : Addr} {NS : List Str} {de : DE} (c : Cls X.K C) (n : NoAttr X.K C f) (ho : EJ X W0 o de) (hi : f ∉ NS := by decide +kernel) (hl : NS.length < 1000 := by decide) : GJ X (.Attribute o f pos) (dgFldNew C NS f de) :=
  pg_weak (pg_fld ho) fun v σ H Q ⟨y, ρ, M, Hf, P, s, r, g, fq⟩ => ⟨ρ, M, Hf, _, XF, s, g, fun x M2 wx Hf2 H2 d2 e2 m2 r2 => by
    dsimp only at d2
    split at d2
    · split at d2
      · rename_i C' fs em
        obtain ⟨⟨rfl, rfl⟩, d2⟩ := d2
        cases r2
        obtain ⟨fa, dx, gs, q1, q2, q3, q4⟩ := m2.mu _ _ em
        have hf : f ∉ gs.map (·.1) := by
          rw [q4.names]
          exact hi
        refine ⟨_, _, dx, gs, rfl, q1, c, n, by rw [q4.len, ← nm_len]; exact hl, ?_⟩
        rw [putF_new hf]
        refine fq _ _ _ Hf2 _ d2 e2 ((s.go e2 m2).go (Ext.refl _) (m2.write em q1 (fun x z => by cases z) ⟨dx, _, upd_same, ?_, q3, q4.snoc (r.mono e2)⟩))
        have : dx ≠ _ := fun z => by
          rw [z, q1] at q2
          cases q2
        rw [upd_ne this]
        exact q2
      · exact d2.elim
    · exact d2.elim, fun _ _ _ _ _ _ z => z.elim⟩
/-! ### xs[i] = v -/
def dgIx (de di : DE) : DG := fun v ρ M P => de ρ M (fun x M1 => di ρ M1 (fun i M2 => match x, i with
  | .ref a, .int k => (match M2 a with
    | some (.lst ds) => (match ixN ds.length k with
      | some j => P ρ (um M2 a (.lst (ds.set j v)))
      | none => False)
    | _ => False)
  | _, _ => False) XF) XF
theorem gj_ix {X : Cx} {o i : Expr} {pos : Pos} {de di : DE} (ho : EJ X W0 o de) (hi : EJ X W0 i di)
    (ha : ∀ v, assign (.Subscript o i pos) X.env v = (do
      let ov ← holding [v] (eval o X.env)
      let iv ← holding [v, ov] (eval i X.env)
      standAt pos
      holding [v, ov, iv] (setItem ov iv v)
      release [v, ov, iv] []) := by intro _; rfl) : GJ X (.Subscript o i pos) (dgIx de di) :=
  pg_weak (pg_sub ho hi set_list ha) fun v σ H Q ⟨y, ρ, M, Hf, P, s, r, g, fq⟩ => ⟨ρ, M, Hf, _, XF, s, g, fun x M1 wx Hf1 H1 d1 e1 m1 r1 => ⟨ρ, M1, Hf1, _, XF, s.go e1 m1, d1, fun z M2 wz Hf2 H2 d2 e2 m2 r2 => by
    dsimp only at d2
    split at d2
    · split at d2
      · rename_i ds em
        split at d2
        · rename_i j hj
          cases r1
          cases r2
          obtain ⟨_, vs, q1, q2⟩ := m2.mu _ _ em
          refine ⟨_, vs, _, j, rfl, rfl, q1, by rw [q2.len]; exact hj, ?_⟩
          refine fq _ _ _ Hf2 _ d2 (e1.trans e2) (((s.go e1 m1).go e2 m2).go (Ext.refl _) (m2.write em q1 (fun x z => by cases z) ⟨_, upd_same, Rps.set ((r.mono e1).mono e2) j q2⟩))
        · exact d2.elim
      · exact d2.elim
    · exact d2.elim, fun _ _ _ _ _ _ z => z.elim⟩, fun _ _ _ _ _ _ z => z.elim⟩
/-! ### *e among items -/
def dStar (de : DE) (d : DA) : DA := fun ρ M P PX => de ρ M (fun x M1 => match seqD M1 x with
  | some xs => d ρ M1 (fun ys M2 => P (xs ++ ys) M2) PX
  | none => False) PX
theorem aj_star {X : Cx} {W : WX'} {e : Expr} {es : List Expr} {p : Pos} {de : DE} {d : DA} (he : EJ X W e de) (hr : AJ X W es d) (hs : starEach (.Starred e p :: es) X.env = (true, eval e X.env) :: starEach es X.env := by rfl) : AJ X W (.Starred e p :: es) (dStar de d) :=
  pa_weak (pa_star he hr hs) fun σ H Q ⟨ρ, M, Hf, P, PX, s, d, fe, fx⟩ => ⟨ρ, M, Hf, _, PX, s, d, fun x M1 v Hf1 H1 d1 e1 m1 r1 => by
    dsimp only at d1
    split at d1
    · rename_i xs h
      obtain ⟨a, vs, rfl, hq, rr⟩ := seqD_ok m1 r1 h
      exact ⟨a, vs, rfl, hq.symm, ρ, M1, Hf1, _, PX, s.go e1 m1, d1, fun ys M2 ws Hf2 H2 d2 e2 m2 r2 => fe _ M2 _ Hf2 H2 d2 (e1.trans e2) m2 ((rr.mono e2).app r2), fx.go e1⟩
    · exact d1.elim, fx⟩
/-! ### what is walked: pairs, signs -/
theorem itd_zipT {K : Fz} {Hf : Hp} {a b : Addr} {vs ws : List V} {ds es : List D} (h1 : SqT K Hf a vs) (h2 : SqT K Hf b ws) (r1 : Rps K Hf vs ds) (r2 : Rps K Hf ws es) : ItD K (ItzT K a b) ((ds.zip es).map fun p => .tup [p.1, p.2]) Hf where
  go := fun i M2 Hf2 H2 hi e m => by
    rw [List.length_map, List.length_zip] at hi
    have : i < vs.length := by rw [r1.len]; omega
    have : i < ws.length := by rw [r2.len]; omega
    exact ⟨vs, ws, vs[i], ws[i], m.sub.sqT (e.sqT h1), m.sub.sqT (e.sqT h2), List.getElem?_eq_getElem (by omega), List.getElem?_eq_getElem (by omega)⟩
  stop := fun M2 Hf2 H2 e m => ⟨vs, ws, m.sub.sqT (e.sqT h1), m.sub.sqT (e.sqT h2), by rw [List.length_map, List.length_zip, r1.len, r2.len]; omega⟩
  yld := fun i d M2 Hf2 H2 x H3 hd e m y => by
    obtain ⟨T, u, v, rfl, hT, rfl, g1, g2⟩ := y
    rw [List.getElem?_map] at hd
    cases hz : (ds.zip es)[i]? with
    | none => rw [hz] at hd; cases hd
    | some p =>
      rw [hz] at hd
      cases hd
      obtain ⟨z1, z2⟩ := List.getElem?_zip_eq_some.mp hz
      obtain ⟨u', k1, k2⟩ := r1.get z1
      obtain ⟨v', k3, k4⟩ := r2.get z2
      have a1 := g1 vs (m.sub.sqT (e.sqT h1))
      have a2 := g2 ws (m.sub.sqT (e.sqT h2))
      rw [k1] at a1
      rw [k3] at a2
      obtain rfl := Option.some.inj a1
      obtain rfl := Option.some.inj a2
      obtain ⟨e1, m1⟩ := m.newF (o := .tup [u', v']) hT
      exact ⟨_, e1, m1, .tup upd_same (.cons ((k2.mono e).mono e1) (.cons ((k4.mono e).mono e1) .nil))⟩
theorem itd_zipL {K : Fz} {Hf : Hp} {a b : Addr} {vs ws : List V} {ds es : List D} (h1 : SqL K Hf a vs) (h2 : SqL K Hf b ws) (r1 : Rps K Hf vs ds) (r2 : Rps K Hf ws es) : ItD K (Itz K a b) ((ds.zip es).map fun p => .tup [p.1, p.2]) Hf where
  go := fun i M2 Hf2 H2 hi e m => by
    rw [List.length_map, List.length_zip] at hi
    have : i < vs.length := by rw [r1.len]; omega
    have : i < ws.length := by rw [r2.len]; omega
    exact ⟨vs, ws, vs[i], ws[i], m.sub.sqL (e.sqL h1), m.sub.sqL (e.sqL h2), List.getElem?_eq_getElem (by omega), List.getElem?_eq_getElem (by omega)⟩
  stop := fun M2 Hf2 H2 e m => ⟨vs, ws, m.sub.sqL (e.sqL h1), m.sub.sqL (e.sqL h2), by rw [List.length_map, List.length_zip, r1.len, r2.len]; omega⟩
  yld := fun i d M2 Hf2 H2 x H3 hd e m y => by
    obtain ⟨T, u, v, rfl, hT, rfl, g1, g2⟩ := y
    rw [List.getElem?_map] at hd
    cases hz : (ds.zip es)[i]? with
    | none => rw [hz] at hd; cases hd
    | some p =>
      rw [hz] at hd
      cases hd
      obtain ⟨z1, z2⟩ := List.getElem?_zip_eq_some.mp hz
      obtain ⟨u', k1, k2⟩ := r1.get z1
      obtain ⟨v', k3, k4⟩ := r2.get z2
      have a1 := g1 vs (m.sub.sqL (e.sqL h1))
      have a2 := g2 ws (m.sub.sqL (e.sqL h2))
      rw [k1] at a1
      rw [k3] at a2
      obtain rfl := Option.some.inj a1
      obtain rfl := Option.some.inj a2
      obtain ⟨e1, m1⟩ := m.newF (o := .tup [u', v']) hT
      exact ⟨_, e1, m1, .tup upd_same (.cons ((k2.mono e).mono e1) (.cons ((k4.mono e).mono e1) .nil))⟩
theorem itd_enumL {K : Fz} {Hf : Hp} {a : Addr} {vs : List V} {ds : List D} (h1 : SqL K Hf a vs) (r1 : Rps K Hf vs ds) : ItD K (Ite K a) (ds.zipIdx.map fun p => .tup [.int (p.2 : Nat), p.1]) Hf where
  go := fun i M2 Hf2 H2 hi e m => by
    rw [List.length_map, List.length_zipIdx] at hi
    have : i < vs.length := by rw [r1.len]; omega
    exact ⟨vs, vs[i], m.sub.sqL (e.sqL h1), List.getElem?_eq_getElem (by omega)⟩
  stop := fun M2 Hf2 H2 e m => ⟨vs, m.sub.sqL (e.sqL h1), by rw [List.length_map, List.length_zipIdx, r1.len]; exact Nat.le_refl _⟩
  yld := fun i d M2 Hf2 H2 x H3 hd e m y => by
    obtain ⟨T, u, rfl, hT, rfl, g1⟩ := y
    rw [List.getElem?_map, List.getElem?_zipIdx] at hd
    cases hz : ds[i]? with
    | none => rw [hz] at hd; cases hd
    | some p =>
      rw [hz] at hd
      cases hd
      obtain ⟨u', k1, k2⟩ := r1.get hz
      have a1 := g1 vs (m.sub.sqL (e.sqL h1))
      rw [k1] at a1
      obtain rfl := Option.some.inj a1
      obtain ⟨e1, m1⟩ := m.newF (o := .tup [.int (i : Nat), u']) hT
      rw [Nat.zero_add]
      exact ⟨_, e1, m1, .tup upd_same (.cons (.int _) (.cons ((k2.mono e).mono e1) .nil))⟩
theorem itd_str {K : Fz} {Hf : Hp} {x : Str} : ItD K (Its x) (x.cps.toList.map fun c => .str ⟨#[c]⟩) Hf where
  go := fun i M2 Hf2 H2 hi e m => by simpa [Its] using hi
  stop := fun M2 Hf2 H2 e m => by simp [Its]
  yld := fun i d M2 Hf2 H2 y H3 hd e m h => by
    obtain ⟨rfl, c, h1, rfl⟩ := h
    rw [List.getElem?_map, Array.getElem?_toList, h1] at hd
    cases hd
    exact ⟨Hf2, Ext.refl _, m, .str _⟩
def dItZip (d : DA) : DI := fun ρ M P PX => d ρ M (fun xs M1 => match xs with
  | [.tup ds, .tup es] => P ((ds.zip es).map fun p => .tup [p.1, p.2]) M1
  | [.lst ds, .lst es] => P ((ds.zip es).map fun p => .tup [p.1, p.2]) M1
  | _ => False) PX
def dItEnum (d : DA) : DI := fun ρ M P PX => d ρ M (fun xs M1 => match xs with
  | [.lst ds] => P (ds.zipIdx.map fun p => .tup [.int (p.2 : Nat), p.1]) M1
  | _ => False) PX
def dItStr (de : DE) : DI := fun ρ M P PX => de ρ M (fun x M1 => match x with
  | .str z => P (z.cps.toList.map fun c => .str ⟨#[c]⟩) M1
  | _ => False) PX
section
variable {X : Cx} {W : WX'} {e a b : Expr} {de : DE} {d : DA} {p pos tpos : Pos} {elts : List Expr} {kk : Nat}
theorem ij_zip (hm : X.mg "zip" = none) (ha : AJ X W [a, b] d) (hg : Gl X "zip" := by rfl) (hs : starEach [a, b] X.env = (false, eval a X.env) :: starEach [b] X.env := by rfl) (hpl : (backTo pos (starEach [b] X.env)).any (·.1) = false := by rfl) :
    IJ X W (.Tuple elts kk tpos) (.Call (.Name "zip" p) [a, b] [] pos) (dItZip d) := pi_weak (pi_zipA hg hm ha hs hpl) fun σ H Q ⟨ρ, M, Hf, P, PX, s, d, fe, fx⟩ => ⟨ρ, M, Hf, _, PX, s, d, fun xs M1 vs Hf1 H1 d1 e1 m1 r1 => by
    try dsimp only at d1
    split at d1
    · cases r1 with
      | cons h t => cases t with
        | cons h' t =>
          cases t
          cases h with
          | tup g1 g2 => cases h' with
            | tup g3 g4 => exact ⟨_, _, _, _, rfl, .inr ⟨SqT.of (m1.sub _ _ g1), SqT.of (m1.sub _ _ g3), fe _ M1 Hf1 H1 d1 e1 m1 _ (itd_zipT (SqT.of g1) (SqT.of g3) g2 g4)⟩⟩
    · cases r1 with
      | cons h t => cases t with
        | cons h' t =>
          cases t
          cases h with
          | lst g1 g2 => cases h' with
            | lst g3 g4 => exact ⟨_, _, _, _, rfl, .inl ⟨SqL.of (m1.sub _ _ g1), SqL.of (m1.sub _ _ g3), fe _ M1 Hf1 H1 d1 e1 m1 _ (itd_zipL (SqL.of g1) (SqL.of g3) g2 g4)⟩⟩
    · exact d1.elim, fx⟩
theorem ij_enum (hm : X.mg "enumerate" = none) (ha : AJ X W [a] d) (hg : Gl X "enumerate" := by rfl) (hs : starEach [a] X.env = [(false, eval a X.env)] := by rfl) :
    IJ X W (.Tuple elts kk tpos) (.Call (.Name "enumerate" p) [a] [] pos) (dItEnum d) := pi_weak (pi_enum hg hm ha hs) fun σ H Q ⟨ρ, M, Hf, P, PX, s, d, fe, fx⟩ => ⟨ρ, M, Hf, _, PX, s, d, fun xs M1 vs Hf1 H1 d1 e1 m1 r1 => by
    try dsimp only at d1
    split at d1
    · cases r1 with
      | cons h t =>
        cases t
        cases h with
        | lst g1 g2 => exact ⟨_, _, rfl, SqL.of (m1.sub _ _ g1), fe _ M1 Hf1 H1 d1 e1 m1 _ (itd_enumL (SqL.of g1) g2)⟩
    · exact d1.elim, fx⟩
theorem ij_str {tg : Expr} (he : EJ X W e de) : IJ X W tg e (dItStr de) := pi_weak (pi_str he) fun σ H Q ⟨ρ, M, Hf, P, PX, s, d, fe, fx⟩ => ⟨ρ, M, Hf, _, PX, s, d, fun x M1 v Hf1 H1 d1 e1 m1 r1 => by
    try dsimp only at d1
    split at d1
    · cases r1
      exact ⟨_, rfl, fe _ M1 Hf1 H1 d1 e1 m1 _ itd_str⟩
    · exact d1.elim, fx⟩
end
end DL

/-! DL: own methods that the language calls -/
namespace DL
open PySem PySem.Spec PyProof.Rows L2
section
variable {G : Around → Prop} {X : Cx} {W : WX'} {k : Nat} {f C : Addr} {fd : FuncData} {ps : List Str} {sp : Sp} {m : Str}
/-- a call within another code's frame -/
theorem run_in {A' : Around} {pins : List (Addr × Obj)} {σ : Sx} {H : Hp} {s : Shared} {Q : VK} {us : List Value} {vs : List V} (F : Fn G X.prog X.w X.K X.mg X.base k f fd ps sp) (hr : Room k A') (hG : G A') (hfr : A'.frames = X.A.frames)
    (tk : Takes X W) (hb : BindsTo s fd ⟨us, []⟩ (ps.zip us)) (I : Inv X pins σ H s) (r : Vals vs us) (h : sp vs H Q fun c d H' => W c d σ H') :
    wpAny (model X.prog X.w) A' (call (.ref f) us) (EP X pins σ Q) X.xe s := by
  have e0 := I.env0
  refine wpAny_call (codeAny_mono (F.run A' X.stack s H ⟨us, []⟩ us vs Q _ hr hG ⟨hfr.trans e0.frames, e0.mod, e0.bs, e0.bsz, e0.funs, e0.frf, e0.hok, e0.bare⟩ hb r h) fun r s' hq => ?_)
  cases r with
  | error e => exact tk e s' (XE.of_call I (fun _ _ _ z => z) hq)
  | ok fl =>
    cases fl with
    | ret u => exact I.after hq
    | _ => exact False.elim hq
/-- str(x) of an instance with its own __str__ -/
def rStrOwn (C : Addr) (sp : Sp) : List V → Hp → VK → Prop := fun xs H Q => ∃ a dx fs, xs = [.ref a] ∧ H a = some (.ins C dx fs) ∧ sp [.ref a] H (fun v H' => ∃ z, v = .str z ∧ Q v H') fun _ _ _ => False
theorem call_strOwn (hm : Meth X.K C "__str__" f) (F : Fn GG X.prog X.w X.K X.mg X.base k f fd ps sp) (hr : Room (k + 2) X.A) (hG : GG X.A) (hb : Binds X.K fd ps []) : CallR X (.type "str") (rStrOwn C sp) := by
  intro pins s σ H xs us Q I r h
  obtain ⟨a, dx, fs, rfl, ha, hq⟩ := h
  obtain ⟨u, rfl, rx⟩ := vals1 r
  obtain rfl : u = .ref a := rx
  obtain ⟨mA, O, _⟩ := ins_get I.hok ha
  obtain ⟨od, J, _⟩ := O.look
  have hr2 : Room k X.A.in1.in1 := (Room.in1 (Room.in1 hr))
  have hl : ([Value.ref a] ++ []).length = ps.length := F.len _ _ _ _ hq
  have b := hb s [.ref a] I.kIn hl
  refine PySem.W.kso_call (hr2.units0) I.kIn J hm.at_ hm.fn (wpAny_mono (run_in (W := W0) F hr2 (by exact hG) rfl takes00 b I (show Vals [V.ref a] [Value.ref a] from .cons rfl .nil) hq) (fun v s' hv => ?_) fun _ _ z => z)
  obtain ⟨w, H', I', rv, z, rfl, q⟩ := hv
  obtain ⟨t, rfl⟩ := (show ∃ t, v = .str z t from rv)
  show EP X pins σ Q (.str z t) s'
  exact ⟨_, H', I', (show RelV (.str z) (.str z t) from ⟨t, rfl⟩), q⟩
/-- len(x) of an instance with its own __len__ -/
def rLenOwn (C : Addr) (sp : Sp) : List V → Hp → VK → Prop := fun xs H Q => ∃ a dx fs, xs = [.ref a] ∧ H a = some (.ins C dx fs) ∧ sp [.ref a] H (fun v H' => ∃ z : Int, v = .int z ∧ 0 ≤ z ∧ z < 2 ^ 63 ∧ Q v H') fun _ _ _ => False
theorem call_lenOwn (hm : Meth X.K C "__len__" f) (F : Fn GG X.prog X.w X.K X.mg X.base k f fd ps sp) (hr : Room (k + 2) X.A) (hG : GG X.A) (hb : Binds X.K fd ps []) : CallR X (.builtin "len") (rLenOwn C sp) := by
  intro pins s σ H xs us Q I r h
  obtain ⟨a, dx, fs, rfl, ha, hq⟩ := h
  obtain ⟨u, rfl, rx⟩ := vals1 r
  obtain rfl : u = .ref a := rx
  obtain ⟨mA, O, _⟩ := ins_get I.hok ha
  obtain ⟨od, J, _⟩ := O.look
  obtain ⟨m0, F0⟩ := I.fr
  have hr2 : Room k X.A.in1 := (Room.mono (Room.in1 hr) (by omega))
  have hl : ([Value.ref a] ++ []).length = ps.length := F.len _ _ _ _ hq
  have b := hb s [.ref a] I.kIn hl
  refine PySem.W.len_K F0 I.ok.mod.kin J hm.at_ hm.fn (wpAny_mono (run_in (W := W0) F hr2 (by exact hG) rfl takes00 b I (show Vals [V.ref a] [Value.ref a] from .cons rfl .nil) hq) (fun v s' hv => ?_) fun _ _ z => z)
  obtain ⟨w, H', I', rv, z, rfl, h0, h1, q⟩ := hv
  obtain ⟨t, rfl⟩ := (show ∃ t, v = .int z t from rv)
  exact ⟨⟨h0, h1⟩, ⟨_, H', I'.tok _, (show RelV (.int z) (.int z _) from ⟨_, rfl⟩), q⟩⟩
end
end DL

/-! DL: enumerate over tuples, texts' own methods, lengths of dicts -/
namespace DL
open PySem PySem.Spec PyProof.Rows L2
/-! ### enumerate(tuple) -/
set_option maxHeartbeats 1000000 in
theorem meets_enumerate_one {v : Value} {o : Obj} {H : Heap → Prop} (B : Begins v o H) :
    Meets (Builtin.«enumerate.__new__» ⟨[.type "enumerate", v], []⟩) (fun _ R s => H s.heap ∧
      R (.ok (.ret (.ref (s.heap.push o).objs.size))) { s with heap := (s.heap.push o).push { cls := .type "enumerate", data := .fields #[.none, .bool false, .ref s.heap.objs.size, rawInt 0, .none, .none] } }) :=
  .of_wp fun prog w A R s h => by
    obtain ⟨hp, g, d, tk, os⟩ := s; obtain ⟨h1, h⟩ := h
    have hsub := sub_enumerate
    have q1 : ∀ {A' : Around} {E : Value → Shared → Prop} {Q : Value → Shared → Prop}, Q (.ref hp.objs.size) ⟨hp.push o, g, d, tk, os⟩ → wpAny (model prog w) A' (pyIter v) Q E ⟨hp, g, d, tk, os⟩ :=
      fun q => B.iter prog w _ _ ⟨hp, g, d, tk, os⟩ _ h1 q
    wp_walk using q1
    refine wpAny_stack_any fun st => wpAny_pure ?_
    split
    · rename_i c _ _ _ _ _
      cases (c == Value.type "enumerate")
      · wp_walk using q1
        exact ⟨_, rfl, h⟩
      · wp_walk using q1
        exact ⟨_, rfl, h⟩
    · wp_walk using q1
      exact ⟨_, rfl, h⟩
theorem enum_begins1 {prog : Program} {w : World} {A : Around} {E : Value → Shared → Prop} {s : Shared} {v : Value} {o : Obj} {H : Heap → Prop} {Q : Value → Shared → Prop} (B : Begins v o H) (h1 : H s.heap)
    (h : ∀ h', IsEnum h' (s.heap.objs.size + 1) s.heap.objs.size 0 .none → h'.get? s.heap.objs.size = some o → h'.objs.size = s.heap.objs.size + 2 →
      (∀ b o, s.heap.get? b = some o → h'.get? b = some o) → Q (.ref (s.heap.objs.size + 1)) { s with heap := h' }) :
    wpAny (model prog w) A (call (.type "enumerate") [v]) Q E s := by
  refine callType_new F.called_enumerate (by decide) (F.typeCall_enumerate_1 _) (F.newCall_enumerate_1 _) (fun obj => F.args_object_init_2 obj _) F.entry_enumerate_new
    (meets_enumerate_one B) ⟨h1, ?_⟩
  have hz : (s.heap.push o).objs.size = s.heap.objs.size + 1 := Heap.size_push ..
  show _ ∧ _
  rw [hz]
  have he : IsEnum ((s.heap.push o).push { cls := .type "enumerate", data := .fields #[.none, .bool false, .ref s.heap.objs.size, rawInt 0, .none, .none] }) (s.heap.objs.size + 1) s.heap.objs.size 0 .none := by
    have := Heap.get?_push_size (s.heap.push o) (o := { cls := .type "enumerate", data := .fields #[.none, .bool false, .ref s.heap.objs.size, rawInt 0, .none, .none] }) rfl
    rw [hz] at this; exact this
  refine ⟨⟨_, he, rfl⟩, h _ he (Heap.get?_push_of_some _ (Heap.get?_push_size _ B.free)) (by rw [Heap.size_push, hz]) fun b o x => Heap.get?_push_of_some _ (Heap.get?_push_of_some _ x)⟩
theorem enum_endT {prog : Program} {w : World} {A : Around} {E : Value → Shared → Prop} {s : Shared} {e it l : Addr} {i : Nat} {k : Int} {items : Array Value} {old : Value} {Q : Option Value → Shared → Prop} (hh : A.handled = none)
    (he : IsEnum s.heap e it k old) (hit : s.heap.IsTupleIter it l i) (hl : s.heap.IsTuple l items) (hx : items[i]? = none)
    (hQ : ∀ h', Heap.ExtBut it s.heap h' → Q none { s with heap := h' }) : wpAny (model prog w) A (pyNext (.ref e)) Q E s := by
  have hT : s.TypeIs (.ref e) "enumerate" := ⟨_, he, rfl⟩
  unfold pyNext
  refine wpAny_bind (wpAny_attempt (wpAny_callSpecial?_slot (name := Str.ofString "__next__") hT F.slot_enumerate_next
    (wpAny_call_entry F.slot_enumerate_next hT F.entry_enumerate_next ?_ (F.args_enumerate_next_1 _))))
  show wpAny _ _ (field (.ref e) 2 >>= _) _ _ _
  refine wpAny_bind (wpAny_field he rfl (x := .ref it) rfl ?_)
  refine wpAny_bind (wpAny_nextOf_tuple_end hh hit hl hx fun h' x he' hx' => ?_)
  obtain ⟨o, ho, hc⟩ := hx'
  refine wpAny_bind (wpAny_isInstance (T := "StopIteration") (b := true) ⟨o, ho, hc⟩ isSubtype_stop ?_)
  exact wpAny_pure (hQ _ he')
def ItT (K : PySem.W.Frag) (a : Addr) : It :=
  ⟨fun i H => ∃ (xs : List V) (x : V), SqT K H a xs ∧ xs[i]? = some x, fun i H v H' => ∃ T x, v = .ref T ∧ H T = none ∧ H' = upd H T (.tup [.int (i : Nat), x]) ∧ ∀ xs, SqT K H a xs → xs[i]? = some x, fun i H => ∃ xs : List V, SqT K H a xs ∧ xs.length ≤ i⟩
theorem turn_enumT {P : Program} {w : World} {K : PySem.W.Frag} {elts : List Expr} {kk : Nat} {tpos : Pos} (a e it : Addr) (hai : a ≠ it) (hae : a ≠ e) :
    Turn P w K (.Tuple elts kk tpos) (ItT K a) [e, it] e (fun i h => (∃ old, IsEnum h e it ((i : Nat) : Int) old) ∧ h.IsTupleIter it a i ∧ e ≠ it) where
  mem := by simp
  obj := fun i h st b hb => by
    obtain ⟨⟨old, he⟩, ⟨o, ho, hc, hd⟩, _⟩ := st
    have e' : b = e ∨ b = it := by simpa using hb
    rcases e' with z | z
    · rw [z]; exact ⟨_, he, fun v q => nomatch q⟩
    · rw [z]; exact ⟨o, ho, fun v q => by rw [hd] at q; cases q⟩
  keep := fun i h h' st k => let ⟨⟨old, he⟩, hi, hne⟩ := st; ⟨⟨old, k e (by simp) _ he⟩, hi.at fun o q => k it (by simp) o q, hne⟩
  item := by
    intro X hP hw hK hc i pins s σ H E I hf st hg
    subst hP hw hK
    obtain ⟨⟨old, he⟩, hit, hne⟩ := st
    obtain ⟨xs, x, hq, hx⟩ := hg
    obtain ⟨its, rv, p, hz⟩ := I.tuple hq
    obtain ⟨u, hu, ru⟩ := rv.get hx
    have hel : e < s.heap.objs.size := Heap.lt_size he
    have hil : it < s.heap.objs.size := by obtain ⟨_, q, _⟩ := hit; exact Heap.lt_size q
    have hlt : i < its.toArray.size := by
      have := (List.getElem?_eq_some_iff.mp hu).1
      simpa using this
    refine wpAny_pyNext_enum_itemC (Draws.tuple (prog := X.prog) (w := X.w) (A := X.A.in1) (I.ok.hd hc) it a hai its.toArray) he ⟨hit, p⟩ hlt hne (by simp [hne, Ne.symm hae]) fun x' h' tk hP ho hit' hT hsz hk => ?_
    obtain rfl : x' = u := by
      rw [show its.toArray[i]? = some u from by simpa using hu] at hP
      exact (Option.some.inj hP).symm
    refine ⟨_, rfl, wpAny_letOwnedTupleGo_enum (s := { s with heap := h', toks := tk + 1 }) ho fun h'' he' sb => ?_⟩
    have hT2 : h''.get? s.heap.objs.size = some { cls := .type "tuple", data := .seq #[.int i tk, x'] } := (sb.2 _ (Nat.ne_of_gt hel)).trans hT
    have new : ObjOk X.prog X.w (upd H s.heap.objs.size (.tup [.int (i : Nat), x])) h'' s.heap.objs.size (.tup [.int (i : Nat), x]) :=
      ⟨by show 2 ≤ sizeLine; decide, [.int i tk, x'], .cons ⟨_, rfl⟩ (.cons ru .nil), ⟨_, hT2, rfl, _, rfl⟩⟩
    have I1 : Inv X pins σ (upd H s.heap.objs.size (.tup [.int (i : Nat), x])) { s with heap := h'', toks := tk + 1 } :=
      I.turnedNew (ch := [e, it]) (fun b ob hb q => (sb.2 b (fun z => hb (by simp [z]))).trans (hk b ob (fun z => hb (by simp [z])) (fun z => hb (by simp [z])) q)) hf (Nat.le_refl _) new
    refine ⟨.ref s.heap.objs.size, _, I1, rfl, ⟨_, x, rfl, I.hok.fresh (Nat.le_refl _), rfl, fun ys hy => by rw [I.tuple_inj hy hq]; exact hx⟩, ⟨⟨x', ?_⟩, hit'.1.at fun o q => (sb.2 it (Ne.symm hne)).trans q, hne⟩, fun b hb => ?_⟩
    · have e1 : ((i + 1 : Nat) : Int) = (i : Int) + 1 := by omega
      rw [e1]; exact he'
    · have hb' : b < s.heap.objs.size := by
        have e' : b = e ∨ b = it := by simpa using hb
        rcases e' with z | z
        · rw [z]; exact hel
        · rw [z]; exact hil
      rw [upd_ne (Nat.ne_of_lt hb')]
      exact (hf b hb).1
  done := by
    intro X hP hw hK hc i pins s σ H E I hf st hg
    subst hP hw hK
    obtain ⟨⟨old, he⟩, hit, hne⟩ := st
    obtain ⟨xs, hq, hx⟩ := hg
    obtain ⟨its, rv, p, hz⟩ := I.tuple hq
    obtain ⟨f0, f1, f2, f3, f4, f5⟩ := hf it (by simp)
    have hl := rv.length
    exact enum_endT (I.ok.hd hc) he hit p (by simp; omega) fun h' eb => ⟨rfl, I.turned (t' := s.toks) (fun b o hb q => eb b o hb q) f0 f1 f3 f4 f5⟩
  self := fun A i s Q E st h => let ⟨⟨_, he⟩, _⟩ := st; wpAny_pyIter_enum he h
def iEnumT (K : PySem.W.Frag) (ta : TA) : TI := fun σ H R => ta σ H fun vs H1 => ∃ a xs, vs = [.ref a] ∧ SqT K H1 a xs ∧ R (ItT K a) H1
theorem pi_enumT {X : Cx} {e : Expr} {ta : TA} {p pos tpos : Pos} {elts : List Expr} {kk : Nat} (hg : Gl X "enumerate") (hm : X.mg "enumerate" = none) (ha : PA X [e] ta) (hs : starEach [e] X.env = [(false, eval e X.env)] := by rfl) :
    PI X (.Tuple elts kk tpos) (.Call (.Name "enumerate" p) [e] [] pos) (iEnumT X.K ta) := by
  refine ⟨fun pins s σ H R I h => ?_⟩
  refine Call_ (ld_blt I hg hm boot_enumerate (PyProof.Rows.callWith_type1 (thn (ha.run pos pins s σ H _ I h) fun us s1 ⟨vs, H1, I1, r1, q1⟩ => ?_) hs rfl))
  obtain ⟨a, xs, ex, hq, q⟩ := q1
  subst ex
  cases r1 with
  | cons r rr =>
    cases rr
    cases r
    obtain ⟨its, rv, p', hz⟩ := I1.tuple hq
    have hal : a < s1.heap.objs.size := by obtain ⟨_, q, _⟩ := id p'; exact Heap.lt_size q
    refine enum_begins1 (begins_tuple a its.toArray) p' fun h' he hit hsz hk => wpAny_pyIter_enum he ?_
    have I2 : Inv X pins σ H1 { s1 with heap := h' } := I1.kept (t' := s1.toks) hk
    refine ⟨s1.heap.objs.size + 1, [s1.heap.objs.size + 1, s1.heap.objs.size], _, _, H1, rfl, I2, turn_enumT a (s1.heap.objs.size + 1) s1.heap.objs.size (Nat.ne_of_lt hal) (Nat.ne_of_lt (Nat.lt_succ_of_lt hal)), ⟨⟨.none, he⟩, ⟨_, hit, rfl, rfl⟩, Nat.succ_ne_self _⟩, fun b hb => ?_, q⟩
    have e' : b = s1.heap.objs.size + 1 ∨ b = s1.heap.objs.size := by simpa using hb
    have hle : s1.heap.objs.size ≤ b := by
      rcases e' with z | z
      · rw [z]; exact Nat.le_add_right _ _
      · rw [z]; exact Nat.le_refl _
    exact I1.fpOk hle (I1.hok.fresh hle)
theorem itd_enumT {K : Fz} {Hf : Hp} {a : Addr} {vs : List V} {ds : List D} (h1 : SqT K Hf a vs) (r1 : Rps K Hf vs ds) : ItD K (ItT K a) (ds.zipIdx.map fun p => .tup [.int (p.2 : Nat), p.1]) Hf where
  go := fun i M2 Hf2 H2 hi e m => by
    rw [List.length_map, List.length_zipIdx] at hi
    have : i < vs.length := by rw [r1.len]; omega
    exact ⟨vs, vs[i], m.sub.sqT (e.sqT h1), List.getElem?_eq_getElem (by omega)⟩
  stop := fun M2 Hf2 H2 e m => ⟨vs, m.sub.sqT (e.sqT h1), by rw [List.length_map, List.length_zipIdx, r1.len]; exact Nat.le_refl _⟩
  yld := fun i d M2 Hf2 H2 x H3 hd e m y => by
    obtain ⟨T, u, rfl, hT, rfl, g1⟩ := y
    rw [List.getElem?_map, List.getElem?_zipIdx] at hd
    cases hz : ds[i]? with
    | none => rw [hz] at hd; cases hd
    | some p =>
      rw [hz] at hd
      cases hd
      obtain ⟨u', k1, k2⟩ := r1.get hz
      have a1 := g1 vs (m.sub.sqT (e.sqT h1))
      rw [k1] at a1
      obtain rfl := Option.some.inj a1
      obtain ⟨e1, m1⟩ := m.newF (o := .tup [.int (i : Nat), u']) hT
      rw [Nat.zero_add]
      exact ⟨_, e1, m1, .tup upd_same (.cons (.int _) (.cons ((k2.mono e).mono e1) .nil))⟩
def dItEnumT (d : DA) : DI := fun ρ M P PX => d ρ M (fun xs M1 => match xs with
  | [.tup ds] => P (ds.zipIdx.map fun p => .tup [.int (p.2 : Nat), p.1]) M1
  | _ => False) PX
section
variable {X : Cx} {W : WX'} {e a b : Expr} {de : DE} {d : DA} {p pos tpos : Pos} {elts : List Expr} {kk : Nat}
theorem ij_enumT (hm : X.mg "enumerate" = none) (ha : AJ X W [a] d) (hg : Gl X "enumerate" := by rfl) (hs : starEach [a] X.env = [(false, eval a X.env)] := by rfl) :
    IJ X W (.Tuple elts kk tpos) (.Call (.Name "enumerate" p) [a] [] pos) (dItEnumT d) := pi_weak (pi_enumT hg hm ha hs) fun σ H Q ⟨ρ, M, Hf, P, PX, s, d, fe, fx⟩ => ⟨ρ, M, Hf, _, PX, s, d, fun xs M1 vs Hf1 H1 d1 e1 m1 r1 => by
    try dsimp only at d1
    split at d1
    · cases r1 with
      | cons h t =>
        cases t
        cases h with
        | tup g1 g2 => exact ⟨_, _, rfl, SqT.of (m1.sub _ _ g1), fe _ M1 Hf1 H1 d1 e1 m1 _ (itd_enumT (SqT.of g1) g2)⟩
    · exact d1.elim, fx⟩
end
/-! ### methods of texts -/
def kStr : D → Mm → Prop := fun x _ => ∃ z, x = .str z
theorem ty_str {K : Fz} : TyJ K "str" kStr := fun {x v M Hf H} m r k => by
  obtain ⟨z, rfl⟩ := k
  cases r
  rfl
theorem Rps.strs {K : Fz} {H : Hp} : ∀ {vs : List V} {ys : List Str}, Rps K H vs (ys.map D.str) → vs = ys.map V.str
  | _, [], .nil => rfl
  | _, n :: ns, .cons h r => by
    cases h
    rw [Rps.strs r]
    rfl
theorem Rps.ofStrs {K : Fz} {H : Hp} : ∀ (ys : List Str), Rps K H (ys.map V.str) (ys.map D.str)
  | [] => .nil
  | n :: ns => .cons (.str n) (Rps.ofStrs ns)
/-- the items of a tuple or of a list -/
def sqD (M : Mm) : D → Option (List D)
  | .tup ds => some ds
  | x => asL M x
theorem sqD_ok {K : Fz} {M : Mm} {Hf H : Hp} {x : D} {v : V} {ds : List D} (m : HM K Hf M H) (r : Rp K Hf v x) (h : sqD M x = some ds) : ∃ a vs, v = .ref a ∧ (SqL K H a vs ∨ SqT K H a vs) ∧ Rps K Hf vs ds := by
  unfold sqD at h
  split at h
  · cases h
    obtain ⟨a, ws, rfl, ha, ra⟩ := tup_ok m r
    exact ⟨a, ws, rfl, .inr ha, ra⟩
  · obtain ⟨a, vs, rfl, ha, ra⟩ := asL_ok m r h
    exact ⟨a, vs, rfl, .inl ha, ra⟩
def rJoinD : D → List D → Mm → DP → Prop := fun x xs M P => ∃ a l ys, x = .str a ∧ xs = [l] ∧ sqD M l = some (ys.map D.str) ∧ (ys.map (·.length)).sum + ys.length * a.length ≤ 16777216 ∧ P (.str (Txt.join a ys)) M
theorem mj_join {K : Fz} : MJ K "str" (fun x xs H Q => ∃ a p, ∃ ys : List Str, x = .str a ∧ xs = [.ref p] ∧ (SqL K H p (ys.map V.str) ∨ SqT K H p (ys.map V.str)) ∧
      (ys.map (·.length)).sum + ys.length * a.length ≤ 16777216 ∧ Q (.str (Txt.join a ys)) H) rJoinD := fun {x v xs vs M Hf H P Q} m r rs d f => by
  obtain ⟨a, l, ys, rfl, rfl, h1, h2, p⟩ := d
  cases r
  cases rs with
  | cons h t =>
    cases t
    obtain ⟨b, ws, rfl, q1, q2⟩ := sqD_ok m h h1
    obtain rfl := Rps.strs q2
    exact ⟨a, b, ys, rfl, rfl, q1, h2, f _ _ _ _ _ p (Ext.refl _) m (.str _)⟩
/-- a method of a text that has one text more, and a plain answer -/
def rS1 (g : Str → Str → D) (c : Str → Str → Prop) : D → List D → Mm → DP → Prop := fun x xs M P => ∃ a b, x = .str a ∧ xs = [.str b] ∧ c a b ∧ P (g a b) M
/-- a method of a text alone -/
def rS0 (g : Str → D) (c : Str → Prop) : D → List D → Mm → DP → Prop := fun x xs M P => ∃ a, x = .str a ∧ xs = [] ∧ c a ∧ P (g a) M
def rSplitD : D → List D → Mm → DP → Prop := fun x xs M P => ∃ a b, x = .str a ∧ xs = [.str b] ∧ (b.length == 0) = false ∧ a.length + 2 ≤ sizeLine ∧ P (.lst ((Txt.split a b).map D.str)) M
theorem mj_split {K : Fz} : MJ K "str" (fun x xs H Q => ∃ a b, x = .str a ∧ xs = [.str b] ∧ (b.length == 0) = false ∧ a.length + 2 ≤ sizeLine ∧ rNewStrs (Txt.split a b) H Q) rSplitD := fun {x v xs vs M Hf H P Q} m r rs d f => by
  obtain ⟨a, b, rfl, rfl, h1, h2, p⟩ := d
  cases r
  cases rs with
  | cons h t =>
    cases t
    cases h
    refine ⟨a, b, rfl, rfl, h1, h2, fun q hq => ?_⟩
    obtain ⟨e1, m1⟩ := m.newF (o := .lst ((Txt.split a b).map V.str)) hq
    exact f _ _ _ _ _ p e1 m1 (.lst upd_same (Rps.ofStrs _))
def rPartD : D → List D → Mm → DP → Prop := fun x xs M P => ∃ a b, x = .str a ∧ xs = [.str b] ∧ (b.length == 0) = false ∧ a.length ≤ sizeLine ∧ P (.tup [.str (Txt.partition a b).1, .str (Txt.partition a b).2.1, .str (Txt.partition a b).2.2]) M
theorem mj_part {K : Fz} : MJ K "str" (fun x xs H Q => ∃ a b, x = .str a ∧ xs = [.str b] ∧ (b.length == 0) = false ∧ a.length ≤ sizeLine ∧
      ∀ p, H p = none → Q (.ref p) (upd H p (.tup [.str (Txt.partition a b).1, .str (Txt.partition a b).2.1, .str (Txt.partition a b).2.2]))) rPartD := fun {x v xs vs M Hf H P Q} m r rs d f => by
  obtain ⟨a, b, rfl, rfl, h1, h2, p⟩ := d
  cases r
  cases rs with
  | cons h t =>
    cases t
    cases h
    refine ⟨a, b, rfl, rfl, h1, h2, fun q hq => ?_⟩
    obtain ⟨e1, m1⟩ := m.newF (o := .tup [.str (Txt.partition a b).1, .str (Txt.partition a b).2.1, .str (Txt.partition a b).2.2]) hq
    exact f _ _ _ _ _ p e1 m1 (.tup upd_same (.cons (.str _) (.cons (.str _) (.cons (.str _) .nil))))
section
variable {X : Cx} {W : WX'} {cpos apos : Pos} {o e : Expr} {es : List Expr} {dx : DE} {d : DA}
theorem ej_join (ho : EJ X W o dx) (ha : AJ X W [e] d) (hbase : attributeBase o "join" X.env (eval o X.env) = eval o X.env := by rfl)
    (hfew : ((backTo cpos (starEach [e] X.env)).all (fun x => !x.1) && (backToKw cpos (keywordEach [] X.env)).all (fun x => x.1.isSome) && decide ([e].length + ([] : List Keyword).length + (if ([] : List Keyword).isEmpty then 0 else 1) < 30)) = true := by rfl)
    (hline : (apos.endLine == cpos.line) = true := by rfl) (hs : starEach [e] X.env = (false, eval e X.env) :: starEach [] X.env := by rfl) : EJ X W (.Call (.Attribute o "join" apos) [e] [] cpos) (dBM kStr rJoinD dx d) :=
  ej_bm F.plainAttrs_str F.slot_str_join F.type_str_join mt_join mj_join ty_str ho ha hbase hfew hline hs
theorem ej_split (ho : EJ X W o dx) (ha : AJ X W [e] d) (hbase : attributeBase o "split" X.env (eval o X.env) = eval o X.env := by rfl)
    (hfew : ((backTo cpos (starEach [e] X.env)).all (fun x => !x.1) && (backToKw cpos (keywordEach [] X.env)).all (fun x => x.1.isSome) && decide ([e].length + ([] : List Keyword).length + (if ([] : List Keyword).isEmpty then 0 else 1) < 30)) = true := by rfl)
    (hline : (apos.endLine == cpos.line) = true := by rfl) (hs : starEach [e] X.env = (false, eval e X.env) :: starEach [] X.env := by rfl) : EJ X W (.Call (.Attribute o "split" apos) [e] [] cpos) (dBM kStr rSplitD dx d) :=
  ej_bm F.plainAttrs_str F.slot_str_split F.type_str_split mt_split mj_split ty_str ho ha hbase hfew hline hs
theorem ej_partition (ho : EJ X W o dx) (ha : AJ X W [e] d) (hbase : attributeBase o "partition" X.env (eval o X.env) = eval o X.env := by rfl)
    (hfew : ((backTo cpos (starEach [e] X.env)).all (fun x => !x.1) && (backToKw cpos (keywordEach [] X.env)).all (fun x => x.1.isSome) && decide ([e].length + ([] : List Keyword).length + (if ([] : List Keyword).isEmpty then 0 else 1) < 30)) = true := by rfl)
    (hline : (apos.endLine == cpos.line) = true := by rfl) (hs : starEach [e] X.env = (false, eval e X.env) :: starEach [] X.env := by rfl) : EJ X W (.Call (.Attribute o "partition" apos) [e] [] cpos) (dBM kStr rPartD dx d) :=
  ej_bm F.plainAttrs_str F.slot_str_partition F.type_str_partition mt_partition mj_part ty_str ho ha hbase hfew hline hs
end
/-! ### len of dicts -/
theorem Rks.glen {K : Fz} {H : Hp} {κ : Type} : ∀ {ws : List (κ × V)} {kvs : List (κ × D)}, Rks K H ws kvs → ws.length = kvs.length
  | _, _, .nil => rfl
  | _, _, .cons _ t => congrArg (· + 1) t.glen
def rLenTab : RDL := fun xs M P => ∃ x t, xs = [x] ∧ tabR M x = some t ∧ P (.int (match t with
  | .k kvs => kvs.length
  | .t kvs => kvs.length)) M
theorem cj_lenTab {K : Fz} : CJ K (fun xs H Q => (∃ a kvs, xs = [V.ref a] ∧ H a = some (.dK kvs) ∧ Q (.int kvs.length) H) ∨ rLenT xs H Q) rLenTab := fun {xs vs M Hf H P Q} m r d f => by
  obtain ⟨x, t, rfl, h, p⟩ := d
  cases r with
  | cons h1 t1 =>
    cases t1
    obtain ⟨a, rfl, g⟩ := tabR_ok m h1 h
    cases t with
    | k kvs =>
      obtain ⟨ws, q1, q2⟩ := g
      refine .inl ⟨a, ws, rfl, q1, ?_⟩
      rw [q2.glen]
      exact f _ _ _ _ _ p (Ext.refl _) m (.int _)
    | t kvs =>
      obtain ⟨ws, q1, q2⟩ := g
      refine .inr ⟨a, ws, rfl, q1, ?_⟩
      rw [q2.glen]
      exact f _ _ _ _ _ p (Ext.refl _) m (.int _)
section
variable {X : Cx} {W : WX'} {pos p : Pos} {e : Expr} {d : DA}
theorem ej_lenTab (hm : X.mg "len" = none) (ha : AJ X W [e] d) (hg : Gl X "len" := by rfl) (he : starEach [e] X.env = (false, eval e X.env) :: starEach [] X.env := by rfl) : EJ X W (.Call (.Name "len" p) [e] [] pos) (dCB rLenTab d) :=
  ej_cb (CallR.or call_lenD call_len_dT) cj_lenTab hm ha hg (by decide +kernel) (by decide) (by decide) he
end
end DL

/-! DL: dicts of comprehensions, own texts and lengths of instances, texts in texts, None -/
namespace DL
open PySem PySem.Spec PyProof.Rows L2 RZ StX
/-! ### a comprehension's dict that may change -/
def dDcM (di : DI) (dg : D → Ev → (Ev → Prop) → Prop) (tt : DT) (tk tv : DE) (vs : List Nat) : DE := fun ρ M P PX => di ρ M (fun ds M1 => ∀ D, M1 D = none → ∃ I : Nat → Mm → Prop, I 0 (um M1 D (.dct [])) ∧
  (∀ i d M, ds[i]? = some d → I i M → dg d (wpD ρ vs) (fun ρ2 => tt ρ2 M (fun b M3 => match b with
    | true => tk ρ2 M3 (fun y M4 => tv ρ2 M4 (fun z M5 => match M5 D, keyOf y with
      | some (.dct acc), some k => acc.length < sizeLine ∧ I (i + 1) (um M5 D (.dct (ins acc k z)))
      | _, _ => False) XF) XF
    | false => I (i + 1) M3) XF)) ∧
  ∀ M, I ds.length M → P (.ref D) M) PX
theorem dcMj {K : Fz} {W : WX'} {di : DI} {g : TG} {dg : D → Ev → (Ev → Prop) → Prop} {tt : DT} {tk tv : DE} {vs : List Nat} (tg : TgOk K g vs dg) : ∀ σ H Q, liE K W (dDcM di dg tt tk tv vs) σ H Q → tDc (liI K W di) g (liT K W0 tt) (liE K W0 tk) (liE K W0 tv) vs σ H Q :=
  fun σ H Q ⟨ρ, M, Hf, P, PX, s, d, fe, fx⟩ => ⟨ρ, M, Hf, _, _, s, d, fun ds M1 Hf1 H1 d1 e1 m1 J it D hD => by
    obtain ⟨I, i0, step, fin⟩ := d1 D (m1.none_of hD)
    have s1 := s.go e1 m1
    have nf : ∀ {σ : Sx} {Hf : Hp}, FinX K Hf σ XF W0 := fun _ _ _ _ _ _ z => z.elim
    refine ⟨fun i m H => m = ds.length - i ∧ i ≤ ds.length ∧ ∃ M Hf2, Ext Hf1 Hf2 ∧ HM K Hf2 M H ∧ I i M, ⟨_, rfl, Nat.zero_le _, _, Hf1, Ext.refl _, m1.newM (mo := .dct []) hD ⟨[], upd_same, .nil⟩, i0⟩, ?_⟩
    rintro i m H2 ⟨rfl, hi, M2, Hf2, e2, m2, i2⟩
    by_cases hlt : i < ds.length
    · refine .inr ⟨it.go i M2 Hf2 H2 hlt e2 m2, fun H => ∃ M Hf3, Ext Hf1 Hf3 ∧ HM K Hf3 M H ∧ I (i + 1) M, fun H' p => ⟨ds.length - (i + 1), by omega, rfl, hlt, p⟩, fun x H3 y => ?_⟩
      obtain ⟨Hf3, e3, m3, r3⟩ := it.yld i _ M2 Hf2 H2 x H3 (List.getElem?_eq_getElem hlt) e2 m2 y
      have s3 := ((s1.go (e2.trans e3) m3).wipe vs)
      refine tg s3 r3 (step i _ M2 (List.getElem?_eq_getElem hlt) i2) fun σ4 ρ4 k4 w4 s4 => ⟨w4, ρ4, M2, Hf3, _, XF, s4, k4, fun b M5 Hf5 H5 d5 e5 m5 => ?_, nf⟩
      cases b with
      | false =>
        rw [if_neg Bool.false_ne_true]
        exact ⟨M5, Hf5, (e2.trans e3).trans e5, m5, d5⟩
      | true =>
        rw [if_pos rfl]
        refine ⟨ρ4, M5, Hf5, _, XF, s4.go e5 m5, d5, fun y M6 v6 Hf6 H6 d6 e6 m6 r6 => ?_, nf⟩
        refine ⟨ρ4, M6, Hf6, _, XF, (s4.go e5 m5).go e6 m6, d6, fun z M7 v7 Hf7 H7 d7 e7 m7 r7 => ?_, nf⟩
        try dsimp only at d7
        split at d7
        · rename_i acc kk em ek
          obtain ⟨_, vs6, q1, q2⟩ := m7.mu _ _ em
          exact ⟨vs6, kk, keyOf_ok r6 ek, q1, by rw [q2.len]; exact d7.1, _, Hf7, (((e2.trans e3).trans e5).trans e6).trans e7, m7.write (mo' := .dct (ins acc kk z)) em q1 (fun x z => by cases z) ⟨_, upd_same, q2.ins r7⟩, d7.2⟩
        · exact d7.elim
    · obtain rfl : i = ds.length := by omega
      exact .inl ⟨it.stop M2 Hf2 H2 e2 m2, fe _ M2 _ Hf2 H2 (fin M2 i2) (e1.trans e2) m2 (.ref D)⟩, fx⟩
section
variable {X : Cx} {W : WX'} {kx vx tg iter : Expr} {ifs : List Expr} {scope : Scope} {own : List (Str × Nat)} {pos : Pos} {di : DI} {g : TG} {dg : D → Ev → (Ev → Prop) → Prop} {tt : DT} {tk tv : DE}
theorem ej_dcM (hc : X.calm = true) (hN : X.N.Nodup) (hi : IJ X W tg iter di) (ok : BlkOk X.N X.env.scope scope own) (ht0 : TgOk X.K g (own.map (·.2)) dg)
    (hg : ∀ (s : Shared) (H : Hp) (C : Addr) (cl : List (Str × Addr)) (fp : List Addr), PG (X.blk s H scope (compEnvC scope cl C X.env) fp) tg g)
    (ht : ∀ (s : Shared) (H : Hp) (C : Addr) (cl : List (Str × Addr)) (fp : List Addr), PTs (X.blk s H scope (compEnvC scope cl C X.env) fp) ifs (liT X.K W0 tt))
    (hk : ∀ (s : Shared) (H : Hp) (C : Addr) (cl : List (Str × Addr)) (fp : List Addr), EJ (X.blk s H scope (compEnvC scope cl C X.env) fp) W0 kx tk)
    (he : ∀ (s : Shared) (H : Hp) (C : Addr) (cl : List (Str × Addr)) (fp : List Addr), EJ (X.blk s H scope (compEnvC scope cl C X.env) fp) W0 vx tv)
    (hs : ∀ x, foldedSetIterable iter X.env x = pure x := by intro _; rfl) : EJ X W (.DictComp kx vx [⟨tg, iter, ifs, 0⟩] scope pos) (dDcM di dg tt tk tv (own.map (·.2))) :=
  pe_weak (pe_dc hc hN hi ok hg ht hk he hs) (dcMj ht0)
end
/-! ### str(x), len(x) of instances -/
def rStrI (C : Addr) (sp : DSp) : RDL := fun xs M P => ∃ x fs, xs = [x] ∧ asO M x = some (C, fs) ∧ sp [x] M (fun v M2 => ∃ z, v = .str z ∧ P v M2) fun _ _ _ => False
theorem cj_strI {K : Fz} {C : Addr} {sp : DSp} : CJ K (rStrOwn C (liSp K sp)) (rStrI C sp) := fun {xs vs M Hf H P Q} m r d f => by
  obtain ⟨x, fs, rfl, h1, h2⟩ := d
  cases r with
  | cons h t =>
    cases t
    obtain ⟨a, dx, gs, rfl, q1, q2⟩ := asO_ok m h h1
    exact ⟨a, dx, gs, rfl, q1, _, M, Hf, _, _, .cons h .nil, m, h2, fun y M2 v Hf' H' ⟨z, e1, p⟩ e m2 r2 => by
      subst e1
      cases r2
      exact ⟨z, rfl, f _ _ _ _ _ p e m2 (.str z)⟩, fun _ _ _ _ _ _ z => z.elim⟩
def rLenI (C : Addr) (sp : DSp) : RDL := fun xs M P => ∃ x fs, xs = [x] ∧ asO M x = some (C, fs) ∧ sp [x] M (fun v M2 => ∃ z : Int, v = .int z ∧ 0 ≤ z ∧ z < 2 ^ 63 ∧ P v M2) fun _ _ _ => False
theorem cj_lenI {K : Fz} {C : Addr} {sp : DSp} : CJ K (rLenOwn C (liSp K sp)) (rLenI C sp) := fun {xs vs M Hf H P Q} m r d f => by
  obtain ⟨x, fs, rfl, h1, h2⟩ := d
  cases r with
  | cons h t =>
    cases t
    obtain ⟨a, dx, gs, rfl, q1, q2⟩ := asO_ok m h h1
    exact ⟨a, dx, gs, rfl, q1, _, M, Hf, _, _, .cons h .nil, m, h2, fun y M2 v Hf' H' ⟨z, e1, g0, g1, p⟩ e m2 r2 => by
      subst e1
      cases r2
      exact ⟨z, rfl, g0, g1, f _ _ _ _ _ p e m2 (.int z)⟩, fun _ _ _ _ _ _ z => z.elim⟩
section
variable {X : Cx} {W : WX'} {k j : Nat} {f C : Addr} {fd : FuncData} {ps : List Str} {dsp : DSp} {p pos : Pos} {e : Expr} {d : DA}
theorem ej_strI (hm : Meth X.K C "__str__" f) (F : DFn GG X.prog X.w X.K X.mg X.base k f fd ps dsp) (hr : Room (k + 2) X.A) (hG : GG X.A) (hb : Binds X.K fd ps []) (hmg : X.mg "str" = none) (ha : AJ X W [e] d) (hg : Gl X "str" := by rfl) (he : starEach [e] X.env = (false, eval e X.env) :: starEach [] X.env := by rfl) :
    EJ X W (.Call (.Name "str" p) [e] [] pos) (dCB (rStrI C dsp) d) := ej_ct (call_strOwn hm F hr hG hb) cj_strI hmg ha hg (by decide +kernel) (by decide) (by decide) he
theorem ej_lenI (hm : Meth X.K C "__len__" f) (F : DFn GG X.prog X.w X.K X.mg X.base k f fd ps dsp) (hr : Room (k + 2) X.A) (hG : GG X.A) (hb : Binds X.K fd ps []) (hmg : X.mg "len" = none) (ha : AJ X W [e] d) (hg : Gl X "len" := by rfl) (he : starEach [e] X.env = (false, eval e X.env) :: starEach [] X.env := by rfl) :
    EJ X W (.Call (.Name "len" p) [e] [] pos) (dCB (rLenI C dsp) d) := ej_cb (call_lenOwn hm F hr hG hb) cj_lenI hmg ha hg (by decide +kernel) (by decide) (by decide) he
end
/-! ### a sign in a text; None -/
def rInSg : RD2 := fun x y M P => ∃ (c : Nat) (z : Str), x = .str ⟨#[c]⟩ ∧ y = .str z ∧ P (.bl (decide (c ∈ z.cps.toList))) M
theorem rj_inSg {K : Fz} : R2J K (fun x y H Q => ∃ (c : Nat) (z : Str), x = .str ⟨#[c]⟩ ∧ y = .str z ∧ Q (.bl (decide (c ∈ z.cps.toList))) H) rInSg := fun {x y v u M Hf H P Q} m r1 r2 d f => by
  obtain ⟨c, z, rfl, rfl, p⟩ := d
  cases r1
  cases r2
  exact ⟨c, z, rfl, rfl, f _ _ _ _ _ p (Ext.refl _) m (.bl _)⟩
def isN : D → Bool
  | .non => true
  | _ => false
def rIsN (neg : Bool) : RD2 := fun x y M P => y = .non ∧ P (.bl (neg ^^ isN x)) M
theorem isN_ok {K : Fz} {H : Hp} {x : D} {v : V} (r : Rp K H v x) : decide (v = .non) = isN x := by
  cases r <;> first | rfl | exact decide_eq_false (fun z => by cases z)
theorem rj_isN {K : Fz} : R2J K (fun x y H Q => y = .non ∧ Q (.bl (decide (x = .non))) H) (rIsN false) := fun {x y v u M Hf H P Q} m r1 r2 d f => by
  obtain ⟨rfl, p⟩ := d
  cases r2
  rw [Bool.false_xor] at p
  rw [← isN_ok r1] at p
  exact ⟨rfl, f _ _ _ _ _ p (Ext.refl _) m (.bl _)⟩
theorem rj_notN {K : Fz} : R2J K (fun x y H Q => y = .non ∧ Q (.bl (!decide (x = .non))) H) (rIsN true) := fun {x y v u M Hf H P Q} m r1 r2 d f => by
  obtain ⟨rfl, p⟩ := d
  cases r2
  rw [Bool.true_xor] at p
  rw [← isN_ok r1] at p
  exact ⟨rfl, f _ _ _ _ _ p (Ext.refl _) m (.bl _)⟩
section
variable {X : Cx} {W : WX'} {pos : Pos} {a b : Expr} {da db : DE}
theorem ej_inSg (ha : EJ X W a da) (hb : EJ X W b db) (hm : behindInMarks .In b = false := by rfl) : EJ X W (.Compare a [.In] [b] pos) (dOp rInSg da db) := ej_cmp op_in_sign rj_inSg ha hb hm
theorem ej_isN (ha : EJ X W a da) (hb : EJ X W b db) (hm : behindInMarks .Is b = false := by rfl) : EJ X W (.Compare a [.Is] [b] pos) (dOp (rIsN false) da db) := ej_cmp op_isN rj_isN ha hb hm
theorem ej_notN (ha : EJ X W a da) (hb : EJ X W b db) (hm : behindInMarks .IsNot b = false := by rfl) : EJ X W (.Compare a [.IsNot] [b] pos) (dOp (rIsN true) da db) := ej_cmp op_notN rj_notN ha hb hm
end
end DL

/-! DL: a name set to a dict of a comprehension -/
namespace DL
open PySem PySem.Spec PyProof.Rows L2 RZ StX
section
variable {X : Cx}
theorem ps_setDc {i : Nat} {y : Str} {py : Pos} {kx vx tg iter : Expr} {ifs : List Expr} {scope : Scope} {own : List (Str × Nat)} {pos spos : Pos} {wi : TI} {g : TG} {tt : TT} {tk tv : TE} (hc : X.calm = true) (hN : X.N.Nodup) (hy : X.N[i]? = some y) (hyl : X.env.scope.names.lookup y = some .local)
    (hsw : swapsWith (.DictComp kx vx [⟨tg, iter, ifs, 0⟩] scope pos) (some (.Name y py)) spos.line X.env = pure true) (hi : PI X tg iter wi) (ok : BlkOk X.N X.env.scope scope own)
    (hg : ∀ (s : Shared) (H : Hp) (C : Addr) (cl : List (Str × Addr)) (fp : List Addr), PG (X.blk s H scope (compEnvC scope cl C X.env) fp) tg g) (ht : ∀ (s : Shared) (H : Hp) (C : Addr) (cl : List (Str × Addr)) (fp : List Addr), PTs (X.blk s H scope (compEnvC scope cl C X.env) fp) ifs tt)
    (hk : ∀ (s : Shared) (H : Hp) (C : Addr) (cl : List (Str × Addr)) (fp : List Addr), PE (X.blk s H scope (compEnvC scope cl C X.env) fp) kx tk)
    (he : ∀ (s : Shared) (H : Hp) (C : Addr) (cl : List (Str × Addr)) (fp : List Addr), PE (X.blk s H scope (compEnvC scope cl C X.env) fp) vx tv) (hs : ∀ x, foldedSetIterable iter X.env x = pure x := by intro _; rfl) :
    PS X (.Assign [.Name y py] (.DictComp kx vx [⟨tg, iter, ifs, 0⟩] scope pos) spos) (tAsg (tDc wi g tt tk tv (own.map (·.2))) (gName i)) := by
  refine ⟨fun pins s σ H D I h => ?_⟩
  rw [exec_Assign_Name_used _ _ _ _ hsw]
  refine wpAny_bind (wpAny_standAt (wpAny_bind ?_))
  show wpAny _ X.A (do let _ ← comprehension (.DictComp kx vx [⟨tg, iter, ifs, 0⟩] scope pos) scope X.env (firstIterPos [⟨tg, iter, ifs, 0⟩] pos) newDict false (eval iter X.env) (some (assign (.Name y py) X.env))) _ _ s
  have h : tDc wi g tt tk tv (own.map (·.2)) σ H (fun x H1 => gName i x σ H1 D.nx) := h
  refine wpAny_bind (thn (dc_core (Qf := fun _ s' => SP X pins D .next s') hc hN I hi ok hg ht hk he hs h fun L C s' m H' I' q hn f => ?_) fun _ s' hq => wpAny_pure (wpAny_pure hq))
  show wpAny _ _ (assign (.Name y py) X.env (.ref L)) _ _ _
  refine wpAny_assign_Name (store_ok2 (v := V.ref L) I' hN hy (.inl hyl) rfl (fun s2 I2 ⟨a, sb, ha⟩ => ?_) (.inr hyl))
  obtain ⟨f0, f1, f2, f3, f4, f5⟩ := f
  have haC : C ≠ a := by
    rcases ha with z | z
    · rw [z]; exact f1
    · exact fun e => f4 y a z e.symm
  refine ⟨m, hn.sameBut sb haC, fun h3 sb3 => ?_⟩
  exact ⟨_, H', I2.turned (t' := s2.toks) (fun b o hb e => (sb3.2 b hb).trans e) f0 f1 f3 f4 f5, q⟩
end
section
variable {X : Cx} {W : WX'} {kx vx tg iter : Expr} {ifs : List Expr} {scope : Scope} {own : List (Str × Nat)} {pos : Pos} {di : DI} {g : TG} {dg : D → Ev → (Ev → Prop) → Prop} {tt : DT} {tk tv : DE}
theorem sj_setDc {y : Str} {py spos : Pos} (i : Nat) (hc : X.calm = true) (hN : X.N.Nodup) (hi : IJ X W tg iter di) (ok : BlkOk X.N X.env.scope scope own) (ht0 : TgOk X.K g (own.map (·.2)) dg)
    (hg : ∀ (s : Shared) (H : Hp) (C : Addr) (cl : List (Str × Addr)) (fp : List Addr), PG (X.blk s H scope (compEnvC scope cl C X.env) fp) tg g)
    (ht : ∀ (s : Shared) (H : Hp) (C : Addr) (cl : List (Str × Addr)) (fp : List Addr), PTs (X.blk s H scope (compEnvC scope cl C X.env) fp) ifs (liT X.K W0 tt))
    (hk : ∀ (s : Shared) (H : Hp) (C : Addr) (cl : List (Str × Addr)) (fp : List Addr), EJ (X.blk s H scope (compEnvC scope cl C X.env) fp) W0 kx tk)
    (he : ∀ (s : Shared) (H : Hp) (C : Addr) (cl : List (Str × Addr)) (fp : List Addr), EJ (X.blk s H scope (compEnvC scope cl C X.env) fp) W0 vx tv)
    (hy : X.N[i]? = some y := by rfl) (hyl : X.env.scope.names.lookup y = some .local := by rfl) (hsw : swapsWith (.DictComp kx vx [⟨tg, iter, ifs, 0⟩] scope pos) (some (.Name y py)) spos.line X.env = pure true)
    (hs : ∀ x, foldedSetIterable iter X.env x = pure x := by intro _; rfl) : SJ X W (.Assign [.Name y py] (.DictComp kx vx [⟨tg, iter, ifs, 0⟩] scope pos) spos) (dAsg (dDcM di dg tt tk tv (own.map (·.2))) (dgName i)) :=
  ps_weak (ps_setDc (i := i) hc hN hy hyl hsw hi ok hg ht hk he hs) fun De σ H ⟨ρ, M, Hf, DD, s, d, f⟩ => dcMj ht0 σ H _ ⟨ρ, M, Hf, _, _, s, d, fun x M1 v Hf1 H1 d1 e1 m1 r1 => f.nx _ M1 _ Hf1 H1 d1 e1 ((s.go e1 m1).set r1), f.x s⟩
end
end DL

/-! DL: a list of lists stays as it is -/
namespace DL
open PySem PySem.Spec PyProof.Rows L2
def dmL (M : Mm) : List Addr → Mm
  | [] => M
  | a :: as => dmL (dm M a) as
theorem dmL_ne : ∀ {as : List Addr} {M : Mm} {b : Addr}, b ∉ as → dmL M as b = M b
  | [], _, _, _ => rfl
  | a :: as, M, b, h => by
    show dmL (dm M a) as b = M b
    rw [dmL_ne (fun z => h (List.mem_cons_of_mem _ z))]
    exact dm_ne fun z => h (by rw [z]; exact List.mem_cons_self)
inductive LsAt (M : Mm) : List Addr → List (List D) → Prop
  | nil : LsAt M [] []
  | cons {a : Addr} {as : List Addr} {ds : List D} {dss : List (List D)} : M a = some (.lst ds) → a ∉ as → LsAt M as dss → LsAt M (a :: as) (ds :: dss)
theorem LsAt.fr {M M' : Mm} : ∀ {as : List Addr} {dss : List (List D)}, LsAt M as dss → (∀ a ∈ as, M' a = M a) → LsAt M' as dss
  | _, _, .nil, _ => .nil
  | _, _, .cons h n t, e => .cons ((e _ List.mem_cons_self).trans h) n (t.fr fun a m => e a (List.mem_cons_of_mem _ m))
theorem HM.freezeL {K : Fz} {H : Hp} : ∀ {as : List Addr} {dss : List (List D)} {M : Mm} {Hf : Hp}, HM K Hf M H → LsAt M as dss → ∃ Hf', Ext Hf Hf' ∧ HM K Hf' (dmL M as) H ∧ Rps K Hf' (as.map V.ref) (dss.map D.lst)
  | _, _, M, Hf, m, .nil => ⟨Hf, Ext.refl _, m, .nil⟩
  | a :: as, ds :: dss, M, Hf, m, .cons h n t => by
    obtain ⟨_, vs, q1, q2⟩ := m.mu _ _ h
    obtain ⟨e1, m1⟩ := m.freeze h q1 (fun x z => by cases z)
    obtain ⟨Hf', e2, m2, r2⟩ := HM.freezeL m1 (t.fr fun b hb => dm_ne fun z => n (by rw [← z]; exact hb))
    exact ⟨Hf', e1.trans e2, m2, .cons ((Rp.lst upd_same (q2.mono e1)).mono e2) r2⟩
theorem rps_refs {K : Fz} {H : Hp} : ∀ {as : List Addr} {vs : List V}, Rps K H vs (as.map D.ref) → vs = as.map V.ref
  | [], _, .nil => rfl
  | a :: as, _, .cons h t => by
    cases h
    rw [rps_refs t]
    rfl
def dFrz2 (i : Nat) (d : DS) : DS := fun DD ρ M => ∃ (a : Addr) (as : List Addr) (dss : List (List D)), ρ i = some (.ref a) ∧ M a = some (.lst (as.map D.ref)) ∧ LsAt M as dss ∧ a ∉ as ∧ d DD (st ρ i (some (.lst (dss.map D.lst)))) (dm (dmL M as) a)
theorem bj_frz2 {X : Cx} {W : WX'} {rest : List Stmt} {d : DS} {i : Nat} (h : BJ X W rest d) : BJ X W rest (dFrz2 i d) := pss_weak h fun De σ H ⟨ρ, M, Hf, DD, s, ⟨a, as, dss, h1, h2, h3, h4, h5⟩, f⟩ => by
  obtain ⟨Hf1, e1, m1, r1⟩ := s.hm.freezeL h3
  have h2' : dmL M as a = some (.lst (as.map D.ref)) := (dmL_ne h4).trans h2
  obtain ⟨_, vs, q1, q2⟩ := m1.mu _ _ h2'
  obtain rfl := rps_refs q2
  obtain ⟨e2, m2⟩ := m1.freeze h2' q1 (fun x z => by cases z)
  refine ⟨st ρ i (some (.lst (dss.map D.lst))), dm (dmL M as) a, _, DD, ⟨m2, fun j d' hl hj => ?_⟩, h5, f.go (e1.trans e2)⟩
  by_cases z : i = j
  · subst z
    rw [gt_same] at hj
    cases hj
    obtain ⟨v, g1, g2⟩ := s.env i _ hl h1
    cases g2
    exact ⟨_, g1, .lst upd_same (r1.mono e2)⟩
  · rw [gt_ne _ _ _ _ z] at hj
    obtain ⟨v, g1, g2⟩ := s.env j d' hl hj
    exact ⟨v, g1, g2.mono (e1.trans e2)⟩
end DL

/-! DL: zip of tuples and lists in any mix -/
namespace DL
open PySem PySem.Spec PyProof.Rows L2
abbrev IterB (t : Bool) (h : Heap) (it a : Addr) (i : Nat) : Prop := match t with
  | true => h.IsTupleIter it a i
  | false => h.IsListIter it a i
abbrev SeqB (t : Bool) (h : Heap) (a : Addr) (its : Array Value) : Prop := match t with
  | true => h.IsTuple a its
  | false => h.IsList a its
abbrev SqB (t : Bool) (K : PySem.W.Frag) (H : Hp) (a : Addr) (xs : List V) : Prop := match t with
  | true => SqT K H a xs
  | false => SqL K H a xs
theorem iterB_obj {t : Bool} {h : Heap} {it a : Addr} {i : Nat} (x : IterB t h it a i) : ∃ o, h.get? it = some o ∧ ∀ v, o.data ≠ .cell v := by
  cases t with
  | true => obtain ⟨o, e, _, d⟩ := (show h.IsTupleIter it a i from x); exact ⟨o, e, fun v q => by rw [d] at q; cases q⟩
  | false => obtain ⟨o, e, _, d⟩ := (show h.IsListIter it a i from x); exact ⟨o, e, fun v q => by rw [d] at q; cases q⟩
theorem iterB_at {t : Bool} {h h' : Heap} {it a : Addr} {i : Nat} (x : IterB t h it a i) (k : ∀ o, h.get? it = some o → h'.get? it = some o) : IterB t h' it a i := by
  cases t with
  | true => exact (show h.IsTupleIter it a i from x).at k
  | false => exact (show h.IsListIter it a i from x).at k
theorem drawsB {prog : Program} {w : World} {A : Around} (t : Bool) (hh : A.handled = none) (it a : Addr) (hne : a ≠ it) (its : Array Value) : Draws prog w A it [it, a] its.size (fun i v => its[i]? = some v) (fun i h => IterB t h it a i ∧ SeqB t h a its) := by
  cases t with
  | true => exact Draws.tuple hh it a hne its
  | false => exact Draws.list hh it a hne its
theorem sqB_inv {t : Bool} {X : Cx} {pins : List (Addr × Obj)} {σ : Sx} {H : Hp} {s : Shared} {a : Addr} {xs : List V} (I : Inv X pins σ H s) (h : SqB t X.K H a xs) : ∃ its : List Value, Vals xs its ∧ SeqB t s.heap a its.toArray ∧ a < s.heap.objs.size := by
  cases t with
  | true =>
    obtain ⟨its, rv, p, _⟩ := I.tuple (show SqT X.K H a xs from h)
    exact ⟨its, rv, p, by obtain ⟨_, q, _⟩ := id p; exact Heap.lt_size q⟩
  | false =>
    obtain ⟨its, rv, p, _⟩ := I.list (show SqL X.K H a xs from h)
    exact ⟨its, rv, p.isList, p.lt⟩
theorem sqB_inj {t : Bool} {X : Cx} {pins : List (Addr × Obj)} {σ : Sx} {H : Hp} {s : Shared} {a : Addr} {xs ys : List V} (I : Inv X pins σ H s) (h : SqB t X.K H a xs) (h' : SqB t X.K H a ys) : xs = ys := by
  cases t with
  | true => exact I.tuple_inj h h'
  | false => exact I.list_inj h h'
theorem ne_iterB {t : Bool} {h : Heap} {it a : Addr} {i : Nat} {its : Array Value} (x : IterB t h it a i) (p : SeqB t h a its) : a ≠ it := fun q => by
  cases t with
  | true =>
    obtain ⟨o1, e1, c1, _⟩ := (show h.IsTupleIter it a i from x)
    obtain ⟨o2, e2, c2, _⟩ := (show h.IsTuple a its from p)
    rw [q, e1] at e2
    cases e2
    have c3 : Value.type "tuple_iterator" = Value.type "tuple" := c1.symm.trans c2
    injection c3 with c4
    exact absurd c4 (by decide)
  | false =>
    obtain ⟨o1, e1, c1, _⟩ := (show h.IsListIter it a i from x)
    obtain ⟨o2, e2, c2, _⟩ := (show h.IsList a its from p)
    rw [q, e1] at e2
    cases e2
    have c3 : Value.type "list_iterator" = Value.type "list" := c1.symm.trans c2
    injection c3 with c4
    exact absurd c4 (by decide)
def ItzB (t u : Bool) (K : PySem.W.Frag) (a b : Addr) : It :=
  ⟨fun i H => ∃ (xs ys : List V) (x y : V), SqB t K H a xs ∧ SqB u K H b ys ∧ xs[i]? = some x ∧ ys[i]? = some y,
    fun i H v H' => ∃ T x y, v = .ref T ∧ H T = none ∧ H' = upd H T (.tup [x, y]) ∧ (∀ xs, SqB t K H a xs → xs[i]? = some x) ∧ ∀ ys, SqB u K H b ys → ys[i]? = some y,
    fun i H => ∃ xs ys : List V, SqB t K H a xs ∧ SqB u K H b ys ∧ i ≤ xs.length ∧ i ≤ ys.length ∧ (i = xs.length ∨ i = ys.length)⟩
theorem turn_zipB {t u : Bool} {P : Program} {w : World} {K : PySem.W.Frag} {elts : List Expr} {kk : Nat} {tpos : Pos} {a b z TI TO i1 i2 : Addr} (S : ZipSep2 z TI TO i1 i2 [i1, a] [i2, b]) :
    Turn P w K (.Tuple elts kk tpos) (ItzB t u K a b) [z, TI, TO, i1, i2] z (fun i h => IsZip h z TI TO .none ∧ IsTupOf2 h TI (.ref i1) (.ref i2) ∧ (∃ x y, IsTupOf2 h TO x y) ∧ IterB t h i1 a i ∧ IterB u h i2 b i) where
  mem := by simp
  obj := fun i h st c hc => by
    obtain ⟨hz, hTI, ⟨x, y, hTO⟩, h1, h2⟩ := st
    have e' : c = z ∨ c = TI ∨ c = TO ∨ c = i1 ∨ c = i2 := by simpa using hc
    rcases e' with q | q | q | q | q
    · rw [q]; exact ⟨_, hz, fun v q => nomatch q⟩
    · rw [q]; exact ⟨_, hTI, fun v q => nomatch q⟩
    · rw [q]; exact ⟨_, hTO, fun v q => nomatch q⟩
    · rw [q]; exact iterB_obj h1
    · rw [q]; exact iterB_obj h2
  keep := fun i h h' st k => by
    obtain ⟨hz, hTI, ⟨x, y, hTO⟩, h1, h2⟩ := st
    exact ⟨k z (by simp) _ hz, k TI (by simp) _ hTI, ⟨x, y, k TO (by simp) _ hTO⟩, iterB_at h1 fun o q => k i1 (by simp) o q, iterB_at h2 fun o q => k i2 (by simp) o q⟩
  item := by
    intro X hP hw hK hc i pins s σ H E I hf st hg
    subst hP hw hK
    obtain ⟨hz, hTI, ⟨x0, y0, hTO⟩, h1, h2⟩ := st
    obtain ⟨xs, ys, x, y, hqx, hqy, hx, hy⟩ := hg
    obtain ⟨its, rv, p, _⟩ := sqB_inv I hqx
    obtain ⟨its2, rv2, p2, _⟩ := sqB_inv I hqy
    obtain ⟨v, hu, ru⟩ := rv.get hx
    obtain ⟨v2, hu2, ru2⟩ := rv2.get hy
    have hzl : z < s.heap.objs.size := Heap.lt_size hz
    have l1 : i < its.toArray.size := by
      have := (List.getElem?_eq_some_iff.mp hu).1
      simpa using this
    have l2 : i < its2.toArray.size := by
      have := (List.getElem?_eq_some_iff.mp hu2).1
      simpa using this
    have na : a ≠ i1 := ne_iterB h1 p
    have nb : b ≠ i2 := ne_iterB h2 p2
    refine wpAny_pyNext_zipD2_item S (drawsB (prog := X.prog) (w := X.w) (A := X.A.in1) t (I.ok.hd hc) i1 a na its.toArray) (drawsB (prog := X.prog) (w := X.w) (A := X.A.in1) u (I.ok.hd hc) i2 b nb its2.toArray) hz hTI hTO ⟨h1, p⟩ ⟨h2, p2⟩ l1 l2 fun x1 x2 h' tk y1 y2 z' TO' d1 d2 hT hsz hk => ?_
    obtain rfl : x1 = v := by
      rw [show its.toArray[i]? = some v from by simpa using hu] at y1
      exact (Option.some.inj y1).symm
    obtain rfl : x2 = v2 := by
      rw [show its2.toArray[i]? = some v2 from by simpa using hu2] at y2
      exact (Option.some.inj y2).symm
    refine ⟨_, rfl, wpAny_letOwnedTupleGo_zip (s := { s with heap := h', toks := tk }) z' fun h'' z'' sb => ?_⟩
    have hT2 : h''.get? s.heap.objs.size = some { cls := .type "tuple", data := .seq #[x1, x2] } := (sb.2 _ (Nat.ne_of_gt hzl)).trans hT
    have new : ObjOk X.prog X.w (upd H s.heap.objs.size (.tup [x, y])) h'' s.heap.objs.size (.tup [x, y]) :=
      ⟨by show 2 ≤ sizeLine; decide, [x1, x2], .cons ru (.cons ru2 .nil), ⟨_, hT2, rfl, _, rfl⟩⟩
    have I1 : Inv X pins σ (upd H s.heap.objs.size (.tup [x, y])) { s with heap := h'', toks := tk } :=
      I.turnedNew (ch := [z, TI, TO, i1, i2]) (fun c o hb q => (sb.2 c (fun q' => hb (by simp [q']))).trans (hk c o (fun q' => hb (by simp [q'])) (fun q' => hb (by simp [q'])) (fun q' => hb (by simp [q'])) (fun q' => hb (by simp [q'])) q)) hf (Nat.le_refl _) new
    have zi1 : i1 ≠ z := Ne.symm S.zi1
    have zi2 : i2 ≠ z := Ne.symm S.zi2
    refine ⟨.ref s.heap.objs.size, _, I1, rfl, ⟨_, x, y, rfl, I.hok.fresh (Nat.le_refl _), rfl, fun l hl => by rw [sqB_inj I hl hqx]; exact hx, fun l hl => by rw [sqB_inj I hl hqy]; exact hy⟩, ⟨z'', ?_, ⟨x1, x2, ?_⟩, ?_, ?_⟩, fun c hcm => ?_⟩
    · exact (sb.2 _ S.TIz).trans (hk _ _ S.TIz S.TITO S.TIi1 S.TIi2 hTI)
    · exact (sb.2 _ S.TOz).trans TO'
    · exact iterB_at d1.1 fun o q => (sb.2 _ zi1).trans q
    · exact iterB_at d2.1 fun o q => (sb.2 _ zi2).trans q
    · have hlt : c < s.heap.objs.size := by
        have e' : c = z ∨ c = TI ∨ c = TO ∨ c = i1 ∨ c = i2 := by simpa using hcm
        rcases e' with q | q | q | q | q
        · rw [q]; exact hzl
        · rw [q]; exact Heap.lt_size hTI
        · rw [q]; exact Heap.lt_size hTO
        · rw [q]; obtain ⟨_, e1, _⟩ := iterB_obj h1; exact Heap.lt_size e1
        · rw [q]; obtain ⟨_, e2, _⟩ := iterB_obj h2; exact Heap.lt_size e2
      rw [upd_ne (Nat.ne_of_lt hlt)]
      exact (hf c hcm).1
  done := by
    intro X hP hw hK hc i pins s σ H E I hf st hg
    subst hP hw hK
    obtain ⟨hz, hTI, ⟨x0, y0, hTO⟩, h1, h2⟩ := st
    obtain ⟨xs, ys, hqx, hqy, le1, le2, hend⟩ := hg
    obtain ⟨its, rv, p, _⟩ := sqB_inv I hqx
    obtain ⟨its2, rv2, p2, _⟩ := sqB_inv I hqy
    have l1 := rv.length
    have l2 := rv2.length
    have na : a ≠ i1 := ne_iterB h1 p
    have nb : b ≠ i2 := ne_iterB h2 p2
    exact wpAny_pyNext_zipD2_end S (drawsB (prog := X.prog) (w := X.w) (A := X.A.in1) t (I.ok.hd hc) i1 a na its.toArray) (drawsB (prog := X.prog) (w := X.w) (A := X.A.in1) u (I.ok.hd hc) i2 b nb its2.toArray) hz hTI hTO ⟨h1, p⟩ ⟨h2, p2⟩ (by simp; omega) (by simp; omega) (by simp; omega) fun h' tk hk => ⟨rfl, I.turnedL (t' := tk) (ch := [z, TI, TO, i1, i2]) (fun c o hb q =>
      hk c o (fun q' => hb (by simp [q'])) (fun q' => hb (by simp [q'])) (fun q' => hb (by simp [q'])) (fun q' => hb (by simp [q'])) q) hf⟩
  self := fun A i s Q E st h => wpAny_pyIter_zip st.1 h
def iZipB (t u : Bool) (K : PySem.W.Frag) (ta : TA) : TI := fun σ H R => ta σ H fun vs H1 => ∃ a b xs ys, vs = [.ref a, .ref b] ∧ SqB t K H1 a xs ∧ SqB u K H1 b ys ∧ R (ItzB t u K a b) H1
def itObj (t : Bool) (a : Addr) : Obj := match t with
  | true => { cls := .type "tuple_iterator", data := .fields #[.ref a, .int 0 0] }
  | false => { cls := .type "list_iterator", data := .fields #[.ref a, .int 0 0] }
theorem beginsB (t : Bool) (a : Addr) (its : Array Value) : Begins (.ref a) (itObj t a) fun h => SeqB t h a its := by
  cases t with
  | true => exact begins_tuple a its
  | false => exact begins_list a its
theorem iterB_new {t : Bool} {h : Heap} {it a : Addr} (e : h.get? it = some (itObj t a)) : IterB t h it a 0 := by
  cases t with
  | true => exact ⟨_, e, rfl, rfl⟩
  | false => exact ⟨_, e, rfl, rfl⟩
theorem pi_zipB (t u : Bool) {X : Cx} {e e2 : Expr} {ta : TA} {p pos tpos : Pos} {elts : List Expr} {kk : Nat} (hg : Gl X "zip") (hm : X.mg "zip" = none) (ha : PA X [e, e2] ta)
    (hs : starEach [e, e2] X.env = (false, eval e X.env) :: starEach [e2] X.env := by rfl) (hpl : (backTo pos (starEach [e2] X.env)).any (·.1) = false := by rfl) :
    PI X (.Tuple elts kk tpos) (.Call (.Name "zip" p) [e, e2] [] pos) (iZipB t u X.K ta) := by
  refine ⟨fun pins s σ H R I h => ?_⟩
  refine Call_ (ld_blt I hg hm PyProof.Rows.boot_zip (PyProof.Rows.callWith_type1 (thn (ha.run pos pins s σ H _ I h) fun us s1 ⟨vs, H1, I1, r1, q1⟩ => ?_) hs hpl))
  obtain ⟨a, b, xs, ys, ex, hqx, hqy, q⟩ := q1
  subst ex
  cases r1 with
  | cons r rr =>
    cases rr with
    | cons r' rr =>
      cases rr
      cases r
      cases r'
      have fresh5 : ∀ c, c ∈ [s1.heap.objs.size + 4, s1.heap.objs.size + 2, s1.heap.objs.size + 3, s1.heap.objs.size, s1.heap.objs.size + 1] → FpOk X pins H1 c := fun c hcm => by
        have e' : c = s1.heap.objs.size + 4 ∨ c = s1.heap.objs.size + 2 ∨ c = s1.heap.objs.size + 3 ∨ c = s1.heap.objs.size ∨ c = s1.heap.objs.size + 1 := by simpa using hcm
        have hle : s1.heap.objs.size ≤ c := by
          rcases e' with z | z | z | z | z
          · rw [z]; exact Nat.le_add_right _ _
          · rw [z]; exact Nat.le_add_right _ _
          · rw [z]; exact Nat.le_add_right _ _
          · rw [z]; exact Nat.le_refl _
          · rw [z]; exact Nat.le_add_right _ _
        exact I1.fpOk hle (I1.hok.fresh hle)
      obtain ⟨its, rv, p1, la⟩ := sqB_inv I1 hqx
      obtain ⟨its2, rv2, p2, lb⟩ := sqB_inv I1 hqy
      refine zip_begins2 (beginsB t a its.toArray) (beginsB u b its2.toArray) p1 p2 fun h' hz hTI hTO g1 g2 hsz hk => wpAny_pyIter_zip hz ?_
      have I2 : Inv X pins σ H1 { s1 with heap := h' } := I1.kept (t' := s1.toks) hk
      exact ⟨s1.heap.objs.size + 4, [s1.heap.objs.size + 4, s1.heap.objs.size + 2, s1.heap.objs.size + 3, s1.heap.objs.size, s1.heap.objs.size + 1], _, _, H1, rfl, I2, turn_zipB (zip_sep2 (fp1 := [a]) (fp2 := [b]) (fun c hc => by rw [List.mem_singleton.mp hc]; exact la) (fun c hc => by rw [List.mem_singleton.mp hc]; exact lb)), ⟨hz, hTI, ⟨_, _, hTO⟩, iterB_new g1, iterB_new g2⟩, fresh5, q⟩
/-- the items of a thing of a kind -/
def kindB (t : Bool) (ds : List D) : D := match t with
  | true => .tup ds
  | false => .lst ds
theorem kindB_ok {t : Bool} {K : Fz} {M : Mm} {Hf H : Hp} {v : V} {ds : List D} (m : HM K Hf M H) (r : Rp K Hf v (kindB t ds)) : ∃ a vs, v = .ref a ∧ SqB t K H a vs ∧ SqB t K Hf a vs ∧ Rps K Hf vs ds := by
  cases t with
  | true => cases r with
    | tup g1 g2 => exact ⟨_, _, rfl, SqT.of (m.sub _ _ g1), SqT.of g1, g2⟩
  | false => cases r with
    | lst g1 g2 => exact ⟨_, _, rfl, SqL.of (m.sub _ _ g1), SqL.of g1, g2⟩
theorem sqB_go {t : Bool} {K : Fz} {Hf Hf2 H2 : Hp} {M2 : Mm} {a : Addr} {vs : List V} (h : SqB t K Hf a vs) (e : Ext Hf Hf2) (m : HM K Hf2 M2 H2) : SqB t K H2 a vs := by
  cases t with
  | true => exact m.sub.sqT (e.sqT h)
  | false => exact m.sub.sqL (e.sqL h)
theorem itd_zipB {t u : Bool} {K : Fz} {Hf : Hp} {a b : Addr} {vs ws : List V} {ds es : List D} (h1 : SqB t K Hf a vs) (h2 : SqB u K Hf b ws) (r1 : Rps K Hf vs ds) (r2 : Rps K Hf ws es) : ItD K (ItzB t u K a b) ((ds.zip es).map fun p => .tup [p.1, p.2]) Hf where
  go := fun i M2 Hf2 H2 hi e m => by
    rw [List.length_map, List.length_zip] at hi
    have : i < vs.length := by rw [r1.len]; omega
    have : i < ws.length := by rw [r2.len]; omega
    exact ⟨vs, ws, vs[i], ws[i], sqB_go h1 e m, sqB_go h2 e m, List.getElem?_eq_getElem (by omega), List.getElem?_eq_getElem (by omega)⟩
  stop := fun M2 Hf2 H2 e m => ⟨vs, ws, sqB_go h1 e m, sqB_go h2 e m, by rw [List.length_map, List.length_zip, r1.len]; omega, by rw [List.length_map, List.length_zip, r2.len]; omega, by rw [List.length_map, List.length_zip, r1.len, r2.len]; omega⟩
  yld := fun i d M2 Hf2 H2 x H3 hd e m y => by
    obtain ⟨T, u', v', rfl, hT, rfl, g1, g2⟩ := y
    rw [List.getElem?_map] at hd
    cases hz : (ds.zip es)[i]? with
    | none => rw [hz] at hd; cases hd
    | some p =>
      rw [hz] at hd
      cases hd
      obtain ⟨z1, z2⟩ := List.getElem?_zip_eq_some.mp hz
      obtain ⟨u1, k1, k2⟩ := r1.get z1
      obtain ⟨v1, k3, k4⟩ := r2.get z2
      have a1 := g1 vs (sqB_go h1 e m)
      have a2 := g2 ws (sqB_go h2 e m)
      rw [k1] at a1
      rw [k3] at a2
      obtain rfl := Option.some.inj a1
      obtain rfl := Option.some.inj a2
      obtain ⟨e1, m1⟩ := m.newF (o := .tup [u1, v1]) hT
      exact ⟨_, e1, m1, .tup upd_same (.cons ((k2.mono e).mono e1) (.cons ((k4.mono e).mono e1) .nil))⟩
def dItZipB (t u : Bool) (d : DA) : DI := fun ρ M P PX => d ρ M (fun xs M1 => ∃ ds es, xs = [kindB t ds, kindB u es] ∧ P ((ds.zip es).map fun p => .tup [p.1, p.2]) M1) PX
section
variable {X : Cx} {W : WX'} {e a b : Expr} {de : DE} {d : DA} {p pos tpos : Pos} {elts : List Expr} {kk : Nat}
theorem ij_zipB (t u : Bool) (hm : X.mg "zip" = none) (ha : AJ X W [a, b] d) (hg : Gl X "zip" := by rfl) (hs : starEach [a, b] X.env = (false, eval a X.env) :: starEach [b] X.env := by rfl) (hpl : (backTo pos (starEach [b] X.env)).any (·.1) = false := by rfl) :
    IJ X W (.Tuple elts kk tpos) (.Call (.Name "zip" p) [a, b] [] pos) (dItZipB t u d) := pi_weak (pi_zipB t u hg hm ha hs hpl) fun σ H Q ⟨ρ, M, Hf, P, PX, s, d, fe, fx⟩ => ⟨ρ, M, Hf, _, PX, s, d, fun xs M1 vs Hf1 H1 d1 e1 m1 r1 => by
    obtain ⟨ds, es, rfl, p⟩ := d1
    cases r1 with
    | cons h t =>
      cases t with
      | cons h' t =>
        cases t
        obtain ⟨a1, vs1, rfl, s1, s2, r1⟩ := kindB_ok m1 h
        obtain ⟨a2, vs2, rfl, s3, s4, r2⟩ := kindB_ok m1 h'
        exact ⟨_, _, _, _, rfl, s1, s3, fe _ M1 Hf1 H1 p e1 m1 _ (itd_zipB s2 s4 r1 r2)⟩, fx⟩
end
end DL

/-! B: trees that one owner holds; judgements by what is computed -/
namespace B
open PySem PySem.Spec PyProof.Rows L2 DL
/-- a tree that one owner holds: v: it does not change any more -/
inductive O where
  | v (d : D)
  | l (os : List O)
  | k (ks : List Key) (os : List O)
  | t (ks : List (List Key)) (os : List O)
  | o (C : Addr) (fs : List Str) (os : List O)
def Dis (F G : List Addr) : Prop := ∀ a ∈ F, a ∉ G
mutual
inductive OR (M : Mm) : D → O → List Addr → Prop
  | v (x : D) : OR M x (.v x) []
  | l {a : Addr} {ds : List D} {os : List O} {F : List Addr} : M a = some (.lst ds) → ORs M ds os F → a ∉ F → OR M (.ref a) (.l os) (a :: F)
  | k {a : Addr} {ks : List Key} {ds : List D} {os : List O} {F : List Addr} : M a = some (.dct (ks.zip ds)) → ks.length = ds.length → ORs M ds os F → a ∉ F → OR M (.ref a) (.k ks os) (a :: F)
  | t {a : Addr} {ks : List (List Key)} {ds : List D} {os : List O} {F : List Addr} : M a = some (.dtt (ks.zip ds)) → ks.length = ds.length → ORs M ds os F → a ∉ F → OR M (.ref a) (.t ks os) (a :: F)
  | o {a C : Addr} {fs : List Str} {ds : List D} {os : List O} {F : List Addr} : M a = some (.ins C (fs.zip ds)) → fs.length = ds.length → ORs M ds os F → a ∉ F → OR M (.ref a) (.o C fs os) (a :: F)
inductive ORs (M : Mm) : List D → List O → List Addr → Prop
  | nil : ORs M [] [] []
  | cons {d : D} {ds : List D} {o : O} {os : List O} {F G : List Addr} : OR M d o F → ORs M ds os G → Dis F G → ORs M (d :: ds) (o :: os) (F ++ G)
end
section
variable {M M' : Mm}
mutual
theorem OR.fr : ∀ {d : D} {o : O} {F : List Addr}, OR M d o F → (∀ a ∈ F, M' a = M a) → OR M' d o F
  | _, _, _, .v x, _ => .v x
  | _, _, _, .l h r n, e => .l ((e _ List.mem_cons_self).trans h) (ORs.fr r fun a m => e a (List.mem_cons_of_mem _ m)) n
  | _, _, _, .k h l r n, e => .k ((e _ List.mem_cons_self).trans h) l (ORs.fr r fun a m => e a (List.mem_cons_of_mem _ m)) n
  | _, _, _, .t h l r n, e => .t ((e _ List.mem_cons_self).trans h) l (ORs.fr r fun a m => e a (List.mem_cons_of_mem _ m)) n
  | _, _, _, .o h l r n, e => .o ((e _ List.mem_cons_self).trans h) l (ORs.fr r fun a m => e a (List.mem_cons_of_mem _ m)) n
theorem ORs.fr : ∀ {d : List D} {o : List O} {F : List Addr}, ORs M d o F → (∀ a ∈ F, M' a = M a) → ORs M' d o F
  | _, _, _, .nil, _ => .nil
  | _, _, _, .cons h r n, e => .cons (OR.fr h fun a m => e a (List.mem_append_left _ m)) (ORs.fr r fun a m => e a (List.mem_append_right _ m)) n
end
mutual
theorem OR.al : ∀ {d : D} {o : O} {F : List Addr}, OR M d o F → ∀ a ∈ F, M a ≠ none
  | _, _, _, .v x, _, m => nomatch m
  | _, _, _, .l h r n, a, m => (List.mem_cons.mp m).elim (fun e z => by rw [e, h] at z; cases z) fun m => ORs.al r a m
  | _, _, _, .k h l r n, a, m => (List.mem_cons.mp m).elim (fun e z => by rw [e, h] at z; cases z) fun m => ORs.al r a m
  | _, _, _, .t h l r n, a, m => (List.mem_cons.mp m).elim (fun e z => by rw [e, h] at z; cases z) fun m => ORs.al r a m
  | _, _, _, .o h l r n, a, m => (List.mem_cons.mp m).elim (fun e z => by rw [e, h] at z; cases z) fun m => ORs.al r a m
theorem ORs.al : ∀ {d : List D} {o : List O} {F : List Addr}, ORs M d o F → ∀ a ∈ F, M a ≠ none
  | _, _, _, .nil, _, m => nomatch m
  | _, _, _, .cons h r n, a, m => (List.mem_append.mp m).elim (OR.al h a) (ORs.al r a)
end
theorem ORs.len : ∀ {d : List D} {o : List O} {F : List Addr}, ORs M d o F → d.length = o.length
  | _, _, _, .nil => rfl
  | _, _, _, .cons h r n => congrArg Nat.succ (ORs.len r)
theorem Dis.symm {F G : List Addr} (h : Dis F G) : Dis G F := fun a m n => h a n m
theorem Dis.nil {G : List Addr} : Dis [] G := fun _ m => nomatch m
theorem Dis.nil' {G : List Addr} : Dis G [] := fun _ _ m => nomatch m
theorem Dis.sub {F G F' G' : List Addr} (h : Dis F G) (a : ∀ x ∈ F', x ∈ F) (b : ∀ x ∈ G', x ∈ G) : Dis F' G' := fun x m n => h x (a x m) (b x n)
theorem Dis.app {F G K : List Addr} (h : Dis F K) (k : Dis G K) : Dis (F ++ G) K := fun a m => (List.mem_append.mp m).elim (h a) (k a)
theorem Dis.app' {F G K : List Addr} (h : Dis K F) (k : Dis K G) : Dis K (F ++ G) := (h.symm.app k.symm).symm
/-- in two parts -/
theorem ORs.cat : ∀ {d e : List D} {o p : List O} {F G : List Addr}, ORs M d o F → ORs M e p G → Dis F G → ORs M (d ++ e) (o ++ p) (F ++ G)
  | _, _, _, _, _, _, .nil, s, _ => s
  | _, _, _, _, _, _, .cons (F := F) (G := G) h r n, s, k => by
    rw [List.append_assoc]
    exact .cons h (ORs.cat r s (k.sub (fun x m => List.mem_append_right _ m) fun _ m => m)) (n.app' (k.sub (fun x m => List.mem_append_left _ m) fun _ m => m))
theorem ORs.cut : ∀ {o p : List O} {x : List D} {F : List Addr}, ORs M x (o ++ p) F → ∃ d e F1 F2, x = d ++ e ∧ F = F1 ++ F2 ∧ ORs M d o F1 ∧ ORs M e p F2 ∧ Dis F1 F2
  | [], _, x, F, h => ⟨[], x, [], F, rfl, rfl, .nil, h, Dis.nil⟩
  | _ :: o, p, _, _, .cons (F := F) (G := G) h r n => by
    obtain ⟨d, e, F1, F2, rfl, rfl, h1, h2, h3⟩ := ORs.cut (o := o) r
    exact ⟨_ :: d, e, F ++ F1, F2, rfl, by rw [List.append_assoc], .cons h h1 (n.sub (fun _ m => m) fun _ m => List.mem_append_left _ m), h2, (n.sub (fun _ m => m) fun _ m => List.mem_append_right _ m).app h3⟩
theorem ORs.cut2 {o p : List O} {d e : List D} {F : List Addr} (h : ORs M (d ++ e) (o ++ p) F) (hl : d.length = o.length) : ∃ F1 F2, F = F1 ++ F2 ∧ ORs M d o F1 ∧ ORs M e p F2 ∧ Dis F1 F2 := by
  obtain ⟨d', e', F1, F2, e1, rfl, h1, h2, h3⟩ := h.cut
  have := List.append_inj e1 (hl.trans h1.len.symm)
  obtain ⟨rfl, rfl⟩ := this
  exact ⟨F1, F2, rfl, h1, h2, h3⟩
/-- things that do not change -/
theorem ORs.vs : ∀ {ds : List D}, ORs M ds (ds.map .v) []
  | [] => .nil
  | d :: ds => .cons (F := []) (G := []) (.v d) ORs.vs Dis.nil
theorem ORs.ofVs : ∀ {xs ds : List D} {F : List Addr}, ORs M xs (ds.map .v) F → xs = ds ∧ F = []
  | _, [], _, .nil => ⟨rfl, rfl⟩
  | _, d :: ds, _, .cons h r n => by
    cases h
    obtain ⟨rfl, rfl⟩ := ORs.ofVs r
    exact ⟨rfl, rfl⟩
theorem OR.ofV {d x : D} {F : List Addr} (h : OR M d (.v x) F) : d = x ∧ F = [] := by
  cases h
  exact ⟨rfl, rfl⟩
end

theorem zip_inj {α β : Type} : ∀ {ks : List α} {a b : List β}, ks.length = a.length → ks.length = b.length → ks.zip a = ks.zip b → a = b
  | [], [], [], _, _, _ => rfl
  | k :: ks, x :: a, y :: b, h1, h2, h => by
    rw [List.zip_cons_cons, List.zip_cons_cons] at h
    have e1 := (List.cons.inj h).1
    have e2 := (List.cons.inj h).2
    rw [(Prod.mk.inj e1).2, zip_inj (Nat.succ.inj h1) (Nat.succ.inj h2) e2]
section
variable {M : Mm}
mutual
theorem OR.uq : ∀ {d : D} {o : O} {F G : List Addr}, OR M d o F → OR M d o G → F = G
  | _, .v _, _, _, .v x, h => h.ofV.2.symm
  | _, .l _, _, _, .l h r n, .l h' r' n' => by
    rw [h] at h'
    cases h'
    rw [ORs.uq r r']
  | _, .k _ _, _, _, .k h l r n, .k h' l' r' n' => by
    rw [h] at h'
    have := zip_inj l l' (MO.dct.inj (Option.some.inj h'))
    subst this
    rw [ORs.uq r r']
  | _, .t _ _, _, _, .t h l r n, .t h' l' r' n' => by
    rw [h] at h'
    have := zip_inj l l' (MO.dtt.inj (Option.some.inj h'))
    subst this
    rw [ORs.uq r r']
  | _, .o _ _ _, _, _, .o h l r n, .o h' l' r' n' => by
    rw [h] at h'
    have := zip_inj l l' (MO.ins.inj (Option.some.inj h')).2
    subst this
    rw [ORs.uq r r']
theorem ORs.uq : ∀ {d : List D} {o : List O} {F G : List Addr}, ORs M d o F → ORs M d o G → F = G
  | _, _, _, _, .nil, .nil => rfl
  | _, _, _, _, .cons h r n, .cons h' r' n' => by rw [OR.uq h h', ORs.uq r r']
end
end

/-! ### slots -/
abbrev Env := List (Option O)
def gE : Env → Nat → Option O
  | [], _ => none
  | o :: _, 0 => o
  | _ :: E, i + 1 => gE E i
def sE : Env → Nat → Option O → Env
  | [], 0, o => [o]
  | [], i + 1, o => none :: sE [] i o
  | _ :: E, 0, o => o :: E
  | x :: E, i + 1, o => x :: sE E i o
theorem gE_same : ∀ (E : Env) (i : Nat) (o : Option O), gE (sE E i o) i = o
  | [], 0, _ => rfl
  | [], i + 1, o => gE_same [] i o
  | _ :: _, 0, _ => rfl
  | _ :: E, i + 1, o => gE_same E i o
theorem gE_nil (i : Nat) : gE [] i = none := by cases i <;> rfl
theorem gE_ne : ∀ (E : Env) (i j : Nat) (o : Option O), i ≠ j → gE (sE E i o) j = gE E j
  | [], 0, 0, _, h => absurd rfl h
  | [], 0, j + 1, _, _ => by rw [gE_nil]; exact gE_nil j
  | [], i + 1, 0, _, _ => rfl
  | [], i + 1, j + 1, o, h => by
    show gE (sE [] i o) j = none
    rw [gE_ne [] i j o fun z => h (congrArg Nat.succ z), gE_nil]
  | _ :: _, 0, 0, _, h => absurd rfl h
  | _ :: _, 0, _ + 1, _, _ => rfl
  | _ :: _, _ + 1, 0, _, _ => rfl
  | _ :: E, i + 1, j + 1, o, h => gE_ne E i j o fun z => h (congrArg Nat.succ z)
/-- less is known -/
def LeE (E E' : Env) : Prop := ∀ i o, gE E i = some o → gE E' i = some o
theorem LeE.refl (E : Env) : LeE E E := fun _ _ h => h
def leE : Env → Env → Prop
  | [], _ => True
  | none :: E, [] => leE E []
  | some _ :: _, [] => False
  | none :: E, _ :: E' => leE E E'
  | some o :: E, o' :: E' => o' = some o ∧ leE E E'
theorem leE_ok : ∀ {E E' : Env}, leE E E' → LeE E E'
  | [], _, _, i, _, h => by rw [gE_nil] at h; cases h
  | none :: E, [], h, i, o, e => by
    cases i with
    | zero => cases e
    | succ i =>
      have := leE_ok (E := E) (E' := []) h i o e
      rw [gE_nil] at this
      cases this
  | some _ :: _, [], h, _, _, _ => h.elim
  | none :: E, _ :: E', h, i, o, e => by
    cases i with
    | zero => cases e
    | succ i => exact leE_ok (E := E) (E' := E') h i o e
  | some o :: E, o' :: E', h, i, p, e => by
    cases i with
    | zero => exact h.1.trans e
    | succ i => exact leE_ok (E := E) (E' := E') h.2 i p e

structure RelW (E : Env) (ρ : Ev) (B M : Mm) (pd : List D) (po : List O) (φ : Nat → List Addr) (F : List Addr) : Prop where
  val : ∀ i o, gE E i = some o → ∃ d, ρ i = some d ∧ OR M d o (φ i)
  emp : ∀ i, gE E i = none → φ i = []
  pen : ORs M pd po F
  dis : ∀ i j, i ≠ j → Dis (φ i) (φ j)
  dsp : ∀ i, Dis (φ i) F
  bas : ∀ a mo, B a = some mo → M a = some mo ∧ a ∉ F ∧ ∀ i, a ∉ φ i
def Rel (E : Env) (ρ : Ev) (B M : Mm) (pd : List D) (po : List O) : Prop := ∃ φ F, RelW E ρ B M pd po φ F
section
variable {E E' : Env} {ρ : Ev} {B M M' : Mm} {pd ds : List D} {po os : List O} {d x : D} {o : O} {i : Nat}
theorem Rel.v (x : D) (r : Rel E ρ B M pd po) : Rel E ρ B M (x :: pd) (.v x :: po) := by
  obtain ⟨φ, F, r⟩ := r
  exact ⟨φ, F, r.val, r.emp, .cons (.v x) r.pen Dis.nil, r.dis, r.dsp, r.bas⟩
theorem Rel.vs : ∀ (ds : List D) (r : Rel E ρ B M pd po), Rel E ρ B M (ds ++ pd) (ds.map .v ++ po)
  | [], r => r
  | d :: ds, r => (Rel.vs ds r).v d
theorem Rel.ofV (r : Rel E ρ B M (d :: pd) (.v x :: po)) : d = x ∧ Rel E ρ B M pd po := by
  obtain ⟨φ, F, r⟩ := r
  have h := r.pen
  cases h with
  | cons h t n =>
    cases h
    exact ⟨rfl, φ, _, r.val, r.emp, t, r.dis, r.dsp, r.bas⟩
theorem Rel.get (r : Rel E ρ B M pd po) (h : gE E i = some (.v x)) : ρ i = some x := by
  obtain ⟨φ, F, r⟩ := r
  obtain ⟨d, h1, h2⟩ := r.val i _ h
  rw [h1, h2.ofV.1]
theorem Rel.drop (r : Rel E ρ B M (ds ++ pd) (os ++ po)) (hl : ds.length = os.length) : Rel E ρ B M pd po := by
  obtain ⟨φ, F, r⟩ := r
  obtain ⟨F1, F2, rfl, h1, h2, h3⟩ := r.pen.cut2 hl
  exact ⟨φ, F2, r.val, r.emp, h2, r.dis, fun i => (r.dsp i).sub (fun _ m => m) fun _ m => List.mem_append_right _ m, fun a mo h => ⟨(r.bas a mo h).1, fun m => (r.bas a mo h).2.1 (List.mem_append_right _ m), (r.bas a mo h).2.2⟩⟩
theorem Rel.drop1 (r : Rel E ρ B M (d :: pd) (o :: po)) : Rel E ρ B M pd po := Rel.drop (ds := [d]) (os := [o]) r rfl
theorem Rel.le (r : Rel E ρ B M pd po) (h : LeE E' E) : Rel E' ρ B M pd po := by
  obtain ⟨φ, F, r⟩ := r
  refine ⟨fun i => if (gE E' i).isSome then φ i else [], F, fun i o e => ?_, fun i e => ?_, r.pen, fun i j n => ?_, fun i => ?_, fun a mo e => ⟨(r.bas a mo e).1, (r.bas a mo e).2.1, fun i m => ?_⟩⟩
  · obtain ⟨d, h1, h2⟩ := r.val i o (h i o e)
    refine ⟨d, h1, ?_⟩
    rw [e]
    exact h2
  · rw [e]
    rfl
  · refine (r.dis i j n).sub (fun x m => ?_) fun x m => ?_
    · split at m
      · exact m
      · cases m
    · split at m
      · exact m
      · cases m
  · refine (r.dsp i).sub (fun x m => ?_) fun x m => m
    split at m
    · exact m
    · cases m
  · split at m
    · exact (r.bas a mo e).2.2 i m
    · cases m
/-- a slot gets what came last -/
theorem Rel.set (r : Rel E ρ B M (d :: pd) (o :: po)) (i : Nat) : Rel (sE E i (some o)) (st ρ i (some d)) B M pd po := by
  obtain ⟨φ, F, r⟩ := r
  have h := r.pen
  cases h with
  | cons h t n =>
    rename_i F1 F2
    refine ⟨fun j => if j = i then F1 else φ j, F2, fun j p e => ?_, fun j e => ?_, t, fun j l nn => ?_, fun j => ?_, fun a mo e => ⟨(r.bas a mo e).1, fun m => (r.bas a mo e).2.1 (List.mem_append_right _ m), fun j m => ?_⟩⟩
    · by_cases z : j = i
      · subst z
        rw [gE_same] at e
        cases e
        rw [if_pos rfl]
        exact ⟨d, gt_same ρ j _, h⟩
      · rw [gE_ne _ _ _ _ (fun y => z y.symm)] at e
        rw [if_neg z]
        obtain ⟨d', h1, h2⟩ := r.val j p e
        exact ⟨d', (gt_ne ρ i j _ fun y => z y.symm).trans h1, h2⟩
    · by_cases z : j = i
      · subst z
        rw [gE_same] at e
        cases e
      · rw [gE_ne _ _ _ _ (fun y => z y.symm)] at e
        rw [if_neg z]
        exact r.emp j e
    · have a1 : ∀ k, Dis F1 (φ k) := fun k => ((r.dsp k).sub (fun _ m => m) fun _ m => List.mem_append_left _ m).symm
      show Dis (if j = i then F1 else φ j) (if l = i then F1 else φ l)
      by_cases z : j = i
      · rw [if_pos z, if_neg (fun y => nn (z.trans y.symm))]
        exact a1 l
      · rw [if_neg z]
        by_cases y : l = i
        · rw [if_pos y]
          exact (a1 j).symm
        · rw [if_neg y]
          exact r.dis j l nn
    · show Dis (if j = i then F1 else φ j) F2
      by_cases z : j = i
      · rw [if_pos z]
        exact n
      · rw [if_neg z]
        exact (r.dsp j).sub (fun _ m => m) fun _ m => List.mem_append_right _ m
    · by_cases z : j = i
      · rw [if_pos z] at m
        exact (r.bas a mo e).2.1 (List.mem_append_left _ m)
      · rw [if_neg z] at m
        exact (r.bas a mo e).2.2 j m
/-- what a slot holds is taken out of it -/
theorem Rel.mov (r : Rel E ρ B M pd po) (h : gE E i = some o) : ∃ d, ρ i = some d ∧ Rel (sE E i none) ρ B M (d :: pd) (o :: po) := by
  obtain ⟨φ, F, r⟩ := r
  obtain ⟨d, h1, h2⟩ := r.val i _ h
  refine ⟨d, h1, fun j => if j = i then [] else φ j, φ i ++ F, fun j p e => ?_, fun j e => ?_, .cons h2 r.pen (r.dsp i), fun j l nn => ?_, fun j => ?_, fun a mo e => ⟨(r.bas a mo e).1, fun m => ?_, fun j m => ?_⟩⟩
  · by_cases z : j = i
    · subst z
      rw [gE_same] at e
      cases e
    · rw [gE_ne _ _ _ _ (fun y => z y.symm)] at e
      rw [if_neg z]
      exact r.val j p e
  · by_cases z : j = i
    · rw [if_pos z]
    · rw [gE_ne _ _ _ _ (fun y => z y.symm)] at e
      rw [if_neg z]
      exact r.emp j e
  · show Dis (if j = i then [] else φ j) (if l = i then [] else φ l)
    by_cases z : j = i
    · rw [if_pos z]
      exact Dis.nil
    · rw [if_neg z]
      by_cases y : l = i
      · rw [if_pos y]
        exact Dis.nil'
      · rw [if_neg y]
        exact r.dis j l nn
  · show Dis (if j = i then [] else φ j) _
    by_cases z : j = i
    · rw [if_pos z]
      exact Dis.nil
    · rw [if_neg z]
      exact (r.dis j i z).app' (r.dsp j)
  · exact (List.mem_append.mp m).elim ((r.bas a mo e).2.2 i) (r.bas a mo e).2.1
  · by_cases z : j = i
    · rw [if_pos z] at m
      cases m
    · rw [if_neg z] at m
      exact (r.bas a mo e).2.2 j m
theorem st_id {ρ : Ev} {i : Nat} {d : D} (h : ρ i = some d) : st ρ i (some d) = ρ := by
  funext j
  by_cases z : j = i
  · subst z
    exact (gt_same ρ j _).trans h.symm
  · exact gt_ne ρ i j _ fun y => z y.symm
/-- .. and back -/
theorem Rel.back (r : Rel E ρ B M (d :: pd) (o :: po)) (h : ρ i = some d) : Rel (sE E i (some o)) ρ B M pd po := by
  have := r.set i
  rwa [st_id h] at this
theorem gE_set2 (E : Env) (i : Nat) (o p : Option O) (j : Nat) : gE (sE (sE E i o) i p) j = gE (sE E i p) j := by
  by_cases z : i = j
  · subst z
    rw [gE_same, gE_same]
  · rw [gE_ne _ _ _ _ z, gE_ne _ _ _ _ z, gE_ne _ _ _ _ z]
theorem Rel.set2 {p : Option O} {q : Option O} (r : Rel (sE (sE E i p) i q) ρ B M pd po) : Rel (sE E i q) ρ B M pd po := r.le fun j o e => by rw [gE_set2]; exact e
/-- the store changed elsewhere, or grew -/
theorem Rel.mem (r : Rel E ρ B M pd po) (h : ∀ a mo, M a = some mo → M' a = some mo) : Rel E ρ B M' pd po := by
  obtain ⟨φ, F, r⟩ := r
  have k : ∀ a, M a ≠ none → M' a = M a := fun a n => by
    cases q : M a with
    | none => exact absurd q n
    | some mo => exact h a mo q
  refine ⟨φ, F, fun i o e => ?_, r.emp, r.pen.fr fun a m => k a (r.pen.al a m), r.dis, r.dsp, fun a mo e => ⟨h a mo (r.bas a mo e).1, (r.bas a mo e).2⟩⟩
  obtain ⟨d, h1, h2⟩ := r.val i o e
  exact ⟨d, h1, h2.fr fun a m => k a (h2.al a m)⟩
/-- what came last is another thing now; all else stays -/
theorem Rel.chg (r : Rel E ρ B M (ds ++ pd) (os ++ po)) (hl : ds.length = os.length) (ds' : List D) (os' : List O)
    (h : ∀ F, ORs M ds os F → ∃ F', ORs M' ds' os' F' ∧ (∀ b, M b ≠ none → b ∉ F → M' b = M b) ∧ ∀ b ∈ F', b ∈ F ∨ M b = none) : Rel E ρ B M' (ds' ++ pd) (os' ++ po) := by
  obtain ⟨φ, F, r⟩ := r
  obtain ⟨F1, F2, rfl, h1, h2, h3⟩ := r.pen.cut2 hl
  obtain ⟨F', g1, g2, g3⟩ := h F1 h1
  have k2 : ∀ a ∈ F2, M' a = M a := fun a m => g2 a (h2.al a m) (h3.symm a m)
  have kφ : ∀ i, ∀ a ∈ φ i, M' a = M a := fun i a m => by
    cases q : gE E i with
    | none => rw [r.emp i q] at m; cases m
    | some o =>
      obtain ⟨d, _, t⟩ := r.val i o q
      exact g2 a (t.al a m) fun z => r.dsp i a m (List.mem_append_left _ z)
  have aφ : ∀ i, ∀ a ∈ φ i, M a ≠ none := fun i a m => by
    cases q : gE E i with
    | none => rw [r.emp i q] at m; cases m
    | some o =>
      obtain ⟨d, _, t⟩ := r.val i o q
      exact t.al a m
  refine ⟨φ, F' ++ F2, fun i o e => ?_, r.emp, g1.cat (h2.fr k2) ?_, r.dis, fun i => Dis.app' (fun a m n => ?_) ((r.dsp i).sub (fun _ m => m) fun _ m => List.mem_append_right _ m), fun a mo e => ?_⟩
  · obtain ⟨d, h1, t⟩ := r.val i o e
    exact ⟨d, h1, t.fr (kφ i)⟩
  · intro a m n
    rcases g3 a m with z | z
    · exact h3 a z n
    · exact h2.al a n z
  · rcases g3 a n with z | z
    · exact r.dsp i a m (List.mem_append_left _ z)
    · exact aφ i a m z
  · obtain ⟨b1, b2, b3⟩ := r.bas a mo e
    have : M a ≠ none := by rw [b1]; exact fun z => by cases z
    refine ⟨(g2 a this fun z => b2 (List.mem_append_left _ z)).trans b1, fun m => ?_, b3⟩
    rcases List.mem_append.mp m with m | m
    · rcases g3 a m with z | z
      · exact b2 (List.mem_append_left _ z)
      · exact this z
    · exact b2 (List.mem_append_right _ m)
end
end B

/-! B: judgements, values, operators -/
namespace B
open PySem PySem.Spec PyProof.Rows L2 DL
/-- all readings of an expression together -/
def bE (X : Cx) (W : WX') (e : Expr) : DE := fun ρ M P PX => ∃ d : DE, EJ X W e d ∧ d ρ M P PX
theorem bE_j {X : Cx} {W : WX'} {e : Expr} : EJ X W e (bE X W e) :=
  ⟨fun pins s σ H Q I ⟨ρ, M, Hf, P, PX, sr, ⟨d, j, h⟩, fe, fx⟩ => j.run pins s σ H Q I ⟨ρ, M, Hf, P, PX, sr, h, fe, fx⟩⟩
def bT (X : Cx) (W : WX') (e : Expr) : DT := fun ρ M P PX => ∃ d : DT, TJ X W e d ∧ d ρ M P PX
theorem bT_j {X : Cx} {W : WX'} {e : Expr} : TJ X W e (bT X W e) :=
  ⟨fun pins s σ H Q I ⟨ρ, M, Hf, P, PX, sr, ⟨d, j, h⟩, fe, fx⟩ => j.run pins s σ H Q I ⟨ρ, M, Hf, P, PX, sr, h, fe, fx⟩⟩
def bA (X : Cx) (W : WX') (e : List Expr) : DA := fun ρ M P PX => ∃ d : DA, AJ X W e d ∧ d ρ M P PX
theorem bA_j {X : Cx} {W : WX'} {e : List Expr} : AJ X W e (bA X W e) :=
  ⟨fun pos pins s σ H Q I ⟨ρ, M, Hf, P, PX, sr, ⟨d, j, h⟩, fe, fx⟩ => j.run pos pins s σ H Q I ⟨ρ, M, Hf, P, PX, sr, h, fe, fx⟩⟩
def bS (X : Cx) (W : WX') (e : Stmt) : DS := fun DD ρ M => ∃ d : DS, SJ X W e d ∧ d DD ρ M
theorem bS_j {X : Cx} {W : WX'} {e : Stmt} : SJ X W e (bS X W e) :=
  ⟨fun pins s σ H Q I ⟨ρ, M, Hf, DD, sr, ⟨d, j, h⟩, f⟩ => j.run pins s σ H Q I ⟨ρ, M, Hf, DD, sr, h, f⟩⟩
def bB (X : Cx) (W : WX') (e : List Stmt) : DS := fun DD ρ M => ∃ d : DS, BJ X W e d ∧ d DD ρ M
theorem bB_j {X : Cx} {W : WX'} {e : List Stmt} : BJ X W e (bB X W e) :=
  ⟨fun pins s σ H Q I ⟨ρ, M, Hf, DD, sr, ⟨d, j, h⟩, f⟩ => j.run pins s σ H Q I ⟨ρ, M, Hf, DD, sr, h, f⟩⟩

/-- the tree of a thing -/
def VM (M : Mm) (d : D) (o : O) : Prop := ∃ F, OR M d o F
theorem VM.v {M : Mm} (x : D) : VM M x (.v x) := ⟨[], .v x⟩
theorem VM.ofV {M : Mm} {d x : D} (h : VM M d (.v x)) : d = x := let ⟨_, h⟩ := h; h.ofV.1

/-- what raises is wanted: class, fields, slots, what is computed -/
abbrev Xi (α : Type) := Addr → List (Str × D) → Env → Option α → Prop
/-- e, read alone: nothing changes -/
def BK {α : Type} (X : Cx) (W : WX') (e : Expr) (E : Env) (κ : O → Option α → Prop) (m : Option α) : Prop :=
  ∀ fin ρ B M pd po P PX, Rel E ρ B M pd po → m = some fin → (∀ o m' d, κ o m' → m' = some fin → VM M d o → P d M) → bE X W e ρ M P PX
/-- e: its value, the slots behind it -/
def EK {α : Type} (X : Cx) (W : WX') (e : Expr) (E : Env) (κ : O → Env → Option α → Prop) (ξ : Xi α) (m : Option α) : Prop :=
  ∀ fin ρ B M pd po P PX, Rel E ρ B M pd po → m = some fin →
    (∀ o E' m' d M', κ o E' m' → m' = some fin → Rel E' ρ B M' (d :: pd) (o :: po) → P d M') →
    (∀ C fs E' m' M', ξ C fs E' m' → m' = some fin → Rel E' ρ B M' pd po → PX C fs M') → bE X W e ρ M P PX
/-- arguments, each with the slot that it was taken from -/
def AK {α : Type} (X : Cx) (W : WX') (es : List Expr) (E : Env) (κ : List (Option Nat × O) → Env → Option α → Prop) (ξ : Xi α) (m : Option α) : Prop :=
  ∀ fin ρ B M pd po P PX, Rel E ρ B M pd po → m = some fin →
    (∀ os E' m' ds M', κ os E' m' → m' = some fin → Rel E' ρ B M' (ds ++ pd) (os.map (·.2) ++ po) → ds.length = os.length → (∀ (j i : Nat) (o : O), os[j]? = some (some i, o) → ρ i = ds[j]?) → P ds M') →
    (∀ C fs E' m' M', ξ C fs E' m' → m' = some fin → Rel E' ρ B M' pd po → PX C fs M') → bA X W es ρ M P PX
/-- a test -/
def TK {α : Type} (X : Cx) (W : WX') (e : Expr) (E : Env) (κ : Bool → Env → Option α → Prop) (ξ : Xi α) (m : Option α) : Prop :=
  ∀ fin ρ B M pd po P PX, Rel E ρ B M pd po → m = some fin →
    (∀ b E' m' M', κ b E' m' → m' = some fin → Rel E' ρ B M' pd po → P b M') →
    (∀ C fs E' m' M', ξ C fs E' m' → m' = some fin → Rel E' ρ B M' pd po → PX C fs M') → bT X W e ρ M P PX
/-- where statements lead -/
structure Tg (α : Type) where
  nx : Env → Option α → Prop := fun _ _ => False
  rt : O → Env → Option α → Prop := fun _ _ _ => False
  bk : Env → Option α → Prop := fun _ _ => False
  ct : Env → Option α → Prop := fun _ _ => False
  ex : Xi α := fun _ _ _ _ => False
/-- kp: the slots that hold what the caller lent -/
structure Acc {α : Type} (kp : List Nat) (ρ : Ev) (T : Tg α) (fin : α) (B : Mm) (DD : DEnds) : Prop where
  nx : ∀ E' m' ρ' M', T.nx E' m' → m' = some fin → Rel E' ρ' B M' [] [] → (∀ j ∈ kp, ρ' j = ρ j) → DD.nx ρ' M'
  rt : ∀ o E' m' ρ' d M', T.rt o E' m' → m' = some fin → Rel E' ρ' B M' [d] [o] → (∀ j ∈ kp, ρ' j = ρ j) → DD.rt d M'
  bk : ∀ E' m' ρ' M', T.bk E' m' → m' = some fin → Rel E' ρ' B M' [] [] → (∀ j ∈ kp, ρ' j = ρ j) → DD.bk ρ' M'
  ct : ∀ E' m' ρ' M', T.ct E' m' → m' = some fin → Rel E' ρ' B M' [] [] → (∀ j ∈ kp, ρ' j = ρ j) → DD.ct ρ' M'
  ex : ∀ C fs E' m' ρ' M', T.ex C fs E' m' → m' = some fin → Rel E' ρ' B M' [] [] → (∀ j ∈ kp, ρ' j = ρ j) → DD.ex ρ' C fs M'
def SK {α : Type} (X : Cx) (W : WX') (kp : List Nat) (s : Stmt) (E : Env) (T : Tg α) (m : Option α) : Prop :=
  ∀ fin ρ B M DD, Rel E ρ B M [] [] → m = some fin → Acc kp ρ T fin B DD → bS X W s DD ρ M
def LK {α : Type} (X : Cx) (W : WX') (kp : List Nat) (s : List Stmt) (E : Env) (T : Tg α) (m : Option α) : Prop :=
  ∀ fin ρ B M DD, Rel E ρ B M [] [] → m = some fin → Acc kp ρ T fin B DD → bB X W s DD ρ M

/-! ### between the judgements -/
section
variable {α : Type} {X : Cx} {W : WX'} {e a b : Expr} {E : Env} {κ : O → Option α → Prop} {κE : O → Env → Option α → Prop} {κT : Bool → Env → Option α → Prop} {ξ : Xi α} {m : Option α} {pos : Pos}
theorem ek_b (h : BK X W e E (fun o m' => ∃ x, o = .v x ∧ κE (.v x) E m') m) : EK X W e E κE ξ m := fun fin ρ B M pd po P PX r hm hp hx =>
  h fin ρ B M pd po P PX r hm fun o m' d ⟨x, e, k⟩ hm' v => by
    subst e
    rw [v.ofV]
    exact hp _ _ _ _ _ k hm' (r.v x)
/-- by its reading -/
theorem bk_of {d : DE} (j : EJ X W e d) (h : ∀ fin ρ B M pd po P PX, Rel E ρ B M pd po → m = some fin → (∀ o m' d, κ o m' → m' = some fin → VM M d o → P d M) → d ρ M P PX) : BK X W e E κ m :=
  fun fin ρ B M pd po P PX r hm hp => ⟨d, j, h fin ρ B M pd po P PX r hm hp⟩
theorem bk_c {x : D} (j : EJ X W e (dC x)) (k : κ (.v x) m) : BK X W e E κ m := bk_of j fun fin ρ B M pd po P PX r hm hp => hp _ _ _ k hm (VM.v x)
theorem bk_int {i : Int} {j} (k : κ (.v (.int i)) m) : BK X W (.Constant (.int i) j pos) E κ m := bk_c ej_int k
theorem bk_bl {i : Bool} {j} (k : κ (.v (.bl i)) m) : BK X W (.Constant (.bool i) j pos) E κ m := bk_c ej_bl k
theorem bk_non {j} (k : κ (.v .non) m) : BK X W (.Constant .none j pos) E κ m := bk_c ej_non k
theorem bk_str {i : Str} {j} (k : κ (.v (.str i)) m) : BK X W (.Constant (.str i) j pos) E κ m := bk_c ej_str k
theorem bk_gI {x : Str} {i : Int} {t : Tok} (hg : Gl X x) (hm : X.mg x = some (.int i t)) (k : κ (.v (.int i)) m) (hd : (x == ("__debug__" : Str)) = false := by decide) : BK X W (.Name x pos) E κ m := bk_c (ej_globI hg hm hd) k
theorem bk_gS {x : Str} {i : Str} {t : Tok} (hg : Gl X x) (hm : X.mg x = some (.str i t)) (k : κ (.v (.str i)) m) (hd : (x == ("__debug__" : Str)) = false := by decide) : BK X W (.Name x pos) E κ m := bk_c (ej_globS hg hm hd) k
theorem bk_var (i : Nat) {x : Str} {o : O} (k : κ o m) (hE : gE E i = some o := by rfl) (hN : X.N[i]? = some x := by rfl) (hv : Vis X.env.scope x := by first | exact Or.inl rfl | exact Or.inr (Or.inl rfl) | exact Or.inr (Or.inr rfl))
    (hd : (x == ("__debug__" : Str)) = false := by decide) (hcd : (x == ("__classdict__" : Str)) = false := by decide) : BK X W (.Name x pos) E κ m :=
  bk_of (ej_var i hN hv hd hcd) fun fin ρ B M pd po P PX r hm hp => by
    obtain ⟨φ, F, w⟩ := r
    obtain ⟨d, h1, h2⟩ := w.val i o hE
    unfold dVar
    rw [show gt ρ i = some d from h1]
    exact hp o m d k hm ⟨_, h2⟩
end

/-! ### operators -/
section
variable {α : Type} {X : Cx} {W : WX'} {e a b : Expr} {E : Env} {κ : O → Option α → Prop} {κE : O → Env → Option α → Prop} {ξ : Xi α} {m : Option α} {pos : Pos} {rD : RD2}
/-- one step of an operator: its value, what is computed behind it -/
def RK2 (rD : RD2) (o p : O) (κ : D → Option α → Prop) (m : Option α) : Prop :=
  ∀ fin, m = some fin → ∃ z m', κ z m' ∧ m' = some fin ∧ ∀ M d e P, VM M d o → VM M e p → P z M → rD d e M P
theorem bk_op (h : ∀ da db, EJ X W a da → EJ X W b db → EJ X W e (dOp rD da db)) (k : BK X W a E (fun o m1 => BK X W b E (fun p m2 => RK2 rD o p (fun z m3 => κ (.v z) m3) m2) m1) m) : BK X W e E κ m :=
  bk_of (h _ _ bE_j bE_j) fun fin ρ B M pd po P PX r hm hp => k fin ρ B M pd po _ PX r hm fun o m1 d k1 hm1 v1 => k1 fin ρ B M pd po _ PX r hm1 fun p m2 d2 k2 hm2 v2 => by
    obtain ⟨z, m3, k3, hm3, q⟩ := k2 fin hm2
    exact q M d d2 P v1 v2 (hp _ _ _ k3 hm3 (VM.v z))
theorem Rel.top {E : Env} {ρ : Ev} {B M : Mm} {d : D} {o : O} {pd : List D} {po : List O} (r : Rel E ρ B M (d :: pd) (o :: po)) : VM M d o := by
  obtain ⟨φ, F, w⟩ := r
  cases w.pen with
  | cons h _ _ => exact ⟨_, h⟩
theorem ek_op (h : ∀ da db, EJ X W a da → EJ X W b db → EJ X W e (dOp rD da db)) (k : EK X W a E (fun o E1 m1 => EK X W b E1 (fun p E2 m2 => RK2 rD o p (fun z m3 => κE (.v z) E2 m3) m2) ξ m1) ξ m) : EK X W e E κE ξ m :=
  fun fin ρ B M pd po P PX r hm hp hx => ⟨_, h _ _ bE_j bE_j, k fin ρ B M pd po _ PX r hm (fun o E1 m1 d M1 k1 hm1 r1 => k1 fin ρ B M1 _ _ _ PX r1 hm1 (fun p E2 m2 d2 M2 k2 hm2 r2 => by
    obtain ⟨z, m3, k3, hm3, q⟩ := k2 fin hm2
    exact q M2 d d2 P r2.drop1.top r2.top (hp _ _ _ _ _ k3 hm3 (r2.drop1.drop1.v z))) fun C fs E' m' M' x hm' r' => hx C fs E' m' M' x hm' r'.drop1) hx⟩
end
section
variable {α : Type} {κ : D → Option α → Prop} {m : Option α}
/-- one that is always there -/
theorem rk_tot {rD : RD2} {o p : O} (z : D) (h : ∀ M d e P, VM M d o → VM M e p → P z M → rD d e M P) (k : κ z m) : RK2 rD o p κ m := fun fin hm => ⟨z, m, k, hm, h⟩
/-- one that is there where f tells -/
theorem rk_opt {β : Type} {rD : RD2} {o p : O} {f : Option β} {g : β → Option α} (z : β → D) (h : ∀ y, f = some y → ∀ M d e P, VM M d o → VM M e p → P (z y) M → rD d e M P) (k : ∀ y, κ (z y) (g y)) : RK2 rD o p κ (f.bind g) := fun fin hm => by
  cases hf : f with
  | none => rw [hf] at hm; cases hm
  | some y => exact ⟨z y, g y, k y, by rw [hf] at hm; exact hm, h y hf⟩
theorem rk_addI {i j : Int} (k : κ (.int (i + j)) m) : RK2 rAdd (.v (.int i)) (.v (.int j)) κ m := rk_tot _ (fun M d e P v w p => by rw [v.ofV, w.ofV]; exact p) k
theorem rk_subI {i j : Int} (k : κ (.int (i - j)) m) : RK2 rSub (.v (.int i)) (.v (.int j)) κ m := rk_tot _ (fun M d e P v w p => by rw [v.ofV, w.ofV]; exact p) k
theorem rk_ltI {i j : Int} (k : κ (.bl (decide (i < j))) m) : RK2 rLt (.v (.int i)) (.v (.int j)) κ m := rk_tot _ (fun M d e P v w p => by rw [v.ofV, w.ofV]; exact p) k
theorem rk_leI {i j : Int} (k : κ (.bl (decide (i ≤ j))) m) : RK2 rLe (.v (.int i)) (.v (.int j)) κ m := rk_tot _ (fun M d e P v w p => by rw [v.ofV, w.ofV]; exact p) k
theorem rk_gtI {i j : Int} (k : κ (.bl (decide (j < i))) m) : RK2 rGt (.v (.int i)) (.v (.int j)) κ m := rk_tot _ (fun M d e P v w p => by rw [v.ofV, w.ofV]; exact p) k
theorem rk_geI {i j : Int} (k : κ (.bl (decide (j ≤ i))) m) : RK2 rGe (.v (.int i)) (.v (.int j)) κ m := rk_tot _ (fun M d e P v w p => by rw [v.ofV, w.ofV]; exact p) k
/-- products: of sizes that are known -/
def mulI (i j : Int) : Option Int := if i.natAbs < 2 ^ 64 ∨ j.natAbs < 2 ^ 64 ∨ i.natAbs.log2 + j.natAbs.log2 < 1000000 then some (i * j) else none
def modI (i j : Int) : Option Int := if j = 0 then none else some (i.fmod j)
def divI (i j : Int) : Option Int := if 0 < j ∧ j.natAbs.log2 < 9000 then some (i / j) else none
def powI (i j : Int) : Option Int := if 0 ≤ j ∧ j ≤ 1000000 ∧ i.natAbs < 2 ^ 64 then some (i ^ j.toNat) else none
theorem rk_mulI {i j : Int} {g : Int → Option α} (k : ∀ y, κ (.int y) (g y)) : RK2 rMul (.v (.int i)) (.v (.int j)) κ ((mulI i j).bind g) := rk_opt .int (fun y h M d e P v w p => by
  rw [v.ofV, w.ofV]
  unfold mulI at h
  split at h
  · rename_i hj
    cases h
    refine ⟨?_, p⟩
    rcases hj with h | h | h
    · exact .inl (.inl (by omega))
    · exact .inl (.inr (by omega))
    · exact .inr h
  · cases h) k
theorem rk_modI {i j : Int} {g : Int → Option α} (k : ∀ y, κ (.int y) (g y)) : RK2 rMod (.v (.int i)) (.v (.int j)) κ ((modI i j).bind g) := rk_opt .int (fun y h M d e P v w p => by
  rw [v.ofV, w.ofV]
  unfold modI at h
  split at h
  · cases h
  · rename_i hj
    cases h
    exact ⟨hj, p⟩) k
theorem rk_divI {i j : Int} {g : Int → Option α} (k : ∀ y, κ (.int y) (g y)) : RK2 rDiv (.v (.int i)) (.v (.int j)) κ ((divI i j).bind g) := rk_opt .int (fun y h M d e P v w p => by
  rw [v.ofV, w.ofV]
  unfold divI at h
  split at h
  · rename_i hj
    cases h
    exact ⟨hj, p⟩
  · cases h) k
theorem rk_powI {i j : Int} {g : Int → Option α} (k : ∀ y, κ (.int y) (g y)) : RK2 rPow (.v (.int i)) (.v (.int j)) κ ((powI i j).bind g) := rk_opt .int (fun y h M d e P v w p => by
  rw [v.ofV, w.ofV]
  unfold powI at h
  split at h
  · rename_i hj
    cases h
    exact ⟨hj, p⟩
  · cases h) k
end
end B

/-! B: arguments, calls, statements -/
namespace B
open PySem PySem.Spec PyProof.Rows L2 DL
section
variable {M : Mm}
/-- what stands behind some comes ahead of them -/
theorem ORs.mid {ds pd : List D} {os po : List O} {d : D} {o : O} {F : List Addr} (h : ORs M (ds ++ d :: pd) (os ++ o :: po) F) (hl : ds.length = os.length) : ∃ F', ORs M (d :: (ds ++ pd)) (o :: (os ++ po)) F' ∧ ∀ a, a ∈ F' ↔ a ∈ F := by
  obtain ⟨F1, F2, rfl, h1, h2, h3⟩ := h.cut2 hl
  cases h2 with
  | cons g1 g2 g3 =>
    rename_i G1 G2
    refine ⟨G1 ++ (F1 ++ G2), .cons g1 (h1.cat g2 (h3.sub (fun _ m => m) fun _ m => List.mem_append_right _ m)) (Dis.app' (h3.sub (fun _ m => m) fun _ m => List.mem_append_left _ m).symm g3), fun a => ?_⟩
    simp only [List.mem_append]
    constructor
    · rintro (z | z | z)
      · exact .inr (.inl z)
      · exact .inl z
      · exact .inr (.inr z)
    · rintro (z | z | z)
      · exact .inr (.inl z)
      · exact .inl z
      · exact .inr (.inr z)
theorem ORs.dim {ds pd : List D} {os po : List O} {d : D} {o : O} {F : List Addr} (h : ORs M (d :: (ds ++ pd)) (o :: (os ++ po)) F) (hl : ds.length = os.length) : ∃ F', ORs M (ds ++ d :: pd) (os ++ o :: po) F' ∧ ∀ a, a ∈ F' ↔ a ∈ F := by
  cases h with
  | cons g1 g2 g3 =>
    rename_i G1 G2
    obtain ⟨F1, F2, rfl, h1, h2, h3⟩ := g2.cut2 hl
    refine ⟨F1 ++ (G1 ++ F2), h1.cat (.cons g1 h2 (g3.sub (fun _ m => m) fun _ m => List.mem_append_right _ m)) (Dis.app' (g3.sub (fun _ m => m) fun _ m => List.mem_append_left _ m).symm h3), fun a => ?_⟩
    simp only [List.mem_append]
    constructor
    · rintro (z | z | z)
      · exact .inr (.inl z)
      · exact .inl z
      · exact .inr (.inr z)
    · rintro (z | z | z)
      · exact .inr (.inl z)
      · exact .inl z
      · exact .inr (.inr z)
end
section
variable {E E' : Env} {ρ : Ev} {B M M' : Mm} {pd ds : List D} {po os : List O} {d x : D} {o : O} {i : Nat}
theorem Rel.mid (r : Rel E ρ B M (ds ++ d :: pd) (os ++ o :: po)) (hl : ds.length = os.length) : Rel E ρ B M (d :: (ds ++ pd)) (o :: (os ++ po)) := by
  obtain ⟨φ, F, r⟩ := r
  obtain ⟨F', h, e⟩ := r.pen.mid hl
  exact ⟨φ, F', r.val, r.emp, h, r.dis, fun i => (r.dsp i).sub (fun _ m => m) fun a m => (e a).mp m, fun a mo q => ⟨(r.bas a mo q).1, fun m => (r.bas a mo q).2.1 ((e a).mp m), (r.bas a mo q).2.2⟩⟩
theorem Rel.dim (r : Rel E ρ B M (d :: (ds ++ pd)) (o :: (os ++ po))) (hl : ds.length = os.length) : Rel E ρ B M (ds ++ d :: pd) (os ++ o :: po) := by
  obtain ⟨φ, F, r⟩ := r
  obtain ⟨F', h, e⟩ := r.pen.dim hl
  exact ⟨φ, F', r.val, r.emp, h, r.dis, fun i => (r.dsp i).sub (fun _ m => m) fun a m => (e a).mp m, fun a mo q => ⟨(r.bas a mo q).1, fun m => (r.bas a mo q).2.1 ((e a).mp m), (r.bas a mo q).2.2⟩⟩
end

/-! ### arguments -/
section
variable {α : Type} {X : Cx} {W : WX'} {e : Expr} {es : List Expr} {E : Env} {κ : List (Option Nat × O) → Env → Option α → Prop} {ξ : Xi α} {m : Option α} {pos : Pos}
theorem ak_nil (k : κ [] E m) : AK X W [] E κ ξ m := fun fin ρ B M pd po P PX r hm hp hx => ⟨dNil, aj_nil, hp [] E m [] M k hm r rfl fun j i o h => by simp at h⟩
theorem ak_cons (k : EK X W e E (fun o E1 m1 => AK X W es E1 (fun os E2 m2 => κ ((none, o) :: os) E2 m2) ξ m1) ξ m) (hs : starEach (e :: es) X.env = (false, eval e X.env) :: starEach es X.env := by rfl) : AK X W (e :: es) E κ ξ m :=
  fun fin ρ B M pd po P PX r hm hp hx => ⟨dCons (bE X W e) (bA X W es), aj_cons bE_j bA_j hs, k fin ρ B M pd po _ PX r hm (fun o E1 m1 d M1 k1 hm1 r1 => k1 fin ρ B M1 _ _ _ PX r1 hm1 (fun os E2 m2 ds M2 k2 hm2 r2 hl ho => by
    refine hp _ E2 m2 (d :: ds) M2 k2 hm2 (r2.mid (by rw [List.length_map]; exact hl)) (congrArg Nat.succ hl) fun j i p h => ?_
    cases j with
    | zero =>
      rw [List.getElem?_cons_zero] at h
      cases h
    | succ j =>
      rw [List.getElem?_cons_succ] at h ⊢
      exact ho j i p h) fun C fs E' m' M' x hm' r' => hx C fs E' m' M' x hm' r'.drop1) hx⟩
/-- a slot's own thing is lent -/
theorem ak_mov (i : Nat) {x : Str} {o : O} (k : AK X W es (sE E i none) (fun os E2 m2 => κ ((some i, o) :: os) E2 m2) ξ m) (hE : gE E i = some o := by rfl) (hN : X.N[i]? = some x := by rfl) (hv : Vis X.env.scope x := by first | exact Or.inl rfl | exact Or.inr (Or.inl rfl) | exact Or.inr (Or.inr rfl))
    (hd : (x == ("__debug__" : Str)) = false := by decide) (hcd : (x == ("__classdict__" : Str)) = false := by decide) (hs : starEach (.Name x pos :: es) X.env = (false, eval (.Name x pos) X.env) :: starEach es X.env := by rfl) : AK X W (.Name x pos :: es) E κ ξ m :=
  fun fin ρ B M pd po P PX r hm hp hx => ⟨dCons (dVar i) (bA X W es), aj_cons (ej_var i hN hv hd hcd) bA_j hs, by
    obtain ⟨d, h1, r1⟩ := r.mov hE
    unfold dCons dVar
    rw [show gt ρ i = some d from h1]
    refine k fin ρ B M _ _ _ PX r1 hm (fun os E2 m2 ds M2 k2 hm2 r2 hl ho => ?_) fun C fs E' m' M' x hm' r' => hx C fs E' m' M' x hm' r'.drop1
    refine hp _ E2 m2 (d :: ds) M2 k2 hm2 (r2.mid (by rw [List.length_map]; exact hl)) (congrArg Nat.succ hl) fun j l p h => ?_
    cases j with
    | zero =>
      rw [List.getElem?_cons_zero] at h ⊢
      cases h
      exact h1
    | succ j =>
      rw [List.getElem?_cons_succ] at h ⊢
      exact ho j l p h⟩
end

/-! ### what a def does -/
/-- how it ends: the value or the exception, and what became of its arguments -/
inductive Out where
  | ret (o : O) (io : List O)
  | exc (C : Addr) (fs : List (Str × D)) (io : List O)
structure Frame (M M' : Mm) (F F' : List Addr) : Prop where
  keep : ∀ b, M b ≠ none → b ∉ F → M' b = M b
  new : ∀ b ∈ F', b ∈ F ∨ M b = none
def bSp {A R : Type} (ea : A → List O) (m : A → Option R) (er : A → R → Out) : DSp := fun ds M P PX => ∃ a r F, ORs M ds (ea a) F ∧ m a = some r ∧
  match er a r with
  | .ret o io => ∀ d M' F', ORs M' (d :: ds) (o :: io) F' → Frame M M' F F' → P d M'
  | .exc C fs io => ∀ M' F', ORs M' ds io F' → Frame M M' F F' → PX C fs M'
/-- lent things go back to their slots -/
def putB : Env → List (Option Nat × O) → List O → Env
  | E, (some i, _) :: as, o :: io => putB (sE E i (some o)) as io
  | E, (none, _) :: as, _ :: io => putB E as io
  | E, _, _ => E
theorem Rel.putB {ρ : Ev} {B M : Mm} {pd : List D} {po : List O} : ∀ {as : List (Option Nat × O)} {io : List O} {ds : List D} {E : Env}, Rel E ρ B M (ds ++ pd) (io ++ po) → ds.length = as.length → ds.length = io.length →
    (∀ (j i : Nat) (o : O), as[j]? = some (some i, o) → ρ i = ds[j]?) → Rel (putB E as io) ρ B M pd po
  | [], [], [], _, r, _, _, _ => r
  | (some i, _) :: as, o :: io, d :: ds, E, r, h1, h2, h3 => by
    have e : ρ i = some d := h3 0 i _ rfl
    exact Rel.putB (as := as) (io := io) (ds := ds) (r.back e) (Nat.succ.inj h1) (Nat.succ.inj h2) fun j l p h => h3 (j + 1) l p h
  | (none, _) :: as, o :: io, d :: ds, E, r, h1, h2, h3 => Rel.putB (as := as) (io := io) (ds := ds) r.drop1 (Nat.succ.inj h1) (Nat.succ.inj h2) fun j l p h => h3 (j + 1) l p h
  | [], _ :: _, _, _, _, h1, h2, _ => absurd (h1.symm.trans h2) (by simp)
  | _ :: _, [], _, _, _, h1, h2, _ => absurd (h1.symm.trans h2) (by simp)
  | [], [], _ :: _, _, _, h1, _, _ => absurd h1 (by simp)
  | _ :: _, _ :: _, [], _, _, h1, _, _ => absurd h1 (by simp)
section
variable {α A R : Type} {X : Cx} {W : WX'} {k j n : Nat} {ps ks : List Str} {π : List Nat} {ea : A → List O} {mf : A → Option R} {er : A → R → Out} {x : Str} {p pos : Pos} {e : Expr} {es : List Expr} {kws : List Keyword} {E : Env} {κE : O → Env → Option α → Prop} {ξ : Xi α} {m : Option α}
/-- behind the arguments: the def's own answer -/
def AfterCall (ea : A → List O) (mf : A → Option R) (er : A → R → Out) (κE : O → Env → Option α → Prop) (ξ : Xi α) (as : List (Option Nat × O)) (E1 : Env) (m1 : Option α) : Prop :=
  ∃ (a : A) (g : R → Option α), as.map (·.2) = ea a ∧ m1 = (mf a).bind g ∧ ∀ r, match er a r with
    | .ret o io => κE o (putB E1 as io) (g r)
    | .exc C fs io => ξ C fs (putB E1 as io) (g r)
theorem aft {ρ : Ev} {B M1 : Mm} {pd ds : List D} {po : List O} {P : DP} {PX : XP} {fin : α} {as : List (Option Nat × O)} {E1 : Env} {m1 : Option α} (h : AfterCall ea mf er κE ξ as E1 m1) (hm : m1 = some fin)
    (r1 : Rel E1 ρ B M1 (ds ++ pd) (as.map (·.2) ++ po)) (hl : ds.length = as.length) (ho : ∀ (j i : Nat) (o : O), as[j]? = some (some i, o) → ρ i = ds[j]?)
    (hp : ∀ o E' m' d M', κE o E' m' → m' = some fin → Rel E' ρ B M' (d :: pd) (o :: po) → P d M')
    (hx : ∀ C fs E' m' M', ξ C fs E' m' → m' = some fin → Rel E' ρ B M' pd po → PX C fs M') : bSp ea mf er ds M1 P PX := by
  obtain ⟨a, g, e1, rfl, k1⟩ := h
  have hF : ∃ F, ORs M1 ds (ea a) F := by
    obtain ⟨φ, F, w⟩ := r1
    obtain ⟨F1, F2, _, h1, _, _⟩ := w.pen.cut2 (by rw [List.length_map]; exact hl)
    exact ⟨F1, by rw [← e1]; exact h1⟩
  obtain ⟨F, hF⟩ := hF
  cases hr : mf a with
  | none => rw [hr] at hm; cases hm
  | some r =>
    rw [hr] at hm
    refine ⟨a, r, F, hF, hr, ?_⟩
    have k2 := k1 r
    have hlen : ds.length = (as.map (·.2)).length := by rw [List.length_map]; exact hl
    have fr : ∀ {M' : Mm} {ds' : List D} {os' : List O} {F' : List Addr}, ORs M' ds' os' F' → Frame M1 M' F F' → Rel E1 ρ B M' (ds' ++ pd) (os' ++ po) := fun {M' ds' os' F'} hor hfr => by
      obtain ⟨φ, G, w⟩ := r1
      obtain ⟨F1, F2, eG, h1, h2, h3⟩ := w.pen.cut2 hlen
      refine Rel.chg ⟨φ, G, w⟩ hlen ds' os' fun F3 h4 => ?_
      have : F3 = F := by rw [e1] at h4; exact h4.uq hF
      subst this
      exact ⟨F', hor, hfr.keep, hfr.new⟩
    split
    · rename_i o io he
      rw [he] at k2
      intro d M' F' hor hfr
      have r2 := fr hor hfr
      have hli : ds.length = io.length := by
        have := hor.len
        simp only [List.length_cons] at this
        omega
      have r3 : Rel E1 ρ B M' (ds ++ d :: pd) (io ++ o :: po) := Rel.dim r2 hli
      exact hp o _ _ d M' k2 hm (Rel.putB r3 hl hli ho)
    · rename_i C fs io he
      rw [he] at k2
      intro M' F' hor hfr
      have hli : ds.length = io.length := hor.len
      exact hx C fs _ _ M' k2 hm (Rel.putB (fr hor hfr) hl hli ho)
end
end B

/-! B: calls, statements, control flow -/
namespace B
open PySem PySem.Spec PyProof.Rows L2 DL
section
variable {α A R : Type} {X : Cx} {W : WX'} {k j n : Nat} {ps ks : List Str} {π : List Nat} {ea : A → List O} {mf : A → Option R} {er : A → R → Out} {x : Str} {p pos : Pos} {e : Expr} {es : List Expr} {kws : List Keyword} {E : Env} {κE : O → Env → Option α → Prop} {ξ : Xi α} {m : Option α}
theorem ek_call (C : Cal X.prog X.w X.K X.mg X.base j x ps (bSp ea mf er)) (hr : Room k X.A) (hG : GG X.A) (tk : Takes X W) (ka : AK X W (e :: es) E (AfterCall ea mf er κE ξ) ξ m) (hj : j ≤ k := by decide) (hg : Gl X x := by rfl) (hdb : (x == ("__debug__" : Str)) = false := by decide)
    (he : starEach (e :: es) X.env = (false, eval e X.env) :: starEach es X.env := by rfl)
    (hpl : (backTo pos (starEach es X.env)).any (·.1) = false := by rfl) : EK X W (.Call (.Name x p) (e :: es) [] pos) E κE ξ m :=
  fun fin ρ B M pd po P PX r hm hp hx => ⟨_, ej_callC C hr hG tk bA_j hj hg hdb he hpl, ka fin ρ B M pd po _ PX r hm (fun os E' m' ds M' k hm' r' hl ho => aft k hm' r' hl ho hp hx) hx⟩
theorem ek_call0 (C : Cal X.prog X.w X.K X.mg X.base j x ps (bSp ea mf er)) (hr : Room k X.A) (hG : GG X.A) (tk : Takes X W) (ka : AfterCall ea mf er κE ξ [] E m) (hj : j ≤ k := by decide) (hg : Gl X x := by rfl) (hdb : (x == ("__debug__" : Str)) = false := by decide) : EK X W (.Call (.Name x p) [] [] pos) E κE ξ m :=
  fun fin ρ B M pd po P PX r hm hp hx => ⟨_, ej_callC0 C hr hG tk hj hg hdb, aft (ds := []) ka hm r rfl (fun j i o h => by simp at h) hp hx⟩
/-! ### keywords -/
def bK (X : Cx) (W : WX') (e : List Keyword) : DA := fun ρ M P PX => ∃ d : DA, liK X W e d ∧ d ρ M P PX
theorem bK_j : liK X W kws (bK X W kws) :=
  ⟨fun pos pins s σ H Q I ⟨ρ, M, Hf, P, PX, sr, ⟨d, j, h⟩, fe, fx⟩ => j.run pos pins s σ H Q I ⟨ρ, M, Hf, P, PX, sr, h, fe, fx⟩⟩
def KK {α : Type} (X : Cx) (W : WX') (kws : List Keyword) (E : Env) (κ : List D → Env → Option α → Prop) (ξ : Xi α) (m : Option α) : Prop :=
  ∀ fin ρ B M pd po P PX, Rel E ρ B M pd po → m = some fin →
    (∀ ds E' m' M', κ ds E' m' → m' = some fin → Rel E' ρ B M' pd po → P ds M') →
    (∀ C fs E' m' M', ξ C fs E' m' → m' = some fin → Rel E' ρ B M' pd po → PX C fs M') → bK X W kws ρ M P PX
theorem kk_nil {κ : List D → Env → Option α → Prop} (k : κ [] E m) : KK X W [] E κ ξ m := fun fin ρ B M pd po P PX r hm hp hx => ⟨dNil, kj_nil, hp [] E m M k hm r⟩
theorem kk_cons {κ : List D → Env → Option α → Prop} {nm : Option Str} {kpos : Pos} (k : EK X W e E (fun o E1 m1 => ∃ x, o = .v x ∧ KK X W kws E1 (fun ds E2 m2 => κ (x :: ds) E2 m2) ξ m1) ξ m) : KK X W (⟨nm, e, kpos⟩ :: kws) E κ ξ m :=
  fun fin ρ B M pd po P PX r hm hp hx => ⟨dCons (bE X W e) (bK X W kws), kj_cons bE_j bK_j, k fin ρ B M pd po _ PX r hm (fun o E1 m1 d M1 ⟨x, e1, k1⟩ hm1 r1 => by
    subst e1
    obtain ⟨rfl, r2⟩ := r1.ofV
    exact k1 fin ρ B M1 _ _ _ PX r2 hm1 (fun ds E2 m2 M2 k2 hm2 r2 => hp _ E2 m2 M2 k2 hm2 r2) hx) hx⟩
/-- all arguments are things that do not change -/
def AfterCallK (ea : A → List O) (mf : A → Option R) (er : A → R → Out) (n : Nat) (π : List Nat) (nk : Nat) (κE : O → Env → Option α → Prop) (ξ : Xi α) (xs ys : List D) (E1 : Env) (m1 : Option α) : Prop :=
  xs.length = n ∧ ys.length = nk ∧ ∃ (a : A) (g : R → Option α), (pick π (xs ++ ys)).map .v = ea a ∧ m1 = (mf a).bind g ∧ ∀ r, match er a r with
    | .ret o io => κE o E1 (g r)
    | .exc C fs io => ξ C fs E1 (g r)
theorem aftK {ρ : Ev} {B M1 : Mm} {pd xs : List D} {po : List O} {P : DP} {PX : XP} {fin : α} {E1 : Env} {m1 : Option α} {a : A} {g : R → Option α} (e1 : xs.map .v = ea a) (em : m1 = (mf a).bind g) (k1 : ∀ r, match er a r with
    | .ret o io => κE o E1 (g r)
    | .exc C fs io => ξ C fs E1 (g r)) (hm : m1 = some fin) (r1 : Rel E1 ρ B M1 pd po)
    (hp : ∀ o E' m' d M', κE o E' m' → m' = some fin → Rel E' ρ B M' (d :: pd) (o :: po) → P d M')
    (hx : ∀ C fs E' m' M', ξ C fs E' m' → m' = some fin → Rel E' ρ B M' pd po → PX C fs M') : bSp ea mf er xs M1 P PX := by
  refine aft (as := xs.map fun x => (none, .v x)) (κE := κE) (ξ := ξ) (E1 := E1) (m1 := m1) ⟨a, g, by rw [List.map_map]; exact e1, em, fun r => ?_⟩ hm (by rw [List.map_map]; exact r1.vs xs) (by rw [List.length_map]) (fun j i o h => ?_) hp hx
  · have pb : ∀ (E : Env) (xs : List D) (io : List O), putB E (xs.map fun x => (none, O.v x)) io = E := by
      intro E xs
      induction xs with
      | nil => intro io; cases io <;> rfl
      | cons x xs ih => intro io; cases io with
        | nil => rfl
        | cons o io => exact ih io
    have := k1 r
    split
    · rename_i o io he
      rw [he] at this
      rw [pb]
      exact this
    · rename_i C fs io he
      rw [he] at this
      rw [pb]
      exact this
  · rw [List.getElem?_map] at h
    cases q : xs[j]? with
    | none => rw [q] at h; cases h
    | some y => rw [q] at h; cases h
theorem ek_callK (C : CalK X.prog X.w X.K X.mg X.base j x ps n ks π (bSp ea mf er)) (hr : Room k X.A) (hG : GG X.A) (tk : Takes X W)
    (ka : AK X W (e :: es) E (fun as E1 m1 => ∃ xs : List D, as = xs.map (fun x => (none, .v x)) ∧ KK X W kws E1 (AfterCallK ea mf er n π ks.length κE ξ xs) ξ m1) ξ m)
    (hj : j ≤ k := by decide) (hg : Gl X x := by rfl)
    (hall : (backToKw pos (keywordEach kws X.env)).all (·.1.isSome) = true := by rfl) (hks : (backToKw pos (keywordEach kws X.env)).filterMap (·.1) = ks := by rfl)
    (hdb : (x == ("__debug__" : Str)) = false := by decide) (he : starEach (e :: es) X.env = (false, eval e X.env) :: starEach es X.env := by rfl)
    (hpl : ((backTo pos (starEach (e :: es) X.env)).any (·.1) || (backToKw pos (keywordEach kws X.env)).any (·.1.isNone)) = false := by rfl) : EK X W (.Call (.Name x p) (e :: es) kws pos) E κE ξ m :=
  fun fin ρ B M pd po P PX r hm hp hx => ⟨_, ej_callCK C hr hG tk bA_j bK_j hj hg hall hks hdb he hpl, ka fin ρ B M pd po _ PX r hm (fun os E1 m1 ds M1 ⟨xs, e1, k1⟩ hm1 r1 hl ho => by
    subst e1
    have hds : ds = xs ∧ Rel E1 ρ B M1 pd po := by
      rw [List.map_map] at r1
      have h2 := r1
      obtain ⟨φ, F, w⟩ := h2
      obtain ⟨F1, F2, _, h1, _, _⟩ := w.pen.cut2 (by rw [List.length_map, hl, List.length_map])
      exact ⟨h1.ofVs.1, r1.drop (by rw [List.length_map, hl, List.length_map])⟩
    obtain ⟨rfl, r2⟩ := hds
    refine k1 fin ρ B M1 pd po _ PX r2 hm1 (fun ys E2 m2 M2 k2 hm2 r3 => ?_) hx
    obtain ⟨l1, l2, a, g, e2, em, k3⟩ := k2
    exact ⟨l1, l2, aftK e2 em k3 hm2 r3 hp hx⟩) hx⟩
theorem ek_callK0 (C : CalK X.prog X.w X.K X.mg X.base j x ps 0 ks π (bSp ea mf er)) (hr : Room k X.A) (hG : GG X.A) (tk : Takes X W)
    (ka : KK X W kws E (AfterCallK ea mf er 0 π ks.length κE ξ []) ξ m)
    (hj : j ≤ k := by decide) (hg : Gl X x := by rfl)
    (hall : (backToKw pos (keywordEach kws X.env)).all (·.1.isSome) = true := by rfl) (hks : (backToKw pos (keywordEach kws X.env)).filterMap (·.1) = ks := by rfl)
    (hdb : (x == ("__debug__" : Str)) = false := by decide)
    (hpl : ((backTo pos (starEach [] X.env)).any (·.1) || (backToKw pos (keywordEach kws X.env)).any (·.1.isNone)) = false := by rfl) : EK X W (.Call (.Name x p) [] kws pos) E κE ξ m :=
  fun fin ρ B M pd po P PX r hm hp hx => ⟨_, ej_callCK0 C hr hG tk bK_j hj hg hall hks hdb hpl, by
    refine ka fin ρ B M pd po _ PX r hm (fun ys E2 m2 M2 k2 hm2 r3 => ?_) hx
    obtain ⟨l1, l2, a, g, e2, em, k3⟩ := k2
    exact ⟨l1, l2, aftK e2 em k3 hm2 r3 hp hx⟩⟩
end

/-! ### blocks -/
theorem Acc.go {α : Type} {kp : List Nat} {ρ ρ' : Ev} {T : Tg α} {fin : α} {B : Mm} {DD : DEnds} (a : Acc kp ρ T fin B DD) (h : ∀ j ∈ kp, ρ' j = ρ j) : Acc kp ρ' T fin B DD :=
  ⟨fun E' m' ρ2 M' t hm r k => a.nx E' m' ρ2 M' t hm r fun j z => (k j z).trans (h j z), fun o E' m' ρ2 d M' t hm r k => a.rt o E' m' ρ2 d M' t hm r fun j z => (k j z).trans (h j z),
   fun E' m' ρ2 M' t hm r k => a.bk E' m' ρ2 M' t hm r fun j z => (k j z).trans (h j z), fun E' m' ρ2 M' t hm r k => a.ct E' m' ρ2 M' t hm r fun j z => (k j z).trans (h j z),
   fun C fs E' m' ρ2 M' t hm r k => a.ex C fs E' m' ρ2 M' t hm r fun j z => (k j z).trans (h j z)⟩
theorem Acc.nxP {α : Type} {kp : List Nat} {ρ : Ev} {T : Tg α} {fin : α} {B : Mm} {DD : DEnds} {N : Env → Option α → Prop} {P : Ev → Mm → Prop} (a : Acc kp ρ T fin B DD)
    (h : ∀ E' m' ρ' M', N E' m' → m' = some fin → Rel E' ρ' B M' [] [] → (∀ j ∈ kp, ρ' j = ρ j) → P ρ' M') : Acc kp ρ { T with nx := N } fin B { DD with nx := P } := ⟨h, a.rt, a.bk, a.ct, a.ex⟩
section
variable {α : Type} {X : Cx} {W : WX'} {kp : List Nat} {s : Stmt} {rest a b : List Stmt} {e : Expr} {E : Env} {T : Tg α} {m : Option α} {pos : Pos} {i : Nat}
theorem lk_nil (k : T.nx E m) : LK X W kp [] E T m := fun fin ρ B M DD r hm a => ⟨_, bj_nil, a.nx E m ρ M k hm r fun _ _ => rfl⟩
theorem lk_cons (h : SK X W kp s E { T with nx := fun E' m' => LK X W kp rest E' T m' } m) : LK X W kp (s :: rest) E T m := fun fin ρ B M DD r hm a =>
  ⟨_, bj_cons bS_j bB_j, h fin ρ B M _ r hm (a.nxP fun E' m' ρ' M' k hm' r' hk => k fin ρ' B M' DD r' hm' (a.go hk))⟩
theorem lk_one (h : SK X W kp s E T m) : LK X W kp [s] E T m := fun fin ρ B M DD r hm a => ⟨_, bj_one bS_j, h fin ρ B M _ r hm a⟩
theorem lk_le {E' : Env} (h : LK X W kp rest E' T m) (l : leE E' E) : LK X W kp rest E T m := fun fin ρ B M DD r hm a => h fin ρ B M DD (r.le (leE_ok l)) hm a
theorem sk_pass (k : T.nx E m) : SK X W kp (.Pass pos) E T m := fun fin ρ B M DD r hm a => ⟨_, sj_pass, a.nx E m ρ M k hm r fun _ _ => rfl⟩
theorem sk_doc {x j pos'} (k : T.nx E m) : SK X W kp (.Expr (.Constant (.str x) j pos) pos') E T m := fun fin ρ B M DD r hm a => ⟨_, sj_doc, a.nx E m ρ M k hm r fun _ _ => rfl⟩
theorem sk_break (k : T.bk E m) : SK X W kp (.Break pos) E T m := fun fin ρ B M DD r hm a => ⟨_, sj_break, a.bk E m ρ M k hm r fun _ _ => rfl⟩
theorem sk_continue (k : T.ct E m) : SK X W kp (.Continue pos) E T m := fun fin ρ B M DD r hm a => ⟨_, sj_continue, a.ct E m ρ M k hm r fun _ _ => rfl⟩
theorem sk_retN (k : T.rt (.v .non) E m) : SK X W kp (.Return none pos) E T m := fun fin ρ B M DD r hm a => ⟨_, sj_retN, a.rt _ E m ρ .non M k hm (r.v .non) fun _ _ => rfl⟩
theorem sk_ret (h : EK X W e E (fun o E1 m1 => T.rt o E1 m1) T.ex m) : SK X W kp (.Return (some e) pos) E T m := fun fin ρ B M DD r hm a =>
  ⟨_, sj_ret bE_j, h fin ρ B M [] [] _ _ r hm (fun o E' m' d M' k hm' r' => a.rt o E' m' ρ d M' k hm' r' fun _ _ => rfl) fun C fs E' m' M' k hm' r' => a.ex C fs E' m' ρ M' k hm' r' fun _ _ => rfl⟩
theorem sk_expr (h : EK X W e E (fun _ E1 m1 => T.nx E1 m1) T.ex m) (hs : swapsWith e none pos.line X.env = pure false := by rfl) : SK X W kp (.Expr e pos) E T m := fun fin ρ B M DD r hm a =>
  ⟨_, sj_expr bE_j hs, h fin ρ B M [] [] _ _ r hm (fun o E' m' d M' k hm' r' => a.nx E' m' ρ M' k hm' r'.drop1 fun _ _ => rfl) fun C fs E' m' M' k hm' r' => a.ex C fs E' m' ρ M' k hm' r' fun _ _ => rfl⟩
theorem st_kp {ρ : Ev} {d : Option D} (h : i ∉ kp) : ∀ j ∈ kp, st ρ i d j = ρ j := fun j z => gt_ne ρ i j d fun y => h (by rw [y]; exact z)
theorem sk_set {x : Str} {pos' : Pos} (i : Nat) (hN : X.N.Nodup) (h : EK X W e E (fun o E1 m1 => T.nx (sE E1 i (some o)) m1) T.ex m) (hk : i ∉ kp := by decide) (hi : X.N[i]? = some x := by rfl) (hx : Loc X.env.scope x := by exact Or.inl rfl) (hs : swapsWith e (some (.Name x pos')) pos.line X.env = pure false := by rfl)
    (hf : X.fn x = true ∨ X.env.scope.names.lookup x = some .local := by first | exact .inl rfl | exact .inr rfl) : SK X W kp (.Assign [.Name x pos'] e pos) E T m := fun fin ρ B M DD r hm a =>
  ⟨_, sj_set i hN bE_j hi hx hs hf, h fin ρ B M [] [] _ _ r hm (fun o E' m' d M' k hm' r' => a.nx _ m' _ M' k hm' (r'.set i) (st_kp hk)) fun C fs E' m' M' k hm' r' => a.ex C fs E' m' ρ M' k hm' r' fun _ _ => rfl⟩
/-- two ways, each to the end -/
theorem sk_if (h : TK X W e E (fun t E1 m1 => ∃ mA mB, m1 = (if t then mA else mB) ∧ (t = true → LK X W kp a E1 T mA) ∧ (t = false → LK X W kp b E1 T mB)) T.ex m) : SK X W kp (.If e a b pos) E T m := fun fin ρ B M DD r hm ac =>
  ⟨_, sj_if bT_j bB_j bB_j, h fin ρ B M [] [] _ _ r hm (fun t E1 m1 M1 ⟨mA, mB, e1, kA, kB⟩ hm1 r1 => by
    subst e1
    cases t with
    | true => exact kA rfl fin ρ B M1 DD r1 (by rw [if_pos rfl] at hm1; exact hm1) ac
    | false => exact kB rfl fin ρ B M1 DD r1 (by rw [if_neg Bool.false_ne_true] at hm1; exact hm1) ac) fun C fs E' m' M' k hm' r' => ac.ex C fs E' m' ρ M' k hm' r' fun _ _ => rfl⟩
end

/-! ### ways that meet again -/
/-- the end of a block: on with s; out of the def; out of a loop; on with it -/
inductive Fl (S R β : Type) where
  | nx (s : S)
  | rt (r : R)
  | bk (b : β)
  | ct (b : β)
def Tg.sub {α S R β : Type} (T : Tg α) (Es : S → Env) (up : R → Option α) (ub uc : β → Option α) : Tg (Fl S R β) where
  nx := fun E' m' => ∃ s, m' = some (.nx s) ∧ leE (Es s) E'
  rt := fun o E' m' => ∃ r, m' = some (.rt r) ∧ T.rt o E' (up r)
  bk := fun E' m' => ∃ b, m' = some (.bk b) ∧ T.bk E' (ub b)
  ct := fun E' m' => ∃ b, m' = some (.ct b) ∧ T.ct E' (uc b)
  ex := fun C fs E' m' => ∃ r, m' = some (.rt r) ∧ T.ex C fs E' (up r)
def joinF {α S R β : Type} (up : R → Option α) (ub uc : β → Option α) (m : Option (Fl S R β)) (k : S → Option α) : Option α := match m with
  | none => none
  | some (.nx s) => k s
  | some (.rt r) => up r
  | some (.bk b) => ub b
  | some (.ct b) => uc b
theorem Acc.sub {α S R β : Type} {kp : List Nat} {ρ : Ev} {T : Tg α} {Es : S → Env} {up : R → Option α} {ub uc : β → Option α} {m1 : Option (Fl S R β)} {k : S → Option α} {fin : α} {fin1 : Fl S R β} {B : Mm} {DD : DEnds}
    (a : Acc kp ρ T fin B DD) (hm : joinF up ub uc m1 k = some fin) (h1 : m1 = some fin1) (hk : ∀ s, T.nx (Es s) (k s)) : Acc kp ρ (T.sub Es up ub uc) fin1 B DD := by
  subst h1
  refine ⟨?_, ?_, ?_, ?_, ?_⟩
  · rintro E' m' ρ' M' ⟨s, e1, l⟩ e2 r q
    rw [e1] at e2
    cases e2
    exact a.nx _ _ ρ' M' (hk s) hm (r.le (leE_ok l)) q
  · rintro o E' m' ρ' d M' ⟨s, e1, l⟩ e2 r q
    rw [e1] at e2
    cases e2
    exact a.rt o _ _ ρ' d M' l hm r q
  · rintro E' m' ρ' M' ⟨s, e1, l⟩ e2 r q
    rw [e1] at e2
    cases e2
    exact a.bk _ _ ρ' M' l hm r q
  · rintro E' m' ρ' M' ⟨s, e1, l⟩ e2 r q
    rw [e1] at e2
    cases e2
    exact a.ct _ _ ρ' M' l hm r q
  · rintro C fs E' m' ρ' M' ⟨s, e1, l⟩ e2 r q
    rw [e1] at e2
    cases e2
    exact a.ex C fs _ _ ρ' M' l hm r q
/-- .. where no way leads out -/
def Tg.on {S : Type} (Es : S → Env) : Tg S where
  nx := fun E' m' => ∃ s, m' = some s ∧ leE (Es s) E'
theorem Acc.on {α S : Type} {kp : List Nat} {ρ : Ev} {T : Tg α} {Es : S → Env} {m1 : Option S} {k : S → Option α} {fin : α} {fin1 : S} {B : Mm} {DD : DEnds}
    (a : Acc kp ρ T fin B DD) (hm : m1.bind k = some fin) (h1 : m1 = some fin1) (hk : ∀ s, T.nx (Es s) (k s)) : Acc kp ρ (Tg.on Es) fin1 B DD := by
  subst h1
  refine ⟨?_, fun _ _ _ _ _ _ h => h.elim, fun _ _ _ _ h => h.elim, fun _ _ _ _ h => h.elim, fun _ _ _ _ _ _ h => h.elim⟩
  rintro E' m' ρ' M' ⟨s, e1, l⟩ e2 r q
  rw [e1] at e2
  cases e2
  exact a.nx _ _ ρ' M' (hk _) hm (r.le (leE_ok l)) q
section
variable {α S R β : Type} {X : Cx} {W : WX'} {kp : List Nat} {s : Stmt} {rest a b : List Stmt} {e : Expr} {E : Env} {T : Tg α} {m : Option α} {pos : Pos} {i : Nat} {up : R → Option α} {ub uc : β → Option α}
theorem joinF_none {k : S → Option α} {m1 : Option (Fl S R β)} {fin : α} (h : joinF up ub uc m1 k = some fin) : ∃ f, m1 = some f := by
  cases m1 with
  | none => cases h
  | some f => exact ⟨f, rfl⟩
theorem sk_ifJ (Es : S → Env) (h : TK X W e E (fun t E1 m1 => ∃ (mA mB : Option (Fl S R β)) (k : S → Option α), m1 = joinF up ub uc (if t then mA else mB) k ∧ (t = true → LK X W kp a E1 (T.sub Es up ub uc) mA) ∧ (t = false → LK X W kp b E1 (T.sub Es up ub uc) mB) ∧ ∀ s, T.nx (Es s) (k s)) T.ex m) :
    SK X W kp (.If e a b pos) E T m := fun fin ρ B M DD r hm ac =>
  ⟨_, sj_if bT_j bB_j bB_j, h fin ρ B M [] [] _ _ r hm (fun t E1 m1 M1 ⟨mA, mB, k, e1, kA, kB, kn⟩ hm1 r1 => by
    subst e1
    obtain ⟨f, hf⟩ := joinF_none hm1
    have ac' := ac.sub hm1 hf kn
    cases t with
    | true => exact kA rfl f ρ B M1 DD r1 (by rw [if_pos rfl] at hf; exact hf) ac'
    | false => exact kB rfl f ρ B M1 DD r1 (by rw [if_neg Bool.false_ne_true] at hf; exact hf) ac') fun C fs E' m' M' k hm' r' => ac.ex C fs E' m' ρ M' k hm' r' fun _ _ => rfl⟩
theorem sk_ifO (Es : S → Env) (h : TK X W e E (fun t E1 m1 => ∃ (mA mB : Option S) (k : S → Option α), m1 = (if t then mA else mB).bind k ∧ (t = true → LK X W kp a E1 (Tg.on Es) mA) ∧ (t = false → LK X W kp b E1 (Tg.on Es) mB) ∧ ∀ s, T.nx (Es s) (k s)) T.ex m) :
    SK X W kp (.If e a b pos) E T m := fun fin ρ B M DD r hm ac =>
  ⟨_, sj_if bT_j bB_j bB_j, h fin ρ B M [] [] _ _ r hm (fun t E1 m1 M1 ⟨mA, mB, k, e1, kA, kB, kn⟩ hm1 r1 => by
    subst e1
    have hf : ∃ f, (if t then mA else mB) = some f := by
      cases q : (if t then mA else mB) with
      | none => rw [q] at hm1; cases hm1
      | some f => exact ⟨f, rfl⟩
    obtain ⟨f, hf⟩ := hf
    have ac' := ac.on hm1 hf kn
    cases t with
    | true => exact kA rfl f ρ B M1 DD r1 (by rw [if_pos rfl] at hf; exact hf) ac'
    | false => exact kB rfl f ρ B M1 DD r1 (by rw [if_neg Bool.false_ne_true] at hf; exact hf) ac') fun C fs E' m' M' k hm' r' => ac.ex C fs E' m' ρ M' k hm' r' fun _ _ => rfl⟩
end
end B

/-! B: targets, loops, tests, defs -/
namespace B
open PySem PySem.Spec PyProof.Rows L2 DL
/-! ### targets -/
def bG (X : Cx) (e : Expr) : DG := fun d ρ M P => ∃ g : DG, GJ X e g ∧ g d ρ M P
theorem bG_j {X : Cx} {e : Expr} : GJ X e (bG X e) :=
  ⟨fun pins s σ H v u Q I rv ⟨x, ρ, M, Hf, P, sr, r, ⟨g, j, h⟩, f⟩ => j.run pins s σ H v u Q I rv ⟨x, ρ, M, Hf, P, sr, r, h, f⟩⟩
def bGs (X : Cx) (e : List Expr) : DGs := fun d ρ M P => ∃ g : DGs, GsJ X e g ∧ g d ρ M P
theorem bGs_j {X : Cx} {e : List Expr} : GsJ X e (bGs X e) :=
  ⟨fun pins s σ H v u Q I rv ⟨x, ρ, M, Hf, P, sr, r, ⟨g, j, h⟩, f⟩ => j.run pins s σ H v u Q I rv ⟨x, ρ, M, Hf, P, sr, r, h, f⟩⟩
def GK (X : Cx) (kp : List Nat) (e : Expr) (o : O) (E : Env) (κ : Env → Prop) : Prop :=
  ∀ ρ B M d P, Rel E ρ B M [d] [o] → (∀ E' ρ' M', κ E' → Rel E' ρ' B M' [] [] → (∀ j ∈ kp, ρ' j = ρ j) → P ρ' M') → bG X e d ρ M P
def GsK (X : Cx) (kp : List Nat) (es : List Expr) (ds : List D) (E : Env) (κ : Env → Prop) : Prop :=
  ∀ ρ B M P, Rel E ρ B M [] [] → (∀ E' ρ' M', κ E' → Rel E' ρ' B M' [] [] → (∀ j ∈ kp, ρ' j = ρ j) → P ρ' M') → bGs X es ds ρ M P
section
variable {α : Type} {X : Cx} {W : WX'} {kp : List Nat} {e tg : Expr} {es : List Expr} {E : Env} {T : Tg α} {m : Option α} {pos : Pos} {κ : Env → Prop} {d : D} {ds : List D} {o : O}
theorem gk_name {x : Str} (i : Nat) (hN : X.N.Nodup) (k : κ (sE E i (some o))) (hk : i ∉ kp := by decide) (hi : X.N[i]? = some x := by rfl) (hx : Loc X.env.scope x := by exact Or.inl rfl) (hf : X.fn x = true ∨ X.env.scope.names.lookup x = some .local := by first | exact .inl rfl | exact .inr rfl) : GK X kp (.Name x pos) o E κ :=
  fun ρ B M d P r h => ⟨_, gj_name i hN hi hx hf, h _ _ M k (r.set i) (st_kp hk)⟩
theorem gsk_nil (k : κ E) : GsK X kp [] [] E κ := fun ρ B M P r h => ⟨_, gsj_nil, h _ _ M k r fun _ _ => rfl⟩
theorem gsk_cons (h1 : GK X kp e (.v d) E (fun E1 => GsK X kp es ds E1 κ)) (hs : (assignEach (e :: es) X.env).map (·.2) = assign e X.env :: (assignEach es X.env).map (·.2) := by rfl) : GsK X kp (e :: es) (d :: ds) E κ :=
  fun ρ B M P r h => ⟨_, gsj_cons bG_j bGs_j hs, h1 ρ B M d _ (r.v d) fun E1 ρ1 M1 k1 r1 q1 => k1 ρ1 B M1 P r1 fun E2 ρ2 M2 k2 r2 q2 => h E2 ρ2 M2 k2 r2 fun j z => (q2 j z).trans (q1 j z)⟩
theorem gk_tup {k n : Nat} (hc : X.calm = true) (h : GsK X kp es ds E κ) (hl : ds.length = n := by rfl) (hn : (assignEach es X.env).length = n := by rfl) (hst : (assignEach es X.env).findIdx? (·.1) = none := by rfl) : GK X kp (.Tuple es k pos) (.v (.tup ds)) E κ :=
  fun ρ B M d P r q => ⟨_, gj_tup hc bGs_j hn hst, by
    obtain ⟨rfl, r2⟩ := r.ofV
    exact ⟨hl, h ρ B M P r2 q⟩⟩
/-- a, *b = e: the rest is a list that stays -/
theorem gk_star {k n : Nat} (hc : X.calm = true) (ho : o = .v (.tup ds) ∨ o = .v (.lst ds)) (hl : n ≤ ds.length) (h : GsK X kp es (ds.take n ++ [.lst (ds.drop n)]) E κ) (hn : (assignEach es X.env).length = n + 1 := by rfl) (hst : (assignEach es X.env).findIdx? (·.1) = some n := by rfl) : GK X kp (.Tuple es k pos) o E κ :=
  fun ρ B M d P r q => ⟨_, gj_star hc bGs_j hn hst, by
    rcases ho with rfl | rfl <;>
    · obtain ⟨rfl, r2⟩ := r.ofV
      exact ⟨hl, h ρ B M P r2 q⟩⟩
theorem gsk_star {p : Pos} (h1 : GK X kp e (.v d) E κ) (hs : (assignEach [.Starred e p] X.env).map (·.2) = [assign e X.env] := by rfl) : GsK X kp [.Starred e p] [d] E κ :=
  fun ρ B M P r h => ⟨_, gsj_star bG_j hs, h1 ρ B M d _ (r.v d) fun E1 ρ1 M1 k1 r1 q1 => h E1 ρ1 M1 k1 r1 q1⟩
theorem sk_asg (h : EK X W e E (fun o E1 m1 => GK X kp tg o E1 (fun E' => T.nx E' m1)) T.ex m) (hs : swapsWithSole [tg] e pos.line X.env = pure false := by rfl) (hw : swappedStores [tg] e X.env = pure none := by rfl)
    (h1 : (assignEach [tg] X.env).map (·.2) = [assign tg X.env] := by rfl) : SK X W kp (.Assign [tg] e pos) E T m := fun fin ρ B M DD r hm a =>
  ⟨_, sj_asg bE_j bG_j hs hw h1, h fin ρ B M [] [] _ _ r hm (fun o E1 m1 d M1 k1 hm1 r1 => k1 ρ B M1 d _ r1 fun E2 ρ2 M2 k2 r2 q2 => a.nx E2 m1 ρ2 M2 k2 hm1 r2 q2) fun C fs E' m' M' k hm' r' => a.ex C fs E' m' ρ M' k hm' r' fun _ _ => rfl⟩
end
/-! ### what is walked -/
def bI (X : Cx) (W : WX') (tg e : Expr) : DI := fun ρ M P PX => ∃ d : DI, IJ X W tg e d ∧ d ρ M P PX
theorem bI_j {X : Cx} {W : WX'} {tg e : Expr} : IJ X W tg e (bI X W tg e) :=
  ⟨fun pins s σ H Q I ⟨ρ, M, Hf, P, PX, sr, ⟨d, j, h⟩, fe, fx⟩ => j.run pins s σ H Q I ⟨ρ, M, Hf, P, PX, sr, h, fe, fx⟩⟩
def IK {α : Type} (X : Cx) (W : WX') (tg e : Expr) (E : Env) (κ : List D → Env → Option α → Prop) (ξ : Xi α) (m : Option α) : Prop :=
  ∀ fin ρ B M pd po P PX, Rel E ρ B M pd po → m = some fin →
    (∀ ds E' m' M', κ ds E' m' → m' = some fin → Rel E' ρ B M' pd po → P ds M') →
    (∀ C fs E' m' M', ξ C fs E' m' → m' = some fin → Rel E' ρ B M' pd po → PX C fs M') → bI X W tg e ρ M P PX
def rngI (lo : Int) (n : Nat) : List Int := (List.range n).map fun i : Nat => lo + (i : Int)
theorem upTo_rng (lo : Int) (n : Nat) : DL.upTo lo n = (rngI lo n).map .int := by simp [DL.upTo, rngI]
def rangeO (i j : Int) : Option (List Int) := if -(2 ^ 62) ≤ i ∧ i < 2 ^ 62 ∧ -(2 ^ 62) ≤ j ∧ j < 2 ^ 62 then some (rngI i (j - i).toNat) else none
section
variable {α : Type} {X : Cx} {W : WX'} {tg e a b : Expr} {E : Env} {κ : List D → Env → Option α → Prop} {ξ : Xi α} {m : Option α} {p pos : Pos}
theorem ik_seq (h : EK X W e E (fun o E1 m1 => ∃ ds, (o = .v (.tup ds) ∨ o = .v (.lst ds) ∨ o = .v (.scr ds)) ∧ κ ds E1 m1) ξ m) : IK X W tg e E κ ξ m := fun fin ρ B M pd po P PX r hm hp hx =>
  ⟨_, ij_seq bE_j, h fin ρ B M pd po _ PX r hm (fun o E1 m1 d M1 ⟨ds, ho, k⟩ hm1 r1 => by
    rcases ho with rfl | rfl | rfl <;>
    · obtain ⟨rfl, r2⟩ := r1.ofV
      exact hp ds E1 m1 M1 k hm1 r2) hx⟩
theorem ik_range1 (hm0 : X.mg "range" = none) (h : AK X W [a] E (fun as E1 m1 => ∃ (n : Int) (g : List Int → Option α), as.map (·.2) = [.v (.int n)] ∧ m1 = (rangeO 0 n).bind g ∧ ∀ xs, κ (xs.map .int) E1 (g xs)) ξ m) (hg : Gl X "range" := by rfl) (hs : starEach [a] X.env = [(false, eval a X.env)] := by rfl) :
    IK X W tg (.Call (.Name "range" p) [a] [] pos) E κ ξ m := fun fin ρ B M pd po P PX r hm hp hx =>
  ⟨_, ij_range1 hm0 bA_j hg hs, h fin ρ B M pd po _ PX r hm (fun as E1 m1 ds M1 ⟨n, g, e1, e2, k⟩ hm1 r1 hl ho => by
    rw [e1] at r1
    match ds, hl, r1 with
    | [d], _, r1 =>
      obtain ⟨rfl, r2⟩ := Rel.ofV r1
      subst e2
      unfold rangeO at hm1
      split at hm1
      · rename_i hb
        refine ⟨⟨hb.2.2.1, hb.2.2.2⟩, ?_⟩
        rw [upTo_rng]
        refine hp _ E1 _ M1 (k _) ?_ r2
        rw [Option.bind_some, show (n - 0).toNat = n.toNat by rw [Int.sub_zero]] at hm1
        exact hm1
      · cases hm1
    | [], hl, _ => rw [← as.length_map (·.2), e1] at hl; simp at hl
    | _ :: _ :: _, hl, _ => rw [← as.length_map (·.2), e1] at hl; simp at hl) hx⟩
theorem ik_range2 (hm0 : X.mg "range" = none) (h : AK X W [a, b] E (fun as E1 m1 => ∃ (i j : Int) (g : List Int → Option α), as.map (·.2) = [.v (.int i), .v (.int j)] ∧ m1 = (rangeO i j).bind g ∧ ∀ xs, κ (xs.map .int) E1 (g xs)) ξ m) (hg : Gl X "range" := by rfl)
    (hs : starEach [a, b] X.env = [(false, eval a X.env), (false, eval b X.env)] := by rfl) (hs2 : starEach [b] X.env = [(false, eval b X.env)] := by rfl) :
    IK X W tg (.Call (.Name "range" p) [a, b] [] pos) E κ ξ m := fun fin ρ B M pd po P PX r hm hp hx =>
  ⟨_, ij_range2 hm0 bA_j hg hs hs2, h fin ρ B M pd po _ PX r hm (fun as E1 m1 ds M1 ⟨i, j, g, e1, e2, k⟩ hm1 r1 hl ho => by
    rw [e1] at r1
    match ds, hl, r1 with
    | [d, d2], _, r1 =>
      obtain ⟨rfl, r3⟩ := Rel.ofV r1
      obtain ⟨rfl, r2⟩ := Rel.ofV r3
      subst e2
      unfold rangeO at hm1
      split at hm1
      · rename_i hb
        refine ⟨hb, ?_⟩
        rw [upTo_rng]
        exact hp _ E1 _ M1 (k _) hm1 r2
      · cases hm1
    | [], hl, _ => rw [← as.length_map (·.2), e1] at hl; simp at hl
    | [_], hl, _ => rw [← as.length_map (·.2), e1] at hl; simp at hl
    | _ :: _ :: _ :: _, hl, _ => rw [← as.length_map (·.2), e1] at hl; simp at hl) hx⟩
end

/-! ### for -/
def forF {S R A : Type} (f : S → A → Option (Fl S R S)) : List A → S → Option (Fl S R Empty)
  | [], s => some (.nx s)
  | x :: xs, s => match f s x with
    | none => none
    | some (.nx s') => forF f xs s'
    | some (.ct s') => forF f xs s'
    | some (.bk s') => some (.nx s')
    | some (.rt r) => some (.rt r)
def forO {S A : Type} (f : S → A → Option S) : List A → S → Option S
  | [], s => some s
  | x :: xs, s => (f s x).bind fun s' => forO f xs s'
def joinE {α S R : Type} (up : R → Option α) (m : Option (Fl S R Empty)) (k : S → Option α) : Option α := match m with
  | none => none
  | some (.nx s) => k s
  | some (.rt r) => up r
def Tg.loop {α S R : Type} (T : Tg α) (Es : S → Env) (up : R → Option α) : Tg (Fl S R S) where
  nx := fun E' m' => ∃ s, m' = some (.nx s) ∧ leE (Es s) E'
  rt := fun o E' m' => ∃ r, m' = some (.rt r) ∧ T.rt o E' (up r)
  bk := fun E' m' => ∃ s, m' = some (.bk s) ∧ leE (Es s) E'
  ct := fun E' m' => ∃ s, m' = some (.ct s) ∧ leE (Es s) E'
  ex := fun C fs E' m' => ∃ r, m' = some (.rt r) ∧ T.ex C fs E' (up r)
theorem drop_cons {A : Type} {xs : List A} {i : Nat} {x : A} (h : xs[i]? = some x) : xs.drop i = x :: xs.drop (i + 1) := by
  obtain ⟨hl, e⟩ := List.getElem?_eq_some_iff.mp h
  rw [← e]
  exact List.drop_eq_getElem_cons hl
section
variable {α S R A : Type} {X : Cx} {W : WX'} {kp : List Nat} {tg it c : Expr} {body : List Stmt} {E : Env} {T : Tg α} {m : Option α} {pos : Pos} {up : R → Option α}
theorem sk_for (Es : S → Env) (ed : A → D) (hp : PassesOwn (model X.prog X.w) X.A X.env X.xe) (hc : X.calm = true)
    (h : IK X W tg it E (fun ds E1 m1 => ∃ (xs : List A) (s0 : S) (f : S → A → Option (Fl S R S)) (k : S → Option α), ds = xs.map ed ∧ leE (Es s0) E1 ∧ m1 = joinE up (forF f xs s0) k ∧
      (∀ s x, GK X kp tg (.v (ed x)) (Es s) (fun E' => LK X W kp body E' (T.loop Es up) (f s x))) ∧ ∀ s, T.nx (Es s) (k s)) T.ex m)
    (hs : ∀ x, foldedSetIterable it X.env x = pure x := by intro _; rfl) : SK X W kp (.For tg it body [] pos) E T m := fun fin ρ B M DD r hm ac =>
  ⟨_, sj_for hp hc bI_j bG_j bB_j hs, h fin ρ B M [] [] _ _ r hm (fun ds E1 m1 M1 ⟨xs, s0, f, k, e1, l0, e2, kb, kn⟩ hm1 r1 => by
    subst e1 e2
    refine ⟨fun i ρ' M' => ∃ s, joinE up (forF f (xs.drop i) s) k = some fin ∧ Rel (Es s) ρ' B M' [] [] ∧ ∀ j ∈ kp, ρ' j = ρ j, ⟨s0, hm1, r1.le (leE_ok l0), fun _ _ => rfl⟩, ?_, ?_⟩
    · rintro i d ρ2 M2 hd ⟨s, hj, r2, q2⟩
      rw [List.getElem?_map] at hd
      cases hx : xs[i]? with
      | none => rw [hx] at hd; cases hd
      | some x =>
        rw [hx] at hd
        cases hd
        rw [drop_cons hx] at hj
        refine kb s x ρ2 B M2 _ _ (r2.v (ed x)) fun E3 ρ3 M3 k3 r3 q3 => ?_
        cases hf : f s x with
        | none => rw [forF, hf] at hj; cases hj
        | some fl =>
          rw [forF, hf] at hj
          refine k3 fl ρ3 B M3 _ r3 hf ⟨?_, ?_, ?_, ?_, ?_⟩
          · rintro E' m' ρ' M' ⟨s', e1, l⟩ e2 r' q'
            rw [e1] at e2
            cases e2
            exact ⟨s', hj, r'.le (leE_ok l), fun j z => ((q' j z).trans (q3 j z)).trans (q2 j z)⟩
          · rintro o E' m' ρ' d M' ⟨s', e1, l⟩ e2 r' q'
            rw [e1] at e2
            cases e2
            exact ac.rt o E' _ ρ' d M' l hj r' fun j z => ((q' j z).trans (q3 j z)).trans (q2 j z)
          · rintro E' m' ρ' M' ⟨s', e1, l⟩ e2 r' q'
            rw [e1] at e2
            cases e2
            exact ac.nx _ _ ρ' M' (kn s') hj (r'.le (leE_ok l)) fun j z => ((q' j z).trans (q3 j z)).trans (q2 j z)
          · rintro E' m' ρ' M' ⟨s', e1, l⟩ e2 r' q'
            rw [e1] at e2
            cases e2
            exact ⟨s', hj, r'.le (leE_ok l), fun j z => ((q' j z).trans (q3 j z)).trans (q2 j z)⟩
          · rintro C fs E' m' ρ' M' ⟨s', e1, l⟩ e2 r' q'
            rw [e1] at e2
            cases e2
            exact ac.ex C fs E' _ ρ' M' l hj r' fun j z => ((q' j z).trans (q3 j z)).trans (q2 j z)
    · rintro ρ2 M2 ⟨s, hj, r2, q2⟩
      rw [List.length_map, List.drop_length] at hj
      exact ac.nx _ _ ρ2 M2 (kn s) hj r2 q2) fun C fs E' m' M' k hm' r' => ac.ex C fs E' m' ρ M' k hm' r' fun _ _ => rfl⟩
theorem sk_forO (Es : S → Env) (ed : A → D) (hp : PassesOwn (model X.prog X.w) X.A X.env X.xe) (hc : X.calm = true)
    (h : IK X W tg it E (fun ds E1 m1 => ∃ (xs : List A) (s0 : S) (f : S → A → Option S) (k : S → Option α), ds = xs.map ed ∧ leE (Es s0) E1 ∧ m1 = (forO f xs s0).bind k ∧
      (∀ s x, GK X kp tg (.v (ed x)) (Es s) (fun E' => LK X W kp body E' (Tg.on Es) (f s x))) ∧ ∀ s, T.nx (Es s) (k s)) T.ex m)
    (hs : ∀ x, foldedSetIterable it X.env x = pure x := by intro _; rfl) : SK X W kp (.For tg it body [] pos) E T m := fun fin ρ B M DD r hm ac =>
  ⟨_, sj_for hp hc bI_j bG_j bB_j hs, h fin ρ B M [] [] _ _ r hm (fun ds E1 m1 M1 ⟨xs, s0, f, k, e1, l0, e2, kb, kn⟩ hm1 r1 => by
    subst e1 e2
    refine ⟨fun i ρ' M' => ∃ s, (forO f (xs.drop i) s).bind k = some fin ∧ Rel (Es s) ρ' B M' [] [] ∧ ∀ j ∈ kp, ρ' j = ρ j, ⟨s0, hm1, r1.le (leE_ok l0), fun _ _ => rfl⟩, ?_, ?_⟩
    · rintro i d ρ2 M2 hd ⟨s, hj, r2, q2⟩
      rw [List.getElem?_map] at hd
      cases hx : xs[i]? with
      | none => rw [hx] at hd; cases hd
      | some x =>
        rw [hx] at hd
        cases hd
        rw [drop_cons hx] at hj
        refine kb s x ρ2 B M2 _ _ (r2.v (ed x)) fun E3 ρ3 M3 k3 r3 q3 => ?_
        cases hf : f s x with
        | none => rw [forO, hf] at hj; cases hj
        | some fl =>
          rw [forO, hf, Option.bind_some] at hj
          refine k3 fl ρ3 B M3 _ r3 hf ⟨?_, fun _ _ _ _ _ _ h => h.elim, fun _ _ _ _ h => h.elim, fun _ _ _ _ h => h.elim, fun _ _ _ _ _ _ h => h.elim⟩
          rintro E' m' ρ' M' ⟨s', e1, l⟩ e2 r' q'
          rw [e1] at e2
          cases e2
          exact ⟨_, hj, r'.le (leE_ok l), fun j z => ((q' j z).trans (q3 j z)).trans (q2 j z)⟩
    · rintro ρ2 M2 ⟨s, hj, r2, q2⟩
      rw [List.length_map, List.drop_length] at hj
      exact ac.nx _ _ ρ2 M2 (kn s) hj r2 q2) fun C fs E' m' M' k hm' r' => ac.ex C fs E' m' ρ M' k hm' r' fun _ _ => rfl⟩
end

/-! ### while -/
def whN {S R : Type} (c : S → Option Bool) (b : S → Option (Fl S R S)) : Nat → S → Option (Fl S R Empty)
  | 0, _ => none
  | n + 1, s => match c s with
    | none => none
    | some false => some (.nx s)
    | some true => match b s with
      | none => none
      | some (.nx s') => whN c b n s'
      | some (.ct s') => whN c b n s'
      | some (.bk s') => some (.nx s')
      | some (.rt r) => some (.rt r)
theorem whN_succ {S R : Type} {c : S → Option Bool} {b : S → Option (Fl S R S)} : ∀ {n : Nat} {s : S} {f : Fl S R Empty}, whN c b n s = some f → whN c b (n + 1) s = some f
  | 0, _, _, h => by cases h
  | n + 1, s, f, h => by
    unfold whN at h ⊢
    cases hc : c s with
    | none => rw [hc] at h; cases h
    | some t =>
      rw [hc] at h
      cases t with
      | false => exact h
      | true =>
        dsimp only at h ⊢
        cases hb : b s with
        | none => rw [hb] at h; cases h
        | some fl =>
          rw [hb] at h
          cases fl with
          | nx s' => exact whN_succ (n := n) h
          | ct s' => exact whN_succ (n := n) h
          | bk s' => exact h
          | rt r => exact h
theorem whN_le {S R : Type} {c : S → Option Bool} {b : S → Option (Fl S R S)} {n m : Nat} (hl : n ≤ m) {s : S} {f : Fl S R Empty} (h : whN c b n s = some f) : whN c b m s = some f := by
  induction hl with
  | refl => exact h
  | step _ ih => exact whN_succ ih
open Classical in
noncomputable def whF {S R : Type} (c : S → Option Bool) (b : S → Option (Fl S R S)) (s : S) : Option (Fl S R Empty) :=
  if h : ∃ n f, whN c b n s = some f then some h.choose_spec.choose else none
theorem whF_iff {S R : Type} {c : S → Option Bool} {b : S → Option (Fl S R S)} {s : S} {f : Fl S R Empty} : whF c b s = some f ↔ ∃ n, whN c b n s = some f := by
  unfold whF
  constructor
  · intro h
    split at h
    · rename_i hh
      cases h
      exact ⟨_, hh.choose_spec.choose_spec⟩
    · cases h
  · rintro ⟨n, h⟩
    have hh : ∃ n f, whN c b n s = some f := ⟨n, f, h⟩
    rw [dif_pos hh]
    have h2 := hh.choose_spec.choose_spec
    have a := whN_le (Nat.le_max_left n hh.choose) h
    have b := whN_le (Nat.le_max_right n hh.choose) h2
    rw [a] at b
    exact b.symm
/-- one turn -/
theorem whF_eq {S R : Type} (c : S → Option Bool) (b : S → Option (Fl S R S)) (s : S) : whF c b s = match c s with
    | none => none
    | some false => some (.nx s)
    | some true => match b s with
      | none => none
      | some (.nx s') => whF c b s'
      | some (.ct s') => whF c b s'
      | some (.bk s') => some (.nx s')
      | some (.rt r) => some (.rt r) := by
  apply Option.ext
  intro f
  rw [show (whF c b s = some f) ↔ _ from whF_iff]
  constructor
  · rintro ⟨n, h⟩
    cases n with
    | zero => cases h
    | succ n =>
      rw [whN] at h
      split at h
      · cases h
      · exact h
      · split at h
        · cases h
        · exact whF_iff.mpr ⟨n, h⟩
        · exact whF_iff.mpr ⟨n, h⟩
        · exact h
        · exact h
  · intro h
    cases hc : c s with
    | none => rw [hc] at h; cases h
    | some t =>
      rw [hc] at h
      cases t with
      | false => exact ⟨1, by rw [whN, hc]; exact h⟩
      | true =>
        cases hb : b s with
        | none => rw [hb] at h; cases h
        | some fl =>
          rw [hb] at h
          cases fl with
          | nx s' =>
            obtain ⟨n, h⟩ := whF_iff.mp h
            exact ⟨n + 1, by rw [whN, hc, hb]; exact h⟩
          | ct s' =>
            obtain ⟨n, h⟩ := whF_iff.mp h
            exact ⟨n + 1, by rw [whN, hc, hb]; exact h⟩
          | bk s' => exact ⟨1, by rw [whN, hc, hb]; exact h⟩
          | rt r => exact ⟨1, by rw [whN, hc, hb]; exact h⟩
/-- where no way leads out -/
noncomputable def whO {S : Type} (c : S → Option Bool) (b : S → Option S) (s : S) : Option S := match whF (R := Empty) c (fun s => (b s).map .nx) s with
  | some (.nx s) => some s
  | none => none
theorem whO_eq {S : Type} (c : S → Option Bool) (b : S → Option S) (s : S) : whO c b s = (c s).bind fun t => if t then (b s).bind (whO c b) else some s := by
  unfold whO
  rw [whF_eq]
  cases c s with
  | none => rfl
  | some t =>
    cases t with
    | false => rfl
    | true =>
      cases b s with
      | none => rfl
      | some s' => rfl
section
variable {α S R : Type} {X : Cx} {W : WX'} {kp : List Nat} {c : Expr} {body : List Stmt} {E : Env} {T : Tg α} {m : Option α} {pos : Pos} {up : R → Option α}
theorem sk_while (Es : S → Env) (s0 : S) (f : S → Option (Fl S R S)) (t : S → Option Bool) (k : S → Option α) (hp : PassesOwn (model X.prog X.w) X.A X.env X.xe) (l0 : leE (Es s0) E) (hm0 : m = joinE up (whF t f s0) k)
    (hc : ∀ s, TK X W c (Es s) (fun b E1 m1 => m1 = some b ∧ leE (Es s) E1) (fun _ _ _ _ => False) (t s)) (hb : ∀ s, LK X W kp body (Es s) (T.loop Es up) (f s)) (kn : ∀ s, T.nx (Es s) (k s)) : SK X W kp (.While c body [] pos) E T m := fun fin ρ B M DD r hm ac =>
  ⟨_, sj_while hp bT_j bB_j, by
    subst hm0
    cases hw : whF t f s0 with
    | none => rw [hw] at hm; cases hm
    | some fw =>
    obtain ⟨n0, hn0⟩ := whF_iff.mp hw
    rw [hw] at hm
    refine ⟨fun n ρ' M' => ∃ s, whN t f n s = some fw ∧ Rel (Es s) ρ' B M' [] [] ∧ ∀ j ∈ kp, ρ' j = ρ j, ⟨n0, s0, hn0, r.le (leE_ok l0), fun _ _ => rfl⟩, ?_⟩
    rintro n ρ2 M2 ⟨s, hn, r2, q2⟩
    cases n with
    | zero => cases hn
    | succ n =>
      rw [whN] at hn
      cases ht : t s with
      | none => rw [ht] at hn; cases hn
      | some b =>
        rw [ht] at hn
        refine hc s b ρ2 B M2 [] [] _ _ r2 ht (fun b' E1 m1 M1 ⟨e1, l1⟩ hm1 r1 => ?_) fun _ _ _ _ _ h => h.elim
        rw [e1] at hm1
        cases hm1
        have r1 := r1.le (leE_ok l1)
        cases b with
        | false =>
          cases hn
          exact ac.nx _ _ ρ2 M1 (kn s) hm r1 q2
        | true =>
          dsimp only at hn
          cases hf : f s with
          | none => rw [hf] at hn; cases hn
          | some fl =>
            rw [hf] at hn
            refine hb s fl ρ2 B M1 _ r1 hf ⟨?_, ?_, ?_, ?_, ?_⟩
            · rintro E' m' ρ' M' ⟨s', e1, l⟩ e2 r' q'
              rw [e1] at e2
              cases e2
              exact ⟨n, Nat.lt_succ_self n, s', hn, r'.le (leE_ok l), fun j z => (q' j z).trans (q2 j z)⟩
            · rintro o E' m' ρ' d M' ⟨s', e1, l⟩ e2 r' q'
              rw [e1] at e2
              cases e2
              cases hn
              exact ac.rt o E' _ ρ' d M' l hm r' fun j z => (q' j z).trans (q2 j z)
            · rintro E' m' ρ' M' ⟨s', e1, l⟩ e2 r' q'
              rw [e1] at e2
              cases e2
              cases hn
              exact ac.nx _ _ ρ' M' (kn s') hm (r'.le (leE_ok l)) fun j z => (q' j z).trans (q2 j z)
            · rintro E' m' ρ' M' ⟨s', e1, l⟩ e2 r' q'
              rw [e1] at e2
              cases e2
              exact ⟨n, Nat.lt_succ_self n, s', hn, r'.le (leE_ok l), fun j z => (q' j z).trans (q2 j z)⟩
            · rintro C fs E' m' ρ' M' ⟨s', e1, l⟩ e2 r' q'
              rw [e1] at e2
              cases e2
              cases hn
              exact ac.ex C fs E' _ ρ' M' l hm r' fun j z => (q' j z).trans (q2 j z)⟩
theorem sk_whileO (Es : S → Env) (s0 : S) (f : S → Option S) (t : S → Option Bool) (k : S → Option α) (hp : PassesOwn (model X.prog X.w) X.A X.env X.xe) (l0 : leE (Es s0) E) (hm0 : m = (whO t f s0).bind k)
    (hc : ∀ s, TK X W c (Es s) (fun b E1 m1 => m1 = some b ∧ leE (Es s) E1) (fun _ _ _ _ => False) (t s)) (hb : ∀ s, LK X W kp body (Es s) (Tg.on Es) (f s)) (kn : ∀ s, T.nx (Es s) (k s)) : SK X W kp (.While c body [] pos) E T m := by
  refine sk_while (R := Empty) (up := fun e => e.elim) Es s0 (fun s => (f s).map .nx) t k hp l0 ?_ hc (fun s => ?_) kn
  · rw [hm0]
    unfold whO joinE
    cases whF (R := Empty) t (fun s => (f s).map .nx) s0 with
    | none => rfl
    | some fl => cases fl with
      | nx s => rfl
      | rt r => exact r.elim
      | bk r => exact r.elim
      | ct r => exact r.elim
  · intro fin ρ B M DD r hm ac
    cases hf : f s with
    | none => rw [hf] at hm; cases hm
    | some s' =>
      rw [hf] at hm
      cases hm
      refine hb s s' ρ B M DD r hf ⟨?_, fun _ _ _ _ _ _ h => h.elim, fun _ _ _ _ h => h.elim, fun _ _ _ _ h => h.elim, fun _ _ _ _ _ _ h => h.elim⟩
      rintro E' m' ρ' M' ⟨s2, e1, l⟩ e2 r' q'
      rw [e1] at e2
      cases e2
      exact ac.nx E' _ ρ' M' ⟨_, rfl, l⟩ rfl r' q'
end
end B

/-! B: arguments read alone, displays, built-ins, tests, comprehensions, defs -/
namespace B
open PySem PySem.Spec PyProof.Rows L2 DL
/-- the trees of things -/
inductive VMs (M : Mm) : List D → List O → Prop
  | nil : VMs M [] []
  | cons {d : D} {ds : List D} {o : O} {os : List O} : VM M d o → VMs M ds os → VMs M (d :: ds) (o :: os)
theorem VMs.ofVs {M : Mm} : ∀ {ds xs : List D}, VMs M ds (xs.map .v) → ds = xs
  | _, [], .nil => rfl
  | _, x :: xs, .cons h t => by rw [h.ofV, t.ofVs]
theorem ORs.vms {M : Mm} : ∀ {ds : List D} {os : List O} {F : List Addr}, ORs M ds os F → VMs M ds os
  | _, _, _, .nil => .nil
  | _, _, _, .cons h r _ => .cons ⟨_, h⟩ r.vms
/-- arguments, read alone -/
def BAK {α : Type} (X : Cx) (W : WX') (es : List Expr) (E : Env) (κ : List O → Option α → Prop) (m : Option α) : Prop :=
  ∀ fin ρ B M pd po P PX, Rel E ρ B M pd po → m = some fin → (∀ os m' ds, κ os m' → m' = some fin → VMs M ds os → P ds M) → bA X W es ρ M P PX
/-- one step over some values -/
def RKL (r : List D → Mm → DP → Prop) (os : List O) (κ : D → Option α → Prop) (m : Option α) : Prop :=
  ∀ fin, m = some fin → ∃ z m', κ z m' ∧ m' = some fin ∧ ∀ M ds P, VMs M ds os → P z M → r ds M P
section
variable {α : Type} {X : Cx} {W : WX'} {e a b c : Expr} {es : List Expr} {E : Env} {κ : O → Option α → Prop} {κA : List O → Option α → Prop} {κE : O → Env → Option α → Prop} {ξ : Xi α} {m : Option α} {pos : Pos} {r : List D → Mm → DP → Prop}
theorem bak_nil (k : κA [] m) : BAK X W [] E κA m := fun fin ρ B M pd po P PX r hm hp => ⟨dNil, aj_nil, hp [] m [] k hm .nil⟩
theorem bak_cons (k : BK X W e E (fun o m1 => BAK X W es E (fun os m2 => κA (o :: os) m2) m1) m) (hs : starEach (e :: es) X.env = (false, eval e X.env) :: starEach es X.env := by rfl) : BAK X W (e :: es) E κA m :=
  fun fin ρ B M pd po P PX r hm hp => ⟨dCons (bE X W e) (bA X W es), aj_cons bE_j bA_j hs, k fin ρ B M pd po _ PX r hm fun o m1 d k1 hm1 v1 => k1 fin ρ B M pd po _ PX r hm1 fun os m2 ds k2 hm2 v2 => hp _ m2 _ k2 hm2 (.cons v1 v2)⟩
theorem bk_cb (h : ∀ d, AJ X W es d → EJ X W e (dCB r d)) (k : BAK X W es E (fun os m1 => RKL r os (fun z m2 => κ (.v z) m2) m1) m) : BK X W e E κ m :=
  bk_of (h _ bA_j) fun fin ρ B M pd po P PX r hm hp => k fin ρ B M pd po _ PX r hm fun os m1 ds k1 hm1 v1 => by
    obtain ⟨z, m2, k2, hm2, q⟩ := k1 fin hm1
    exact q M ds P v1 (hp _ m2 z k2 hm2 (VM.v z))
theorem ek_cb (h : ∀ d, AJ X W es d → EJ X W e (dCB r d)) (k : AK X W es E (fun as E1 m1 => RKL r (as.map (·.2)) (fun z m2 => κE (.v z) (putB E1 as (as.map (·.2))) m2) m1) ξ m) : EK X W e E κE ξ m :=
  fun fin ρ B M pd po P PX r hm hp hx => ⟨_, h _ bA_j, k fin ρ B M pd po _ PX r hm (fun as E1 m1 ds M1 k1 hm1 r1 hl ho => by
    obtain ⟨z, m2, k2, hm2, q⟩ := k1 fin hm1
    have hl2 : ds.length = (as.map (·.2)).length := by rw [List.length_map]; exact hl
    have hv : VMs M1 ds (as.map (·.2)) := by
      obtain ⟨φ, F, w⟩ := r1
      obtain ⟨F1, F2, _, h1, _, _⟩ := w.pen.cut2 hl2
      exact h1.vms
    exact q M1 ds P hv (hp _ _ m2 z M1 k2 hm2 ((Rel.putB r1 hl hl2 ho).v z))) hx⟩
/-! ### displays -/
theorem allV : ∀ {as : List (Option Nat × O)} {xs : List D}, as.map (·.2) = xs.map .v → ∀ {M : Mm} {ds : List D} {F : List Addr}, ORs M ds (as.map (·.2)) F → ds = xs := fun h M ds F o => by rw [h] at o; exact o.ofVs.1
theorem bk_tup {x1} (k : BAK X W es E (fun os m1 => ∃ xs : List D, os = xs.map .v ∧ xs.length ≤ sizeLine ∧ κ (.v (.tup xs)) m1) m) : BK X W (.Tuple es x1 pos) E κ m :=
  bk_of (ej_tup bA_j) fun fin ρ B M pd po P PX r hm hp => k fin ρ B M pd po _ PX r hm fun os m1 ds ⟨xs, e1, hl, k1⟩ hm1 v1 => by
    subst e1
    obtain rfl := v1.ofVs
    exact ⟨hl, hp _ m1 _ k1 hm1 (VM.v _)⟩
theorem bk_lst (k : BAK X W es E (fun os m1 => ∃ xs : List D, os = xs.map .v ∧ xs.length ≤ sizeLine ∧ κ (.v (.lst xs)) m1) m) : BK X W (.List es pos) E κ m :=
  bk_of (ej_lst bA_j) fun fin ρ B M pd po P PX r hm hp => k fin ρ B M pd po _ PX r hm fun os m1 ds ⟨xs, e1, hl, k1⟩ hm1 v1 => by
    subst e1
    obtain rfl := v1.ofVs
    exact ⟨hl, hp _ m1 _ k1 hm1 (VM.v _)⟩
theorem ek_tup {x1} (k : AK X W es E (fun as E1 m1 => ∃ xs : List D, as.map (·.2) = xs.map .v ∧ xs.length ≤ sizeLine ∧ κE (.v (.tup xs)) E1 m1) ξ m) : EK X W (.Tuple es x1 pos) E κE ξ m :=
  fun fin ρ B M pd po P PX r hm hp hx => ⟨_, ej_tup bA_j, k fin ρ B M pd po _ PX r hm (fun as E1 m1 ds M1 ⟨xs, e1, hl, k1⟩ hm1 r1 hl1 ho => by
    have hl2 : ds.length = (as.map (·.2)).length := by rw [List.length_map]; exact hl1
    have hd : ds = xs := by
      obtain ⟨φ, F, w⟩ := r1
      obtain ⟨F1, F2, _, h1, _, _⟩ := w.pen.cut2 hl2
      exact allV e1 h1
    subst hd
    exact ⟨hl, hp _ E1 m1 _ M1 k1 hm1 ((r1.drop hl2).v _)⟩) hx⟩
theorem ek_lst (k : AK X W es E (fun as E1 m1 => ∃ xs : List D, as.map (·.2) = xs.map .v ∧ xs.length ≤ sizeLine ∧ κE (.v (.lst xs)) E1 m1) ξ m) : EK X W (.List es pos) E κE ξ m :=
  fun fin ρ B M pd po P PX r hm hp hx => ⟨_, ej_lst bA_j, k fin ρ B M pd po _ PX r hm (fun as E1 m1 ds M1 ⟨xs, e1, hl, k1⟩ hm1 r1 hl1 ho => by
    have hl2 : ds.length = (as.map (·.2)).length := by rw [List.length_map]; exact hl1
    have hd : ds = xs := by
      obtain ⟨φ, F, w⟩ := r1
      obtain ⟨F1, F2, _, h1, _, _⟩ := w.pen.cut2 hl2
      exact allV e1 h1
    subst hd
    exact ⟨hl, hp _ E1 m1 _ M1 k1 hm1 ((r1.drop hl2).v _)⟩) hx⟩
/-- a new list of one's own -/
theorem ek_lstM (k : AK X W es E (fun as E1 m1 => as.length ≤ sizeLine ∧ κE (.l (as.map (·.2))) E1 m1) ξ m) : EK X W (.List es pos) E κE ξ m :=
  fun fin ρ B M pd po P PX r hm hp hx => ⟨_, ej_lstM bA_j, k fin ρ B M pd po _ PX r hm (fun as E1 m1 ds M1 ⟨hl, k1⟩ hm1 r1 hl1 ho => ⟨by rw [hl1]; exact hl, fun a ha => by
    have hl2 : ds.length = (as.map (·.2)).length := by rw [List.length_map]; exact hl1
    refine hp _ E1 m1 _ _ k1 hm1 (Rel.chg (ds' := [.ref a]) (os' := [.l (as.map (·.2))]) r1 hl2 fun F hF => ?_)
    have hn : a ∉ F := fun z => hF.al a z ha
    refine ⟨[a] ++ (F ++ []), ?_, fun b hb _ => um_ne fun z => hb (by rw [z]; exact ha), fun b hb => ?_⟩
    · have := ORs.cons (F := a :: F) (G := []) (OR.l (M := um M1 a (.lst ds)) um_same (hF.fr fun b hb => um_ne fun z => hn (by rw [← z]; exact hb)) hn) .nil Dis.nil'
      exact this
    · simp only [List.append_nil, List.mem_append, List.mem_singleton] at hb
      exact hb.elim (fun z => .inr (by rw [z]; exact ha)) .inl⟩) hx⟩
end

/-! ### tests -/
def bW (X : Cx) (W : WX') (e : Expr) : DT := fun ρ M P PX => ∃ d : DT, WJ X W e d ∧ d ρ M P PX
theorem bW_j {X : Cx} {W : WX'} {e : Expr} : WJ X W e (bW X W e) :=
  ⟨fun wh pins s σ H Q I ⟨ρ, M, Hf, P, PX, sr, ⟨d, j, h⟩, fe, fx⟩ => j.run wh pins s σ H Q I ⟨ρ, M, Hf, P, PX, sr, h, fe, fx⟩⟩
def WK {α : Type} (X : Cx) (W : WX') (e : Expr) (E : Env) (κ : Bool → Env → Option α → Prop) (ξ : Xi α) (m : Option α) : Prop :=
  ∀ fin ρ B M pd po P PX, Rel E ρ B M pd po → m = some fin →
    (∀ b E' m' M', κ b E' m' → m' = some fin → Rel E' ρ B M' pd po → P b M') →
    (∀ C fs E' m' M', ξ C fs E' m' → m' = some fin → Rel E' ρ B M' pd po → PX C fs M') → bW X W e ρ M P PX
/-- a test that changes nothing and always answers -/
def TT (X : Cx) (W : WX') (e : Expr) (E : Env) (y : Bool) : Prop := ∀ {α : Type} {κ : Bool → Env → Option α → Prop} {ξ : Xi α} {m : Option α}, κ y E m → TK X W e E κ ξ m
def TTw (X : Cx) (W : WX') (e : Expr) (E : Env) (y : Bool) : Prop := ∀ {α : Type} {κ : Bool → Env → Option α → Prop} {ξ : Xi α} {m : Option α}, κ y E m → WK X W e E κ ξ m
section
variable {α : Type} {X : Cx} {W : WX'} {e a b c : Expr} {rest : List Expr} {E : Env} {κ : Bool → Env → Option α → Prop} {ξ : Xi α} {m : Option α} {pos : Pos} {rD : RD2}
theorem tk_e (h : EK X W e E (fun o E1 m1 => ∃ b, o = .v (.bl b) ∧ κ b E1 m1) ξ m) (he : ∀ whole, isTrue e X.env whole = (do let v ← whole; standAt e.pos; holding [v] (truthy v)) := by intro _; rfl) : TK X W e E κ ξ m :=
  fun fin ρ B M pd po P PX r hm hp hx => ⟨_, tj_val bE_j he, h fin ρ B M pd po _ PX r hm (fun o E1 m1 d M1 ⟨b, e1, k⟩ hm1 r1 => by
    subst e1
    obtain ⟨rfl, r2⟩ := r1.ofV
    exact hp b E1 m1 M1 k hm1 r2) hx⟩
theorem tk_cmp (h : ∀ da db, EJ X W a da → EJ X W b db → TJ X W e (dTst (dOp rD da db))) (k : EK X W a E (fun o E1 m1 => EK X W b E1 (fun p E2 m2 => RK2 rD o p (fun z m3 => ∃ t, z = .bl t ∧ κ t E2 m3) m2) ξ m1) ξ m) : TK X W e E κ ξ m :=
  fun fin ρ B M pd po P PX r hm hp hx => ⟨_, h _ _ bE_j bE_j, k fin ρ B M pd po _ PX r hm (fun o E1 m1 d M1 k1 hm1 r1 => k1 fin ρ B M1 _ _ _ PX r1 hm1 (fun p E2 m2 d2 M2 k2 hm2 r2 => by
    obtain ⟨z, m3, ⟨t, rfl, k3⟩, hm3, q⟩ := k2 fin hm2
    exact q M2 d d2 _ r2.drop1.top r2.top (hp t _ _ _ k3 hm3 r2.drop1.drop1)) fun C fs E' m' M' x hm' r' => hx C fs E' m' M' x hm' r'.drop1) hx⟩
theorem tk_cmpB (h : ∀ da db, EJ X W a da → EJ X W b db → TJ X W e (dTst (dOp rD da db))) (k : BK X W a E (fun o m1 => BK X W b E (fun p m2 => RK2 rD o p (fun z m3 => ∃ t, z = .bl t ∧ κ t E m3) m2) m1) m) : TK X W e E κ ξ m :=
  fun fin ρ B M pd po P PX r hm hp hx => ⟨_, h _ _ bE_j bE_j, k fin ρ B M pd po _ PX r hm fun o m1 d k1 hm1 v1 => k1 fin ρ B M pd po _ PX r hm1 fun p m2 d2 k2 hm2 v2 => by
    obtain ⟨z, m3, ⟨t, rfl, k3⟩, hm3, q⟩ := k2 fin hm2
    exact q M d d2 _ v1 v2 (hp t _ _ _ k3 hm3 r)⟩
theorem tk_not (h : TK X W e E (fun b E1 m1 => κ (!b) E1 m1) ξ m) : TK X W (.UnaryOp .Not e pos) E κ ξ m :=
  fun fin ρ B M pd po P PX r hm hp hx => ⟨_, tj_not bT_j, h fin ρ B M pd po _ PX r hm (fun b E1 m1 M1 k hm1 r1 => hp _ E1 m1 M1 k hm1 r1) hx⟩
theorem tk_w (h : WK X W e E κ ξ m) : TK X W e E κ ξ m := fun fin ρ B M pd po P PX r hm hp hx => ⟨_, tj_w bW_j, h fin ρ B M pd po P PX r hm hp hx⟩
theorem wk_and1 (h : TK X W a E κ ξ m) : WK X W (.BoolOp .And [a] pos) E κ ξ m := fun fin ρ B M pd po P PX r hm hp hx => ⟨_, wj_and1 bT_j, h fin ρ B M pd po P PX r hm hp hx⟩
theorem wk_or1 (h : TK X W a E κ ξ m) : WK X W (.BoolOp .Or [a] pos) E κ ξ m := fun fin ρ B M pd po P PX r hm hp hx => ⟨_, wj_or1 bT_j, h fin ρ B M pd po P PX r hm hp hx⟩
/-- a and b: b always answers where it is asked -/
theorem wk_andT (h : TK X W a E (fun x E1 m1 => ∃ y, (x = true → TTw X W (.BoolOp .And (b :: rest) pos) E1 y) ∧ κ (x && y) E1 m1) ξ m) : WK X W (.BoolOp .And (a :: b :: rest) pos) E κ ξ m :=
  fun fin ρ B M pd po P PX r hm hp hx => ⟨_, wj_and bT_j bW_j, h fin ρ B M pd po _ PX r hm (fun x E1 m1 M1 ⟨y, t, k⟩ hm1 r1 => by
    cases x with
    | true => exact t rfl (κ := κ) (ξ := ξ) k fin ρ B M1 pd po P PX r1 hm1 hp hx
    | false => exact hp _ E1 m1 M1 k hm1 r1) hx⟩
theorem wk_orT (h : TK X W a E (fun x E1 m1 => ∃ y, (x = false → TTw X W (.BoolOp .Or (b :: rest) pos) E1 y) ∧ κ (x || y) E1 m1) ξ m) : WK X W (.BoolOp .Or (a :: b :: rest) pos) E κ ξ m :=
  fun fin ρ B M pd po P PX r hm hp hx => ⟨_, wj_or bT_j bW_j, h fin ρ B M pd po _ PX r hm (fun x E1 m1 M1 ⟨y, t, k⟩ hm1 r1 => by
    cases x with
    | true => exact hp _ E1 m1 M1 k hm1 r1
    | false => exact t rfl (κ := κ) (ξ := ξ) k fin ρ B M1 pd po P PX r1 hm1 hp hx) hx⟩
theorem ttw_and1 {y : Bool} (h : TT X W a E y) : TTw X W (.BoolOp .And [a] pos) E y := fun k => wk_and1 (h k)
theorem ttw_or1 {y : Bool} (h : TT X W a E y) : TTw X W (.BoolOp .Or [a] pos) E y := fun k => wk_or1 (h k)
theorem ttw_and {x y : Bool} (h : TT X W a E x) (g : x = true → TTw X W (.BoolOp .And (b :: rest) pos) E y) : TTw X W (.BoolOp .And (a :: b :: rest) pos) E (x && y) := fun k => wk_andT (h ⟨y, g, k⟩)
theorem ttw_or {x y : Bool} (h : TT X W a E x) (g : x = false → TTw X W (.BoolOp .Or (b :: rest) pos) E y) : TTw X W (.BoolOp .Or (a :: b :: rest) pos) E (x || y) := fun k => wk_orT (h ⟨y, g, k⟩)
theorem tt_w {y : Bool} (h : TTw X W e E y) : TT X W e E y := fun k => tk_w (h k)
theorem tt_not {y : Bool} (h : TT X W e E y) : TT X W (.UnaryOp .Not e pos) E (!y) := fun k => tk_not (h k)
/-- a and b, b may stop or change slots -/
theorem wk_andP {S : Type} (Es : S → Env) (h : TK X W a E (fun x E1 m1 => ∃ (mb : Option (Bool × S)) (s1 : S) (k : Bool × S → Option α), m1 = (if x then mb else some (false, s1)).bind k ∧ leE (Es s1) E1 ∧
      (x = true → WK X W (.BoolOp .And (b :: rest) pos) E1 (fun y E2 m2 => ∃ s, m2 = some (y, s) ∧ leE (Es s) E2) (fun _ _ _ _ => False) mb) ∧ ∀ y s, κ y (Es s) (k (y, s))) ξ m) : WK X W (.BoolOp .And (a :: b :: rest) pos) E κ ξ m :=
  fun fin ρ B M pd po P PX r hm hp hx => ⟨_, wj_and bT_j bW_j, h fin ρ B M pd po _ PX r hm (fun x E1 m1 M1 ⟨mb, s1, k, e1, l1, t, kn⟩ hm1 r1 => by
    subst e1
    cases x with
    | true =>
      rw [if_pos rfl] at hm1
      cases hb : mb with
      | none => rw [hb] at hm1; cases hm1
      | some ys =>
        rw [hb] at hm1
        refine t rfl ys ρ B M1 pd po P PX r1 hb (fun y E2 m2 M2 ⟨s, e2, l2⟩ hm2 r2 => ?_) fun _ _ _ _ _ z => z.elim
        rw [e2] at hm2
        cases hm2
        exact hp y _ _ M2 (kn y s) hm1 (r2.le (leE_ok l2))
    | false =>
      rw [if_neg Bool.false_ne_true] at hm1
      exact hp false _ _ M1 (kn false s1) hm1 (r1.le (leE_ok l1))) hx⟩
theorem wk_orP {S : Type} (Es : S → Env) (h : TK X W a E (fun x E1 m1 => ∃ (mb : Option (Bool × S)) (s1 : S) (k : Bool × S → Option α), m1 = (if x then some (true, s1) else mb).bind k ∧ leE (Es s1) E1 ∧
      (x = false → WK X W (.BoolOp .Or (b :: rest) pos) E1 (fun y E2 m2 => ∃ s, m2 = some (y, s) ∧ leE (Es s) E2) (fun _ _ _ _ => False) mb) ∧ ∀ y s, κ y (Es s) (k (y, s))) ξ m) : WK X W (.BoolOp .Or (a :: b :: rest) pos) E κ ξ m :=
  fun fin ρ B M pd po P PX r hm hp hx => ⟨_, wj_or bT_j bW_j, h fin ρ B M pd po _ PX r hm (fun x E1 m1 M1 ⟨mb, s1, k, e1, l1, t, kn⟩ hm1 r1 => by
    subst e1
    cases x with
    | false =>
      rw [if_neg Bool.false_ne_true] at hm1
      cases hb : mb with
      | none => rw [hb] at hm1; cases hm1
      | some ys =>
        rw [hb] at hm1
        refine t rfl ys ρ B M1 pd po P PX r1 hb (fun y E2 m2 M2 ⟨s, e2, l2⟩ hm2 r2 => ?_) fun _ _ _ _ _ z => z.elim
        rw [e2] at hm2
        cases hm2
        exact hp y _ _ M2 (kn y s) hm1 (r2.le (leE_ok l2))
    | true =>
      rw [if_pos rfl] at hm1
      exact hp true _ _ M1 (kn true s1) hm1 (r1.le (leE_ok l1))) hx⟩
end
/-! ### values of tests -/
section
variable {α : Type} {X : Cx} {W : WX'} {e a b c : Expr} {rest : List Expr} {E : Env} {κ : O → Option α → Prop} {κE : O → Env → Option α → Prop} {ξ : Xi α} {m : Option α} {pos : Pos}
/-- a value that is always there -/
def VT (X : Cx) (W : WX') (e : Expr) (E : Env) (y : D) : Prop := ∀ {α : Type} {κ : O → Option α → Prop} {m : Option α}, κ (.v y) m → BK X W e E κ m
theorem bk_one {op} (h : BK X W a E κ m) : BK X W (.BoolOp op [a] pos) E κ m := fun fin ρ B M pd po P PX r hm hp => ⟨_, ej_one bE_j, h fin ρ B M pd po P PX r hm hp⟩
theorem ek_one {op} (h : EK X W a E κE ξ m) : EK X W (.BoolOp op [a] pos) E κE ξ m := fun fin ρ B M pd po P PX r hm hp hx => ⟨_, ej_one bE_j, h fin ρ B M pd po P PX r hm hp hx⟩
theorem bk_not (h : BK X W e E (fun o m1 => ∃ b, o = .v (.bl b) ∧ κ (.v (.bl (!b))) m1) m) : BK X W (.UnaryOp .Not e pos) E κ m :=
  bk_of (ej_not bE_j) fun fin ρ B M pd po P PX r hm hp => h fin ρ B M pd po _ PX r hm fun o m1 d ⟨b, e1, k⟩ hm1 v => by
    subst e1
    obtain rfl := v.ofV
    exact hp _ m1 _ k hm1 (VM.v _)
theorem ek_not (h : EK X W e E (fun o E1 m1 => ∃ b, o = .v (.bl b) ∧ κE (.v (.bl (!b))) E1 m1) ξ m) : EK X W (.UnaryOp .Not e pos) E κE ξ m :=
  fun fin ρ B M pd po P PX r hm hp hx => ⟨_, ej_not bE_j, h fin ρ B M pd po _ PX r hm (fun o E1 m1 d M1 ⟨b, e1, k⟩ hm1 r1 => by
    subst e1
    obtain ⟨rfl, r2⟩ := r1.ofV
    exact hp _ E1 m1 _ M1 k hm1 (r2.v _)) hx⟩
theorem bk_neg (h : BK X W e E (fun o m1 => ∃ i, o = .v (.int i) ∧ κ (.v (.int (-i))) m1) m) : BK X W (.UnaryOp .USub e pos) E κ m :=
  bk_of (ej_neg bE_j) fun fin ρ B M pd po P PX r hm hp => h fin ρ B M pd po _ PX r hm fun o m1 d ⟨b, e1, k⟩ hm1 v => by
    subst e1
    obtain rfl := v.ofV
    exact hp _ m1 _ k hm1 (VM.v _)
theorem ek_neg (h : EK X W e E (fun o E1 m1 => ∃ b, o = .v (.int b) ∧ κE (.v (.int (-b))) E1 m1) ξ m) : EK X W (.UnaryOp .USub e pos) E κE ξ m :=
  fun fin ρ B M pd po P PX r hm hp hx => ⟨_, ej_neg bE_j, h fin ρ B M pd po _ PX r hm (fun o E1 m1 d M1 ⟨b, e1, k⟩ hm1 r1 => by
    subst e1
    obtain ⟨rfl, r2⟩ := r1.ofV
    exact hp _ E1 m1 _ M1 k hm1 (r2.v _)) hx⟩
theorem ek_and (h : EK X W a E (fun o E1 m1 => ∃ (x : Bool) (mb : Option (Bool × Env)) (k : Bool × Env → Option α), o = .v (.bl x) ∧ m1 = (if x then mb else some (false, E1)).bind k ∧
      (x = true → EK X W (.BoolOp .And (b :: rest) pos) E1 (fun p E2 m2 => ∃ y, p = .v (.bl y) ∧ m2 = some (y, E2)) (fun _ _ _ _ => False) mb) ∧ ∀ y E2, κE (.v (.bl y)) E2 (k (y, E2))) ξ m) : EK X W (.BoolOp .And (a :: b :: rest) pos) E κE ξ m :=
  fun fin ρ B M pd po P PX r hm hp hx => ⟨_, ej_and bE_j bE_j, h fin ρ B M pd po _ PX r hm (fun o E1 m1 d M1 ⟨x, mb, k, e1, e2, t, kn⟩ hm1 r1 => by
    subst e1 e2
    obtain ⟨rfl, r2⟩ := r1.ofV
    cases x with
    | true =>
      rw [if_pos rfl] at hm1
      cases hb : mb with
      | none => rw [hb] at hm1; cases hm1
      | some ys =>
        rw [hb] at hm1
        refine t rfl ys ρ B M1 pd po P PX r2 hb (fun p E2 m2 d2 M2 ⟨y, e3, e4⟩ hm2 r3 => ?_) fun _ _ _ _ _ z => z.elim
        rw [e4] at hm2
        cases hm2
        exact hp p _ _ d2 M2 (by rw [e3]; exact kn y E2) hm1 r3
    | false =>
      rw [if_neg Bool.false_ne_true] at hm1
      exact hp _ _ _ _ M1 (kn false E1) hm1 (r2.v _)) hx⟩
/-- a and b, b is always there where it is asked -/
theorem bk_andT (h : BK X W a E (fun o m1 => ∃ (x y : Bool), o = .v (.bl x) ∧ (x = true → VT X W (.BoolOp .And (b :: rest) pos) E (.bl y)) ∧ κ (.v (.bl (x && y))) m1) m) : BK X W (.BoolOp .And (a :: b :: rest) pos) E κ m :=
  bk_of (ej_and bE_j bE_j) fun fin ρ B M pd po P PX r hm hp => h fin ρ B M pd po _ PX r hm fun o m1 d ⟨x, y, e1, t, k⟩ hm1 v => by
    subst e1
    obtain rfl := v.ofV
    cases x with
    | true => exact t rfl (κ := κ) k fin ρ B M pd po P PX r hm1 hp
    | false => exact hp _ m1 _ k hm1 (VM.v _)
theorem bk_orT (h : BK X W a E (fun o m1 => ∃ (x y : Bool), o = .v (.bl x) ∧ (x = false → VT X W (.BoolOp .Or (b :: rest) pos) E (.bl y)) ∧ κ (.v (.bl (x || y))) m1) m) : BK X W (.BoolOp .Or (a :: b :: rest) pos) E κ m :=
  bk_of (ej_or bE_j bE_j) fun fin ρ B M pd po P PX r hm hp => h fin ρ B M pd po _ PX r hm fun o m1 d ⟨x, y, e1, t, k⟩ hm1 v => by
    subst e1
    obtain rfl := v.ofV
    cases x with
    | true => exact hp _ m1 _ k hm1 (VM.v _)
    | false => exact t rfl (κ := κ) k fin ρ B M pd po P PX r hm1 hp
/-- x if c else y -/
theorem ek_if (h : TK X W c E (fun t E1 m1 => ∃ mA mB, m1 = (if t then mA else mB) ∧ (t = true → EK X W a E1 κE ξ mA) ∧ (t = false → EK X W b E1 κE ξ mB)) ξ m) : EK X W (.IfExp c a b pos) E κE ξ m :=
  fun fin ρ B M pd po P PX r hm hp hx => ⟨_, ej_ifE bT_j bE_j bE_j, h fin ρ B M pd po _ PX r hm (fun t E1 m1 M1 ⟨mA, mB, e1, kA, kB⟩ hm1 r1 => by
    subst e1
    cases t with
    | true => exact kA rfl fin ρ B M1 pd po P PX r1 (by rw [if_pos rfl] at hm1; exact hm1) hp hx
    | false => exact kB rfl fin ρ B M1 pd po P PX r1 (by rw [if_neg Bool.false_ne_true] at hm1; exact hm1) hp hx) hx⟩
end
end B

/-! B: comprehensions, defs -/
namespace B
open PySem PySem.Spec PyProof.Rows L2 DL
/-- a comprehension: states, tests, items -/
def compF {S A β : Type} (c : S → A → Option (Bool × S)) (f : S → A → Option (β × S)) : List A → S → Option (List β × S)
  | [], s => some ([], s)
  | x :: xs, s => (c s x).bind fun t => if t.1 then (f t.2 x).bind fun y => (compF c f xs y.2).map fun r => (y.1 :: r.1, r.2) else compF c f xs t.2
/-- .. that leaves all as it is -/
def mapO {A β : Type} (f : A → Option β) : List A → Option (List β)
  | [] => some []
  | x :: xs => (f x).bind fun y => (mapO f xs).map (y :: ·)
def filO {A β : Type} (c : A → Option Bool) (f : A → Option β) : List A → Option (List β)
  | [] => some []
  | x :: xs => (c x).bind fun t => if t then (f x).bind fun y => (filO c f xs).map (y :: ·) else filO c f xs
/-- .. that changes slots -/
def mapS {S A β : Type} (f : S → A → Option (β × S)) : List A → S → Option (List β × S)
  | [], s => some ([], s)
  | x :: xs, s => (f s x).bind fun y => (mapS f xs y.2).map fun r => (y.1 :: r.1, r.2)
theorem mapO_some {A β : Type} (f : A → β) : ∀ xs : List A, mapO (fun x => some (f x)) xs = some (xs.map f)
  | [] => rfl
  | x :: xs => by
    rw [mapO, mapO_some f xs]
    rfl
theorem filO_some {A β : Type} (c : A → Bool) (f : A → β) : ∀ xs : List A, filO (fun x => some (c x)) (fun x => some (f x)) xs = some ((xs.filter c).map f)
  | [] => rfl
  | x :: xs => by
    rw [filO, Option.bind_some, List.filter_cons]
    cases c x with
    | false => exact filO_some c f xs
    | true =>
      rw [if_pos rfl, filO_some c f xs]
      rfl
theorem mapO_len {A β : Type} {f : A → Option β} : ∀ {xs : List A} {ys : List β}, mapO f xs = some ys → ys.length = xs.length
  | [], ys, h => by cases h; rfl
  | x :: xs, ys, h => by
    rw [mapO] at h
    cases hf : f x with
    | none => rw [hf] at h; cases h
    | some y =>
      rw [hf, Option.bind_some] at h
      cases hm : mapO f xs with
      | none => rw [hm] at h; cases h
      | some zs =>
        rw [hm] at h
        cases h
        exact congrArg Nat.succ (mapO_len hm)
theorem compF_mapS {S A β : Type} (f : S → A → Option (β × S)) : ∀ (xs : List A) (s : S), compF (fun s _ => some (true, s)) f xs s = mapS f xs s
  | [], s => rfl
  | x :: xs, s => by
    rw [compF, mapS, Option.bind_some, if_pos rfl]
    cases f s x with
    | none => rfl
    | some y => rw [Option.bind_some, Option.bind_some, compF_mapS f xs]
theorem compF_filO {A β : Type} (c : A → Option Bool) (f : A → Option β) : ∀ (xs : List A), compF (S := Unit) (fun s x => (c x).map fun b => (b, s)) (fun s x => (f x).map fun y => (y, s)) xs () = (filO c f xs).map fun r => (r, ())
  | [] => rfl
  | x :: xs => by
    rw [compF, filO]
    cases c x with
    | none => rfl
    | some b =>
      cases b with
      | false =>
        simp only [Option.map_some, Option.bind_some, Bool.false_eq_true, if_false]
        exact compF_filO c f xs
      | true =>
        simp only [Option.map_some, Option.bind_some, if_true]
        cases f x with
        | none => rfl
        | some y =>
          simp only [Option.map_some, Option.bind_some]
          rw [compF_filO c f xs]
          cases filO c f xs <;> rfl
theorem mapS_mapO {A β : Type} (f : A → Option β) : ∀ (xs : List A), mapS (S := Unit) (fun s x => (f x).map fun y => (y, s)) xs () = (mapO f xs).map fun r => (r, ())
  | [] => rfl
  | x :: xs => by
    rw [mapS, mapO]
    cases f x with
    | none => rfl
    | some y =>
      simp only [Option.map_some, Option.bind_some]
      rw [mapS_mapO f xs]
      cases mapO f xs <;> rfl
/-- slots that a comprehension takes for itself -/
def wpE : Env → List Nat → Env
  | E, [] => E
  | E, v :: vs => sE (wpE E vs) v none
theorem Rel.unset {E : Env} {ρ : Ev} {B M : Mm} {pd : List D} {po : List O} (r : Rel E ρ B M pd po) (i : Nat) : Rel (sE E i none) (st ρ i none) B M pd po := by
  obtain ⟨φ, F, w⟩ := r
  refine ⟨fun j => if j = i then [] else φ j, F, fun j p e => ?_, fun j e => ?_, w.pen, fun j l nn => ?_, fun j => ?_, fun a mo e => ⟨(w.bas a mo e).1, (w.bas a mo e).2.1, fun j m => ?_⟩⟩
  · by_cases z : j = i
    · subst z
      rw [gE_same] at e
      cases e
    · rw [gE_ne _ _ _ _ (fun y => z y.symm)] at e
      rw [if_neg z]
      obtain ⟨d, h1, h2⟩ := w.val j p e
      exact ⟨d, (gt_ne ρ i j _ fun y => z y.symm).trans h1, h2⟩
  · by_cases z : j = i
    · rw [if_pos z]
    · rw [gE_ne _ _ _ _ (fun y => z y.symm)] at e
      rw [if_neg z]
      exact w.emp j e
  · show Dis (if j = i then [] else φ j) (if l = i then [] else φ l)
    by_cases z : j = i
    · rw [if_pos z]
      exact Dis.nil
    · rw [if_neg z]
      by_cases y : l = i
      · rw [if_pos y]
        exact Dis.nil'
      · rw [if_neg y]
        exact w.dis j l nn
  · show Dis (if j = i then [] else φ j) _
    by_cases z : j = i
    · rw [if_pos z]
      exact Dis.nil
    · rw [if_neg z]
      exact w.dsp j
  · by_cases z : j = i
    · rw [if_pos z] at m
      cases m
    · rw [if_neg z] at m
      exact w.bas a mo e |>.2.2 j m
theorem Rel.wipe {E : Env} {ρ : Ev} {B M : Mm} {pd : List D} {po : List O} (r : Rel E ρ B M pd po) : ∀ vs : List Nat, Rel (wpE E vs) (wpD ρ vs) B M pd po
  | [] => r
  | v :: vs => (r.wipe vs).unset v
theorem Rel.rho {E : Env} {ρ ρ2 : Ev} {B M : Mm} {pd : List D} {po : List O} (r : Rel E ρ2 B M pd po) (h : ∀ i, gE E i ≠ none → ρ i = ρ2 i) : Rel E ρ B M pd po := by
  obtain ⟨φ, F, w⟩ := r
  refine ⟨φ, F, fun i o e => ?_, w.emp, w.pen, w.dis, w.dsp, w.bas⟩
  obtain ⟨d, h1, h2⟩ := w.val i o e
  exact ⟨d, (h i (by rw [e]; exact fun z => by cases z)).trans h1, h2⟩
/-- targets of a comprehension, over trees -/
def DgOk (dg : D → Ev → (Ev → Prop) → Prop) (vs : List Nat) (d : D) (E E' : Env) : Prop :=
  ∀ {ρ : Ev} {B M : Mm} {pd : List D} {po : List O} {k : Ev → Prop}, Rel E ρ B M pd po → (∀ ρ', Rel E' ρ' B M pd po → (∀ i, i ∉ vs → ρ' i = ρ i) → k ρ') → dg d ρ k
theorem dg_name {i : Nat} {vs : List Nat} {d : D} {E : Env} (h : i ∈ vs := by decide) : DgOk (tgN i) vs d E (sE E i (some (.v d))) := fun {ρ B M pd po k} r q =>
  q _ ((r.v d).set i) fun j hj => gt_ne ρ i j _ fun z => hj (by rw [← z]; exact h)
def setLE : Env → List Nat → List D → Env
  | E, i :: is, d :: ds => setLE (sE E i (some (.v d))) is ds
  | E, _, _ => E
theorem Rel.setLE {B M : Mm} {pd : List D} {po : List O} : ∀ {is : List Nat} {ds : List D} {E : Env} {ρ : Ev}, Rel E ρ B M pd po → Rel (setLE E is ds) (stL ρ is ds) B M pd po
  | i :: is, d :: ds, E, ρ, r => Rel.setLE (is := is) (ds := ds) ((r.v d).set i)
  | [], _, _, _, r => r
  | _ :: _, [], _, _, r => r
theorem stL_out {j : Nat} : ∀ {is : List Nat} {ds : List D} {ρ : Ev}, j ∉ is → stL ρ is ds j = ρ j
  | i :: is, d :: ds, ρ, h => by
    show stL (st ρ i (some d)) is ds j = ρ j
    rw [stL_out (fun z => h (List.mem_cons_of_mem _ z))]
    exact gt_ne ρ i j _ fun z => h (by rw [z]; exact List.mem_cons_self)
  | [], _, _, _ => rfl
  | _ :: _, [], _, _ => rfl
theorem dg_tup {is vs : List Nat} {ds : List D} {E : Env} (hl : ds.length = is.length := by rfl) (h : ∀ i ∈ is, i ∈ vs := by decide) : DgOk (tgT is) vs (.tup ds) E (setLE E is ds) := fun {ρ B M pd po k} r q =>
  ⟨hl, q _ r.setLE fun j hj => stL_out fun z => hj (h j z)⟩
theorem wpD_out {ρ : Ev} {j : Nat} : ∀ {vs : List Nat}, j ∉ vs → wpD ρ vs j = ρ j
  | [], _ => rfl
  | v :: vs, h => (gt_ne (wpD ρ vs) v j _ fun z => h (by rw [z]; exact List.mem_cons_self)).trans (wpD_out fun z => h (List.mem_cons_of_mem _ z))
def bTs (X : Cx) (W : WX') (e : List Expr) : DT := fun ρ M P PX => ∃ d : DT, PTs X e (liT X.K W d) ∧ d ρ M P PX
theorem bTs_j {X : Cx} {W : WX'} {e : List Expr} : PTs X e (liT X.K W (bTs X W e)) :=
  ⟨fun pins s σ H Q I ⟨ρ, M, Hf, P, PX, sr, ⟨d, j, h⟩, fe, fx⟩ => j.run pins s σ H Q I ⟨ρ, M, Hf, P, PX, sr, h, fe, fx⟩⟩
/-- the tests of a comprehension -/
def CK {α : Type} (X : Cx) (es : List Expr) (E : Env) (κ : Bool → Env → Option α → Prop) (m : Option α) : Prop :=
  ∀ fin ρ B M pd po P, Rel E ρ B M pd po → m = some fin → (∀ b E' m' M', κ b E' m' → m' = some fin → Rel E' ρ B M' pd po → P b M') → bTs X W0 es ρ M P XF
theorem ck_nil {α : Type} {X : Cx} {E : Env} {κ : Bool → Env → Option α → Prop} {m : Option α} (k : κ true E m) : CK X [] E κ m := fun fin ρ B M pd po P r hm hp => ⟨dYes, ptsj_nil, hp true E m M k hm r⟩
theorem ck_one {α : Type} {X : Cx} {c : Expr} {E : Env} {κ : Bool → Env → Option α → Prop} {m : Option α} (h : TK X W0 c E κ (fun _ _ _ _ => False) m) : CK X [c] E κ m := fun fin ρ B M pd po P r hm hp =>
  ⟨_, ptsj_one bT_j, h fin ρ B M pd po P XF r hm hp fun _ _ _ _ _ z => z.elim⟩
section
variable {α S A β : Type} {X : Cx} {W : WX'} {elt tg iter : Expr} {ifs : List Expr} {scope : Scope} {own : List (Str × Nat)} {pos : Pos} {g : TG} {dg : D → Ev → (Ev → Prop) → Prop} {E : Env} {κE : O → Env → Option α → Prop} {ξ : Xi α} {m : Option α}
theorem ek_lc (Es : S → Env) (ed : A → D) (eb : β → D) (hc : X.calm = true) (hN : X.N.Nodup) (ok : BlkOk X.N X.env.scope scope own) (ht0 : TgOk X.K g (own.map (·.2)) dg)
    (hg : ∀ (s : Shared) (H : Hp) (C : Addr) (cl : List (Str × Addr)) (fp : List Addr), PG (X.blk s H scope (compEnvC scope cl C X.env) fp) tg g)
    (hv : ∀ s i, i ∈ own.map (·.2) → gE (Es s) i = none)
    (h : IK X W tg iter E (fun ds E1 m1 => ∃ (xs : List A) (s0 : S) (c : S → A → Option (Bool × S)) (f : S → A → Option (β × S)) (k : List β × S → Option α) (E2 : S → A → Env), ds = xs.map ed ∧ leE (Es s0) E1 ∧ m1 = (compF c f xs s0).bind k ∧ xs.length ≤ sizeLine ∧
      (∀ s x, DgOk dg (own.map (·.2)) (ed x) (Es s) (E2 s x)) ∧
      (∀ s x (s1 : Shared) (H : Hp) (C : Addr) (cl : List (Str × Addr)) (fp : List Addr), CK (X.blk s1 H scope (compEnvC scope cl C X.env) fp) ifs (E2 s x) (fun b E3 m3 => ∃ s', m3 = some (b, s') ∧ leE (E2 s' x) E3) (c s x)) ∧
      (∀ s x (s1 : Shared) (H : Hp) (C : Addr) (cl : List (Str × Addr)) (fp : List Addr), EK (X.blk s1 H scope (compEnvC scope cl C X.env) fp) W0 elt (E2 s x) (fun o E3 m3 => ∃ y s', o = .v (eb y) ∧ m3 = some (y, s') ∧ leE (Es s') E3) (fun _ _ _ _ => False) (f s x)) ∧
      (∀ s x, leE (Es s) (E2 s x)) ∧
      ∀ ys s, κE (.v (.lst (ys.map eb))) (Es s) (k (ys, s))) ξ m)
    (hs : ∀ x, foldedSetIterable iter X.env x = pure x := by intro _; rfl) : EK X W (.ListComp elt [⟨tg, iter, ifs, 0⟩] scope pos) E κE ξ m := fun fin ρ B M pd po P PX r hm hp hx =>
  ⟨dLc (bI X W tg iter) dg (fun ρ M P PX => ∀ s1 H C cl fp, bTs (X.blk s1 H scope (compEnvC scope cl C X.env) fp) W0 ifs ρ M P PX) (fun ρ M P PX => ∀ s1 H C cl fp, bE (X.blk s1 H scope (compEnvC scope cl C X.env) fp) W0 elt ρ M P PX) (own.map (·.2)),
    ej_lc hc hN bI_j ok ht0 hg (fun s H C cl fp => ⟨fun pins s' σ H' Q I ⟨ρ, M, Hf, P, PX, sr, h, fe, fx⟩ => bTs_j.run pins s' σ H' Q I ⟨ρ, M, Hf, P, PX, sr, h s H C cl fp, fe, fx⟩⟩)
      (fun s H C cl fp => ⟨fun pins s' σ H' Q I ⟨ρ, M, Hf, P, PX, sr, h, fe, fx⟩ => bE_j.run pins s' σ H' Q I ⟨ρ, M, Hf, P, PX, sr, h s H C cl fp, fe, fx⟩⟩) hs,
    h fin ρ B M pd po _ PX r hm (fun ds E1 m1 M1 ⟨xs, s0, c, f, k, E2, e1, l0, e2, hl, hd, hck, hel, hle, kn⟩ hm1 r1 D hD => by
      subst e1 e2
      have hBD : B D = none := by
        cases q : B D with
        | none => rfl
        | some mo =>
          obtain ⟨φ, F, w⟩ := r1
          have := (w.bas D mo q).1
          rw [hD] at this
          cases this
      refine ⟨fun i M' => ∃ (s : S) (acc ys : List β) (s2 : S), acc.length ≤ i ∧ compF c f (xs.drop i) s = some (ys, s2) ∧ k (acc ++ ys, s2) = some fin ∧ Rel (Es s) ρ (um B D (.lst (acc.map eb))) M' pd po, ?_, ?_, ?_⟩
      · cases hq : compF c f xs s0 with
        | none => rw [hq] at hm1; cases hm1
        | some p =>
          rw [hq, Option.bind_some] at hm1
          refine ⟨s0, [], p.1, p.2, Nat.le_refl _, hq, hm1, ?_⟩
          have r2 := r1.le (leE_ok l0)
          obtain ⟨φ, F, w⟩ := r2
          have nF : ∀ b ∈ F, b ≠ D := fun b hb z => w.pen.al b hb (by rw [z]; exact hD)
          have nφ : ∀ i, ∀ b ∈ φ i, b ≠ D := fun i b hb z => by
            cases q : gE (Es s0) i with
            | none => rw [w.emp i q] at hb; cases hb
            | some o =>
              obtain ⟨d, _, t⟩ := w.val i o q
              exact t.al b hb (by rw [z]; exact hD)
          refine ⟨φ, F, fun i o e => ?_, w.emp, w.pen.fr fun b hb => um_ne (nF b hb), w.dis, w.dsp, fun a mo e => ?_⟩
          · obtain ⟨d, h1, h2⟩ := w.val i o e
            exact ⟨d, h1, h2.fr fun b hb => um_ne (nφ i b hb)⟩
          · by_cases z : a = D
            · subst z
              rw [um_same] at e
              cases e
              exact ⟨um_same, fun hb => nF a hb rfl, fun i hb => nφ i a hb rfl⟩
            · rw [um_ne z] at e
              exact ⟨(um_ne z).trans (w.bas a mo e).1, (w.bas a mo e).2⟩
      · rintro i d M2 hdi ⟨s, acc, ys, s2, ha, hcf, hk, r2⟩
        rw [List.getElem?_map] at hdi
        cases hxi : xs[i]? with
        | none => rw [hxi] at hdi; cases hdi
        | some x =>
          rw [hxi] at hdi
          cases hdi
          have hil : i < xs.length := (List.getElem?_eq_some_iff.mp hxi).1
          rw [drop_cons hxi, compF] at hcf
          have r3 : Rel (Es s) (wpD ρ (own.map (·.2))) (um B D (.lst (acc.map eb))) M2 pd po := r2.rho fun j hj => wpD_out fun z => hj (hv s j z)
          refine hd s x r3 fun ρ2 r4 q4 => ?_
          have back : ∀ {s' : S} {B' M' : Mm}, Rel (Es s') ρ2 B' M' pd po → Rel (Es s') ρ B' M' pd po := fun {s' B' M'} r' => r'.rho fun j hj => by
            have hj2 : j ∉ own.map (·.2) := fun z => hj (hv s' j z)
            rw [q4 j hj2, wpD_out hj2]
          cases hcs : c s x with
          | none => rw [hcs] at hcf; cases hcf
          | some t =>
            rw [hcs, Option.bind_some] at hcf
            intro s1 H C cl fp
            refine hck s x s1 H C cl fp t ρ2 _ M2 pd po _ r4 hcs fun b E3 m3 M3 ⟨s', e3, l3⟩ hm3 r5 => ?_
            rw [e3] at hm3
            cases hm3
            cases b with
            | false =>
              rw [if_neg Bool.false_ne_true] at hcf
              exact ⟨s', acc, ys, s2, Nat.le_succ_of_le ha, hcf, hk, back ((r5.le (leE_ok l3)).le (leE_ok (hle s' x)))⟩
            | true =>
              rw [if_pos rfl] at hcf
              dsimp only at hcf
              cases hfs : f s' x with
              | none => rw [hfs] at hcf; cases hcf
              | some yt =>
                rw [hfs, Option.bind_some] at hcf
                cases hrest : compF c f (xs.drop (i + 1)) yt.2 with
                | none => rw [hrest] at hcf; cases hcf
                | some zs =>
                  rw [hrest] at hcf
                  cases hcf
                  intro s1' H' C' cl' fp'
                  refine hel s' x s1' H' C' cl' fp' yt ρ2 _ M3 pd po _ XF (r5.le (leE_ok l3)) hfs (fun o E4 m4 d4 M4 ⟨y, s4, e4, e5, l4⟩ hm4 r6 => ?_) fun _ _ _ _ _ z => z.elim
                  subst e4
                  rw [e5] at hm4
                  cases hm4
                  obtain ⟨rfl, r7⟩ := r6.ofV
                  have r8 := back (r7.le (leE_ok l4))
                  obtain ⟨φ, F, w⟩ := r8
                  have hMD := (w.bas D _ um_same)
                  try dsimp only
                  rw [hMD.1]
                  refine ⟨by rw [List.length_map]; omega, s4, acc ++ [y], zs.1, zs.2, by rw [List.length_append]; exact Nat.succ_le_succ ha, hrest, by rw [List.append_assoc]; exact hk, ?_⟩
                  have nF : ∀ b ∈ F, b ≠ D := fun b hb z => hMD.2.1 (by rw [← z]; exact hb)
                  have nφ : ∀ i, ∀ b ∈ φ i, b ≠ D := fun i b hb z => hMD.2.2 i (by rw [← z]; exact hb)
                  refine ⟨φ, F, fun i o e => ?_, w.emp, w.pen.fr fun b hb => um_ne (nF b hb), w.dis, w.dsp, fun a mo e => ?_⟩
                  · obtain ⟨d, h1, h2⟩ := w.val i o e
                    exact ⟨d, h1, h2.fr fun b hb => um_ne (nφ i b hb)⟩
                  · by_cases z : a = D
                    · subst z
                      rw [um_same] at e ⊢
                      rw [List.map_append] at e
                      exact ⟨e, hMD.2⟩
                    · rw [um_ne z] at e
                      have := w.bas a mo (by rw [um_ne z]; exact e)
                      exact ⟨(um_ne z).trans this.1, this.2⟩
      · rintro M2 ⟨s, acc, ys, s2, ha, hcf, hk, r2⟩
        rw [List.length_map, List.drop_length] at hcf
        cases hcf
        obtain ⟨φ, F, w⟩ := r2
        have hMD := (w.bas D _ um_same)
        rw [hMD.1]
        rw [List.append_nil] at hk
        refine hp _ _ _ _ _ (kn acc s) hk (Rel.v _ ?_)
        have nF : ∀ b ∈ F, b ≠ D := fun b hb z => hMD.2.1 (by rw [← z]; exact hb)
        have nφ : ∀ i, ∀ b ∈ φ i, b ≠ D := fun i b hb z => hMD.2.2 i (by rw [← z]; exact hb)
        refine ⟨φ, F, fun i o e => ?_, w.emp, w.pen.fr fun b hb => dm_ne (nF b hb), w.dis, w.dsp, fun a mo e => ?_⟩
        · obtain ⟨d, h1, h2⟩ := w.val i o e
          exact ⟨d, h1, h2.fr fun b hb => dm_ne (nφ i b hb)⟩
        · have z : a ≠ D := fun z => by rw [z, hBD] at e; cases e
          have := w.bas a mo (by rw [um_ne z]; exact e)
          exact ⟨(dm_ne z).trans this.1, this.2⟩) hx⟩
end
end B

/-! B: defs by what they compute; more comprehensions -/
namespace B
open PySem PySem.Spec PyProof.Rows L2 DL
section
variable {M : Mm}
theorem ORs.split : ∀ {ds : List D} {os : List O} {F : List Addr}, ORs M ds os F → ∃ φ : Nat → List Addr, (∀ i o, gE (os.map some) i = some o → ∃ d, nth ds i = some d ∧ OR M d o (φ i)) ∧ (∀ i, gE (os.map some) i = none → φ i = []) ∧
    (∀ i j, i ≠ j → Dis (φ i) (φ j)) ∧ ∀ i, ∀ b ∈ φ i, b ∈ F
  | _, _, _, .nil => by
    refine ⟨fun _ => [], ?_, fun _ _ => rfl, fun _ _ _ => Dis.nil, fun _ _ m => nomatch m⟩
    intro i o h
    rw [List.map_nil, gE_nil] at h
    cases h
  | _, _, _, .cons (F := F) (G := G) h r n => by
    obtain ⟨φ, h1, h2, h3, h4⟩ := r.split
    refine ⟨fun i => match i with
      | 0 => F
      | i + 1 => φ i, fun i o e => ?_, fun i e => ?_, fun i j nn => ?_, fun i b m => ?_⟩
    · cases i with
      | zero =>
        cases e
        exact ⟨_, rfl, h⟩
      | succ i => exact h1 i o e
    · cases i with
      | zero => cases e
      | succ i => exact h2 i e
    · cases i with
      | zero => cases j with
        | zero => exact absurd rfl nn
        | succ j => exact n.sub (fun _ m => m) (h4 j)
      | succ i => cases j with
        | zero => exact (n.sub (fun _ m => m) (h4 i)).symm
        | succ j => exact h3 i j fun z => nn (congrArg Nat.succ z)
    · cases i with
      | zero => exact List.mem_append_left _ m
      | succ i => exact List.mem_append_right _ (h4 i b m)
end
open Classical in
/-- the store without some places -/
noncomputable def less (M : Mm) (F : List Addr) : Mm := fun a => if a ∈ F then none else M a
theorem Rel.start {M : Mm} {ds : List D} {os : List O} {F : List Addr} (N : List Str) (h : ORs M ds os F) : Rel (os.map some) (st0 N ds) (less M F) M [] [] := by
  obtain ⟨φ, h1, h2, h3, h4⟩ := h.split
  refine ⟨φ, [], h1, h2, .nil, h3, fun _ => Dis.nil', fun a mo e => ?_⟩
  unfold less at e
  split at e
  · cases e
  · rename_i hn
    exact ⟨e, List.not_mem_nil, fun i m => hn (h4 i a m)⟩
/-- what became of the arguments, by the slots -/
def ioAt (kp : List Nat) (E : Env) : Nat → List O → List O → Prop
  | j, o :: os, p :: ps => ((∃ x, o = .v x ∧ p = .v x) ∨ (j ∈ kp ∧ gE E j = some p)) ∧ ioAt kp E (j + 1) os ps
  | _, [], [] => True
  | _, _, _ => False
theorem ioAt_ok {kp : List Nat} {E : Env} {ρ : Ev} {B M M' : Mm} {pd : List D} {po : List O} {φ : Nat → List Addr} {F : List Addr} (w : RelW E ρ B M' pd po φ F) : ∀ {os ps : List O} {ds : List D} {j : Nat} {G : List Addr}, ioAt kp E j os ps → ORs M ds os G →
    (∀ i ∈ kp, j ≤ i → ρ i = nth ds (i - j)) → ∃ G', ORs M' ds ps G' ∧ ∀ b ∈ G', ∃ l, j ≤ l ∧ b ∈ φ l
  | [], [], _, _, _, _, .nil, _ => ⟨[], .nil, fun _ m => nomatch m⟩
  | o :: os, p :: ps, _, j, _, ⟨h, t⟩, .cons (d := d) (ds := ds) g r n, q => by
    obtain ⟨G', h1, h2⟩ := ioAt_ok w (os := os) (ps := ps) (j := j + 1) t r (fun i hi hl => by
      have := q i hi (Nat.le_of_succ_le hl)
      rw [show i - j = (i - (j + 1)) + 1 by omega] at this
      exact this)
    rcases h with ⟨x, rfl, rfl⟩ | ⟨hk, he⟩
    · obtain ⟨rfl, rfl⟩ := g.ofV
      exact ⟨[] ++ G', .cons (.v _) h1 Dis.nil, fun b m => by obtain ⟨l, a, c⟩ := h2 b m; exact ⟨l, by omega, c⟩⟩
    · obtain ⟨d', e1, e2⟩ := w.val j p he
      have e3 := q j hk (Nat.le_refl j)
      rw [Nat.sub_self] at e3
      rw [e1] at e3
      cases e3
      refine ⟨φ j ++ G', .cons e2 h1 fun b m m' => ?_, fun b m => ?_⟩
      · obtain ⟨l, a, c⟩ := h2 b m'
        exact w.dis j l (by omega) b m c
      · rcases List.mem_append.mp m with m | m
        · exact ⟨j, Nat.le_refl j, m⟩
        · obtain ⟨l, a, c⟩ := h2 b m
          exact ⟨l, by omega, c⟩
def TgF {A R : Type} (kp : List Nat) (ea : A → List O) (er : A → R → Out) (a : A) : Tg R where
  nx := fun E' m' => ∃ r io, m' = some r ∧ er a r = .ret (.v .non) io ∧ ioAt kp E' 0 (ea a) io
  rt := fun o E' m' => ∃ r io, m' = some r ∧ er a r = .ret o io ∧ ioAt kp E' 0 (ea a) io
  ex := fun C fs E' m' => ∃ r io, m' = some r ∧ er a r = .exc C fs io ∧ ioAt kp E' 0 (ea a) io
theorem DFn.mkB {A R : Type} {ea : A → List O} {mf : A → Option R} {er : A → R → Out} (kp : List Nat) {G : Around → Prop} {P : Program} {w : World} {K : Fz} {mg : Str → Option Value} {base : Heap} {x qual : Str} {stm : Stmt} {f : Addr} {fd : FuncData} {N ps : List Str} {k : Nat}
    (hG : ∀ A env, G A → G (A.deeper env))
    (F : ∃ (oc : Value) (od : Option Addr) (dV kV doc pm : Value) (an : Option Addr) (cdv ct : Value) (osl : Array (Option Value)),
      fd = PySem.W.fnOf x qual (defArgs stm) (defBody stm) (defScope stm) dV kV doc pm an cdv ct ∧ K.lookup f = some ⟨oc, od, .func fd, osl⟩ ∧ PySem.W.codeIn K cdv qual = true)
    (S : FnScope N ps (defScope stm)) (len : ∀ a, (ea a).length = ps.length)
    (hbody : ∀ (cdv : Value) (A' : Around) (outer : List PySem.Env) (s : Shared) (H : Hp) (E : XK),
      Room k (A'.deeper (envOfC qual (defScope stm) s.heap.objs.size f cdv)) → G (A'.deeper (envOfC qual (defScope stm) s.heap.objs.size f cdv)) →
      ∀ a : A, LK (cxOf (L2.CX P w) P w K mg base N qual (defScope stm) f cdv A' outer s H E) (WB E) kp (defBody stm) ((ea a).map some) (TgF kp ea er a) (mf a)) :
    DFn G P w K mg base (k + 1) f fd ps (bSp ea mf er) := by
  refine Fn.mk' hG F S (fun vs H Q E h => ?_) fun cdv A' outer s H vs Q E hr hg h => ⟨_, bB_j (W := WB E), ?_⟩
  · obtain ⟨ds, M, Hf, P, PX, r, _, ⟨a, _, F, ho, _⟩, _⟩ := h
    rw [r.len, ho.len]
    exact len a
  · obtain ⟨ds, M, Hf, P, PX, r, m, ⟨a, rr, F, ho, hm, hq⟩, fe, fx⟩ := h
    have fin : ∀ {E' : Env} {ρ' : Ev} {M' : Mm} {pd : List D} {po : List O} {io : List O}, Rel E' ρ' (less M F) M' pd po → (∀ j ∈ kp, ρ' j = st0 N ds j) → ioAt kp E' 0 (ea a) io →
        ∃ F1 G', ORs M' pd po F1 ∧ ORs M' ds io G' ∧ Dis F1 G' ∧ Frame M M' F (F1 ++ G') := fun {E' ρ' M' pd po io} r' hk hio => by
      obtain ⟨φ, F1, w⟩ := r'
      obtain ⟨G', g1, g2⟩ := ioAt_ok w hio ho fun i hi _ => (hk i hi).trans (by rw [Nat.sub_zero]; rfl)
      have none' : ∀ b, less M F b = none → b ∈ F ∨ M b = none := fun b e => by
        unfold less at e
        split at e
        · rename_i z
          exact .inl z
        · exact .inr e
      refine ⟨F1, G', w.pen, g1, fun b hb hb' => ?_, ⟨fun b hb hn => ?_, fun b hb => ?_⟩⟩
      · obtain ⟨l, _, c⟩ := g2 b hb'
        exact w.dsp l b c hb
      · cases q : M b with
        | none => exact absurd q hb
        | some mo =>
          exact (w.bas b mo (by unfold less; rw [if_neg hn, q])).1
      · cases q : less M F b with
        | none => exact none' b q
        | some mo =>
          obtain ⟨_, b2, b3⟩ := w.bas b mo q
          rcases List.mem_append.mp hb with z | z
          · exact absurd z b2
          · obtain ⟨l, _, c⟩ := g2 b z
            exact absurd c (b3 l)
    refine ⟨st0 N ds, M, Hf, { nx := fun _ M' => P .non M', rt := P, bk := fun _ _ => False, ct := fun _ _ => False, ex := fun _ => PX }, sr0 r m,
      hbody cdv A' outer s H E hr hg a rr (st0 N ds) (less M F) M _ (Rel.start N ho) hm ⟨?_, ?_, fun _ _ _ _ z => z.elim, fun _ _ _ _ z => z.elim, ?_⟩,
      ⟨fun _ M' σ' Hf' H' p e s => fe .non M' .non Hf' H' p e s.hm .non, fe, fun _ _ _ _ _ p => p.elim, fun _ _ _ _ _ p => p.elim,
      fun ρ C fs M' dd σ' Hf' H' p e s x => fx C fs M' dd Hf' H' p e s.hm x⟩⟩
    · rintro E' m' ρ' M' ⟨r2, io, e1, e2, hio⟩ e3 r' hk
      rw [e1] at e3
      cases e3
      rw [e2] at hq
      obtain ⟨F1, G', o1, o2, d1, fr⟩ := fin r' hk hio
      cases o1
      exact hq .non M' _ (.cons (.v .non) o2 Dis.nil) fr
    · rintro o E' m' ρ' d M' ⟨r2, io, e1, e2, hio⟩ e3 r' hk
      rw [e1] at e3
      cases e3
      rw [e2] at hq
      obtain ⟨F1, G', o1, o2, d1, fr⟩ := fin r' hk hio
      cases o1 with
      | cons h t n =>
        cases t
        rw [List.append_nil] at d1 fr
        exact hq d M' _ (.cons h o2 d1) fr
    · rintro C fs E' m' ρ' M' ⟨r2, io, e1, e2, hio⟩ e3 r' hk
      rw [e1] at e3
      cases e3
      rw [e2] at hq
      obtain ⟨F1, G', o1, o2, d1, fr⟩ := fin r' hk hio
      cases o1
      exact hq M' _ o2 fr

/-! ### comprehensions of the usual forms -/
section
variable {α S A β : Type} {X : Cx} {W : WX'} {elt tg iter : Expr} {ifs : List Expr} {c : Expr} {scope : Scope} {own : List (Str × Nat)} {pos : Pos} {g : TG} {dg : D → Ev → (Ev → Prop) → Prop} {E : Env} {κE : O → Env → Option α → Prop} {ξ : Xi α} {m : Option α}
/-- with slots that change -/
theorem ek_lcS (Es : S → Env) (ed : A → D) (eb : β → D) (hc : X.calm = true) (hN : X.N.Nodup) (ok : BlkOk X.N X.env.scope scope own) (ht0 : TgOk X.K g (own.map (·.2)) dg)
    (hg : ∀ (s : Shared) (H : Hp) (C : Addr) (cl : List (Str × Addr)) (fp : List Addr), PG (X.blk s H scope (compEnvC scope cl C X.env) fp) tg g)
    (hv : ∀ s i, i ∈ own.map (·.2) → gE (Es s) i = none)
    (h : IK X W tg iter E (fun ds E1 m1 => ∃ (xs : List A) (s0 : S) (f : S → A → Option (β × S)) (k : List β × S → Option α) (E2 : S → A → Env), ds = xs.map ed ∧ leE (Es s0) E1 ∧ m1 = (mapS f xs s0).bind k ∧ xs.length ≤ sizeLine ∧
      (∀ s x, DgOk dg (own.map (·.2)) (ed x) (Es s) (E2 s x)) ∧
      (∀ s x (s1 : Shared) (H : Hp) (C : Addr) (cl : List (Str × Addr)) (fp : List Addr), EK (X.blk s1 H scope (compEnvC scope cl C X.env) fp) W0 elt (E2 s x) (fun o E3 m3 => ∃ y s', o = .v (eb y) ∧ m3 = some (y, s') ∧ leE (Es s') E3) (fun _ _ _ _ => False) (f s x)) ∧
      (∀ s x, leE (Es s) (E2 s x)) ∧ (∀ s x, leE (E2 s x) (E2 s x)) ∧
      ∀ ys s, κE (.v (.lst (ys.map eb))) (Es s) (k (ys, s))) ξ m)
    (hs : ∀ x, foldedSetIterable iter X.env x = pure x := by intro _; rfl) : EK X W (.ListComp elt [⟨tg, iter, [], 0⟩] scope pos) E κE ξ m := by
  refine ek_lc Es ed eb hc hN ok ht0 hg hv ?_ hs
  refine fun fin ρ B M pd po P PX r hm hp hx => h fin ρ B M pd po P PX r hm (fun ds E' m' M' ⟨xs, s0, f, k, E2, e1, l0, e2, hl, hd, he, hle, hle2, kn⟩ hm' r' => hp ds E' m' M' ?_ hm' r') hx
  refine ⟨xs, s0, fun s _ => some (true, s), f, k, E2, e1, l0, by rw [compF_mapS]; exact e2, hl, hd, fun s x s1 H C cl fp => ck_nil ⟨s, rfl, hle2 s x⟩, he, hle, kn⟩
/-- all stays as it is -/
theorem ek_lcO (E0 : Env) (ed : A → D) (eb : β → D) (hc : X.calm = true) (hN : X.N.Nodup) (ok : BlkOk X.N X.env.scope scope own) (ht0 : TgOk X.K g (own.map (·.2)) dg)
    (hg : ∀ (s : Shared) (H : Hp) (C : Addr) (cl : List (Str × Addr)) (fp : List Addr), PG (X.blk s H scope (compEnvC scope cl C X.env) fp) tg g)
    (hv : ∀ i, i ∈ own.map (·.2) → gE E0 i = none)
    (h : IK X W tg iter E (fun ds E1 m1 => ∃ (xs : List A) (f : A → Option β) (k : List β → Option α) (E2 : A → Env), ds = xs.map ed ∧ leE E0 E1 ∧ m1 = (mapO f xs).bind k ∧ xs.length ≤ sizeLine ∧
      (∀ x, DgOk dg (own.map (·.2)) (ed x) E0 (E2 x)) ∧
      (∀ x (s1 : Shared) (H : Hp) (C : Addr) (cl : List (Str × Addr)) (fp : List Addr), EK (X.blk s1 H scope (compEnvC scope cl C X.env) fp) W0 elt (E2 x) (fun o E3 m3 => ∃ y, o = .v (eb y) ∧ m3 = some y ∧ leE E0 E3) (fun _ _ _ _ => False) (f x)) ∧
      (∀ x, leE E0 (E2 x)) ∧ (∀ x, leE (E2 x) (E2 x)) ∧
      ∀ ys, κE (.v (.lst (ys.map eb))) E0 (k ys)) ξ m)
    (hs : ∀ x, foldedSetIterable iter X.env x = pure x := by intro _; rfl) : EK X W (.ListComp elt [⟨tg, iter, [], 0⟩] scope pos) E κE ξ m := by
  refine ek_lcS (S := Unit) (fun _ => E0) ed eb hc hN ok ht0 hg (fun _ => hv) ?_ hs
  refine fun fin ρ B M pd po P PX r hm hp hx => h fin ρ B M pd po P PX r hm (fun ds E' m' M' ⟨xs, f, k, E2, e1, l0, e2, hl, hd, he, hle, hle2, kn⟩ hm' r' => hp ds E' m' M' ?_ hm' r') hx
  refine ⟨xs, (), fun s x => (f x).map fun y => (y, s), fun p => k p.1, fun _ => E2, e1, l0, ?_, hl, fun _ => hd, fun s x s1 H C cl fp => ?_, fun _ => hle, fun _ => hle2, fun ys _ => kn ys⟩
  · rw [mapS_mapO, e2]
    cases mapO f xs <;> rfl
  · intro fin2 ρ2 B2 M2 pd2 po2 P2 PX2 r2 hm2 hp2 hx2
    dsimp only at hm2
    cases hf : f x with
    | none => rw [hf] at hm2; cases hm2
    | some y =>
      rw [hf] at hm2
      cases hm2
      refine he x s1 H C cl fp y ρ2 B2 M2 pd2 po2 P2 PX2 r2 hf (fun o E3 m3 d3 M3 ⟨z, g1, g2, g3⟩ hm3 r3 => ?_) fun _ _ _ _ _ z => z.elim
      rw [g2] at hm3
      cases hm3
      exact hp2 o E3 _ d3 M3 ⟨_, (), g1, rfl, g3⟩ rfl r3
open Classical in
/-- .. and each item is there -/
theorem ek_lcT (E0 : Env) (ed : A → D) (eb : β → D) (hc : X.calm = true) (hN : X.N.Nodup) (ok : BlkOk X.N X.env.scope scope own) (ht0 : TgOk X.K g (own.map (·.2)) dg)
    (hg : ∀ (s : Shared) (H : Hp) (C : Addr) (cl : List (Str × Addr)) (fp : List Addr), PG (X.blk s H scope (compEnvC scope cl C X.env) fp) tg g)
    (hv : ∀ i, i ∈ own.map (·.2) → gE E0 i = none)
    (h : IK X W tg iter E (fun ds E1 m1 => ∃ (xs : List A) (f : A → β) (E2 : A → Env), ds = xs.map ed ∧ leE E0 E1 ∧ xs.length ≤ sizeLine ∧
      (∀ x, DgOk dg (own.map (·.2)) (ed x) E0 (E2 x)) ∧
      (∀ x (s1 : Shared) (H : Hp) (C : Addr) (cl : List (Str × Addr)) (fp : List Addr), VT (X.blk s1 H scope (compEnvC scope cl C X.env) fp) W0 elt (E2 x) (eb (f x))) ∧
      (∀ x, leE E0 (E2 x)) ∧ (∀ x, leE (E2 x) (E2 x)) ∧
      κE (.v (.lst ((xs.map f).map eb))) E0 m1) ξ m)
    (hs : ∀ x, foldedSetIterable iter X.env x = pure x := by intro _; rfl) : EK X W (.ListComp elt [⟨tg, iter, [], 0⟩] scope pos) E κE ξ m := by
  refine fun fin ρ B M pd po P PX r hm hp hx => ek_lcO E0 ed eb hc hN ok ht0 hg hv (κE := fun o E' m' => m' = some fin → ∃ m1, κE o E' m1 ∧ m1 = some fin) (m := m) (ξ := ξ) (E := E) ?_ hs fin ρ B M pd po P PX r hm (fun o E' m' d M' hk hm' r' => by
    obtain ⟨m1, k1, h1⟩ := hk hm'
    exact hp o E' m1 d M' k1 h1 r') hx
  refine fun fin2 ρ2 B2 M2 pd2 po2 P2 PX2 r2 hm2 hp2 hx2 => ?_
  have hfin : fin2 = fin := by rw [hm] at hm2; cases hm2; rfl
  subst hfin
  refine h fin2 ρ2 B2 M2 pd2 po2 P2 PX2 r2 hm2 (fun ds E' m' M' ⟨xs, f, E2, e1, l0, hl, hd, he, hle, hle2, kn⟩ hm' r' => hp2 ds E' m' M' ?_ hm' r') hx2
  refine ⟨xs, fun x => some (f x), fun ys => if ys = xs.map f then some fin2 else none, E2, e1, l0, by rw [mapO_some, hm', Option.bind_some, if_pos rfl], hl, hd, fun x s1 H C cl fp => ek_b (he x s1 H C cl fp ⟨_, rfl, _, rfl, rfl, hle x⟩), hle, hle2, fun ys hys => ?_⟩
  dsimp only at hys
  split at hys
  · rename_i e
    subst e
    exact ⟨m', kn, hm'⟩
  · cases hys
end
end B

/-! B: lists and dicts -/
namespace B
open PySem PySem.Spec PyProof.Rows L2 DL
section
variable {M : Mm}
/-- one thing among some is another one now -/
theorem ORs.at : ∀ {ds : List D} {os : List O} {F : List Addr} {j : Nat} {o : O}, ORs M ds os F → os[j]? = some o → ∃ d F1, ds[j]? = some d ∧ OR M d o F1 ∧ (∀ b ∈ F1, b ∈ F) ∧
    ∀ M' o' F1', OR M' d o' F1' → (∀ b, M b ≠ none → b ∉ F1 → M' b = M b) → (∀ b ∈ F1', b ∈ F1 ∨ M b = none) → ∃ F', ORs M' ds (os.set j o') F' ∧ ∀ b ∈ F', b ∈ F ∨ M b = none
  | _, _, _, _, _, .nil, h => by simp at h
  | _, _, _, 0, o, .cons (F := F) (G := G) g r n, h => by
    rw [List.getElem?_cons_zero] at h
    cases h
    refine ⟨_, F, rfl, g, fun b m => List.mem_append_left _ m, fun M' o' F1' h1 h2 h3 => ⟨F1' ++ G, .cons h1 (r.fr fun b m => h2 b (r.al b m) fun z => n b z m) fun b m m' => ?_, fun b m => ?_⟩⟩
    · rcases h3 b m with z | z
      · exact n b z m'
      · exact r.al b m' z
    · rcases List.mem_append.mp m with m | m
      · exact (h3 b m).imp (List.mem_append_left _) id
      · exact .inl (List.mem_append_right _ m)
  | _, _, _, j + 1, o, .cons (F := F) (G := G) g r n, h => by
    rw [List.getElem?_cons_succ] at h
    obtain ⟨d, F1, h1, h2, h3, h4⟩ := r.at h
    refine ⟨d, F1, h1, h2, fun b m => List.mem_append_right _ (h3 b m), fun M' o' F1' g1 g2 g3 => ?_⟩
    obtain ⟨F', k1, k2⟩ := h4 M' o' F1' g1 g2 g3
    refine ⟨F ++ F', .cons (g.fr fun b m => g2 b (g.al b m) fun z => n b m (h3 b z)) k1 fun b m m' => ?_, fun b m => ?_⟩
    · rcases k2 b m' with z | z
      · exact n b m z
      · exact g.al b m z
    · rcases List.mem_append.mp m with m | m
      · exact .inl (List.mem_append_left _ m)
      · exact (k2 b m).imp (List.mem_append_right _) id
end
section
variable {E : Env} {ρ : Ev} {B M : Mm} {pd : List D} {po : List O} {i : Nat} {o : O}
/-- a slot's own thing is another one now -/
theorem Rel.upd (r : Rel E ρ B M pd po) (h : gE E i = some o) : ∃ d F, ρ i = some d ∧ OR M d o F ∧ ∀ M' o', (∃ F', OR M' d o' F' ∧ (∀ b, M b ≠ none → b ∉ F → M' b = M b) ∧ ∀ b ∈ F', b ∈ F ∨ M b = none) → Rel (sE E i (some o')) ρ B M' pd po := by
  obtain ⟨d, h1, r1⟩ := r.mov h
  have hF : ∃ F, OR M d o F := r1.top
  obtain ⟨F, hF⟩ := hF
  refine ⟨d, F, h1, hF, fun M' o' ⟨F', g1, g2, g3⟩ => ?_⟩
  have r2 := Rel.chg (ds := [d]) (os := [o]) (M' := M') r1 rfl [d] [o'] fun F2 h2 => by
    cases h2 with
    | cons a b c =>
      cases b
      obtain rfl := a.uq hF
      exact ⟨F' ++ [], .cons g1 .nil Dis.nil', fun b hb hn => g2 b hb fun z => hn (List.mem_append_left _ z), fun b hb => by
        rw [List.append_nil] at hb
        exact (g3 b hb).imp (List.mem_append_left _) id⟩
  exact (r2.back h1).set2
end
/-- lists and dicts of things that do not change -/
def lO {A : Type} (e : A → D) (xs : List A) : O := .l (xs.map fun x => .v (e x))
theorem lO_vm {A : Type} {e : A → D} {xs : List A} {M : Mm} {d : D} (h : VM M d (lO e xs)) : ∃ a, d = .ref a ∧ M a = some (.lst (xs.map e)) := by
  obtain ⟨F, h⟩ := h
  cases h with
  | l h r n =>
    rw [show (xs.map fun x => O.v (e x)) = (xs.map e).map .v by rw [List.map_map]; rfl] at r
    obtain ⟨rfl, _⟩ := r.ofVs
    exact ⟨_, rfl, h⟩
theorem lO_or {A : Type} {e : A → D} {xs : List A} {M : Mm} {a : Addr} (h : M a = some (.lst (xs.map e))) : OR M (.ref a) (lO e xs) [a] := by
  refine .l h ?_ List.not_mem_nil
  rw [show (xs.map fun x => O.v (e x)) = (xs.map e).map .v by rw [List.map_map]; rfl]
  exact ORs.vs
theorem lO_orI {A : Type} {e : A → D} {xs : List A} {M : Mm} {d : D} {F : List Addr} (h : OR M d (lO e xs) F) : ∃ a, d = .ref a ∧ M a = some (.lst (xs.map e)) ∧ F = [a] := by
  obtain ⟨a, rfl, ha⟩ := lO_vm ⟨_, h⟩
  exact ⟨a, rfl, ha, h.uq (lO_or ha)⟩
def atO {A : Type} (xs : List A) (i : Int) : Option A := L2.atI xs i
theorem atI_map {A B : Type} (f : A → B) (xs : List A) (i : Int) : L2.atI (xs.map f) i = (L2.atI xs i).map f := by
  unfold L2.atI
  rw [List.length_map]
  cases L2.ixN xs.length i with
  | none => rfl
  | some j => simp
section
variable {α A : Type} {X : Cx} {W : WX'} {e a b : Expr} {E : Env} {κD : D → Option α → Prop} {κ : O → Option α → Prop} {κE : O → Env → Option α → Prop} {ξ : Xi α} {m : Option α} {pos : Pos}
/-! ### a[i] -/
theorem rk_ixT {ed : A → D} {xs : List A} {i : Int} {g : A → Option α} (k : ∀ y, κD (ed y) (g y)) : RK2 rIxD (.v (.tup (xs.map ed))) (.v (.int i)) κD ((atO xs i).bind g) := rk_opt ed (fun y h M d e P v w p => by
  rw [v.ofV, w.ofV]
  unfold DL.rIxD atO at *
  dsimp only
  rw [atI_map, h]
  exact p) k
theorem rk_ixL {ed : A → D} {xs : List A} {i : Int} {g : A → Option α} (k : ∀ y, κD (ed y) (g y)) : RK2 rIxD (.v (.lst (xs.map ed))) (.v (.int i)) κD ((atO xs i).bind g) := rk_opt ed (fun y h M d e P v w p => by
  rw [v.ofV, w.ofV]
  unfold DL.rIxD atO at *
  show (match asL M (.lst (xs.map ed)) with
    | some ds => (match L2.atI ds i with
      | some d => P d M
      | none => False)
    | none => False)
  rw [show asL M (.lst (xs.map ed)) = some (xs.map ed) from rfl]
  dsimp only
  rw [atI_map, h]
  exact p) k
theorem rk_ixM {ed : A → D} {xs : List A} {i : Int} {g : A → Option α} (k : ∀ y, κD (ed y) (g y)) : RK2 rIxD (lO ed xs) (.v (.int i)) κD ((atO xs i).bind g) := rk_opt ed (fun y h M d e P v w p => by
  obtain ⟨c, rfl, hc⟩ := lO_vm v
  rw [w.ofV]
  unfold DL.rIxD atO at *
  show (match asL M (.ref c) with
    | some ds => (match L2.atI ds i with
      | some d => P d M
      | none => False)
    | none => False)
  rw [asL_of hc]
  dsimp only
  rw [atI_map, h]
  exact p) k
/-- a list's own item -/
theorem bk_ixO {os : List O} {i : Int} {g : O → Option α} (h : BK X W a E (fun o m1 => BK X W b E (fun p m2 => ∃ (os : List O) (i : Int) (g : O → Option α), o = .l os ∧ p = .v (.int i) ∧ m2 = (atO os i).bind g ∧ ∀ y, κ y (g y)) m1) m) (hs : PlainIx b := by exact fun _ _ => rfl) : BK X W (.Subscript a b pos) E κ m :=
  bk_of (ej_ix bE_j bE_j hs) fun fin ρ B M pd po P PX r hm hp => h fin ρ B M pd po _ PX r hm fun o m1 d k1 hm1 v1 => k1 fin ρ B M pd po _ PX r hm1 fun p m2 d2 ⟨os, i, g, e1, e2, e3, k⟩ hm2 v2 => by
    subst e1 e2 e3
    rw [v2.ofV]
    obtain ⟨F, h1⟩ := v1
    cases h1 with
    | l h2 h3 h4 =>
      rename_i c ds G
      cases ha : atO os i with
      | none => rw [ha] at hm2; cases hm2
      | some y =>
        rw [ha] at hm2
        show (match asL M (.ref c) with
          | some ds => (match L2.atI ds i with
            | some d => P d M
            | none => False)
          | none => False)
        rw [asL_of h2]
        dsimp only
        unfold atO L2.atI at ha
        unfold L2.atI
        rw [h3.len]
        cases hj : L2.ixN os.length i with
        | none => rw [hj] at ha; cases ha
        | some j =>
          rw [hj] at ha
          obtain ⟨d, F1, q1, q2, _, _⟩ := h3.at (j := j) ha
          rw [show (some j).bind (fun j => ds[j]?) = some d from q1]
          exact hp y _ d (k y) hm2 ⟨_, q2⟩
end
/-! ### places: a slot's own thing, or a part of it -/
def getS (E : Env) (i : Nat) : Option Nat → Option O
  | none => gE E i
  | some j => match gE E i with
    | some (.k _ os) => os[j]?
    | some (.o _ _ os) => os[j]?
    | some (.l os) => os[j]?
    | _ => none
def putS (E : Env) (i : Nat) : Option Nat → O → Env
  | none, o => sE E i (some o)
  | some j, o => match gE E i with
    | some (.k ks os) => sE E i (some (.k ks (os.set j o)))
    | some (.o C fs os) => sE E i (some (.o C fs (os.set j o)))
    | some (.l os) => sE E i (some (.l (os.set j o)))
    | _ => E
def isAt (ρ : Ev) (M : Mm) (i : Nat) : Option Nat → D → Prop
  | none, d => ρ i = some d
  | some j, d => ∃ a, ρ i = some (.ref a) ∧ ((∃ kvs, M a = some (.dct kvs) ∧ (kvs[j]?).map (·.2) = some d) ∨ (∃ C fs, M a = some (.ins C fs) ∧ (fs[j]?).map (·.2) = some d) ∨ ∃ ds, M a = some (.lst ds) ∧ ds[j]? = some d)
theorem zip_at {α β : Type} : ∀ {ks : List α} {ds : List β} {j : Nat} {d : β}, ks.length = ds.length → ds[j]? = some d → ((ks.zip ds)[j]?).map (·.2) = some d
  | [], [], _, _, _, h => by simp at h
  | k :: ks, x :: ds, 0, _, _, h => by simpa using h
  | k :: ks, x :: ds, j + 1, _, hl, h => by
    rw [List.zip_cons_cons, List.getElem?_cons_succ]
    rw [List.getElem?_cons_succ] at h
    exact zip_at (Nat.succ.inj hl) h
theorem isAt_uq {ρ : Ev} {M : Mm} {i : Nat} {s : Option Nat} {d d' : D} (h : isAt ρ M i s d) (h' : isAt ρ M i s d') : d = d' := by
  cases s with
  | none =>
    have h1 : ρ i = some d := h
    have h2 : ρ i = some d' := h'
    rw [h1] at h2
    exact Option.some.inj h2
  | some j =>
    obtain ⟨a, e1, k⟩ := h
    obtain ⟨a', e2, k'⟩ := h'
    rw [e1] at e2
    cases e2
    rcases k with ⟨kvs, q1, q2⟩ | ⟨C, fs, q1, q2⟩ | ⟨ds, q1, q2⟩ <;> rcases k' with ⟨kvs', q1', q2'⟩ | ⟨C', fs', q1', q2'⟩ | ⟨ds', q1', q2'⟩ <;> rw [q1] at q1' <;> cases q1'
    · rw [q2] at q2'; exact Option.some.inj q2'
    · rw [q2] at q2'; exact Option.some.inj q2'
    · rw [q2] at q2'; exact Option.some.inj q2'
structure Chg (M M' : Mm) (d : D) (o' : O) (F : List Addr) : Prop where
  ex : ∃ F', OR M' d o' F' ∧ (∀ b, M b ≠ none → b ∉ F → M' b = M b) ∧ ∀ b ∈ F', b ∈ F ∨ M b = none
theorem Rel.foc {E : Env} {ρ : Ev} {B M : Mm} {pd : List D} {po : List O} {i : Nat} {s : Option Nat} {o1 : O} (r : Rel E ρ B M pd po) (h : getS E i s = some o1) :
    ∃ d F1, isAt ρ M i s d ∧ OR M d o1 F1 ∧ ∀ M' o1', Chg M M' d o1' F1 → Rel (putS E i s o1') ρ B M' pd po := by
  cases s with
  | none =>
    obtain ⟨d, F, h1, h2, h3⟩ := r.upd h
    exact ⟨d, F, h1, h2, fun M' o' c => h3 M' o' c.ex⟩
  | some j =>
    unfold getS at h
    cases hq : gE E i with
    | none => rw [hq] at h; cases h
    | some oq =>
      rw [hq] at h
      obtain ⟨d, F, h1, h2, h3⟩ := r.upd hq
      cases oq with
      | k ks os =>
        cases h2 with
        | k g1 g2 g3 g4 =>
          rename_i a ds G
          obtain ⟨d1, F1, q1, q2, q3, q4⟩ := g3.at h
          refine ⟨d1, F1, ⟨a, h1, .inl ⟨_, g1, zip_at g2 q1⟩⟩, q2, fun M' o1' c => ?_⟩
          obtain ⟨F1', c1, c2, c3⟩ := c.ex
          obtain ⟨G', p1, p2⟩ := q4 M' o1' F1' c1 c2 c3
          have ha1 : a ∉ F1 := fun z => g4 (q3 a z)
          have hMa : M' a = M a := c2 a (by rw [g1]; exact fun z => by cases z) ha1
          have : putS E i (some j) o1' = sE E i (some (.k ks (os.set j o1'))) := by unfold putS; rw [hq]
          rw [this]
          refine h3 M' _ ⟨a :: G', .k (hMa.trans g1) g2 p1 fun z => ?_, fun b hb hn => c2 b hb fun z => hn (List.mem_cons_of_mem _ (q3 b z)), fun b hb => ?_⟩
          · rcases p2 a z with y | y
            · exact g4 y
            · rw [g1] at y; cases y
          · rcases List.mem_cons.mp hb with z | z
            · exact .inl (by rw [z]; exact List.mem_cons_self)
            · exact (p2 b z).imp (List.mem_cons_of_mem _) id
      | o C fs os =>
        cases h2 with
        | o g1 g2 g3 g4 =>
          rename_i a ds G
          obtain ⟨d1, F1, q1, q2, q3, q4⟩ := g3.at h
          refine ⟨d1, F1, ⟨a, h1, .inr (.inl ⟨_, _, g1, zip_at g2 q1⟩)⟩, q2, fun M' o1' c => ?_⟩
          obtain ⟨F1', c1, c2, c3⟩ := c.ex
          obtain ⟨G', p1, p2⟩ := q4 M' o1' F1' c1 c2 c3
          have ha1 : a ∉ F1 := fun z => g4 (q3 a z)
          have hMa : M' a = M a := c2 a (by rw [g1]; exact fun z => by cases z) ha1
          have : putS E i (some j) o1' = sE E i (some (.o C fs (os.set j o1'))) := by unfold putS; rw [hq]
          rw [this]
          refine h3 M' _ ⟨a :: G', .o (hMa.trans g1) g2 p1 fun z => ?_, fun b hb hn => c2 b hb fun z => hn (List.mem_cons_of_mem _ (q3 b z)), fun b hb => ?_⟩
          · rcases p2 a z with y | y
            · exact g4 y
            · rw [g1] at y; cases y
          · rcases List.mem_cons.mp hb with z | z
            · exact .inl (by rw [z]; exact List.mem_cons_self)
            · exact (p2 b z).imp (List.mem_cons_of_mem _) id
      | l os =>
        cases h2 with
        | l g1 g3 g4 =>
          rename_i a ds G
          obtain ⟨d1, F1, q1, q2, q3, q4⟩ := g3.at h
          refine ⟨d1, F1, ⟨a, h1, .inr (.inr ⟨_, g1, q1⟩)⟩, q2, fun M' o1' c => ?_⟩
          obtain ⟨F1', c1, c2, c3⟩ := c.ex
          obtain ⟨G', p1, p2⟩ := q4 M' o1' F1' c1 c2 c3
          have ha1 : a ∉ F1 := fun z => g4 (q3 a z)
          have hMa : M' a = M a := c2 a (by rw [g1]; exact fun z => by cases z) ha1
          have : putS E i (some j) o1' = sE E i (some (.l (os.set j o1'))) := by unfold putS; rw [hq]
          rw [this]
          refine h3 M' _ ⟨a :: G', .l (hMa.trans g1) p1 fun z => ?_, fun b hb hn => c2 b hb fun z => hn (List.mem_cons_of_mem _ (q3 b z)), fun b hb => ?_⟩
          · rcases p2 a z with y | y
            · exact g4 y
            · rw [g1] at y; cases y
          · rcases List.mem_cons.mp hb with z | z
            · exact .inl (by rw [z]; exact List.mem_cons_self)
            · exact (p2 b z).imp (List.mem_cons_of_mem _) id
      | _ => cases h
/-- an expression that names a place -/
def Recv (X : Cx) (W : WX') (e : Expr) (E : Env) (i : Nat) (s : Option Nat) : Prop :=
  ∀ ρ B M pd po P PX, Rel E ρ B M pd po → (∀ d, isAt ρ M i s d → P d M) → bE X W e ρ M P PX
section
variable {α A : Type} {X : Cx} {W : WX'} {e a b : Expr} {es : List Expr} {E : Env} {κE : O → Env → Option α → Prop} {ξ : Xi α} {m : Option α} {pos apos cpos p : Pos}
theorem rv_slot (i : Nat) {x : Str} (hE : ∃ o, gE E i = some o := by exact ⟨_, rfl⟩) (hN : X.N[i]? = some x := by rfl) (hv : Vis X.env.scope x := by first | exact Or.inl rfl | exact Or.inr (Or.inl rfl) | exact Or.inr (Or.inr rfl))
    (hd : (x == ("__debug__" : Str)) = false := by decide) (hcd : (x == ("__classdict__" : Str)) = false := by decide) : Recv X W (.Name x pos) E i none := fun ρ B M pd po P PX r hp => ⟨_, ej_var i hN hv hd hcd, by
  obtain ⟨o, ho⟩ := hE
  obtain ⟨d, F, h1, _⟩ := r.upd ho
  unfold dVar
  rw [show gt ρ i = some d from h1]
  exact hp d h1⟩
def ixOf {κ : Type} [DecidableEq κ] : List κ → κ → Option Nat
  | [], _ => none
  | c :: ks, k => if c = k then some 0 else (ixOf ks k).map (· + 1)
theorem lkg_zip {κ α : Type} [DecidableEq κ] {k : κ} : ∀ {ks : List κ} {ds : List α} {j : Nat}, ks.length = ds.length → ixOf ks k = some j → lkg (ks.zip ds) k = ds[j]? ∧ j < ks.length
  | [], [], j, _, h => by simp [ixOf] at h
  | c :: ks, x :: ds, j, hl, h => by
    unfold ixOf at h
    unfold lkg
    rw [List.zip_cons_cons]
    by_cases e : c = k
    · rw [if_pos e] at h
      cases h
      rw [List.find?_cons_of_pos (by simp [e])]
      exact ⟨rfl, Nat.succ_pos _⟩
    · rw [if_neg e] at h
      obtain ⟨j', h1, rfl⟩ := Option.map_eq_some_iff.mp h
      rw [List.find?_cons_of_neg (by simp [e])]
      have := lkg_zip (Nat.succ.inj hl) h1
      exact ⟨this.1, Nat.succ_lt_succ this.2⟩
/-- slot["key"] -/
theorem rv_key (i j : Nat) {x k : Str} {ks : List Key} {os : List O} {p2 q2} (hu : X.A.units + 1 < cLine) (hE : gE E i = some (.k ks os) := by rfl) (hj : ixOf ks (.inr k) = some j := by decide +kernel) (hN : X.N[i]? = some x := by rfl) (hv : Vis X.env.scope x := by first | exact Or.inl rfl | exact Or.inr (Or.inl rfl) | exact Or.inr (Or.inr rfl))
    (hd : (x == ("__debug__" : Str)) = false := by decide) (hcd : (x == ("__classdict__" : Str)) = false := by decide) : Recv X W (.Subscript (.Name x p) (.Constant (.str k) q2 p2) pos) E i (some j) := fun ρ B M pd po P PX r hp => ⟨_, ej_dgetG hu (ej_var i hN hv hd hcd) ej_str, by
  obtain ⟨d, F, h1, h2, h3⟩ := r.upd hE
  clear h3
  cases h2 with
  | k g1 g2 g3 g4 =>
    rename_i a ds G
    show (match gt ρ i with
      | some d => dC (.str k) ρ M (fun y M2 => match look M2 d y with
        | some (some z) => P z M2
        | _ => False) PX
      | none => False)
    rw [show gt ρ i = some (.ref a) from h1]
    show (match look M (.ref a) (.str k) with
        | some (some z) => P z M
        | _ => False)
    have ht : tabR M (.ref a) = some (.k (ks.zip ds)) := by
      unfold tabR
      dsimp only
      rw [g1]
    have hl : ∃ d1, ds[j]? = some d1 := by
      have hj2 : j < ks.length := (lkg_zip g2 hj).2
      exact ⟨ds[j]'(by omega), List.getElem?_eq_getElem (by omega)⟩
    obtain ⟨d1, hd1⟩ := hl
    have : look M (.ref a) (.str k) = some (some d1) := by
      unfold look
      rw [ht]
      show some (lkg (ks.zip ds) (.inr k)) = _
      rw [(lkg_zip g2 hj).1, hd1]
    rw [this]
    exact hp d1 ⟨a, h1, .inl ⟨_, g1, zip_at g2 hd1⟩⟩⟩
/-- slot.attr -/
theorem rv_attr (i j : Nat) {x f : Str} {C : Addr} {NS : List Str} {os : List O} (c : Cls X.K C) (n : NoAttr X.K C f) (hE : gE E i = some (.o C NS os) := by rfl) (hj : NS.idxOf? f = some j := by decide +kernel) (hN : X.N[i]? = some x := by rfl) (hv : Vis X.env.scope x := by first | exact Or.inl rfl | exact Or.inr (Or.inl rfl) | exact Or.inr (Or.inr rfl))
    (hd : (x == ("__debug__" : Str)) = false := by decide) (hcd : (x == ("__classdict__" : Str)) = false := by decide) (hb : attributeBase (.Name x p) f X.env (eval (.Name x p) X.env) = eval (.Name x p) X.env := by rfl) : Recv X W (.Attribute (.Name x p) f pos) E i (some j) := fun ρ B M pd po P PX r hp => ⟨_, ej_fld c n (ej_var i hN hv hd hcd) hj hb, by
  obtain ⟨d, F, h1, h2, h3⟩ := r.upd hE
  clear h3
  cases h2 with
  | o g1 g2 g3 g4 =>
    rename_i a ds G
    have hj2 : j < NS.length := (List.idxOf?_eq_some_iff.mp hj).1
    obtain ⟨d1, hd1⟩ : ∃ d1, ds[j]? = some d1 := ⟨ds[j]'(by omega), List.getElem?_eq_getElem (by omega)⟩
    have hnm : nm (NS.zip ds) = NS := by
      unfold nm
      exact List.map_fst_zip (by omega)
    have hfl : ∀ {l : List (Str × D)} {j : Nat} {d : D}, (l[j]?).map (·.2) = some d → fldI l j = some d := by
      intro l
      induction l with
      | nil => intro j d h; simp at h
      | cons q r ih =>
        intro j d h
        cases j with
        | zero => exact h
        | succ j => exact ih (by simpa using h)
    show (match gt ρ i with
      | some d => (match asO M d with
        | some (C', fs) => (C' = C ∧ nm fs = NS) ∧ (match fldI fs j with
          | some d => P d M
          | none => False)
        | none => False)
      | none => False)
    rw [show gt ρ i = some (.ref a) from h1]
    show (match asO M (.ref a) with
        | some (C', fs) => (C' = C ∧ nm fs = NS) ∧ (match fldI fs j with
          | some d => P d M
          | none => False)
        | none => False)
    have : asO M (.ref a) = some (C, NS.zip ds) := by
      unfold asO
      dsimp only
      rw [g1]
    rw [this]
    refine ⟨⟨rfl, hnm⟩, ?_⟩
    rw [hfl (zip_at g2 hd1)]
    exact hp d1 ⟨a, h1, .inr (.inl ⟨_, _, g1, zip_at g2 hd1⟩)⟩⟩
/-- slot[j], a written place of a list of lists -/
theorem rv_ix (i j : Nat) {x : Str} {os : List O} {o1 : O} {p2 q2} (hE : gE E i = some (.l os) := by rfl) (hj : os[j]? = some o1 := by rfl) (hN : X.N[i]? = some x := by rfl) (hv : Vis X.env.scope x := by first | exact Or.inl rfl | exact Or.inr (Or.inl rfl) | exact Or.inr (Or.inr rfl))
    (hd : (x == ("__debug__" : Str)) = false := by decide) (hcd : (x == ("__classdict__" : Str)) = false := by decide) : Recv X W (.Subscript (.Name x p) (.Constant (.int (j : Int)) q2 p2) pos) E i (some j) := fun ρ B M pd po P PX r hp => ⟨_, ej_ix (ej_var i hN hv hd hcd) ej_int (fun _ _ => rfl), by
  obtain ⟨d, F, h1, h2, h3⟩ := r.upd hE
  clear h3
  cases h2 with
  | l g1 g3 g4 =>
    rename_i a ds G
    obtain ⟨d1, F1, q1, _⟩ := g3.at hj
    show (match gt ρ i with
      | some d => dC (.int (j : Int)) ρ M (fun y M2 => DL.rIxD d y M2 P) PX
      | none => False)
    rw [show gt ρ i = some (.ref a) from h1]
    show (match asL M (.ref a) with
      | some ds => (match L2.atI ds (j : Int) with
        | some d => P d M
        | none => False)
      | none => False)
    rw [asL_of g1]
    have hjl : j < ds.length := (List.getElem?_eq_some_iff.mp q1).1
    have : L2.atI ds (j : Int) = some d1 := by
      unfold L2.atI L2.ixN
      rw [if_pos (by omega), if_pos (by omega)]
      simpa using q1
    dsimp only
    rw [this]
    exact hp d1 ⟨a, h1, .inr (.inr ⟨_, g1, q1⟩)⟩⟩
/-! ### methods that change a place -/
/-- one step of such a method -/
def MS (rM : D → List D → Mm → DP → Prop) (o1 : O) (xs : List D) (κ : D → O → Option α → Prop) (m : Option α) : Prop :=
  ∀ fin, m = some fin → ∃ z o1' m', κ z o1' m' ∧ m' = some fin ∧ ∀ M d F1 P, OR M d o1 F1 → (∀ M', Chg M M' d o1' F1 → P z M') → rM d xs M P
/-- arguments read alone -/
theorem ek_mB (i : Nat) (s : Option Nat) {o1 : O} {rM : D → List D → Mm → DP → Prop} {kD : D → Mm → Prop} (j : ∀ dx d, EJ X W a dx → AJ X W es d → EJ X W e (dBM kD rM dx d)) (hr : Recv X W a E i s) (ho : getS E i s = some o1) (hk : ∀ M d F, OR M d o1 F → kD d M)
    (h : BAK X W es E (fun os m1 => ∃ xs : List D, os = xs.map .v ∧ MS rM o1 xs (fun z o1' m2 => κE (.v z) (putS E i s o1') m2) m1) m) : EK X W e E κE ξ m :=
  fun fin ρ B M pd po P PX r hm hp hx => ⟨_, j _ _ bE_j bA_j, hr ρ B M pd po _ PX r fun d hd => by
    obtain ⟨d', F1, q1, q2, q3⟩ := r.foc ho
    obtain rfl := isAt_uq hd q1
    refine ⟨hk M d F1 q2, h fin ρ B M pd po _ PX r hm fun os m1 ds ⟨xs, e1, ms⟩ hm1 v1 => ?_⟩
    subst e1
    obtain rfl := v1.ofVs
    obtain ⟨z, o1', m2, k2, hm2, st⟩ := ms fin hm1
    exact st M d F1 P q2 fun M' c => hp _ _ m2 _ M' k2 hm2 ((q3 M' o1' c).v z)⟩
/-- arguments that may change other slots; the place is a slot -/
theorem ek_mA (i : Nat) {rM : D → List D → Mm → DP → Prop} {kD : D → Mm → Prop} {o0 : O} (j : ∀ dx d, EJ X W a dx → AJ X W es d → EJ X W e (dBM kD rM dx d)) (hr : Recv X W a E i none) (ho : gE E i = some o0) (hk : ∀ M d F, OR M d o0 F → kD d M)
    (h : AK X W es E (fun as E1 m1 => ∃ (xs : List D) (o1 : O), as.map (·.2) = xs.map .v ∧ gE E1 i = some o1 ∧ MS rM o1 xs (fun z o1' m2 => κE (.v z) (sE E1 i (some o1')) m2) m1) ξ m) : EK X W e E κE ξ m :=
  fun fin ρ B M pd po P PX r hm hp hx => ⟨_, j _ _ bE_j bA_j, hr ρ B M pd po _ PX r fun d hd => by
    obtain ⟨d', F0, q1, q2, _⟩ := r.upd ho
    obtain rfl := isAt_uq (s := none) hd q1
    refine ⟨hk M d F0 q2, h fin ρ B M pd po _ PX r hm (fun as E1 m1 ds M1 ⟨xs, o1, e1, e2, ms⟩ hm1 r1 hl _ => ?_) hx⟩
    have hl2 : ds.length = (as.map (·.2)).length := by rw [List.length_map]; exact hl
    have hds : ds = xs := by
      obtain ⟨φ, F, w⟩ := r1
      obtain ⟨F1, F2, _, h1, _, _⟩ := w.pen.cut2 hl2
      exact allV e1 h1
    subst hds
    have r2 := r1.drop hl2
    obtain ⟨z, o1', m2, k2, hm2, st⟩ := ms fin hm1
    obtain ⟨d', F1, q3, q4, q5⟩ := r2.upd e2
    have : d' = d := by
      have h1 : ρ i = some d := hd
      rw [h1] at q3
      exact (Option.some.inj q3).symm
    subst this
    exact st M1 d' F1 P q4 fun M' c => hp _ _ m2 _ M' k2 hm2 ((q5 M' o1' c.ex).v z)⟩
def pushO {A : Type} (xs : List A) (x : A) : Option (List A) := if xs.length < sizeLine then some (xs ++ [x]) else none
def popO {A : Type} (xs : List A) : Option (A × List A) := match xs[xs.length - 1]? with
  | some x => some (x, xs.dropLast)
  | none => none
theorem Chg.lst {M : Mm} {a : Addr} {A : Type} {ed : A → D} {xs ys : List A} (h : M a = some (.lst (xs.map ed))) : Chg M (um M a (.lst (ys.map ed))) (.ref a) (lO ed ys) [a] :=
  ⟨[a], lO_or um_same, fun b hb hn => um_ne fun z => hn (by rw [z]; exact List.mem_cons_self), fun b hb => .inl hb⟩
theorem ms_app {κ : D → O → Option α → Prop} {ed : A → D} {xs : List A} {y : A} {g : List A → Option α} (k : ∀ ys, κ .non (lO ed ys) (g ys)) : MS rAppD (lO ed xs) [ed y] κ ((pushO xs y).bind g) := fun fin hm => by
  unfold pushO at hm
  split at hm
  · rename_i hl
    refine ⟨.non, lO ed (xs ++ [y]), _, k _, hm, fun M d F1 P ho hp => ?_⟩
    obtain ⟨a, rfl, ha, rfl⟩ := lO_orI ho
    unfold rAppD
    dsimp only
    rw [ha]
    refine ⟨by rw [List.length_map]; exact hl, hp _ ?_⟩
    have := Chg.lst (ys := xs ++ [y]) ha
    rw [List.map_append] at this
    exact this
  · cases hm
theorem ms_pop {κ : D → O → Option α → Prop} {ed : A → D} {xs : List A} {g : A × List A → Option α} (k : ∀ y ys, κ (ed y) (lO ed ys) (g (y, ys))) : MS rPopD (lO ed xs) [] κ ((popO xs).bind g) := fun fin hm => by
  unfold popO at hm
  cases hq : xs[xs.length - 1]? with
  | none => rw [hq] at hm; cases hm
  | some y =>
    rw [hq] at hm
    refine ⟨ed y, lO ed xs.dropLast, _, k _ _, hm, fun M d F1 P ho hp => ?_⟩
    obtain ⟨a, rfl, ha, rfl⟩ := lO_orI ho
    unfold rPopD
    dsimp only
    rw [ha]
    dsimp only
    rw [List.length_map, List.getElem?_map, hq]
    have := Chg.lst (ys := xs.dropLast) ha
    rw [List.map_dropLast] at this
    exact hp _ this
theorem kl_ok {ed : A → D} {xs : List A} : ∀ M d F, OR M d (lO ed xs) F → kList d M := fun M d F h => by
  obtain ⟨a, rfl, ha, _⟩ := lO_orI h
  unfold kList
  rw [asL_of ha]
  rfl
end
end B

/-! B: places read, fields, dicts, items stored, slices, built-ins -/
namespace B
open PySem PySem.Spec PyProof.Rows L2 DL
section
variable {α A : Type} {X : Cx} {W : WX'} {e a b c : Expr} {es : List Expr} {E : Env} {κ : O → Option α → Prop} {κD : D → Option α → Prop} {κE : O → Env → Option α → Prop} {κT : Bool → Env → Option α → Prop} {ξ : Xi α} {m : Option α} {pos pos' apos cpos p : Pos} {kp : List Nat} {T : Tg α}
/-- what stands at a place -/
theorem bk_rv (i : Nat) (s : Option Nat) {o1 : O} (hr : Recv X W e E i s) (k : κ o1 m) (ho : getS E i s = some o1 := by rfl) : BK X W e E κ m := fun fin ρ B M pd po P PX r hm hp => hr ρ B M pd po P PX r fun d hd => by
  obtain ⟨d', F, q1, q2, _⟩ := r.foc ho
  obtain rfl := isAt_uq hd q1
  exact hp o1 m d k hm ⟨F, q2⟩
/-- a field of a thing that does not change -/
theorem fldI_at : ∀ {l : List (Str × D)} {j : Nat} {d : D}, (l[j]?).map (·.2) = some d → fldI l j = some d
  | [], _, _, h => by simp at h
  | _ :: _, 0, _, h => h
  | _ :: r, j + 1, _, h => fldI_at (l := r) (j := j) (by simpa using h)
theorem bk_fldV (j : Nat) {f : Str} {C : Addr} {NS : List Str} (c : Cls X.K C) (n : NoAttr X.K C f) (h : BK X W e E (fun o m1 => ∃ fs d, o = .v (.obj C fs) ∧ nm fs = NS ∧ fldI fs j = some d ∧ κ (.v d) m1) m) (hi : NS.idxOf? f = some j := by decide +kernel)
    (hb : attributeBase e f X.env (eval e X.env) = eval e X.env := by rfl) : BK X W (.Attribute e f pos) E κ m :=
  bk_of (ej_fld c n bE_j hi hb) fun fin ρ B M pd po P PX r hm hp => h fin ρ B M pd po _ PX r hm fun o m1 d ⟨fs, d1, e1, e2, e3, k⟩ hm1 v => by
    subst e1
    rw [v.ofV]
    show (match asO M (.obj C fs) with
      | some (C', fs) => (C' = C ∧ nm fs = NS) ∧ (match fldI fs j with
        | some d => P d M
        | none => False)
      | none => False)
    rw [show asO M (.obj C fs) = some (C, fs) from rfl]
    refine ⟨⟨rfl, e2⟩, ?_⟩
    rw [e3]
    exact hp _ m1 _ k hm1 (VM.v _)
theorem ek_fldV (j : Nat) {f : Str} {C : Addr} {NS : List Str} (c : Cls X.K C) (n : NoAttr X.K C f) (h : EK X W e E (fun o E1 m1 => ∃ fs d, o = .v (.obj C fs) ∧ nm fs = NS ∧ fldI fs j = some d ∧ κE (.v d) E1 m1) ξ m) (hi : NS.idxOf? f = some j := by decide +kernel)
    (hb : attributeBase e f X.env (eval e X.env) = eval e X.env := by rfl) : EK X W (.Attribute e f pos) E κE ξ m :=
  fun fin ρ B M pd po P PX r hm hp hx => ⟨_, ej_fld c n bE_j hi hb, h fin ρ B M pd po _ PX r hm (fun o E1 m1 d M1 ⟨fs, d1, e1, e2, e3, k⟩ hm1 r1 => by
    subst e1
    obtain ⟨rfl, r2⟩ := r1.ofV
    show (match asO M1 (.obj C fs) with
      | some (C', fs) => (C' = C ∧ nm fs = NS) ∧ (match fldI fs j with
        | some d => P d M1
        | none => False)
      | none => False)
    rw [show asO M1 (.obj C fs) = some (C, fs) from rfl]
    refine ⟨⟨rfl, e2⟩, ?_⟩
    rw [e3]
    exact hp _ E1 m1 _ M1 k hm1 (r2.v _)) hx⟩
/-! ### dicts, read -/
def LookIs (t : O) (y : D) (r : Option D) : Prop := ∀ M d, VM M d t → look M d y = some r
theorem bk_dget {ν : Type} (ev : ν → D) (hu : X.A.units + 1 < cLine) (h : BK X W a E (fun t m1 => BK X W b E (fun q m2 => ∃ (y : D) (r : Option ν) (g : ν → Option α), q = .v y ∧ LookIs t y (r.map ev) ∧ m2 = r.bind g ∧ ∀ v, κ (.v (ev v)) (g v)) m1) m) (hs : NoSl b := by exact fun _ _ => rfl) : BK X W (.Subscript a b pos) E κ m :=
  bk_of (ej_dgetG hu bE_j bE_j hs) fun fin ρ B M pd po P PX r hm hp => h fin ρ B M pd po _ PX r hm fun t m1 d k1 hm1 v1 => k1 fin ρ B M pd po _ PX r hm1 fun q m2 d2 ⟨y, r, g, e1, e2, e3, k⟩ hm2 v2 => by
    subst e1 e3
    rw [v2.ofV]
    cases r with
    | none => cases hm2
    | some v =>
      show (match look M d y with
        | some (some z) => P z M
        | _ => False)
      rw [e2 M d v1]
      exact hp _ _ _ (k v) hm2 (VM.v _)
theorem bk_in (neg : Bool) (h0 : ∀ ty td, EJ X W a ty → EJ X W b td → EJ X W e (dInG neg ty td)) (h : BK X W a E (fun q m1 => BK X W b E (fun t m2 => ∃ (y : D) (r : Option D), q = .v y ∧ LookIs t y r ∧ κ (.v (.bl (neg ^^ r.isSome))) m2) m1) m) : BK X W e E κ m :=
  bk_of (h0 _ _ bE_j bE_j) fun fin ρ B M pd po P PX r hm hp => h fin ρ B M pd po _ PX r hm fun t m1 d k1 hm1 v1 => k1 fin ρ B M pd po _ PX r hm1 fun q m2 d2 ⟨y, r, e1, e2, k⟩ hm2 v2 => by
    subst e1
    rw [v1.ofV]
    show (match look M d2 y with
      | some r => P (.bl (neg ^^ r.isSome)) M
      | none => False)
    rw [e2 M d2 v2]
    exact hp _ _ _ k hm2 (VM.v _)
theorem tk_in (neg : Bool) (h0 : ∀ ty td, EJ X W a ty → EJ X W b td → TJ X W e (dTst (dInG neg ty td))) (h : EK X W a E (fun q E1 m1 => BK X W b E1 (fun t m2 => ∃ (y : D) (r : Option D), q = .v y ∧ LookIs t y r ∧ κT (neg ^^ r.isSome) E1 m2) m1) ξ m) : TK X W e E κT ξ m :=
  fun fin ρ B M pd po P PX r hm hp hx => ⟨_, h0 _ _ bE_j bE_j, h fin ρ B M pd po _ PX r hm (fun t E1 m1 d M1 k1 hm1 r1 => k1 fin ρ B M1 _ _ _ PX r1 hm1 fun q m2 d2 ⟨y, r, e1, e2, k⟩ hm2 v2 => by
    subst e1
    obtain ⟨rfl, r2⟩ := r1.ofV
    show (match look M1 d2 d with
      | some r => dTst (fun ρ M P PX => P (.bl (neg ^^ r.isSome)) M) ρ M1 P PX
      | none => False)
    rw [e2 M1 d2 v2]
    exact hp _ E1 m2 M1 k hm2 r2) hx⟩
theorem bk_get1 {ν : Type} (ev : ν → D) (hu : X.A.units + 1 < cLine) (m1' : M1 X a "get" apos b cpos) (h : BK X W a E (fun t m1 => (∀ M d, VM M d t → ∃ t', tabR M d = some t') ∧ BK X W b E (fun q m2 => ∃ (y : D) (r : Option ν), q = .v y ∧ LookIs t y (r.map ev) ∧ κ (.v ((r.map ev).getD .non)) m2) m1) m) : BK X W (.Call (.Attribute a "get" apos) [b] [] cpos) E κ m :=
  bk_of (ej_get1 hu bE_j bE_j m1') fun fin ρ B M pd po P PX r hm hp => h fin ρ B M pd po _ PX r hm fun t m1 d ⟨ht, k1⟩ hm1 v1 => ⟨ht M d v1, k1 fin ρ B M pd po _ PX r hm1 fun q m2 d2 ⟨y, r, e1, e2, k⟩ hm2 v2 => by
    subst e1
    rw [v2.ofV]
    show (match look M d y with
      | some r => P (r.getD .non) M
      | none => False)
    rw [e2 M d v1]
    exact hp _ _ _ k hm2 (VM.v _)⟩
theorem bk_get2 {ν : Type} (ev : ν → D) (hu : X.A.units + 1 < cLine) (m2' : M2 X a "get" apos b c cpos) (h : BK X W a E (fun t m1 => (∀ M d, VM M d t → ∃ t', tabR M d = some t') ∧ BK X W b E (fun q m2 => BK X W c E (fun q' m3 => ∃ (y z : D) (r : Option ν), q = .v y ∧ q' = .v z ∧ LookIs t y (r.map ev) ∧ κ (.v ((r.map ev).getD z)) m3) m2) m1) m) : BK X W (.Call (.Attribute a "get" apos) [b, c] [] cpos) E κ m :=
  bk_of (ej_get2 hu bE_j bE_j bE_j m2') fun fin ρ B M pd po P PX r hm hp => h fin ρ B M pd po _ PX r hm fun t m1 d ⟨ht, k1⟩ hm1 v1 => ⟨ht M d v1, k1 fin ρ B M pd po _ PX r hm1 fun q m2 d2 k2 hm2 v2 => k2 fin ρ B M pd po _ PX r hm2 fun q' m3 d3 ⟨y, z, r, e1, e2, e3, k⟩ hm3 v3 => by
    subst e1 e2
    rw [v2.ofV, v3.ofV]
    show (match look M d y with
      | some r => P (r.getD z) M
      | none => False)
    rw [e3 M d v1]
    exact hp _ _ _ k hm3 (VM.v _)⟩
end
/-! ### tables by types -/
structure KeyE {κ : Type} (ek : κ → Key) (eD : κ → D) : Prop where
  inj : ∀ a b, ek a = ek b → a = b
  key : ∀ k, keyOf (eD k) = some (ek k)
structure KeyG {κ : Type} (ek : κ → List Key) (eD : κ → D) : Prop where
  inj : ∀ a b, ek a = ek b → a = b
  key : ∀ k, keyT (eD k) = some (ek k)
theorem keyI : KeyE (Sum.inl : Int → Key) D.int := ⟨fun _ _ h => Sum.inl.inj h, fun _ => rfl⟩
theorem keyS : KeyE (Sum.inr : Str → Key) D.str := ⟨fun _ _ h => Sum.inr.inj h, fun _ => rfl⟩
def kIs (xs : List Int) : List Key := xs.map .inl
theorem keyIs : KeyG kIs (fun xs : List Int => D.tup (xs.map .int)) := ⟨fun a b h => by
  unfold kIs at h
  exact List.map_inj_right (fun _ _ z => Sum.inl.inj z) |>.mp h, fun xs => by
  show keysT (xs.map .int) = some (xs.map .inl)
  induction xs with
  | nil => rfl
  | cons x xs ih =>
    rw [List.map_cons, keysT, ih]
    rfl⟩
def kPI (p : Int × Int) : List Key := [.inl p.1, .inl p.2]
theorem keyPI : KeyG kPI (fun p : Int × Int => D.tup [.int p.1, .int p.2]) := ⟨fun a b h => by
  unfold kPI at h
  obtain ⟨h1, h2⟩ := List.cons.inj h
  have h3 := (List.cons.inj h2).1
  exact Prod.ext (Sum.inl.inj h1) (Sum.inl.inj h3), fun k => rfl⟩
def kO {κ ν : Type} (ek : κ → Key) (ev : ν → D) (kvs : List (κ × ν)) : O := .k (kvs.map fun p => ek p.1) (kvs.map fun p => .v (ev p.2))
def tO {κ ν : Type} (ek : κ → List Key) (ev : ν → D) (kvs : List (κ × ν)) : O := .t (kvs.map fun p => ek p.1) (kvs.map fun p => .v (ev p.2))
theorem zip_maps {A B C : Type} (f : A → B) (g : A → C) : ∀ xs : List A, (xs.map f).zip (xs.map g) = xs.map fun x => (f x, g x)
  | [] => rfl
  | x :: xs => by rw [List.map_cons, List.map_cons, List.zip_cons_cons, zip_maps f g xs]; rfl
section
variable {κ ν : Type} {ek : κ → Key} {eg : κ → List Key} {ev : ν → D} {kvs : List (κ × ν)} {M : Mm} {d : D}
theorem kO_vm {F : List Addr} (h : OR M d (kO ek ev kvs) F) : ∃ a, d = .ref a ∧ M a = some (.dct (kvs.map fun p => (ek p.1, ev p.2))) ∧ F = [a] := by
  cases h with
  | k h l r n =>
    rw [show (kvs.map fun p => O.v (ev p.2)) = (kvs.map fun p => ev p.2).map .v by rw [List.map_map]; rfl] at r
    obtain ⟨rfl, rfl⟩ := r.ofVs
    rw [zip_maps] at h
    exact ⟨_, rfl, h, rfl⟩
theorem kO_or {a : Addr} (h : M a = some (.dct (kvs.map fun p => (ek p.1, ev p.2)))) : OR M (.ref a) (kO ek ev kvs) [a] := by
  refine .k (ds := kvs.map fun p => ev p.2) (by rw [zip_maps]; exact h) (by rw [List.length_map, List.length_map]) ?_ List.not_mem_nil
  rw [show (kvs.map fun p => O.v (ev p.2)) = (kvs.map fun p => ev p.2).map .v by rw [List.map_map]; rfl]
  exact ORs.vs
theorem tO_vm {F : List Addr} (h : OR M d (tO eg ev kvs) F) : ∃ a, d = .ref a ∧ M a = some (.dtt (kvs.map fun p => (eg p.1, ev p.2))) ∧ F = [a] := by
  cases h with
  | t h l r n =>
    rw [show (kvs.map fun p => O.v (ev p.2)) = (kvs.map fun p => ev p.2).map .v by rw [List.map_map]; rfl] at r
    obtain ⟨rfl, rfl⟩ := r.ofVs
    rw [zip_maps] at h
    exact ⟨_, rfl, h, rfl⟩
theorem tO_or {a : Addr} (h : M a = some (.dtt (kvs.map fun p => (eg p.1, ev p.2)))) : OR M (.ref a) (tO eg ev kvs) [a] := by
  refine .t (ds := kvs.map fun p => ev p.2) (by rw [zip_maps]; exact h) (by rw [List.length_map, List.length_map]) ?_ List.not_mem_nil
  rw [show (kvs.map fun p => O.v (ev p.2)) = (kvs.map fun p => ev p.2).map .v by rw [List.map_map]; rfl]
  exact ORs.vs
theorem lkg_map {κ' : Type} [DecidableEq κ] [DecidableEq κ'] {ek : κ → κ'} (hi : ∀ a b, ek a = ek b → a = b) (k : κ) : ∀ kvs : List (κ × ν), lkg (kvs.map fun p => (ek p.1, ev p.2)) (ek k) = (lkg kvs k).map ev
  | [] => rfl
  | p :: kvs => by
    have ih := lkg_map hi k kvs
    unfold lkg at ih ⊢
    rw [List.map_cons]
    by_cases e : p.1 = k
    · rw [List.find?_cons_of_pos (by simp [e]), List.find?_cons_of_pos (by simp [e])]
      rfl
    · rw [List.find?_cons_of_neg (by simp only [decide_eq_true_eq]; exact fun z => e (hi _ _ z)), List.find?_cons_of_neg (by simp [e])]
      exact ih
theorem insg_map {κ' : Type} [DecidableEq κ] [DecidableEq κ'] {ek : κ → κ'} (hi : ∀ a b, ek a = ek b → a = b) (k : κ) (v : ν) (kvs : List (κ × ν)) : insg (kvs.map fun p => (ek p.1, ev p.2)) (ek k) (ev v) = (insg kvs k v).map fun p => (ek p.1, ev p.2) := by
  have ha : ((kvs.map fun p => (ek p.1, ev p.2)).any fun kv => decide (kv.1 = ek k)) = (kvs.any fun kv => decide (kv.1 = k)) := by
    rw [List.any_map]
    congr 1
    funext p
    show decide (ek p.1 = ek k) = decide (p.1 = k)
    by_cases e : p.1 = k
    · rw [e, decide_eq_true rfl, decide_eq_true rfl]
    · rw [decide_eq_false e, decide_eq_false fun z => e (hi _ _ z)]
  unfold insg
  rw [ha]
  split
  · rw [List.map_map, List.map_map]
    congr 1
    funext p
    show (if ek p.1 = ek k then (ek p.1, ev v) else (ek p.1, ev p.2)) = (fun q : κ × ν => (ek q.1, ev q.2)) (if p.1 = k then (p.1, v) else p)
    by_cases e : p.1 = k
    · rw [if_pos e, if_pos (congrArg ek e)]
    · rw [if_neg e, if_neg fun z => e (hi _ _ z)]
  · rw [List.map_append]
    rfl
variable [DecidableEq κ] {eD : κ → D} {k : κ}
theorem li_k (h : KeyE ek eD) : LookIs (kO ek ev kvs) (eD k) ((lkg kvs k).map ev) := fun M d ⟨F, v⟩ => by
  obtain ⟨a, rfl, ha, _⟩ := kO_vm v
  unfold look tabR
  dsimp only
  rw [ha]
  dsimp only
  rw [h.key, Option.map_some, lkg_map h.inj]
theorem li_t (h : KeyG eg eD) : LookIs (tO eg ev kvs) (eD k) ((lkg kvs k).map ev) := fun M d ⟨F, v⟩ => by
  obtain ⟨a, rfl, ha, _⟩ := tO_vm v
  unfold look tabR
  dsimp only
  rw [ha]
  dsimp only
  rw [h.key, Option.map_some, lkg_map h.inj]
theorem li_kv (h : KeyE ek eD) : LookIs (.v (.dct (kvs.map fun p => (ek p.1, ev p.2)))) (eD k) ((lkg kvs k).map ev) := fun M d v => by
  rw [v.ofV]
  unfold look tabR
  dsimp only
  rw [h.key, Option.map_some, lkg_map h.inj]
theorem li_tv (h : KeyG eg eD) : LookIs (.v (.dtt (kvs.map fun p => (eg p.1, ev p.2)))) (eD k) ((lkg kvs k).map ev) := fun M d v => by
  rw [v.ofV]
  unfold look tabR
  dsimp only
  rw [h.key, Option.map_some, lkg_map h.inj]
/-- a written key of a record that does not change -/
theorem li_rv {kvs : List (Key × D)} {x : Str} : LookIs (.v (.dct kvs)) (.str x) (lkg kvs (.inr x)) := fun M d v => by
  rw [v.ofV]
  rfl
end
/-! ### dicts, written -/
def PSt (t : O) (y v : D) {α : Type} (κ : O → Option α → Prop) (m : Option α) : Prop :=
  ∀ fin, m = some fin → ∃ t' m', κ t' m' ∧ m' = some fin ∧ ∀ M d F, OR M d t F → ∃ n M', putM M d y v = some (n, M') ∧ n < sizeLine ∧ Chg M M' d t' F
def putO {κ ν : Type} [DecidableEq κ] (kvs : List (κ × ν)) (k : κ) (v : ν) : Option (List (κ × ν)) := if kvs.length < sizeLine then some (insg kvs k v) else none
section
variable {α : Type} {X : Cx} {W : WX'} {a b e value : Expr} {E : Env} {m : Option α} {pos pos' : Pos} {kp : List Nat} {T : Tg α}
theorem ps_k {κ ν : Type} [DecidableEq κ] {ek : κ → Key} {eD : κ → D} {ev : ν → D} {kvs : List (κ × ν)} {k : κ} {v : ν} {κ' : O → Option α → Prop} {g : List (κ × ν) → Option α} (h : KeyE ek eD) (kn : ∀ ys, κ' (kO ek ev ys) (g ys)) : PSt (kO ek ev kvs) (eD k) (ev v) κ' ((putO kvs k v).bind g) := fun fin hm => by
  unfold putO at hm
  split at hm
  · rename_i hl
    refine ⟨_, _, kn _, hm, fun M d F ho => ?_⟩
    obtain ⟨a, rfl, ha, rfl⟩ := kO_vm ho
    refine ⟨_, _, by unfold putM; dsimp only; rw [ha]; dsimp only; rw [h.key]; rfl, by rw [List.length_map]; exact hl, ⟨[a], ?_, fun b _ hn => um_ne fun z => hn (by rw [z]; exact List.mem_cons_self), fun b hb => .inl hb⟩⟩
    refine kO_or (um_same.trans ?_)
    rw [insg_map h.inj]
  · cases hm
theorem ps_t {κ ν : Type} [DecidableEq κ] {ek : κ → List Key} {eD : κ → D} {ev : ν → D} {kvs : List (κ × ν)} {k : κ} {v : ν} {κ' : O → Option α → Prop} {g : List (κ × ν) → Option α} (h : KeyG ek eD) (kn : ∀ ys, κ' (tO ek ev ys) (g ys)) : PSt (tO ek ev kvs) (eD k) (ev v) κ' ((putO kvs k v).bind g) := fun fin hm => by
  unfold putO at hm
  split at hm
  · rename_i hl
    refine ⟨_, _, kn _, hm, fun M d F ho => ?_⟩
    obtain ⟨a, rfl, ha, rfl⟩ := tO_vm ho
    refine ⟨_, _, by unfold putM; dsimp only; rw [ha]; dsimp only; rw [h.key]; rfl, by rw [List.length_map]; exact hl, ⟨[a], ?_, fun b _ hn => um_ne fun z => hn (by rw [z]; exact List.mem_cons_self), fun b hb => .inl hb⟩⟩
    refine tO_or (um_same.trans ?_)
    rw [insg_map h.inj]
  · cases hm
theorem insg_zip {κ α : Type} [DecidableEq κ] {k : κ} {v : α} : ∀ {ks : List κ} {ds : List α} {j : Nat}, ks.length = ds.length → ks.Nodup → ixOf ks k = some j → insg (ks.zip ds) k v = ks.zip (ds.set j v)
  | [], [], j, _, _, h => by simp [ixOf] at h
  | c :: ks, x :: ds, j, hl, hn, h => by
    unfold ixOf at h
    unfold insg
    rw [List.zip_cons_cons]
    have hnot : ∀ (ds : List α), c ∉ ks → ks.length = ds.length → (ks.zip ds).map (fun kv => if kv.1 = c then (kv.1, v) else kv) = ks.zip ds := by
      intro ds hc hl
      rw [show ks.zip ds = (ks.zip ds).map id by simp]
      rw [List.map_map]
      apply List.map_congr_left
      intro p hp
      have : p.1 ≠ c := fun z => hc (by rw [← z]; exact (List.of_mem_zip hp).1)
      show (if p.1 = c then (p.1, v) else p) = p
      rw [if_neg this]
    by_cases e : c = k
    · subst e
      rw [if_pos rfl] at h
      cases h
      rw [if_pos (by simp)]
      rw [List.map_cons, if_pos rfl, hnot ds (List.nodup_cons.mp hn).1 (Nat.succ.inj hl)]
      rfl
    · rw [if_neg e] at h
      obtain ⟨j', h1, rfl⟩ := Option.map_eq_some_iff.mp h
      have ih := insg_zip (v := v) (Nat.succ.inj hl) (List.nodup_cons.mp hn).2 h1
      have hany : ((ks.zip ds).any fun kv => decide (kv.1 = k)) = true := by
        have := lkg_zip (Nat.succ.inj hl) h1
        have hj : j' < ds.length := by rw [← Nat.succ.inj hl]; exact this.2
        have hs : lkg (ks.zip ds) k = some (ds[j']) := this.1.trans (List.getElem?_eq_getElem hj)
        unfold lkg at hs
        obtain ⟨p, hp, _⟩ := Option.map_eq_some_iff.mp hs
        exact List.any_eq_true.mpr ⟨p, List.mem_of_find?_eq_some hp, by simpa using List.find?_some hp⟩
      unfold insg at ih
      rw [if_pos hany] at ih
      rw [if_pos (by rw [List.any_cons, hany, Bool.or_true]), List.map_cons, if_neg e, ih]
      rfl
/-- a written key of a record -/
theorem ps_r {ks : List Key} {os : List O} {x : Str} {v : D} {κ' : O → Option α → Prop} (j : Nat) (kn : κ' (.k ks (os.set j (.v v))) m) (hj : ixOf ks (.inr x) = some j := by decide +kernel) (hn : ks.Nodup := by decide +kernel) (hl : ks.length < sizeLine := by decide +kernel) (hold : ∃ w, os[j]? = some (.v w) := by exact ⟨_, rfl⟩) : PSt (.k ks os) (.str x) v κ' m := fun fin hm => by
  refine ⟨_, _, kn, hm, fun M d F ho => ?_⟩
  cases ho with
  | k g1 g2 g3 g4 =>
    rename_i a ds G
    obtain ⟨w, hw⟩ := hold
    obtain ⟨d1, F1, q1, q2, q3, q4⟩ := g3.at hw
    refine ⟨_, _, by unfold putM; dsimp only; rw [g1]; rfl, by rw [List.length_zip, ← g2, Nat.min_self]; exact hl, ⟨a :: G, ?_, fun b _ hb => um_ne fun z => hb (by rw [z]; exact List.mem_cons_self), fun b hb => .inl hb⟩⟩
    rw [insg_zip g2 hn hj]
    refine .k um_same (by rw [List.length_set]; exact g2) ?_ g4
    have g5 := g3.fr (M' := um M a (.dct (ks.zip (ds.set j v)))) fun b hb => um_ne fun z => g4 (by rw [← z]; exact hb)
    exact ORs.setV g5 hw
where
  ORs.setV {M : Mm} {v w : D} : ∀ {ds : List D} {os : List O} {F : List Addr} {j : Nat}, ORs M ds os F → os[j]? = some (.v w) → ORs M (ds.set j v) (os.set j (.v v)) F
  | _, _, _, _, .nil, h => by simp at h
  | _, _, _, 0, .cons (F := F) g r n, h => by
    rw [List.getElem?_cons_zero] at h
    cases h
    obtain ⟨rfl, rfl⟩ := g.ofV
    exact .cons (.v v) r n
  | _, _, _, j + 1, .cons g r n, h => by
    rw [List.getElem?_cons_succ] at h
    exact .cons g (ORs.setV r h) n
/-- place[key] = value -/
theorem sk_dput (i : Nat) (s : Option Nat) (hu : X.A.units + 1 < cLine) (h : EK X W value E (fun o E1 m1 => ∃ v t, o = .v v ∧ Recv X W a E1 i s ∧ getS E1 i s = some t ∧ BK X W b E1 (fun q m2 => ∃ y, q = .v y ∧ PSt t y v (fun t' m3 => T.nx (putS E1 i s t') m3) m2) m1) T.ex m)
    (hs : swapsWith value (some (.Subscript a b pos')) pos.line X.env = pure false := by rfl) : SK X W kp (.Assign [.Subscript a b pos'] value pos) E T m := fun fin ρ B M DD r hm ac =>
  ⟨_, sj_dputG hu bE_j bE_j bE_j hs, h fin ρ B M [] [] _ _ r hm (fun o E1 m1 d M1 ⟨v, t, e1, hr, ht, kb⟩ hm1 r1 => by
    subst e1
    obtain ⟨rfl, r2⟩ := r1.ofV
    refine hr ρ B M1 [] [] _ _ r2 fun dx hdx => ?_
    refine kb fin ρ B M1 [] [] _ _ r2 hm1 fun q m2 dy ⟨y, e2, sst⟩ hm2 v2 => ?_
    subst e2
    rw [v2.ofV]
    obtain ⟨t', m3, k3, hm3, hst⟩ := sst fin hm2
    obtain ⟨d', F, q1, q2, q3⟩ := r2.foc ht
    obtain rfl := isAt_uq hdx q1
    obtain ⟨n, M', p1, p2, p3⟩ := hst M1 dx F q2
    rw [p1]
    exact ⟨p2, ac.nx _ m3 ρ M' k3 hm3 (q3 M' t' p3) fun _ _ => rfl⟩) fun C fs E' m' M' k hm' r' => ac.ex C fs E' m' ρ M' k hm' r' fun _ _ => rfl⟩
end
/-- a new dict of one's own -/
theorem ek_newK {α : Type} {X : Cx} {W : WX'} {E : Env} {κE : O → Env → Option α → Prop} {ξ : Xi α} {m : Option α} {pos : Pos} (k : κE (.k [] []) E m) : EK X W (.Dict [] [] pos) E κE ξ m := fun fin ρ B M pd po P PX r hm hp hx => ⟨_, ej_newK, fun p hpn => by
  refine hp _ E m _ _ k hm (Rel.chg (ds := []) (os := []) (ds' := [.ref p]) (os' := [.k [] []]) r rfl fun F hF => ?_)
  cases hF
  exact ⟨[p] ++ [], .cons (.k (ks := []) (ds := []) um_same rfl .nil List.not_mem_nil) .nil Dis.nil', fun b hb _ => um_ne fun z => hb (by rw [z]; exact hpn), fun b hb => by simp at hb; exact .inr (by rw [hb]; exact hpn)⟩⟩
theorem ek_newT {α : Type} {X : Cx} {W : WX'} {E : Env} {κE : O → Env → Option α → Prop} {ξ : Xi α} {m : Option α} {pos : Pos} (k : κE (.t [] []) E m) : EK X W (.Dict [] [] pos) E κE ξ m := fun fin ρ B M pd po P PX r hm hp hx => ⟨_, ej_newT, fun p hpn => by
  refine hp _ E m _ _ k hm (Rel.chg (ds := []) (os := []) (ds' := [.ref p]) (os' := [.t [] []]) r rfl fun F hF => ?_)
  cases hF
  exact ⟨[p] ++ [], .cons (.t (ks := []) (ds := []) um_same rfl .nil List.not_mem_nil) .nil Dis.nil', fun b hb _ => um_ne fun z => hb (by rw [z]; exact hpn), fun b hb => by simp at hb; exact .inr (by rw [hb]; exact hpn)⟩⟩
end B

/-! B: more of lists; slices; what is walked; equality; built-ins -/
namespace B
open PySem PySem.Spec PyProof.Rows L2 DL
section
variable {α A : Type} {X : Cx} {W : WX'} {e a b c tg : Expr} {es : List Expr} {E : Env} {κ : O → Option α → Prop} {κD : D → Option α → Prop} {κA : List O → Option α → Prop} {κE : O → Env → Option α → Prop} {ξ : Xi α} {m : Option α} {pos pos' apos cpos p tpos : Pos} {kp : List Nat} {T : Tg α} {κG : Env → Prop}
/-! ### a thing of one's own goes into a list -/
theorem ek_appO (i : Nat) (ho : ∃ os, gE E i = some (.l os)) (j : ∀ dx d, EJ X W a dx → AJ X W [b] d → EJ X W e (dBM kList rAppD dx d)) (hr : Recv X W a E i none)
    (h : AK X W [b] E (fun as E1 m1 => ∃ (q : O) (os : List O), as.map (·.2) = [q] ∧ gE E1 i = some (.l os) ∧ os.length < sizeLine ∧ κE (.v .non) (sE E1 i (some (.l (os ++ [q])))) m1) ξ m) : EK X W e E κE ξ m :=
  fun fin ρ B M pd po P PX r hm hp hx => ⟨_, j _ _ bE_j bA_j, hr ρ B M pd po _ PX r fun d hd => by
    obtain ⟨os0, ho⟩ := ho
    obtain ⟨d', F0, q1, q2, q3⟩ := r.upd ho
    clear q3
    obtain rfl := isAt_uq (s := none) hd q1
    cases q2 with
    | l g1 g3 g4 =>
      rename_i a0 ds0 G0
      refine ⟨by show (asL M (.ref a0)).isSome = true; rw [asL_of g1]; rfl, h fin ρ B M pd po _ PX r hm (fun as E1 m1 ds M1 ⟨q, os, e1, e2, hl, k⟩ hm1 r1 hlen _ => ?_) hx⟩
      rw [e1] at r1
      have hlen2 : ds.length = 1 := by rw [hlen, ← as.length_map (·.2), e1]; rfl
      match ds, hlen2, r1 with
      | [dq], _, r1 =>
        obtain ⟨d1, h1, r2⟩ := Rel.mov r1 e2
        have hd1 : d1 = .ref a0 := by
          have : ρ i = some (.ref a0) := hd
          rw [this] at h1
          exact (Option.some.inj h1).symm
        subst hd1
        have hl1 : ∃ ds1, M1 a0 = some (.lst ds1) ∧ ds1.length = os.length := by
          obtain ⟨F, v⟩ := r2.top
          cases v with
          | l k1 k2 k3 => exact ⟨_, k1, k2.len⟩
        obtain ⟨ds1, hM, hll⟩ := hl1
        show (match M1 a0 with
          | some (.lst ds) => ds.length < sizeLine ∧ P .non (um M1 a0 (.lst (ds ++ [dq])))
          | _ => False)
        rw [hM]
        refine ⟨by rw [hll]; exact hl, hp _ _ m1 _ _ k hm1 (Rel.v _ ?_)⟩
        have r3 := Rel.chg (ds := [.ref a0, dq]) (os := [.l os, q]) (M' := um M1 a0 (.lst (ds1 ++ [dq]))) r2 rfl [.ref a0] [.l (os ++ [q])] fun F hF => by
          cases hF with
          | cons k1 k2 k3 =>
            rename_i F1 F2
            cases k2 with
            | cons k4 k5 k6 =>
              rename_i F3 F4
              cases k5
              cases k1 with
              | l n1 n2 n3 =>
                rename_i ds2 G
                rw [hM] at n1
                cases n1
                have a3 : a0 ∉ F3 := fun z => k3 a0 List.mem_cons_self (List.mem_append_left _ z)
                have nG : ∀ b ∈ G, b ≠ a0 := fun b hb z => n3 (by rw [← z]; exact hb)
                have n3' : ∀ b ∈ F3, b ≠ a0 := fun b hb z => a3 (by rw [← z]; exact hb)
                have hc : ORs (um M1 a0 (.lst (ds1 ++ [dq]))) (ds1 ++ [dq]) (os ++ [q]) (G ++ (F3 ++ [])) := (n2.fr fun b hb => um_ne (nG b hb)).cat (.cons (k4.fr fun b hb => um_ne (n3' b hb)) .nil Dis.nil')
                  (k3.sub (fun x z => List.mem_cons_of_mem _ z) fun x z => z)
                refine ⟨(a0 :: (G ++ (F3 ++ []))) ++ [], .cons (.l um_same hc fun z => ?_) .nil Dis.nil', fun b hb hn => um_ne fun z => hn (by rw [z]; exact List.mem_cons_self), fun b hb => .inl ?_⟩
                · rcases List.mem_append.mp z with z | z
                  · exact n3 z
                  · rw [List.append_nil] at z; exact a3 z
                · simp only [List.append_nil, List.mem_cons, List.mem_append] at hb ⊢
                  rcases hb with z | z | z
                  · exact .inl (.inl z)
                  · exact .inl (.inr z)
                  · exact .inr z
        exact (r3.back h1).set2⟩
/-! ### targets: fields, items -/
theorem gk_fld (i : Nat) {x f : Str} {C : Addr} {NS : List Str} {os : List O} {v : D} (c : Cls X.K C) (n : NoAttr X.K C f) (k : κG (sE E i (some (.o C (NS ++ [f]) (os ++ [.v v]))))) (hE : gE E i = some (.o C NS os) := by rfl) (hi : f ∉ NS := by decide +kernel) (hl : NS.length < 1000 := by decide) (hN : X.N[i]? = some x := by rfl)
    (hv : Vis X.env.scope x := by first | exact Or.inl rfl | exact Or.inr (Or.inl rfl) | exact Or.inr (Or.inr rfl)) (hd : (x == ("__debug__" : Str)) = false := by decide) (hcd : (x == ("__classdict__" : Str)) = false := by decide) : GK X kp (.Attribute (.Name x p) f pos) (.v v) E κG :=
  fun ρ B M d P r h => ⟨_, gj_fldNew (NS := NS) c n (ej_var i hN hv hd hcd) hi hl, by
    obtain ⟨rfl, r2⟩ := r.ofV
    obtain ⟨d1, F, h1, h2, h3⟩ := r2.upd hE
    cases h2 with
    | o g1 g2 g3 g4 =>
      rename_i a ds G
      show (match gt ρ i with
        | some d1 => (match d1 with
          | .ref a => (match M a with
            | some (.ins C' fs) => (C' = C ∧ nm fs = NS) ∧ P ρ (um M a (.ins C (fs ++ [(f, d)])))
            | _ => False)
          | _ => False)
        | none => False)
      rw [show gt ρ i = some (.ref a) from h1]
      dsimp only
      rw [g1]
      have hnm : nm (NS.zip ds) = NS := List.map_fst_zip (by omega)
      have hz : NS.zip ds ++ [(f, d)] = (NS ++ [f]).zip (ds ++ [d]) := by rw [List.zip_append g2]; rfl
      refine ⟨⟨rfl, hnm⟩, h _ ρ _ k (h3 _ _ ⟨a :: (G ++ []), ?_, fun b hb hn => um_ne fun z => hn (by rw [z]; exact List.mem_cons_self), fun b hb => .inl (by rw [List.append_nil] at hb; exact hb)⟩) fun _ _ => rfl⟩
      rw [hz]
      refine .o um_same (by rw [List.length_append, List.length_append, g2]; rfl) ((g3.fr fun b hb => um_ne fun z => g4 (by rw [← z]; exact hb)).cat (.cons (F := []) (G := []) (.v d) .nil Dis.nil) Dis.nil') (by rw [List.append_nil]; exact g4)⟩
def setL {A : Type} (xs : List A) (i : Int) (y : A) : Option (List A) := (L2.ixN xs.length i).map fun j => xs.set j y
/-- an item stored; what follows must be there -/
theorem sk_lset (i : Nat) (s : Option Nat) (ed : A → D) {value : Expr} (h : EK X W value E (fun o E1 m1 => ∃ (y : A) (xs : List A), o = .v (ed y) ∧ Recv X W0 a E1 i s ∧ getS E1 i s = some (lO ed xs) ∧ BK X W0 b E1 (fun q m2 => ∃ (k : Int) (g : List A → Option α), q = .v (.int k) ∧ m2 = (setL xs k y).bind g ∧ ∀ ys, T.nx (putS E1 i s (lO ed ys)) (g ys)) m1) T.ex m)
    (ha : ∀ v, assign (.Subscript a b pos') X.env v = (do
      let ov ← holding [v] (eval a X.env)
      let iv ← holding [v, ov] (eval b X.env)
      standAt pos'
      holding [v, ov, iv] (setItem ov iv v)
      release [v, ov, iv] []) := by intro _; rfl)
    (hs : swapsWithSole [.Subscript a b pos'] value pos.line X.env = pure false := by rfl) (hw : swappedStores [.Subscript a b pos'] value X.env = pure none := by rfl)
    (h1 : (assignEach [.Subscript a b pos'] X.env).map (·.2) = [assign (.Subscript a b pos') X.env] := by rfl) : SK X W kp (.Assign [.Subscript a b pos'] value pos) E T m := fun fin ρ B M DD r hm ac =>
  ⟨_, sj_asg bE_j (gj_ix bE_j bE_j ha) hs hw h1, h fin ρ B M [] [] _ _ r hm (fun o E1 m1 d M1 ⟨y, xs, e1, hr, hg, kb⟩ hm1 r1 => by
    subst e1
    obtain ⟨rfl, r2⟩ := r1.ofV
    refine hr ρ B M1 [] [] _ _ r2 fun dx hdx => ?_
    refine kb fin ρ B M1 [] [] _ _ r2 hm1 fun q m2 dk ⟨k, g, e2, e3, kn⟩ hm2 v2 => ?_
    subst e2 e3
    rw [v2.ofV]
    obtain ⟨d', F, q1, q2, q3⟩ := r2.foc hg
    obtain rfl := isAt_uq hdx q1
    obtain ⟨c, rfl, hc, rfl⟩ := lO_orI q2
    unfold setL at hm2
    dsimp only
    rw [hc]
    dsimp only
    rw [List.length_map]
    cases hj : L2.ixN xs.length k with
    | none => rw [hj] at hm2; cases hm2
    | some j =>
      rw [hj] at hm2
      dsimp only
      rw [← List.map_set]
      exact ac.nx _ _ ρ _ (kn _) hm2 (q3 _ _ (Chg.lst hc)) fun _ _ => rfl) fun C fs E' m' M' k hm' r' => ac.ex C fs E' m' ρ M' k hm' r' fun _ _ => rfl⟩
/-! ### *e among items -/
theorem ak_star {es : List Expr} {κA : List (Option Nat × O) → Env → Option α → Prop} (h : EK X W e E (fun o E1 m1 => ∃ xs : List D, (o = .v (.tup xs) ∨ o = .v (.lst xs)) ∧ AK X W es E1 (fun os E2 m2 => κA (xs.map (fun x => (none, .v x)) ++ os) E2 m2) ξ m1) ξ m) (hs : starEach (.Starred e p :: es) X.env = (true, eval e X.env) :: starEach es X.env := by rfl) : AK X W (.Starred e p :: es) E κA ξ m :=
  fun fin ρ B M pd po P PX r hm hp hx => ⟨_, aj_star bE_j bA_j hs, h fin ρ B M pd po _ PX r hm (fun o E1 m1 d M1 ⟨xs, ho, k⟩ hm1 r1 => by
    have hd : seqD M1 d = some xs ∧ Rel E1 ρ B M1 pd po := by
      rcases ho with rfl | rfl
      · obtain ⟨rfl, r2⟩ := r1.ofV
        exact ⟨rfl, r2⟩
      · obtain ⟨rfl, r2⟩ := r1.ofV
        exact ⟨rfl, r2⟩
    rw [hd.1]
    refine k fin ρ B M1 pd po _ PX hd.2 hm1 (fun os E2 m2 ds M2 k2 hm2 r2 hl h0 => hp _ E2 m2 _ M2 k2 hm2 ?_ (by rw [List.length_append, List.length_append, List.length_map, hl]) fun j i q hj => ?_) hx
    · rw [List.map_append, List.map_map, List.append_assoc, List.append_assoc]
      exact r2.vs xs
    · rcases Nat.lt_or_ge j xs.length with z | z
      · rw [List.getElem?_append_left (by rw [List.length_map]; exact z), List.getElem?_map] at hj
        cases hx : xs[j]? with
        | none => rw [hx] at hj; cases hj
        | some w => rw [hx] at hj; cases hj
      · rw [List.getElem?_append_right (by rw [List.length_map]; exact z), List.length_map] at hj
        rw [List.getElem?_append_right z]
        exact h0 _ i q hj) hx⟩
/-! ### slices -/
def bO (X : Cx) (W : WX') (e : Option Expr) : DO := fun ρ M P PX => ∃ d : DO, OJ X W e d ∧ d ρ M P PX
theorem bO_j {eo : Option Expr} : OJ X W eo (bO X W eo) :=
  ⟨fun pins s σ H Q I ⟨ρ, M, Hf, P, PX, sr, ⟨d, j, h⟩, fe, fx⟩ => j.run pins s σ H Q I ⟨ρ, M, Hf, P, PX, sr, h, fe, fx⟩⟩
def OK {α : Type} (X : Cx) (W : WX') (e : Option Expr) (E : Env) (κ : Option Int → Option α → Prop) (m : Option α) : Prop :=
  ∀ fin ρ B M pd po P PX, Rel E ρ B M pd po → m = some fin → (∀ o m', κ o m' → m' = some fin → P o M) → bO X W e ρ M P PX
theorem ok_none {κO : Option Int → Option α → Prop} (k : κO none m) : OK X W none E κO m := fun fin ρ B M pd po P PX r hm hp => ⟨_, oj_none, hp none m k hm⟩
theorem ok_some {κO : Option Int → Option α → Prop} (h : BK X W e E (fun q m1 => ∃ i, q = .v (.int i) ∧ κO (some i) m1) m) : OK X W (some e) E κO m := fun fin ρ B M pd po P PX r hm hp => ⟨_, oj_some bE_j, h fin ρ B M pd po _ PX r hm fun q m1 d ⟨i, e1, k⟩ hm1 v => by
  subst e1
  rw [v.ofV]
  exact hp _ m1 k hm1⟩
/-- what a slice of something is -/
def SlIs (o : O) (lo hi : Option Int) (z : D) : Prop := ∀ M d P, VM M d o → P z M → rSlD d lo hi M P
theorem sl_tup {ed : A → D} {xs : List A} {lo hi : Option Int} : SlIs (.v (.tup (xs.map ed))) lo hi (.tup ((DL.cutD xs lo hi).map ed)) := fun M d P v h => by
  rw [v.ofV]
  show P (.tup (DL.cutD (xs.map ed) lo hi)) M
  have : DL.cutD (xs.map ed) lo hi = (DL.cutD xs lo hi).map ed := by unfold DL.cutD; rw [List.length_map, List.map_take, List.map_drop]
  rw [this]
  exact h
theorem sl_lst {ed : A → D} {xs : List A} {lo hi : Option Int} : SlIs (.v (.lst (xs.map ed))) lo hi (.lst ((DL.cutD xs lo hi).map ed)) := fun M d P v h => by
  rw [v.ofV]
  show P (.lst (DL.cutD (xs.map ed) lo hi)) M
  have : DL.cutD (xs.map ed) lo hi = (DL.cutD xs lo hi).map ed := by unfold DL.cutD; rw [List.length_map, List.map_take, List.map_drop]
  rw [this]
  exact h
theorem sl_scr {ed : A → D} {xs : List A} {lo hi : Option Int} : SlIs (.v (.scr (xs.map ed))) lo hi (.lst ((DL.cutD xs lo hi).map ed)) := fun M d P v h => by
  rw [v.ofV]
  show P (.lst (DL.cutD (xs.map ed) lo hi)) M
  have : DL.cutD (xs.map ed) lo hi = (DL.cutD xs lo hi).map ed := by unfold DL.cutD; rw [List.length_map, List.map_take, List.map_drop]
  rw [this]
  exact h
theorem sl_own {ed : A → D} {xs : List A} {lo hi : Option Int} : SlIs (lO ed xs) lo hi (.lst ((DL.cutD xs lo hi).map ed)) := fun M d P v h => by
  obtain ⟨c, rfl, hc⟩ := lO_vm v
  have : DL.cutD (xs.map ed) lo hi = (DL.cutD xs lo hi).map ed := by unfold DL.cutD; rw [List.length_map, List.map_take, List.map_drop]
  show (match asL M (.ref c) with
    | some ds => P (.lst (DL.cutD ds lo hi)) M
    | none => False)
  rw [asL_of hc]
  dsimp only
  rw [this]
  exact h
theorem bk_sl {lo hi : Option Expr} {p2} (h : BK X W a E (fun o m1 => OK X W lo E (fun l m2 => OK X W hi E (fun u m3 => ∃ z, SlIs o l u z ∧ κ (.v z) m3) m2) m1) m) : BK X W (.Subscript a (.Slice lo hi none p2) pos) E κ m :=
  bk_of (ej_sl bE_j bO_j bO_j) fun fin ρ B M pd po P PX r hm hp => h fin ρ B M pd po _ PX r hm fun o m1 d k1 hm1 v1 => k1 fin ρ B M pd po _ PX r hm1 fun l m2 k2 hm2 => k2 fin ρ B M pd po _ PX r hm2 fun u m3 ⟨z, hz, k3⟩ hm3 => hz M d P v1 (hp _ m3 _ k3 hm3 (VM.v z))
/-- e[lo:hi] of a value that is made -/
theorem ek_sl {lo hi : Option Expr} {p2} (h : EK X W a E (fun o E1 m1 => OK X W lo E1 (fun l m2 => OK X W hi E1 (fun u m3 => ∃ z, SlIs o l u z ∧ κE (.v z) E1 m3) m2) m1) ξ m) : EK X W (.Subscript a (.Slice lo hi none p2) pos) E κE ξ m :=
  fun fin ρ B M pd po P PX r hm hp hx => ⟨_, ej_sl bE_j bO_j bO_j, h fin ρ B M pd po _ PX r hm (fun o E1 m1 d M1 k1 hm1 r1 => k1 fin ρ B M1 _ _ _ PX r1 hm1 fun l m2 k2 hm2 => k2 fin ρ B M1 _ _ _ PX r1 hm2 fun u m3 ⟨z, hz, k3⟩ hm3 => hz M1 d P r1.top (hp _ E1 m3 _ M1 k3 hm3 (r1.drop1.v z))) hx⟩
/-! ### what is walked -/
variable {κI : List D → Env → Option α → Prop} {elts : List Expr} {kk : Nat}
theorem ik_zip (hm0 : X.mg "zip" = none) (h : AK X W [a, b] E (fun as E1 m1 => ∃ ds es : List D, (as.map (·.2) = [.v (.tup ds), .v (.tup es)] ∨ as.map (·.2) = [.v (.lst ds), .v (.lst es)]) ∧ κI ((ds.zip es).map fun q => .tup [q.1, q.2]) E1 m1) ξ m) (hg : Gl X "zip" := by rfl)
    (hs : starEach [a, b] X.env = (false, eval a X.env) :: starEach [b] X.env := by rfl) (hpl : (backTo pos (starEach [b] X.env)).any (·.1) = false := by rfl) : IK X W (.Tuple elts kk tpos) (.Call (.Name "zip" p) [a, b] [] pos) E κI ξ m := fun fin ρ B M pd po P PX r hm hp hx =>
  ⟨_, ij_zip hm0 bA_j hg hs hpl, h fin ρ B M pd po _ PX r hm (fun as E1 m1 xs M1 ⟨ds, es, e1, k⟩ hm1 r1 hl _ => by
    have hl2 : xs.length = 2 := by
      rcases e1 with e1 | e1 <;> rw [hl, ← as.length_map (·.2), e1] <;> rfl
    match xs, hl2, r1 with
    | [d, d2], _, r1 =>
      rcases e1 with e1 | e1 <;> rw [e1] at r1
      · obtain ⟨rfl, r3⟩ := Rel.ofV r1
        obtain ⟨rfl, r2⟩ := Rel.ofV r3
        exact hp _ E1 m1 M1 k hm1 r2
      · obtain ⟨rfl, r3⟩ := Rel.ofV r1
        obtain ⟨rfl, r2⟩ := Rel.ofV r3
        exact hp _ E1 m1 M1 k hm1 r2) hx⟩
theorem ik_enum (hm0 : X.mg "enumerate" = none) (h : EK X W a E (fun o E1 m1 => ∃ ds : List D, o = .v (.lst ds) ∧ κI (ds.zipIdx.map fun q => .tup [.int (q.2 : Nat), q.1]) E1 m1) ξ m) (hg : Gl X "enumerate" := by rfl) (hs : starEach [a] X.env = [(false, eval a X.env)] := by rfl) :
    IK X W (.Tuple elts kk tpos) (.Call (.Name "enumerate" p) [a] [] pos) E κI ξ m := fun fin ρ B M pd po P PX r hm hp hx =>
  ⟨_, ij_enum hm0 bA_j hg hs, ⟨_, aj_cons bE_j aj_nil (by rw [hs]; rfl), h fin ρ B M pd po _ PX r hm (fun o E1 m1 d M1 ⟨ds, e1, k⟩ hm1 r1 => by
    subst e1
    obtain ⟨rfl, r2⟩ := r1.ofV
    exact hp _ E1 m1 M1 k hm1 r2) hx⟩⟩
theorem ik_str (h : EK X W e E (fun o E1 m1 => ∃ z : Str, o = .v (.str z) ∧ κI (z.cps.toList.map fun c => .str ⟨#[c]⟩) E1 m1) ξ m) : IK X W tg e E κI ξ m := fun fin ρ B M pd po P PX r hm hp hx =>
  ⟨_, ij_str bE_j, h fin ρ B M pd po _ PX r hm (fun o E1 m1 d M1 ⟨z, e1, k⟩ hm1 r1 => by
    subst e1
    obtain ⟨rfl, r2⟩ := r1.ofV
    exact hp _ E1 m1 M1 k hm1 r2) hx⟩
end
end B

/-! B: freezing, parallel stores, chains, equality, built-ins by types, making and methods -/
namespace B
open PySem PySem.Spec PyProof.Rows L2 DL
/-! ### a list or a dict stays as it is from here on -/
def dFrz (i : Nat) (d : DS) : DS := fun DD ρ M => ∃ (a : Addr) (mo : MO) (x : D), ρ i = some (.ref a) ∧ M a = some mo ∧ (∃ ds, mo = .lst ds ∧ x = .lst ds ∨ ∃ kvs, mo = .dct kvs ∧ x = .dct kvs ∨ ∃ kvs, mo = .dtt kvs ∧ x = .dtt kvs ∨ ∃ C fs, mo = .ins C fs ∧ x = .obj C fs) ∧ d DD (st ρ i (some x)) (dm M a)
theorem bj_frz {X : Cx} {W : WX'} {rest : List Stmt} {d : DS} {i : Nat} (h : BJ X W rest d) : BJ X W rest (dFrz i d) := pss_weak h fun De σ H ⟨ρ, M, Hf, DD, s, ⟨a, mo, x, h1, h2, h3, h4⟩, f⟩ => by
  have hr : ∃ o, H a = some o ∧ (∀ y, o ≠ .own y) ∧ ∀ Hf', Ext Hf Hf' → Hf' a = some o → Rp X.K Hf' (.ref a) x := by
    obtain ⟨_, g⟩ := s.hm.mu _ _ h2
    rcases h3 with ⟨ds, ⟨rfl, rfl⟩ | ⟨kvs, ⟨rfl, rfl⟩ | ⟨kvs, ⟨rfl, rfl⟩ | ⟨C, fs, rfl, rfl⟩⟩⟩⟩
    · obtain ⟨vs, q1, q2⟩ := g
      exact ⟨_, q1, (fun y z => by cases z), fun Hf' e z => .lst z (q2.mono e)⟩
    · obtain ⟨vs, q1, q2⟩ := g
      exact ⟨_, q1, (fun y z => by cases z), fun Hf' e z => .dct z (q2.mono e).kk⟩
    · obtain ⟨vs, q1, q2⟩ := g
      exact ⟨_, q1, (fun y z => by cases z), fun Hf' e z => .dtt z (q2.mono e).kt⟩
    · obtain ⟨dx, gs, q1, q2, q3, q4⟩ := g
      exact ⟨_, q1, (fun y z => by cases z), fun Hf' e z => .obj z (Rfs.mono e q4)⟩
  obtain ⟨o, q1, q2, q3⟩ := hr
  obtain ⟨e1, m1⟩ := s.hm.freeze h2 q1 q2
  refine ⟨st ρ i (some x), dm M a, _, DD, ⟨m1, fun j d' hl hj => ?_⟩, h4, f.go e1⟩
  by_cases z : i = j
  · subst z
    rw [gt_same] at hj
    cases hj
    obtain ⟨v, g1, g2⟩ := s.env i _ hl h1
    cases g2
    exact ⟨_, g1, q3 _ e1 upd_same⟩
  · rw [gt_ne _ _ _ _ z] at hj
    obtain ⟨v, g1, g2⟩ := s.env j d' hl hj
    exact ⟨v, g1, g2.mono e1⟩
/-- what a tree is when it stays -/
inductive FrzO : O → D → Prop
  | l {A : Type} (e : A → D) (xs : List A) : FrzO (lO e xs) (.lst (xs.map e))
  | k {κ ν : Type} (ek : κ → Key) (ev : ν → D) (kvs : List (κ × ν)) : FrzO (kO ek ev kvs) (.dct (kvs.map fun p => (ek p.1, ev p.2)))
  | t {κ ν : Type} (ek : κ → List Key) (ev : ν → D) (kvs : List (κ × ν)) : FrzO (tO ek ev kvs) (.dtt (kvs.map fun p => (ek p.1, ev p.2)))
  | o (C : Addr) (fs : List Str) (ds : List D) : FrzO (.o C fs (ds.map .v)) (.obj C (fs.zip ds))
  | r (ks : List Key) (ds : List D) : FrzO (.k ks (ds.map .v)) (.dct (ks.zip ds))
theorem ofVs_uq {M : Mm} {ds es : List D} {F : List Addr} (h : ORs M ds (es.map .v) F) : ds = es ∧ F = [] := h.ofVs
theorem OR.frz {M : Mm} {d x : D} {o : O} {F : List Addr} (h : OR M d o F) (f : FrzO o x) : ∃ a mo, d = .ref a ∧ M a = some mo ∧ F = [a] ∧ (∃ ds, mo = .lst ds ∧ x = .lst ds ∨ ∃ kvs, mo = .dct kvs ∧ x = .dct kvs ∨ ∃ kvs, mo = .dtt kvs ∧ x = .dtt kvs ∨ ∃ C fs, mo = .ins C fs ∧ x = .obj C fs) := by
  cases f with
  | l e xs =>
    obtain ⟨a, rfl, ha, rfl⟩ := lO_orI h
    exact ⟨a, _, rfl, ha, rfl, _, .inl ⟨rfl, rfl⟩⟩
  | k ek ev kvs =>
    obtain ⟨a, rfl, ha, rfl⟩ := kO_vm h
    exact ⟨a, _, rfl, ha, rfl, [], .inr ⟨_, .inl ⟨rfl, rfl⟩⟩⟩
  | t ek ev kvs =>
    obtain ⟨a, rfl, ha, rfl⟩ := tO_vm h
    exact ⟨a, _, rfl, ha, rfl, [], .inr ⟨[], .inr ⟨_, .inl ⟨rfl, rfl⟩⟩⟩⟩
  | o C fs ds =>
    cases h with
    | o h1 h2 h3 h4 =>
      obtain ⟨rfl, rfl⟩ := ofVs_uq h3
      exact ⟨_, _, rfl, h1, rfl, [], .inr ⟨[], .inr ⟨[], .inr ⟨_, _, rfl, rfl⟩⟩⟩⟩
  | r ks ds =>
    cases h with
    | k h1 h2 h3 h4 =>
      obtain ⟨rfl, rfl⟩ := ofVs_uq h3
      exact ⟨_, _, rfl, h1, rfl, [], .inr ⟨_, .inl ⟨rfl, rfl⟩⟩⟩
theorem Rel.frz {E : Env} {ρ : Ev} {B M : Mm} {i : Nat} {o : O} {x : D} (r : Rel E ρ B M [] []) (h : gE E i = some o) (f : FrzO o x) : ∃ a mo, ρ i = some (.ref a) ∧ M a = some mo ∧
    (∃ ds, mo = .lst ds ∧ x = .lst ds ∨ ∃ kvs, mo = .dct kvs ∧ x = .dct kvs ∨ ∃ kvs, mo = .dtt kvs ∧ x = .dtt kvs ∨ ∃ C fs, mo = .ins C fs ∧ x = .obj C fs) ∧ Rel (sE E i (some (.v x))) (st ρ i (some x)) B (dm M a) [] [] := by
  obtain ⟨d, h1, r1⟩ := r.mov h
  obtain ⟨F, hF⟩ := r1.top
  obtain ⟨a, mo, rfl, ha, rfl, hx⟩ := hF.frz f
  refine ⟨a, mo, h1, ha, hx, ?_⟩
  have r2 := Rel.chg (ds := [.ref a]) (os := [o]) (M' := dm M a) r1 rfl [x] [.v x] fun F2 h2 => by
    cases h2 with
    | cons k1 k2 k3 =>
      cases k2
      obtain rfl := k1.uq hF
      exact ⟨[] ++ [], .cons (.v x) .nil Dis.nil, fun b hb hn => dm_ne fun z => hn (by rw [z]; exact List.mem_cons_self), fun b hb => nomatch hb⟩
  exact (r2.set i).set2
section
variable {α A R : Type} {X : Cx} {W : WX'} {e a b c tg : Expr} {es : List Expr} {E : Env} {κ : O → Option α → Prop} {κD : D → Option α → Prop} {κE : O → Env → Option α → Prop} {κT : Bool → Env → Option α → Prop} {ξ : Xi α} {m : Option α} {pos pos' apos cpos p tpos : Pos} {kp : List Nat} {T : Tg α} {rest : List Stmt}
theorem lk_frz (i : Nat) {o : O} {x : D} (f : FrzO o x) (h : LK X W kp rest (sE E i (some (.v x))) T m) (hE : gE E i = some o := by rfl) (hk : i ∉ kp := by decide) : LK X W kp rest E T m := fun fin ρ B M DD r hm ac => by
  obtain ⟨a, mo, h1, h2, h3, r2⟩ := r.frz hE f
  exact ⟨_, bj_frz bB_j, a, mo, x, h1, h2, h3, h fin _ B _ DD r2 hm (ac.go (st_kp hk))⟩
/-! ### a, b = x, y -/
theorem sk_par2 {x y : Str} {px py pt : Pos} {kt k2 pt2} (i j : Nat) (hc : X.calm = true) (hN : X.N.Nodup) (h : AK X W [a, b] E (fun as E1 m1 => ∃ o q, as.map (·.2) = [o, q] ∧ T.nx (sE (sE E1 i (some o)) j (some q)) m1) T.ex m) (hki : i ∉ kp := by decide) (hkj : j ∉ kp := by decide)
    (hi : X.N[i]? = some x := by rfl) (hj : X.N[j]? = some y := by rfl) (hij : i ≠ j := by decide) (hx : X.env.scope.names.lookup x = some .local := by rfl) (hy : X.env.scope.names.lookup y = some .local := by rfl)
    (hw : swappedStores [.Tuple [.Name x px, .Name y py] kt pt] (.Tuple [a, b] k2 pt2) X.env = pure (some [x, y]) := by rfl)
    (hs : swapsWithSole [.Tuple [.Name x px, .Name y py] kt pt] (.Tuple [a, b] k2 pt2) pos.line X.env = pure false := by rfl) : SK X W kp (.Assign [.Tuple [.Name x px, .Name y py] kt pt] (.Tuple [a, b] k2 pt2) pos) E T m := fun fin ρ B M DD r hm ac =>
  ⟨_, sj_par2 i j hc hN bA_j hi hj hij hx hy hw hs, h fin ρ B M [] [] _ _ r hm (fun as E1 m1 ds M1 ⟨o, q, e1, k⟩ hm1 r1 hl _ => by
    rw [e1] at r1
    have hl2 : ds.length = 2 := by rw [hl, ← as.length_map (·.2), e1]; rfl
    match ds, hl2, r1 with
    | [d, d2], _, r1 => exact ac.nx _ m1 _ M1 k hm1 ((Rel.set (pd := [d2]) (po := [q]) r1 i).set j) fun l z => (st_kp hkj l z).trans (st_kp hki l z)) fun C fs E' m' M' k hm' r' => ac.ex C fs E' m' ρ M' k hm' r' fun _ _ => rfl⟩
theorem sk_par3 {x y z : Str} {px py pz pt : Pos} {kt k2 pt2} (i j l : Nat) (hc : X.calm = true) (hN : X.N.Nodup) (h : AK X W [a, b, c] E (fun as E1 m1 => ∃ o q t, as.map (·.2) = [o, q, t] ∧ T.nx (sE (sE (sE E1 i (some o)) j (some q)) l (some t)) m1) T.ex m)
    (hki : i ∉ kp := by decide) (hkj : j ∉ kp := by decide) (hkl : l ∉ kp := by decide) (hi : X.N[i]? = some x := by rfl) (hj : X.N[j]? = some y := by rfl) (hl : X.N[l]? = some z := by rfl) (hij : i ≠ j := by decide) (hil : i ≠ l := by decide) (hjl : j ≠ l := by decide)
    (hx : X.env.scope.names.lookup x = some .local := by rfl) (hy : X.env.scope.names.lookup y = some .local := by rfl) (hz : X.env.scope.names.lookup z = some .local := by rfl)
    (hw : swappedStores [.Tuple [.Name x px, .Name y py, .Name z pz] kt pt] (.Tuple [a, b, c] k2 pt2) X.env = pure (some [x, y, z]) := by rfl)
    (hs : swapsWithSole [.Tuple [.Name x px, .Name y py, .Name z pz] kt pt] (.Tuple [a, b, c] k2 pt2) pos.line X.env = pure false := by rfl) :
    SK X W kp (.Assign [.Tuple [.Name x px, .Name y py, .Name z pz] kt pt] (.Tuple [a, b, c] k2 pt2) pos) E T m := fun fin ρ B M DD r hm ac =>
  ⟨_, sj_par3 i j l hc hN bA_j hi hj hl hij hil hjl hx hy hz hw hs, h fin ρ B M [] [] _ _ r hm (fun as E1 m1 ds M1 ⟨o, q, t, e1, k⟩ hm1 r1 hlen _ => by
    rw [e1] at r1
    have hl2 : ds.length = 3 := by rw [hlen, ← as.length_map (·.2), e1]; rfl
    match ds, hl2, r1 with
    | [d, d2, d3], _, r1 => exact ac.nx _ m1 _ M1 k hm1 (((Rel.set (pd := [d2, d3]) (po := [q, t]) r1 i).set j).set l) fun n z => ((st_kp hkl n z).trans (st_kp hkj n z)).trans (st_kp hki n z)) fun C fs E' m' M' k hm' r' => ac.ex C fs E' m' ρ M' k hm' r' fun _ _ => rfl⟩
/-- x += e, of ints -/
theorem sk_augI {x : Str} {pos' : Pos} {n : Int} (i : Nat) (hN : X.N.Nodup) (h : EK X W e E (fun o E1 m1 => ∃ y : Int, o = .v (.int y) ∧ T.nx (sE E1 i (some (.v (.int (n + y))))) m1) T.ex m) (hE : gE E i = some (.v (.int n)) := by rfl) (hk : i ∉ kp := by decide) (hi : X.N[i]? = some x := by rfl) (hx : Loc X.env.scope x := by exact Or.inl rfl)
    (hf : X.fn x = true ∨ X.env.scope.names.lookup x = some .local := by first | exact .inl rfl | exact .inr rfl) : SK X W kp (.AugAssign (.Name x pos') .Add e pos) E T m := fun fin ρ B M DD r hm ac =>
  ⟨_, sj_augI i hN bE_j hi hx hf, by
    show (match gt ρ i with
      | some x => bE X W e ρ M (fun y M1 => rAddI x y M1 (fun z M2 => DD.nx (st ρ i (some z)) M2)) (DD.ex ρ)
      | none => False)
    rw [show gt ρ i = some (.int n) from r.get hE]
    exact h fin ρ B M [] [] _ _ r hm (fun o E1 m1 d M1 ⟨y, e1, k⟩ hm1 r1 => by
      subst e1
      obtain ⟨rfl, r2⟩ := r1.ofV
      exact ac.nx _ m1 _ M1 k hm1 ((r2.v _).set i) (st_kp hk)) fun C fs E' m' M' k hm' r' => ac.ex C fs E' m' ρ M' k hm' r' fun _ _ => rfl⟩
theorem sk_subI {x : Str} {pos' : Pos} {n : Int} (i : Nat) (hN : X.N.Nodup) (h : EK X W e E (fun o E1 m1 => ∃ y : Int, o = .v (.int y) ∧ T.nx (sE E1 i (some (.v (.int (n - y))))) m1) T.ex m) (hE : gE E i = some (.v (.int n)) := by rfl) (hk : i ∉ kp := by decide) (hi : X.N[i]? = some x := by rfl) (hx : Loc X.env.scope x := by exact Or.inl rfl)
    (hf : X.fn x = true ∨ X.env.scope.names.lookup x = some .local := by first | exact .inl rfl | exact .inr rfl) : SK X W kp (.AugAssign (.Name x pos') .Sub e pos) E T m := fun fin ρ B M DD r hm ac =>
  ⟨_, sj_subI i hN bE_j hi hx hf, by
    show (match gt ρ i with
      | some x => bE X W e ρ M (fun y M1 => rSub x y M1 (fun z M2 => DD.nx (st ρ i (some z)) M2)) (DD.ex ρ)
      | none => False)
    rw [show gt ρ i = some (.int n) from r.get hE]
    exact h fin ρ B M [] [] _ _ r hm (fun o E1 m1 d M1 ⟨y, e1, k⟩ hm1 r1 => by
      subst e1
      obtain ⟨rfl, r2⟩ := r1.ofV
      exact ac.nx _ m1 _ M1 k hm1 ((r2.v _).set i) (st_kp hk)) fun C fs E' m' M' k hm' r' => ac.ex C fs E' m' ρ M' k hm' r' fun _ _ => rfl⟩
end
end B

/-! B: equality, built-ins by types, chains, making and methods -/
namespace B
open PySem PySem.Spec PyProof.Rows L2 DL
/-! ### == -/
def okB (x : D) : Bool := plain x && SeqAt.shaped (py x)
theorem okB_ok {x : D} : okB x = true ↔ okD x := by unfold okB okD; rw [Bool.and_eq_true]
def eqD (x y : D) : Option Bool := if okB x && okB y then some (PyData.eqv (py x) (py y)) else none
theorem dr_plain {M : Mm} {x : D} (h : plain x = true) : dr M x = x := by
  cases x with
  | ref a => cases h
  | _ => rfl
theorem eqW_of {neg : Bool} {x y : D} {M : Mm} {P : DP} {b : Bool} (h : eqD (dr M x) (dr M y) = some b) (p : P (.bl (neg ^^ b)) M) : rEqW neg x y M P := by
  unfold eqD at h
  split at h
  · rename_i hk
    rw [Bool.and_eq_true] at hk
    cases h
    unfold rEqW
    split
    · rename_i i j
      have : PyData.eqv (py (dr M (.int i))) (py (dr M (.int j))) = decide (i = j) := Bool.beq_eq_decide_eq i j
      rw [this] at p
      exact p
    · rename_i i j
      have : PyData.eqv (py (dr M (.str i))) (py (dr M (.str j))) = seq i j := by
        rw [seq_eq]
        show (i == j) = decide (i = j)
        by_cases z : i = j
        · subst z; simp
        · rw [decide_eq_false z]; exact beq_eq_false_iff_ne.mpr z
      rw [this] at p
      exact p
    · exact ⟨okB_ok.mp hk.1, okB_ok.mp hk.2, p⟩
  · cases h
/-- what a tree is when it is compared -/
def DrIs (o : O) (x : D) : Prop := ∀ M d, VM M d o → dr M d = x
theorem dr_lO {A : Type} {e : A → D} {xs : List A} : DrIs (lO e xs) (.lst (xs.map e)) := fun M d v => by
  obtain ⟨a, rfl, ha⟩ := lO_vm v
  exact dr_of ha
section
variable {α A : Type} {X : Cx} {W : WX'} {e a b c : Expr} {es : List Expr} {E : Env} {κ : O → Option α → Prop} {κD : D → Option α → Prop} {κE : O → Env → Option α → Prop} {κT : Bool → Env → Option α → Prop} {ξ : Xi α} {m : Option α} {pos apos p : Pos}
theorem rk_eqV {neg : Bool} {x y : D} {g : Bool → Option α} (k : ∀ b, κD (.bl (neg ^^ b)) (g b)) : RK2 (rEqW neg) (.v x) (.v y) κD ((eqD x y).bind g) := rk_opt (fun b => .bl (neg ^^ b)) (fun b h M d e P v w p => by
  rw [v.ofV, w.ofV]
  have h2 : okB x = true ∧ okB y = true := by
    unfold eqD at h
    split at h
    · rename_i hk
      rwa [Bool.and_eq_true] at hk
    · cases h
  have px : plain x = true := (okB_ok.mp h2.1).1
  have py' : plain y = true := (okB_ok.mp h2.2).1
  exact eqW_of (by rw [dr_plain px, dr_plain py']; exact h) p) k
theorem rk_eqO {neg : Bool} {o q : O} {x y : D} {g : Bool → Option α} (h1 : DrIs o x) (h2 : DrIs q y) (k : ∀ b, κD (.bl (neg ^^ b)) (g b)) : RK2 (rEqW neg) o q κD ((eqD x y).bind g) := rk_opt (fun b => .bl (neg ^^ b)) (fun b h M d e P v w p => by
  exact eqW_of (by rw [h1 M d v, h2 M e w]; exact h) p) k
theorem dr_v {x : D} (h : ∀ a, x ≠ .ref a) : DrIs (.v x) x := fun M d v => by
  rw [v.ofV]
  cases x with
  | ref a => exact absurd rfl (h a)
  | _ => rfl
theorem rk_eqI {neg : Bool} {i j : Int} (k : κD (.bl (neg ^^ decide (i = j))) m) : RK2 (rEqW neg) (.v (.int i)) (.v (.int j)) κD m := rk_tot _ (fun M d e P v w p => by rw [v.ofV, w.ofV]; exact p) k
theorem rk_eqS {neg : Bool} {i j : Str} (k : κD (.bl (neg ^^ seq i j)) m) : RK2 (rEqW neg) (.v (.str i)) (.v (.str j)) κD m := rk_tot _ (fun M d e P v w p => by rw [v.ofV, w.ofV]; exact p) k
/-! ### + of lists, tuples, texts -/
def addL {A : Type} (xs ys : List A) : Option (List A) := if xs.length + ys.length ≤ sizeLine then some (xs ++ ys) else none
def addS (x y : Str) : Option Str := if x.length + y.length ≤ sizeLine then some (x ++ y) else none
theorem rk_addS {x y : Str} {g : Str → Option α} (k : ∀ z, κD (.str z) (g z)) : RK2 DL.rAdd (.v (.str x)) (.v (.str y)) κD ((addS x y).bind g) := rk_opt .str (fun z h M d e P v w p => by
  rw [v.ofV, w.ofV]
  unfold addS at h
  split at h
  · rename_i hl
    cases h
    exact ⟨hl, p⟩
  · cases h) k
theorem rk_addT {ed : A → D} {xs ys : List A} {g : List A → Option α} (k : ∀ z, κD (.tup (z.map ed)) (g z)) : RK2 DL.rAdd (.v (.tup (xs.map ed))) (.v (.tup (ys.map ed))) κD ((addL xs ys).bind g) := rk_opt (fun z => .tup (z.map ed)) (fun z h M d e P v w p => by
  rw [v.ofV, w.ofV]
  unfold addL at h
  split at h
  · rename_i hl
    cases h
    refine ⟨by rw [List.length_map, List.length_map]; exact hl, ?_⟩
    rw [← List.map_append]
    exact p
  · cases h) k
/-- the items of a list, whether one's own or not -/
def AsIs (o : O) (xs : List D) : Prop := ∀ M d, VM M d o → asLs M d = some xs
theorem as_own {ed : A → D} {xs : List A} : AsIs (lO ed xs) (xs.map ed) := fun M d v => by
  obtain ⟨a, rfl, ha⟩ := lO_vm v
  exact asLs_of ha
theorem as_v {xs : List D} : AsIs (.v (.lst xs)) xs := fun M d v => by rw [v.ofV]; rfl
theorem asLs_ref {M : Mm} {d : D} {xs : List D} (h : asLs M d = some xs) : (∃ a, d = .ref a) ∨ ∃ ds, d = .lst ds := by
  cases d with
  | ref a => exact .inl ⟨a, rfl⟩
  | lst ds => exact .inr ⟨ds, rfl⟩
  | _ => cases h
theorem rk_addL {ed : A → D} {xs ys : List A} {o q : O} {g : List A → Option α} (h1 : AsIs o (xs.map ed)) (h2 : AsIs q (ys.map ed)) (k : ∀ z, κD (.lst (z.map ed)) (g z)) : RK2 DL.rAdd o q κD ((addL xs ys).bind g) := rk_opt (fun z => .lst (z.map ed)) (fun z h M d e P v w p => by
  have a1 := h1 M d v
  have a2 := h2 M e w
  unfold addL at h
  split at h
  · rename_i hl
    cases h
    have goal : (match asLs M d, asLs M e with
      | some a, some b => a.length + b.length ≤ sizeLine ∧ P (.lst (a ++ b)) M
      | _, _ => False) := by
      rw [a1, a2]
      refine ⟨by rw [List.length_map, List.length_map]; exact hl, ?_⟩
      rw [← List.map_append]
      exact p
    unfold DL.rAdd
    rcases asLs_ref a1 with ⟨a, rfl⟩ | ⟨ds, rfl⟩ <;> exact goal
  · cases h) k
/-! ### * of lists and tuples -/
def repT {A : Type} (xs : List A) (k : Int) : Option (List A) := if xs.length ≤ 1000000 ∧ k ≤ 1000000 ∧ -1000000 ≤ k ∧ xs.length * k.toNat ≤ sizeLine then some (List.replicate k.toNat xs).flatten else none
def repL {A : Type} (xs : List A) (k : Int) : Option (List A) := if -(2 ^ 63) ≤ k ∧ k < 2 ^ 63 ∧ xs.length * k.toNat ≤ sizeLine then some (List.replicate k.toNat xs).flatten else none
theorem map_rep {B : Type} (f : A → B) (n : Nat) (xs : List A) : ((List.replicate n xs).flatten).map f = (List.replicate n (xs.map f)).flatten := by
  rw [List.map_flatten, List.map_replicate]
theorem rk_mulT {ed : A → D} {xs : List A} {k : Int} {g : List A → Option α} (kn : ∀ z, κD (.tup (z.map ed)) (g z)) : RK2 rMul (.v (.tup (xs.map ed))) (.v (.int k)) κD ((repT xs k).bind g) := rk_opt (fun z => .tup (z.map ed)) (fun z h M d e P v w p => by
  rw [v.ofV, w.ofV]
  unfold repT at h
  split at h
  · rename_i hl
    cases h
    rw [map_rep] at p
    exact ⟨by rw [List.length_map]; exact hl.1, hl.2.1, hl.2.2.1, by rw [List.length_map]; exact hl.2.2.2, p⟩
  · cases h) kn
theorem rk_mulL {ed : A → D} {xs : List A} {k : Int} {g : List A → Option α} (kn : ∀ z, κD (.lst (z.map ed)) (g z)) : RK2 rMul (.v (.lst (xs.map ed))) (.v (.int k)) κD ((repL xs k).bind g) := rk_opt (fun z => .lst (z.map ed)) (fun z h M d e P v w p => by
  rw [v.ofV, w.ofV]
  unfold repL at h
  split at h
  · rename_i hl
    cases h
    rw [map_rep] at p
    show (match asLs M (.lst (xs.map ed)) with
      | some ds => -(2 ^ 63) ≤ k ∧ k < 2 ^ 63 ∧ ds.length * k.toNat ≤ sizeLine ∧ P (.lst (List.replicate k.toNat ds).flatten) M
      | none => False)
    rw [show asLs M (.lst (xs.map ed)) = some (xs.map ed) from rfl]
    exact ⟨hl.1, hl.2.1, by rw [List.length_map]; exact hl.2.2, p⟩
  · cases h) kn
/-! ### built-ins -/
theorem rl_tot {r : List D → Mm → DP → Prop} {os : List O} (z : D) (h : ∀ M ds P, VMs M ds os → P z M → r ds M P) (k : κD z m) : RKL r os κD m := fun fin hm => ⟨z, m, k, hm, h⟩
theorem rl_opt {β : Type} {r : List D → Mm → DP → Prop} {os : List O} {f : Option β} {g : β → Option α} (z : β → D) (h : ∀ y, f = some y → ∀ M ds P, VMs M ds os → P (z y) M → r ds M P) (k : ∀ y, κD (z y) (g y)) : RKL r os κD (f.bind g) := fun fin hm => by
  cases hf : f with
  | none => rw [hf] at hm; cases hm
  | some y => exact ⟨z y, g y, k y, by rw [hf] at hm; exact hm, h y hf⟩
theorem vm1 {M : Mm} {ds : List D} {o : O} (h : VMs M ds [o]) : ∃ d, ds = [d] ∧ VM M d o := by
  cases h with
  | cons h t => cases t; exact ⟨_, rfl, h⟩
theorem vm2 {M : Mm} {ds : List D} {o q : O} (h : VMs M ds [o, q]) : ∃ d e, ds = [d, e] ∧ VM M d o ∧ VM M e q := by
  cases h with
  | cons h t => cases t with
    | cons h' t => cases t; exact ⟨_, _, rfl, h, h'⟩
theorem rl_lenT {xs : List D} (k : κD (.int xs.length) m) : RKL rLenD [.v (.tup xs)] κD m := rl_tot _ (fun M ds P v p => by
  obtain ⟨d, rfl, w⟩ := vm1 v
  rw [w.ofV]
  exact p) k
theorem asL_lst {M : Mm} {d : D} {xs : List D} (h : asLs M d = some xs) : asL M d = some xs := by
  rcases asLs_ref h with ⟨a, rfl⟩ | ⟨ds, rfl⟩ <;> exact h
theorem rl_lenL {o : O} {xs : List D} (h : AsIs o xs) (k : κD (.int xs.length) m) : RKL rLenD [o] κD m := rl_tot _ (fun M ds P v p => by
  obtain ⟨d, rfl, w⟩ := vm1 v
  have a1 := h M d w
  have goal : (match asL M d with
    | some ds => P (.int ds.length) M
    | none => False) := by rw [asL_lst a1]; exact p
  unfold rLenD
  rcases asLs_ref a1 with ⟨a, rfl⟩ | ⟨ds, rfl⟩ <;> exact goal) k
def lenS (x : Str) : Option Int := if x.length ≤ sizeLine then some x.length else none
theorem rl_lenS {x : Str} {g : Int → Option α} (k : ∀ n, κD (.int n) (g n)) : RKL rLenD [.v (.str x)] κD ((lenS x).bind g) := rl_opt .int (fun n h M ds P v p => by
  obtain ⟨d, rfl, w⟩ := vm1 v
  rw [w.ofV]
  unfold lenS at h
  split at h
  · rename_i hl
    cases h
    exact ⟨hl, p⟩
  · cases h) k
theorem rl_intI {i : Int} (k : κD (.int i) m) : RKL rIntD [.v (.int i)] κD m := rl_tot _ (fun M ds P v p => by
  obtain ⟨d, rfl, w⟩ := vm1 v
  rw [w.ofV]
  exact p) k
theorem rl_intB {b : Bool} (k : κD (.int (if b then 1 else 0)) m) : RKL rIntD [.v (.bl b)] κD m := rl_tot _ (fun M ds P v p => by
  obtain ⟨d, rfl, w⟩ := vm1 v
  rw [w.ofV]
  exact p) k
theorem rl_tupT {xs : List D} (k : κD (.tup xs) m) : RKL rTupD [.v (.tup xs)] κD m := rl_tot _ (fun M ds P v p => by
  obtain ⟨d, rfl, w⟩ := vm1 v
  rw [w.ofV]
  exact p) k
theorem rl_tupL {o : O} {xs : List D} (h : AsIs o xs) (k : κD (.tup xs) m) : RKL rTupD [o] κD m := rl_tot _ (fun M ds P v p => by
  obtain ⟨d, rfl, w⟩ := vm1 v
  have a1 := h M d w
  have goal : (match asL M d with
    | some ds => P (.tup ds) M
    | none => False) := by rw [asL_lst a1]; exact p
  unfold rTupD
  rcases asLs_ref a1 with ⟨a, rfl⟩ | ⟨ds, rfl⟩ <;> exact goal) k
theorem rl_lstT {xs : List D} (k : κD (.lst xs) m) : RKL rListD [.v (.tup xs)] κD m := rl_tot _ (fun M ds P v p => by
  obtain ⟨d, rfl, w⟩ := vm1 v
  rw [w.ofV]
  exact p) k
theorem rl_lstL {o : O} {xs : List D} (h : AsIs o xs) (k : κD (.lst xs) m) : RKL rListD [o] κD m := rl_tot _ (fun M ds P v p => by
  obtain ⟨d, rfl, w⟩ := vm1 v
  have a1 := h M d w
  have goal : (match asL M d with
    | some ds => P (.lst ds) M
    | none => False) := by rw [asL_lst a1]; exact p
  unfold rListD
  rcases asLs_ref a1 with ⟨a, rfl⟩ | ⟨ds, rfl⟩ <;> exact goal) k
theorem rl_sum {o : O} {ns : List Int} (h : AsIs o (ns.map .int)) (k : κD (.int ns.sum) m) : RKL rSumD [o] κD m := rl_tot _ (fun M ds P v p => by
  obtain ⟨d, rfl, w⟩ := vm1 v
  exact ⟨ns, asL_lst (h M d w), p⟩) k
theorem rl_any {o : O} {ns : List Bool} (h : AsIs o (ns.map .bl)) (k : κD (.bl (ns.any id)) m) : RKL rAnyD [o] κD m := rl_tot _ (fun M ds P v p => by
  obtain ⟨d, rfl, w⟩ := vm1 v
  exact ⟨ns, asL_lst (h M d w), p⟩) k
theorem rl_all {o : O} {ns : List Bool} (h : AsIs o (ns.map .bl)) (k : κD (.bl (ns.all id)) m) : RKL rAllD [o] κD m := rl_tot _ (fun M ds P v p => by
  obtain ⟨d, rfl, w⟩ := vm1 v
  exact ⟨ns, asL_lst (h M d w), p⟩) k
def maxL : List Int → Option Int
  | [] => none
  | x :: xs => some (xs.foldl max x)
def minL : List Int → Option Int
  | [] => none
  | x :: xs => some (xs.foldl min x)
theorem foldl_max : ∀ (xs : List Int) (x : Int), x ≤ xs.foldl max x ∧ (∀ y ∈ xs, y ≤ xs.foldl max x) ∧ (xs.foldl max x = x ∨ xs.foldl max x ∈ xs)
  | [], x => by
    refine ⟨Int.le_refl _, ?_, Or.inl rfl⟩
    intro y h
    cases h
  | y :: ys, x => by
    obtain ⟨h1, h2, h3⟩ := foldl_max ys (max x y)
    refine ⟨?_, fun z hz => ?_, ?_⟩
    · show x ≤ ys.foldl max (max x y)
      omega
    · rcases List.mem_cons.mp hz with rfl | hz
      · show z ≤ ys.foldl max (max x z)
        omega
      · exact h2 z hz
    · show ys.foldl max (max x y) = x ∨ ys.foldl max (max x y) ∈ y :: ys
      rcases h3 with h3 | h3
      · rw [h3]
        rcases Int.le_total x y with q | q
        · rw [Int.max_eq_right q]; exact Or.inr List.mem_cons_self
        · rw [Int.max_eq_left q]; exact Or.inl rfl
      · exact Or.inr (List.mem_cons_of_mem _ h3)
theorem foldl_min : ∀ (xs : List Int) (x : Int), xs.foldl min x ≤ x ∧ (∀ y ∈ xs, xs.foldl min x ≤ y) ∧ (xs.foldl min x = x ∨ xs.foldl min x ∈ xs)
  | [], x => by
    refine ⟨Int.le_refl _, ?_, Or.inl rfl⟩
    intro y h
    cases h
  | y :: ys, x => by
    obtain ⟨h1, h2, h3⟩ := foldl_min ys (min x y)
    refine ⟨?_, fun z hz => ?_, ?_⟩
    · show ys.foldl min (min x y) ≤ x
      omega
    · rcases List.mem_cons.mp hz with rfl | hz
      · show ys.foldl min (min x z) ≤ z
        omega
      · exact h2 z hz
    · show ys.foldl min (min x y) = x ∨ ys.foldl min (min x y) ∈ y :: ys
      rcases h3 with h3 | h3
      · rw [h3]
        rcases Int.le_total x y with q | q
        · rw [Int.min_eq_left q]; exact Or.inl rfl
        · rw [Int.min_eq_right q]; exact Or.inr List.mem_cons_self
      · exact Or.inr (List.mem_cons_of_mem _ h3)
theorem maxL_ok {ns : List Int} {k : Int} (h : maxL ns = some k) : k ∈ ns ∧ ∀ y ∈ ns, y ≤ k := by
  cases ns with
  | nil => cases h
  | cons x xs =>
    cases h
    obtain ⟨h1, h2, h3⟩ := foldl_max xs x
    refine ⟨?_, fun y hy => ?_⟩
    · rcases h3 with h3 | h3
      · rw [h3]; exact List.mem_cons_self
      · exact List.mem_cons_of_mem _ h3
    · rcases List.mem_cons.mp hy with rfl | hy
      · exact h1
      · exact h2 y hy
theorem minL_ok {ns : List Int} {k : Int} (h : minL ns = some k) : k ∈ ns ∧ ∀ y ∈ ns, k ≤ y := by
  cases ns with
  | nil => cases h
  | cons x xs =>
    cases h
    obtain ⟨h1, h2, h3⟩ := foldl_min xs x
    refine ⟨?_, fun y hy => ?_⟩
    · rcases h3 with h3 | h3
      · rw [h3]; exact List.mem_cons_self
      · exact List.mem_cons_of_mem _ h3
    · rcases List.mem_cons.mp hy with rfl | hy
      · exact h1
      · exact h2 y hy
theorem rl_max {o : O} {ns : List Int} {g : Int → Option α} (h : AsIs o (ns.map .int)) (k : ∀ z, κD (.int z) (g z)) : RKL rMaxD [o] κD ((maxL ns).bind g) := rl_opt .int (fun z hz M ds P v p => by
  obtain ⟨d, rfl, w⟩ := vm1 v
  obtain ⟨a, b⟩ := maxL_ok hz
  exact ⟨ns, z, asL_lst (h M d w), a, b, p⟩) k
theorem rl_min {o : O} {ns : List Int} {g : Int → Option α} (h : AsIs o (ns.map .int)) (k : ∀ z, κD (.int z) (g z)) : RKL rMinD [o] κD ((minL ns).bind g) := rl_opt .int (fun z hz M ds P v p => by
  obtain ⟨d, rfl, w⟩ := vm1 v
  obtain ⟨a, b⟩ := minL_ok hz
  exact ⟨ns, z, asL_lst (h M d w), a, b, p⟩) k
theorem rl_max2 {i j : Int} (k : κD (.int (max i j)) m) : RKL rMax2D [.v (.int i), .v (.int j)] κD m := rl_tot _ (fun M ds P v p => by
  obtain ⟨d, e, rfl, w, z⟩ := vm2 v
  rw [w.ofV, z.ofV]
  exact p) k
theorem rl_min2 {i j : Int} (k : κD (.int (min i j)) m) : RKL rMin2D [.v (.int i), .v (.int j)] κD m := rl_tot _ (fun M ds P v p => by
  obtain ⟨d, e, rfl, w, z⟩ := vm2 v
  rw [w.ofV, z.ofV]
  exact p) k
def strI (i : Int) : Option Str := if i.natAbs.log2 < 1920 then some (toString i) else none
theorem rl_strI {i : Int} {g : Str → Option α} (k : ∀ z, κD (.str z) (g z)) : RKL rStrD [.v (.int i)] κD ((strI i).bind g) := rl_opt .str (fun z h M ds P v p => by
  obtain ⟨d, rfl, w⟩ := vm1 v
  rw [w.ofV]
  unfold strI at h
  split at h
  · rename_i hl
    cases h
    exact ⟨hl, p⟩
  · cases h) k
open Classical in
noncomputable def reprD (x : D) : Option Str := if OkR x then some (py x).shown else none
theorem rl_repr {x : D} {g : Str → Option α} (k : ∀ z, κD (.str z) (g z)) : RKL rReprD [.v x] κD ((reprD x).bind g) := rl_opt .str (fun z h M ds P v p => by
  obtain ⟨d, rfl, w⟩ := vm1 v
  rw [w.ofV]
  unfold reprD at h
  split at h
  · rename_i hl
    cases h
    have hd : dr M x = x := dr_plain hl.plain
    show OkR (dr M x) ∧ P (.str (py (dr M x)).shown) M
    rw [hd]
    exact ⟨hl, p⟩
  · cases h) k
/-- isinstance(x, c), c built-in -/
def isT (c : String) : D → Option Bool
  | .ref _ => none
  | x => (tyD (fun _ => none) x).map fun T => subT T c
theorem rl_is {c : String} {x : D} {g : Bool → Option α} (k : ∀ b, κD (.bl b) (g b)) : RKL (rIsD c) [.v x, .v (.ty c)] κD ((isT c x).bind g) := rl_opt .bl (fun z h M ds P v p => by
  obtain ⟨d, e, rfl, w, w2⟩ := vm2 v
  rw [w.ofV, w2.ofV]
  have ht : ∀ M, tyD M x = tyD (fun _ => none) x := fun M => by
    cases x with
    | ref a => cases h
    | _ => rfl
  refine ⟨rfl, ?_⟩
  have h2 : (tyD (fun _ => none) x).map (fun T => subT T c) = some z := by
    cases x with
    | ref a => cases h
    | _ => exact h
  obtain ⟨T, hT, rfl⟩ := Option.map_eq_some_iff.mp h2
  show (match tyD M x with
    | some T => P (.bl (subT T c)) M
    | none => False)
  rw [ht, hT]
  exact p) k
/-! ### a < b < c, of ints -/
def dChain (r r' : RD2) (da db dc : DE) : DE := fun ρ M P PX => da ρ M (fun x M1 => db ρ M1 (fun y M2 => r x y M2 (fun z M3 => match z with
  | .bl true => dc ρ M3 (fun w M4 => r' y w M4 P) PX
  | .bl false => P (.bl false) M3
  | _ => False)) PX) PX
theorem ej_chain {op op' : CmpOp} {r r' : R2} {rD rD' : RD2} {da db dc : DE} (ho : OpR X (compareOp op) r) (ho' : OpR X (compareOp op') r') (j : R2J X.K r rD) (j' : R2J X.K r' rD') (ha : EJ X W a da) (hb : EJ X W b db) (hc : EJ X W c dc) (hm : lastMarks [op, op'] [b, c] = false := by with_unfolding_all rfl) :
    EJ X W (.Compare a [op, op'] [b, c] pos) (dChain rD rD' da db dc) := pe_weak (pe_chain ho ho' ha hb hc hm) fun σ H Q ⟨ρ, M, Hf, P, PX, s, d, fe, fx⟩ => ⟨ρ, M, Hf, _, PX, s, d, fun x M1 v Hf1 H1 d1 e1 m1 r1 => ⟨ρ, M1, Hf1, _, PX, s.go e1 m1, d1, fun y M2 u Hf2 H2 d2 e2 m2 r2 => j m2 (r1.mono e2) r2 d2 fun z M3 w Hf3 H3 d3 e3 m3 r3 => by
    split at d3
    · cases r3
      exact ⟨true, rfl, (if_pos rfl).mpr ⟨ρ, M3, Hf3, _, PX, ((s.go e1 m1).go e2 m2).go e3 m3, d3, fun t M4 w4 Hf4 H4 d4 e4 m4 r4 => j' m4 ((r2.mono e3).mono e4) r4 d4 (fe.go (((e1.trans e2).trans e3).trans e4)), ((fx.go e1).go e2).go e3⟩⟩
    · cases r3
      exact ⟨false, rfl, (if_neg Bool.false_ne_true).mpr (fe _ _ _ _ _ d3 ((e1.trans e2).trans e3) m3 (.bl _))⟩
    · exact d3.elim, fx.go e1⟩, fx⟩
theorem ej_leLe {da db dc : DE} (ha : EJ X W a da) (hb : EJ X W b db) (hc : EJ X W c dc) (hm : lastMarks [.LtE, .LtE] [b, c] = false := by with_unfolding_all rfl) : EJ X W (.Compare a [.LtE, .LtE] [b, c] pos) (dChain rLe rLe da db dc) := ej_chain op_le op_le (rj_i0 fun _ _ _ => .bl _) (rj_i0 fun _ _ _ => .bl _) ha hb hc hm
theorem ej_leLt {da db dc : DE} (ha : EJ X W a da) (hb : EJ X W b db) (hc : EJ X W c dc) (hm : lastMarks [.LtE, .Lt] [b, c] = false := by with_unfolding_all rfl) : EJ X W (.Compare a [.LtE, .Lt] [b, c] pos) (dChain rLe rLt da db dc) := ej_chain op_le op_lt (rj_i0 fun _ _ _ => .bl _) (rj_i0 fun _ _ _ => .bl _) ha hb hc hm
/-- of ints that are read alone; the last is there wherever it is asked -/
theorem bk_chain {rD rD' : RD2} {f f' : Int → Int → Bool} (h : ∀ da db dc, EJ X W a da → EJ X W b db → EJ X W c dc → EJ X W e (dChain rD rD' da db dc)) (q : ∀ i j M P, P (.bl (f i j)) M → rD (.int i) (.int j) M P) (q' : ∀ i j M P, P (.bl (f' i j)) M → rD' (.int i) (.int j) M P)
    (k : BK X W a E (fun o m1 => BK X W b E (fun p m2 => ∃ i j k, o = .v (.int i) ∧ p = .v (.int j) ∧ VT X W c E (.int k) ∧ κ (.v (.bl (f i j && f' j k))) m2) m1) m) : BK X W e E κ m :=
  bk_of (h _ _ _ bE_j bE_j bE_j) fun fin ρ B M pd po P PX r hm hp => k fin ρ B M pd po _ PX r hm fun o m1 d k1 hm1 v1 => k1 fin ρ B M pd po _ PX r hm1 fun p m2 d2 ⟨i, j, l, e1, e2, vt, k2⟩ hm2 v2 => by
    subst e1 e2
    rw [v1.ofV, v2.ofV]
    refine q i j M _ ?_
    show (match D.bl (f i j) with
      | .bl true => bE X W c ρ M (fun w M4 => rD' (.int j) w M4 P) PX
      | .bl false => P (.bl false) M
      | _ => False)
    cases hf : f i j with
    | true =>
      rw [hf, Bool.true_and] at k2
      exact vt (κ := fun o m' => o = .v (.int l) ∧ m' = m2) ⟨rfl, rfl⟩ fin ρ B M pd po _ PX r hm2 fun o m3 d3 ⟨e3, e4⟩ hm3 v3 => by
        subst e3 e4
        rw [v3.ofV]
        exact q' j l M P (hp _ _ _ k2 hm2 (VM.v _))
    | false =>
      rw [hf, Bool.false_and] at k2
      exact hp _ _ _ k2 hm2 (VM.v _)
end
end B

/-! B: making, methods, own text; texts; None; lengths of dicts; enumerate of tuples -/
namespace B
open PySem PySem.Spec PyProof.Rows L2 DL
section
variable {α A R : Type} {X : Cx} {W : WX'} {k j n : Nat} {ps ks NS : List Str} {π : List Nat} {ea : A → List O} {mf : A → Option R} {er : A → R → Out} {x f : Str} {p pos apos cpos : Pos} {e o : Expr} {es : List Expr} {E : Env} {κ : O → Option α → Prop} {κD : D → Option α → Prop} {κE : O → Env → Option α → Prop} {ξ : Xi α} {m : Option α} {C : Addr}
/-- behind the arguments of a call, before they go back -/
theorem aftR {ρ : Ev} {B M1 : Mm} {pd ds : List D} {po : List O} {P : DP} {PX : XP} {E1 : Env} {os : List O} {a : A} (e1 : os = ea a) (hd : (mf a).isSome = true)
    (r1 : Rel E1 ρ B M1 (ds ++ pd) (os ++ po)) (hl : ds.length = os.length)
    (hp : ∀ o io r d M', mf a = some r → er a r = .ret o io → Rel E1 ρ B M' (ds ++ d :: pd) (io ++ o :: po) → ds.length = io.length → P d M')
    (hx : ∀ C fs io r M', mf a = some r → er a r = .exc C fs io → Rel E1 ρ B M' (ds ++ pd) (io ++ po) → ds.length = io.length → PX C fs M') : bSp ea mf er ds M1 P PX := by
  have hF : ∃ F, ORs M1 ds (ea a) F := by
    obtain ⟨φ, F, w⟩ := r1
    obtain ⟨F1, F2, _, h1, _, _⟩ := w.pen.cut2 hl
    exact ⟨F1, by rw [← e1]; exact h1⟩
  obtain ⟨F, hF⟩ := hF
  cases hr : mf a with
  | none => rw [hr] at hd; cases hd
  | some r =>
    refine ⟨a, r, F, hF, hr, ?_⟩
    have fr : ∀ {M' : Mm} {ds' : List D} {os' : List O} {F' : List Addr}, ORs M' ds' os' F' → Frame M1 M' F F' → Rel E1 ρ B M' (ds' ++ pd) (os' ++ po) := fun {M' ds' os' F'} hor hfr => by
      obtain ⟨φ, G, w⟩ := r1
      obtain ⟨F1, F2, eG, h1, h2, h3⟩ := w.pen.cut2 hl
      refine Rel.chg ⟨φ, G, w⟩ hl ds' os' fun F3 h4 => ?_
      have : F3 = F := by rw [e1] at h4; exact h4.uq hF
      subst this
      exact ⟨F', hor, hfr.keep, hfr.new⟩
    split
    · rename_i o io he
      intro d M' F' hor hfr
      have hli : ds.length = io.length := by
        have := hor.len
        simp only [List.length_cons] at this
        omega
      exact hp o io r d M' hr he (Rel.dim (fr hor hfr) hli) hli
    · rename_i C fs io he
      intro M' F' hor hfr
      exact hx C fs io r M' hr he (fr hor hfr) hor.len
/-- a pending thing that changes no more -/
theorem Rel.frzP {ρ : Ev} {B M : Mm} {E : Env} {d : D} {pd : List D} {q : O} {po : List O} {x : D} (r : Rel E ρ B M (d :: pd) (q :: po)) (f : FrzO q x) : ∃ a mo, d = .ref a ∧ M a = some mo ∧
    (∃ ds, mo = .lst ds ∧ x = .lst ds ∨ ∃ kvs, mo = .dct kvs ∧ x = .dct kvs ∨ ∃ kvs, mo = .dtt kvs ∧ x = .dtt kvs ∨ ∃ C fs, mo = .ins C fs ∧ x = .obj C fs) ∧ Rel E ρ B (dm M a) (x :: pd) (.v x :: po) := by
  obtain ⟨F, hF⟩ := r.top
  obtain ⟨a, mo, rfl, ha, rfl, hx⟩ := hF.frz f
  refine ⟨a, mo, rfl, ha, hx, ?_⟩
  refine Rel.chg (ds := [.ref a]) (os := [q]) (M' := dm M a) r rfl [x] [.v x] fun F2 h2 => by
    cases h2 with
    | cons k1 k2 k3 =>
      cases k2
      obtain rfl := k1.uq hF
      exact ⟨[] ++ [], .cons (.v x) .nil Dis.nil, fun b hb hn => dm_ne fun z => hn (by rw [z]; exact List.mem_cons_self), fun b hb => nomatch hb⟩
/-- a class that is called by its name -/
structure CalM (P : Program) (w : World) (K : Fz) (mg : Str → Option Value) (base : Heap) (k : Nat) (x : Str) (C : Addr) (ps : List Str) (sp : DSp) : Prop where
  ex : ∃ f fd, Mk K C f ∧ DFn GG P w K mg base k f fd ps sp ∧ mg x = some (.ref C) ∧ Binds K fd ps []
/-- what is made, and stays as it is -/
def AfterMake (C : Addr) (ea : A → List O) (mf : A → Option R) (er : A → R → Out) (κE : O → Env → Option α → Prop) (ξ : Xi α) (as : List (Option Nat × O)) (E1 : Env) (m1 : Option α) : Prop :=
  ∃ (a : A) (g : R → Option α), .o C [] [] :: as.map (·.2) = ea a ∧ m1 = (mf a).bind g ∧ ∀ r, match er a r with
    | .ret o io => ∃ fs ds io', o = .v .non ∧ io = .o C fs (ds.map .v) :: io' ∧ κE (.v (.obj C (fs.zip ds))) (putB E1 as io') (g r)
    | .exc C fs io => ∃ o io', io = o :: io' ∧ ξ C fs (putB E1 as io') (g r)
/-- what is made is one's own -/
def AfterMakeO (C : Addr) (ea : A → List O) (mf : A → Option R) (er : A → R → Out) (κE : O → Env → Option α → Prop) (ξ : Xi α) (as : List (Option Nat × O)) (E1 : Env) (m1 : Option α) : Prop :=
  ∃ (a : A) (g : R → Option α), .o C [] [] :: as.map (·.2) = ea a ∧ m1 = (mf a).bind g ∧ ∀ r, match er a r with
    | .ret o io => ∃ q io', o = .v .non ∧ io = q :: io' ∧ κE q (putB E1 as io') (g r)
    | .exc C fs io => ∃ o io', io = o :: io' ∧ ξ C fs (putB E1 as io') (g r)
theorem bind_some {A R α : Type} {mf : A → Option R} {a : A} {g : R → Option α} {fin : α} (h : (mf a).bind g = some fin) : (mf a).isSome = true := by
  cases hr : mf a with
  | none => rw [hr] at h; cases h
  | some r => rfl
theorem bind_at {A R α : Type} {mf : A → Option R} {a : A} {g : R → Option α} {fin : α} {r : R} (h : (mf a).bind g = some fin) (hr : mf a = some r) : g r = some fin := by
  rw [hr] at h
  exact h
theorem Rel.made {ρ : Ev} {B M : Mm} {E : Env} {pd : List D} {po : List O} {x : Addr} (r : Rel E ρ B M pd po) (hx : M x = none) : Rel E ρ B (um M x (.ins C [])) (.ref x :: pd) (.o C [] [] :: po) := by
  refine Rel.chg (ds := []) (os := []) (ds' := [.ref x]) (os' := [.o C [] []]) r rfl fun F hF => ?_
  cases hF
  exact ⟨[x] ++ [], .cons (.o (fs := []) (ds := []) um_same rfl .nil List.not_mem_nil) .nil Dis.nil', fun b hb _ => um_ne fun z => hb (by rw [z]; exact hx), fun b hb => by simp at hb; exact .inr (by rw [hb]; exact hx)⟩
theorem made_aft {ρ : Ev} {B M1 : Mm} {pd ds : List D} {po : List O} {P : DP} {PX : XP} {fin : α} {as : List (Option Nat × O)} {E1 : Env} {m1 : Option α} (k1 : AfterMake C ea mf er κE ξ as E1 m1) (hm1 : m1 = some fin)
    (r1 : Rel E1 ρ B M1 (ds ++ pd) (as.map (·.2) ++ po)) (hl : ds.length = as.length) (ho : ∀ (j i : Nat) (o : O), as[j]? = some (some i, o) → ρ i = ds[j]?)
    (hp : ∀ o E' m' d M', κE o E' m' → m' = some fin → Rel E' ρ B M' (d :: pd) (o :: po) → P d M')
    (hx : ∀ C fs E' m' M', ξ C fs E' m' → m' = some fin → Rel E' ρ B M' pd po → PX C fs M') : ∀ x, M1 x = none → bSp ea mf er (.ref x :: ds) (um M1 x (.ins C [])) (DL.made true P x) PX := fun x hx0 => by
  obtain ⟨a, g, e1, rfl, k2⟩ := k1
  refine aftR (ds := .ref x :: ds) (pd := pd) (po := po) e1 (bind_some hm1) (r1.made hx0) (by simp [hl]) (fun o io r d M' hr he r2 hli => ?_) fun C' fs io r M' hr he r2 hli => ?_
  · have k3 := k2 r
    rw [he] at k3
    obtain ⟨fs, dl, io', rfl, rfl, k4⟩ := k3
    have r3 : Rel E1 ρ B M' (.ref x :: (ds ++ d :: pd)) (.o C fs (dl.map .v) :: (io' ++ .v .non :: po)) := r2
    obtain ⟨b, mo, eb, hb, hx2, r4⟩ := r3.frzP (.o C fs dl)
    cases eb
    have hli' : ds.length = io'.length := by simpa using hli
    have r5 := Rel.mid (ds := (.obj C (fs.zip dl)) :: ds) (os := (.v (.obj C (fs.zip dl))) :: io') r4 (by simp [hli'])
    obtain ⟨rfl, r6⟩ := r5.ofV
    refine ⟨rfl, ?_⟩
    have hmo : mo = .ins C (fs.zip dl) := by
      rcases hx2 with ⟨_, ⟨_, z⟩ | ⟨_, ⟨_, z⟩ | ⟨_, ⟨_, z⟩ | ⟨_, _, z1, z⟩⟩⟩⟩
      · cases z
      · cases z
      · cases z
      · cases z
        exact z1
    show (match M' x with
      | some (.ins C' fs) => P (.obj C' fs) (dm M' x)
      | _ => False)
    rw [hb, hmo]
    refine hp _ _ _ _ _ k4 (bind_at hm1 hr) ?_
    have r7 : Rel E1 ρ B (dm M' x) (ds ++ (.obj C (fs.zip dl)) :: pd) (io' ++ (.v (.obj C (fs.zip dl))) :: po) := Rel.dim r6 hli'
    exact Rel.putB r7 (hl) hli' ho
  · have k3 := k2 r
    rw [he] at k3
    obtain ⟨q, io', rfl, k4⟩ := k3
    have hli' : ds.length = io'.length := by simpa using hli
    exact hx _ _ _ _ _ k4 (bind_at hm1 hr) (Rel.putB (Rel.drop1 (pd := ds ++ pd) (po := io' ++ po) r2) hl hli' ho)
theorem made_aftO {ρ : Ev} {B M1 : Mm} {pd ds : List D} {po : List O} {P : DP} {PX : XP} {fin : α} {as : List (Option Nat × O)} {E1 : Env} {m1 : Option α} (k1 : AfterMakeO C ea mf er κE ξ as E1 m1) (hm1 : m1 = some fin)
    (r1 : Rel E1 ρ B M1 (ds ++ pd) (as.map (·.2) ++ po)) (hl : ds.length = as.length) (ho : ∀ (j i : Nat) (o : O), as[j]? = some (some i, o) → ρ i = ds[j]?)
    (hp : ∀ o E' m' d M', κE o E' m' → m' = some fin → Rel E' ρ B M' (d :: pd) (o :: po) → P d M')
    (hx : ∀ C fs E' m' M', ξ C fs E' m' → m' = some fin → Rel E' ρ B M' pd po → PX C fs M') : ∀ x, M1 x = none → bSp ea mf er (.ref x :: ds) (um M1 x (.ins C [])) (DL.made false P x) PX := fun x hx0 => by
  obtain ⟨a, g, e1, rfl, k2⟩ := k1
  refine aftR (ds := .ref x :: ds) (pd := pd) (po := po) e1 (bind_some hm1) (r1.made hx0) (by simp [hl]) (fun o io r d M' hr he r2 hli => ?_) fun C' fs io r M' hr he r2 hli => ?_
  · have k3 := k2 r
    rw [he] at k3
    obtain ⟨q, io', rfl, rfl, k4⟩ := k3
    have r4 : Rel E1 ρ B M' ((.ref x :: ds) ++ d :: pd) ((q :: io') ++ .v .non :: po) := r2
    have hli' : ds.length = io'.length := by simpa using hli
    have r5 := Rel.mid (ds := .ref x :: ds) (os := q :: io') r4 (by simp [hli'])
    obtain ⟨rfl, r6⟩ := r5.ofV
    refine ⟨rfl, ?_⟩
    refine hp _ _ _ _ _ k4 (bind_at hm1 hr) ?_
    exact Rel.putB (Rel.dim (pd := pd) (po := po) r6 hli') hl hli' ho
  · have k3 := k2 r
    rw [he] at k3
    obtain ⟨q, io', rfl, k4⟩ := k3
    have hli' : ds.length = io'.length := by simpa using hli
    exact hx _ _ _ _ _ k4 (bind_at hm1 hr) (Rel.putB (Rel.drop1 (pd := ds ++ pd) (po := io' ++ po) r2) hl hli' ho)
theorem ek_make (Cm : CalM X.prog X.w X.K X.mg X.base j x C ps (bSp ea mf er)) (hr : Room k X.A) (hG : GG X.A) (tk : Takes X W) (ka : AK X W (e :: es) E (AfterMake C ea mf er κE ξ) ξ m) (hj : j + 1 ≤ k := by decide) (hg : Gl X x := by rfl) (hdb : (x == ("__debug__" : Str)) = false := by decide)
    (he : starEach (e :: es) X.env = (false, eval e X.env) :: starEach es X.env := by rfl)
    (hpl : (backTo pos (starEach es X.env)).any (·.1) = false := by rfl) : EK X W (.Call (.Name x p) (e :: es) [] pos) E κE ξ m := by
  obtain ⟨f, fd, M, F, h1, h2⟩ := Cm.ex
  exact fun fin ρ B M' pd po P PX r hm hp hx => ⟨_, ej_make true M F (hr.mono hj) hG tk h1 h2 bA_j hg hdb he hpl, ka fin ρ B M' pd po _ PX r hm (fun os E' m' ds M' k hm' r' hl ho => made_aft k hm' r' hl ho hp hx) hx⟩
theorem ek_makeO (Cm : CalM X.prog X.w X.K X.mg X.base j x C ps (bSp ea mf er)) (hr : Room k X.A) (hG : GG X.A) (tk : Takes X W) (ka : AK X W (e :: es) E (AfterMakeO C ea mf er κE ξ) ξ m) (hj : j + 1 ≤ k := by decide) (hg : Gl X x := by rfl) (hdb : (x == ("__debug__" : Str)) = false := by decide)
    (he : starEach (e :: es) X.env = (false, eval e X.env) :: starEach es X.env := by rfl)
    (hpl : (backTo pos (starEach es X.env)).any (·.1) = false := by rfl) : EK X W (.Call (.Name x p) (e :: es) [] pos) E κE ξ m := by
  obtain ⟨f, fd, M, F, h1, h2⟩ := Cm.ex
  exact fun fin ρ B M' pd po P PX r hm hp hx => ⟨_, ej_make false M F (hr.mono hj) hG tk h1 h2 bA_j hg hdb he hpl, ka fin ρ B M' pd po _ PX r hm (fun os E' m' ds M' k hm' r' hl ho => made_aftO k hm' r' hl ho hp hx) hx⟩
/-! ### methods -/
structure CalO (P : Program) (w : World) (K : Fz) (mg : Str → Option Value) (base : Heap) (k : Nat) (m : Str) (C : Addr) (ps : List Str) (sp : DSp) : Prop where
  ex : ∃ f fd, Meth K C m f ∧ DFn GG P w K mg base k f fd ps sp ∧ Binds K fd ps [] ∧ Cls K C
/-- o.m(..), o a thing that does not change -/
theorem ek_meth {pl : Sem Bool} (Cm : CalO X.prog X.w X.K X.mg X.base j f C ps (bSp ea mf er)) (hr : Room k X.A) (hG : GG X.A) (tk : Takes X W)
    (ka : BK X W o E (fun ob m1 => ∃ fs, ob = .v (.obj C fs) ∧ nm fs = NS ∧ AK X W (e :: es) E (fun as => AfterCall ea mf er κE ξ ((none, ob) :: as)) ξ m1) m)
    (hj : j ≤ k := by decide) (hn : f ∉ NS := by decide +kernel) (hst : starEach (e :: es) X.env = (false, eval e X.env) :: starEach es X.env := by rfl) (hpl : (backTo pos (starEach es X.env)).any (·.1) = false := by rfl)
    (ht : eval (.Call (.Attribute o f apos) (e :: es) [] pos) X.env = (do
      let ov ← eval o X.env
      standAt apos.atName
      let (f, first) ← holding [ov] (getMethod ov f pl)
      callWith pos f first (backTo pos (starEach (e :: es) X.env)) (backToKw pos (keywordEach [] X.env))) := by rfl) : EK X W (.Call (.Attribute o f apos) (e :: es) [] pos) E κE ξ m := by
  obtain ⟨fa, fd, M, F, h2, c⟩ := Cm.ex
  exact fun fin ρ B M' pd po P PX r hm hp hx => ⟨_, ej_meth bE_j c M F (hr.mono hj) hG tk h2 bA_j hn hst hpl ht, ka fin ρ B M' pd po _ PX r hm fun ob m1 d ⟨fs, e1, e2, k1⟩ hm1 v => by
    subst e1
    rw [v.ofV]
    refine ⟨⟨rfl, e2⟩, k1 fin ρ B M' pd po _ PX r hm1 (fun as E1 m2 ds M1 k2 hm2 r2 hl ho => ?_) hx⟩
    refine aft (as := (none, .v (.obj C fs)) :: as) (ds := .obj C fs :: ds) k2 hm2 (r2.v _) (by simp [hl]) (fun j i o h => ?_) hp hx
    cases j with
    | zero => simp at h
    | succ j => exact ho j i o (by simpa using h)⟩
theorem ek_meth0 {pl : Sem Bool} (Cm : CalO X.prog X.w X.K X.mg X.base j f C ps (bSp ea mf er)) (hr : Room k X.A) (hG : GG X.A) (tk : Takes X W)
    (ka : BK X W o E (fun ob m1 => ∃ fs, ob = .v (.obj C fs) ∧ nm fs = NS ∧ AfterCall ea mf er κE ξ [(none, ob)] E m1) m)
    (hj : j ≤ k := by decide) (hn : f ∉ NS := by decide +kernel)
    (ht : eval (.Call (.Attribute o f apos) [] [] pos) X.env = (do
      let ov ← eval o X.env
      standAt apos.atName
      let (f, first) ← holding [ov] (getMethod ov f pl)
      callWith pos f first (backTo pos (starEach [] X.env)) (backToKw pos (keywordEach [] X.env))) := by rfl) : EK X W (.Call (.Attribute o f apos) [] [] pos) E κE ξ m := by
  obtain ⟨fa, fd, M, F, h2, c⟩ := Cm.ex
  exact fun fin ρ B M' pd po P PX r hm hp hx => ⟨_, ej_meth0 bE_j c M F (hr.mono hj) hG tk h2 hn ht, ka fin ρ B M' pd po _ PX r hm fun ob m1 d ⟨fs, e1, e2, k2⟩ hm1 v => by
    subst e1
    rw [v.ofV]
    refine ⟨⟨rfl, e2⟩, ?_⟩
    refine aft (as := [(none, .v (.obj C fs))]) (ds := [.obj C fs]) k2 hm1 (r.v _) rfl (fun j i o h => ?_) hp hx
    cases j with
    | zero => simp at h
    | succ j => simp at h⟩
/-- x.m(..), x one's own -/
theorem ek_methO {pl : Sem Bool} {y : Str} (i : Nat) {ol : List O} (Cm : CalO X.prog X.w X.K X.mg X.base j f C ps (bSp ea mf er)) (hr : Room k X.A) (hG : GG X.A) (tk : Takes X W)
    (ka : AK X W (e :: es) (sE E i none) (fun as => AfterCall ea mf er κE ξ ((some i, .o C NS ol) :: as)) ξ m) (hE : gE E i = some (.o C NS ol) := by rfl)
    (hN : X.N[i]? = some y := by rfl) (hv : Vis X.env.scope y := by first | exact Or.inl rfl | exact Or.inr (Or.inl rfl) | exact Or.inr (Or.inr rfl))
    (hd : (y == ("__debug__" : Str)) = false := by decide) (hcd : (y == ("__classdict__" : Str)) = false := by decide)
    (hj : j ≤ k := by decide) (hn : f ∉ NS := by decide +kernel) (hst : starEach (e :: es) X.env = (false, eval e X.env) :: starEach es X.env := by rfl) (hpl : (backTo pos (starEach es X.env)).any (·.1) = false := by rfl)
    (ht : eval (.Call (.Attribute (.Name y p) f apos) (e :: es) [] pos) X.env = (do
      let ov ← eval (.Name y p) X.env
      standAt apos.atName
      let (f, first) ← holding [ov] (getMethod ov f pl)
      callWith pos f first (backTo pos (starEach (e :: es) X.env)) (backToKw pos (keywordEach [] X.env))) := by rfl) : EK X W (.Call (.Attribute (.Name y p) f apos) (e :: es) [] pos) E κE ξ m := by
  obtain ⟨fa, fd, M, F, h2, c⟩ := Cm.ex
  refine fun fin ρ B M' pd po P PX r hm hp hx => ⟨_, ej_meth (ej_var i hN hv hd hcd) c M F (hr.mono hj) hG tk h2 bA_j hn hst hpl ht, ?_⟩
  obtain ⟨d, h1, r1⟩ := r.mov hE
  unfold dMeth dVar
  rw [show gt ρ i = some d from h1]
  obtain ⟨G, hG1⟩ := r1.top
  cases hG1 with
  | @o a _ _ ds _ FF g1 g2 g3 g4 =>
    refine ⟨?_, ka fin ρ B M' _ _ _ PX r1 hm (fun as E1 m2 ds M1 k2 hm2 r2 hl ho => ?_) fun C' fs' E' m' M' x hm' r' => hx C' fs' E' m' M' x hm' r'.drop1⟩
    · skip
      have e1 : asO M' (.ref a) = some (C, NS.zip ds) := by
        show (match M' a with
          | some (.ins C fs) => some (C, fs)
          | _ => none) = _
        rw [g1]
      unfold isC
      rw [e1]
      exact ⟨rfl, List.map_fst_zip (by omega)⟩
    · refine aft (as := (some i, _) :: as) k2 hm2 (r2.mid (by rw [List.length_map]; exact hl)) (congrArg Nat.succ hl) (fun j l p h => ?_) hp hx
      cases j with
      | zero =>
        rw [List.getElem?_cons_zero] at h ⊢
        cases h
        exact h1
      | succ j =>
        rw [List.getElem?_cons_succ] at h ⊢
        exact ho j l p h
end
end B

/-! B: dicts of comprehensions, texts, own text and length, None, lengths of dicts, displays -/
namespace B
open PySem PySem.Spec PyProof.Rows L2 DL
/-! ### {k: v for ..} -/
theorem ins_insg (kvs : List (Key × D)) (k : Key) (v : D) : DL.ins kvs k v = insg kvs k v := rfl
theorem insg_len {κ ν : Type} [DecidableEq κ] (kvs : List (κ × ν)) (k : κ) (v : ν) : (insg kvs k v).length ≤ kvs.length + 1 := by
  unfold insg
  split <;> simp
def dctF {A κ ν : Type} [DecidableEq κ] (f : A → Option (κ × ν)) : List A → List (κ × ν) → Option (List (κ × ν))
  | [], acc => some acc
  | x :: r, acc => (f x).bind fun kv => dctF f r (insg acc kv.1 kv.2)
theorem Rel.baseN {E : Env} {ρ : Ev} {B M : Mm} {pd : List D} {po : List O} {D0 : Addr} {mo : MO} (r : Rel E ρ B M pd po) (hD : M D0 = none) : Rel E ρ (um B D0 mo) (um M D0 mo) pd po := by
  obtain ⟨φ, F, w⟩ := r
  have nF : ∀ b ∈ F, b ≠ D0 := fun b hb z => w.pen.al b hb (by rw [z]; exact hD)
  have nφ : ∀ i, ∀ b ∈ φ i, b ≠ D0 := fun i b hb z => by
    cases q : gE E i with
    | none => rw [w.emp i q] at hb; cases hb
    | some o =>
      obtain ⟨d, _, t⟩ := w.val i o q
      exact t.al b hb (by rw [z]; exact hD)
  refine ⟨φ, F, fun i o e => ?_, w.emp, w.pen.fr fun b hb => um_ne (nF b hb), w.dis, w.dsp, fun a mo' e => ?_⟩
  · obtain ⟨d, h1, h2⟩ := w.val i o e
    exact ⟨d, h1, h2.fr fun b hb => um_ne (nφ i b hb)⟩
  · by_cases z : a = D0
    · subst z
      rw [um_same] at e
      cases e
      exact ⟨um_same, fun hb => nF a hb rfl, fun i hb => nφ i a hb rfl⟩
    · rw [um_ne z] at e
      exact ⟨(um_ne z).trans (w.bas a mo' e).1, (w.bas a mo' e).2⟩
theorem Rel.baseU {E : Env} {ρ : Ev} {B M : Mm} {pd : List D} {po : List O} {D0 : Addr} {mo mo2 : MO} (r : Rel E ρ (um B D0 mo) M pd po) : M D0 = some mo ∧ Rel E ρ (um B D0 mo2) (um M D0 mo2) pd po := by
  obtain ⟨φ, F, w⟩ := r
  have hMD := w.bas D0 _ um_same
  refine ⟨hMD.1, ?_⟩
  have nF : ∀ b ∈ F, b ≠ D0 := fun b hb z => hMD.2.1 (by rw [← z]; exact hb)
  have nφ : ∀ i, ∀ b ∈ φ i, b ≠ D0 := fun i b hb z => hMD.2.2 i (by rw [← z]; exact hb)
  refine ⟨φ, F, fun i o e => ?_, w.emp, w.pen.fr fun b hb => um_ne (nF b hb), w.dis, w.dsp, fun a mo' e => ?_⟩
  · obtain ⟨d, h1, h2⟩ := w.val i o e
    exact ⟨d, h1, h2.fr fun b hb => um_ne (nφ i b hb)⟩
  · by_cases z : a = D0
    · subst z
      rw [um_same] at e ⊢
      exact ⟨e, hMD.2⟩
    · rw [um_ne z] at e
      have := w.bas a mo' (by rw [um_ne z]; exact e)
      exact ⟨(um_ne z).trans this.1, this.2⟩
/-- what stands in the base becomes one's own -/
theorem Rel.baseO {E : Env} {ρ : Ev} {B M : Mm} {pd : List D} {po : List O} {D0 : Addr} {mo : MO} {o : O} (hB : B D0 = none) (r : Rel E ρ (um B D0 mo) M pd po) (ho : ∀ M' : Mm, M' D0 = some mo → OR M' (.ref D0) o [D0]) : Rel E ρ B M (.ref D0 :: pd) (o :: po) := by
  obtain ⟨φ, F, w⟩ := r
  have hMD := w.bas D0 _ um_same
  refine ⟨φ, [D0] ++ F, w.val, w.emp, .cons (ho M hMD.1) w.pen fun b hb hb' => ?_, w.dis, fun i b hb hb' => ?_, fun a mo' e => ?_⟩
  · rw [List.mem_singleton] at hb
    subst hb
    exact hMD.2.1 hb'
  · rcases List.mem_append.mp hb' with h | h
    · rw [List.mem_singleton] at h
      subst h
      exact hMD.2.2 i hb
    · exact w.dsp i b hb h
  · have z : a ≠ D0 := fun z => by rw [z, hB] at e; cases e
    have := w.bas a mo' (by rw [um_ne z]; exact e)
    refine ⟨this.1, fun hb => ?_, this.2.2⟩
    rcases List.mem_append.mp hb with h | h
    · rw [List.mem_singleton] at h
      exact z h
    · exact this.2.1 h
section
variable {α A κ ν : Type} {X : Cx} {W : WX'} {kx vx tg iter : Expr} {scope : Scope} {own : List (Str × Nat)} {pos : Pos} {g : TG} {dg : D → Ev → (Ev → Prop) → Prop} {E : Env} {κE : O → Env → Option α → Prop} {ξ : Xi α} {m : Option α}
theorem ek_dc [DecidableEq κ] (E0 : Env) (ed : A → D) {ek : κ → Key} {eD : κ → D} (hk : KeyE ek eD) (ev : ν → D) (hc : X.calm = true) (hN : X.N.Nodup) (ok : BlkOk X.N X.env.scope scope own) (ht0 : TgOk X.K g (own.map (·.2)) dg)
    (hg : ∀ (s : Shared) (H : Hp) (C : Addr) (cl : List (Str × Addr)) (fp : List Addr), PG (X.blk s H scope (compEnvC scope cl C X.env) fp) tg g)
    (hv : ∀ i, i ∈ own.map (·.2) → gE E0 i = none)
    (h : IK X W tg iter E (fun ds E1 m1 => ∃ (xs : List A) (f : A → Option (κ × ν)) (k : List (κ × ν) → Option α) (E2 : A → Env), ds = xs.map ed ∧ leE E0 E1 ∧ m1 = (dctF f xs []).bind k ∧ xs.length ≤ sizeLine ∧
      (∀ x, DgOk dg (own.map (·.2)) (ed x) E0 (E2 x)) ∧
      (∀ x (s1 : Shared) (H : Hp) (C : Addr) (cl : List (Str × Addr)) (fp : List Addr), BK (X.blk s1 H scope (compEnvC scope cl C X.env) fp) W0 kx (E2 x) (fun o m2 => ∃ y, o = .v (eD y) ∧ ∀ (s2 : Shared) (H' : Hp) (C' : Addr) (cl' : List (Str × Addr)) (fp' : List Addr), BK (X.blk s2 H' scope (compEnvC scope cl' C' X.env) fp') W0 vx (E2 x) (fun q m3 => ∃ v, q = .v (ev v) ∧ m3 = some (y, v)) m2) (f x)) ∧
      (∀ x, leE E0 (E2 x)) ∧
      ∀ ys, κE (kO ek ev ys) E0 (k ys)) ξ m)
    (hs : ∀ x, foldedSetIterable iter X.env x = pure x := by intro _; rfl) : EK X W (.DictComp kx vx [⟨tg, iter, [], 0⟩] scope pos) E κE ξ m := fun fin ρ B M pd po P PX r hm hp hx =>
  ⟨dDcM (bI X W tg iter) dg (fun ρ M P PX => ∀ s1 H C cl fp, bTs (X.blk s1 H scope (compEnvC scope cl C X.env) fp) W0 [] ρ M P PX) (fun ρ M P PX => ∀ s1 H C cl fp, bE (X.blk s1 H scope (compEnvC scope cl C X.env) fp) W0 kx ρ M P PX) (fun ρ M P PX => ∀ s1 H C cl fp, bE (X.blk s1 H scope (compEnvC scope cl C X.env) fp) W0 vx ρ M P PX) (own.map (·.2)),
    ej_dcM hc hN bI_j ok ht0 hg (fun s H C cl fp => ⟨fun pins s' σ H' Q I ⟨ρ, M, Hf, P, PX, sr, h, fe, fx⟩ => bTs_j.run pins s' σ H' Q I ⟨ρ, M, Hf, P, PX, sr, h s H C cl fp, fe, fx⟩⟩)
      (fun s H C cl fp => ⟨fun pins s' σ H' Q I ⟨ρ, M, Hf, P, PX, sr, h, fe, fx⟩ => bE_j.run pins s' σ H' Q I ⟨ρ, M, Hf, P, PX, sr, h s H C cl fp, fe, fx⟩⟩)
      (fun s H C cl fp => ⟨fun pins s' σ H' Q I ⟨ρ, M, Hf, P, PX, sr, h, fe, fx⟩ => bE_j.run pins s' σ H' Q I ⟨ρ, M, Hf, P, PX, sr, h s H C cl fp, fe, fx⟩⟩) hs,
    h fin ρ B M pd po _ PX r hm (fun ds E1 m1 M1 ⟨xs, f, k, E2, e1, l0, e2, hl, hd, hel, hle, kn⟩ hm1 r1 D hD => by
      subst e1 e2
      have hBD : B D = none := by
        cases q : B D with
        | none => rfl
        | some mo =>
          obtain ⟨φ, F, w⟩ := r1
          have := (w.bas D mo q).1
          rw [hD] at this
          cases this
      refine ⟨fun i M' => ∃ (acc : List (κ × ν)), acc.length ≤ i ∧ (dctF f (xs.drop i) acc).bind k = some fin ∧ Rel E0 ρ (um B D (.dct (acc.map fun p => (ek p.1, ev p.2)))) M' pd po, ?_, ?_, ?_⟩
      · exact ⟨[], Nat.le_refl _, hm1, (r1.le (leE_ok l0)).baseN hD⟩
      · rintro i d M2 hdi ⟨acc, ha, hcf, r2⟩
        rw [List.getElem?_map] at hdi
        cases hxi : xs[i]? with
        | none => rw [hxi] at hdi; cases hdi
        | some x =>
          rw [hxi] at hdi
          cases hdi
          have hil : i < xs.length := (List.getElem?_eq_some_iff.mp hxi).1
          rw [drop_cons hxi, dctF] at hcf
          have r3 : Rel E0 (wpD ρ (own.map (·.2))) (um B D (.dct (acc.map fun p => (ek p.1, ev p.2)))) M2 pd po := r2.rho fun j hj => wpD_out fun z => hj (hv j z)
          refine hd x r3 fun ρ2 r4 q4 => ?_
          have back : ∀ {B' M' : Mm}, Rel E0 ρ2 B' M' pd po → Rel E0 ρ B' M' pd po := fun {B' M'} r' => r'.rho fun j hj => by
            have hj2 : j ∉ own.map (·.2) := fun z => hj (hv j z)
            rw [q4 j hj2, wpD_out hj2]
          intro s1 H C cl fp
          refine ⟨dYes, ptsj_nil, ?_⟩
          show (∀ s1 H C cl fp, bE _ W0 kx ρ2 M2 _ XF)
          intro s1 H C cl fp
          cases hfx : f x with
          | none => rw [hfx] at hcf; cases hcf
          | some kv =>
            rw [hfx, Option.bind_some] at hcf
            refine hel x s1 H C cl fp kv ρ2 _ M2 pd po _ XF r4 hfx fun o m2 d ⟨y, e1, hb⟩ hm2 v2 => ?_
            subst e1
            obtain rfl := v2.ofV
            intro s2 H' C' cl' fp'
            refine hb s2 H' C' cl' fp' kv ρ2 _ M2 pd po _ XF r4 hm2 fun q m3 d2 ⟨v, e2, e3⟩ hm3 v3 => ?_
            subst e2
            obtain rfl := v3.ofV
            rw [e3] at hm3
            cases hm3
            obtain ⟨hM, r5⟩ := r4.baseU (mo2 := .dct ((insg acc y v).map fun p => (ek p.1, ev p.2)))
            try dsimp only
            rw [hM, hk.key]
            refine ⟨by rw [List.length_map]; omega, insg acc y v, Nat.le_trans (insg_len _ _ _) (Nat.succ_le_succ ha), hcf, ?_⟩
            have e5 : DL.ins (acc.map fun p => (ek p.1, ev p.2)) (ek y) (ev v) = (insg acc y v).map fun p => (ek p.1, ev p.2) := insg_map hk.inj y v acc
            rw [e5]
            exact back (r5.le (leE_ok (hle x)))
      · rintro M2 ⟨acc, ha, hcf, r2⟩
        rw [List.length_map, List.drop_length] at hcf
        exact hp _ _ _ _ _ (kn acc) hcf (Rel.baseO hBD r2 fun M' hM' => kO_or hM')) hx⟩
end
end B

/-! B: texts, own text and length, None, lengths of dicts, displays of dicts -/
namespace B
open PySem PySem.Spec PyProof.Rows L2 DL
section
variable {α A R : Type} {X : Cx} {W : WX'} {k j n : Nat} {ps ks NS : List Str} {ea : A → List O} {mf : A → Option R} {er : A → R → Out} {x f : Str} {p pos apos cpos : Pos} {a b e o : Expr} {es : List Expr} {E : Env} {κ : O → Option α → Prop} {κD : D → Option α → Prop} {κE : O → Env → Option α → Prop} {ξ : Xi α} {m : Option α} {C : Addr}
/-! ### str(x), len(x) -/
/-- the def's answer is z, its argument stays as it is -/
def Own1 (ea : A → List O) (mf : A → Option R) (er : A → R → Out) (C : Addr) (ob : O) (κ : R → Option α → Prop) (zf : R → D) (m : Option α) : Prop :=
  ∃ (fs : List (Str × D)) (a : A) (g : R → Option α), ob = .v (.obj C fs) ∧ [ob] = ea a ∧ m = (mf a).bind g ∧ ∀ r, er a r = .ret (.v (zf r)) [ob] ∧ κ r (g r)
theorem own1_sp {ρ : Ev} {B M : Mm} {pd : List D} {po : List O} {fin : α} {ob : O} {κ : R → Option α → Prop} {zf : R → D} {P : DP} {PX : XP} {d : D} (h : Own1 ea mf er C ob κ zf m) (hm : m = some fin) (r : Rel E ρ B M pd po) (v : VM M d ob)
    (hp : ∀ r m' M', κ r m' → m' = some fin → Rel E ρ B M' pd po → P (zf r) M') : (∃ fs, asO M d = some (C, fs)) ∧ bSp ea mf er [d] M P PX := by
  obtain ⟨fs, a, g, rfl, e1, rfl, k⟩ := h
  rw [v.ofV]
  refine ⟨⟨fs, rfl⟩, ?_⟩
  refine aftR (ds := [.obj C fs]) (pd := pd) (po := po) e1 (bind_some hm) (r.v _) rfl (fun o io q d M' hr he r2 hl => ?_) fun C' fs' io q M' hr he r2 hl => ?_
  · obtain ⟨h1, h2⟩ := k q
    rw [h1] at he
    cases he
    obtain ⟨_, r3⟩ := Rel.ofV (pd := d :: pd) (po := .v (zf q) :: po) r2
    obtain ⟨rfl, r4⟩ := r3.ofV
    exact hp q _ M' h2 (bind_at hm hr) r4
  · obtain ⟨h1, h2⟩ := k q
    rw [h1] at he
    cases he
theorem ek_strI (zf : R → Str) (Cm : CalO X.prog X.w X.K X.mg X.base j "__str__" C ps (bSp ea mf er)) (hr : Room k X.A) (hG : GG X.A) (hmg : X.mg "str" = none) (ka : BK X W e E (fun ob m1 => Own1 ea mf er C ob (fun r m2 => κE (.v (.str (zf r))) E m2) (fun r => .str (zf r)) m1) m) (hj : j + 2 ≤ k := by decide)
    (hg : Gl X "str" := by rfl) (he : starEach [e] X.env = (false, eval e X.env) :: starEach [] X.env := by rfl) : EK X W (.Call (.Name "str" p) [e] [] pos) E κE ξ m := by
  obtain ⟨fa, fd, M, F, h2, c⟩ := Cm.ex
  exact fun fin ρ B M' pd po P PX r hm hp hx => ⟨_, ej_strI M F (hr.mono hj) hG h2 hmg (aj_cons bE_j aj_nil he) hg he, ka fin ρ B M' pd po _ PX r hm fun ob m1 d k1 hm1 v => by
    obtain ⟨⟨fs, h3⟩, h4⟩ := own1_sp (P := fun v M2 => ∃ z, v = .str z ∧ P v M2) (PX := fun _ _ _ => False) k1 hm1 r v (fun q m' M'' hk hm' r' => ⟨zf q, rfl, hp _ _ _ _ _ hk hm' (r'.v _)⟩)
    exact ⟨d, fs, rfl, h3, h4⟩⟩
theorem ek_lenI (zf : R → Int) (Cm : CalO X.prog X.w X.K X.mg X.base j "__len__" C ps (bSp ea mf er)) (hr : Room k X.A) (hG : GG X.A) (hmg : X.mg "len" = none) (ka : BK X W e E (fun ob m1 => Own1 ea mf er C ob (fun r m2 => (0 ≤ zf r ∧ zf r < 2 ^ 63) ∧ κE (.v (.int (zf r))) E m2) (fun r => .int (zf r)) m1) m) (hj : j + 2 ≤ k := by decide)
    (hg : Gl X "len" := by rfl) (he : starEach [e] X.env = (false, eval e X.env) :: starEach [] X.env := by rfl) : EK X W (.Call (.Name "len" p) [e] [] pos) E κE ξ m := by
  obtain ⟨fa, fd, M, F, h2, c⟩ := Cm.ex
  exact fun fin ρ B M' pd po P PX r hm hp hx => ⟨_, ej_lenI M F (hr.mono hj) hG h2 hmg (aj_cons bE_j aj_nil he) hg he, ka fin ρ B M' pd po _ PX r hm fun ob m1 d k1 hm1 v => by
    obtain ⟨⟨fs, h3⟩, h4⟩ := own1_sp (P := fun v M2 => ∃ z : Int, v = .int z ∧ 0 ≤ z ∧ z < 2 ^ 63 ∧ P v M2) (PX := fun _ _ _ => False) k1 hm1 r v (fun q m' M'' hk hm' r' => ⟨zf q, rfl, hk.1.1, hk.1.2, hp _ _ _ _ _ hk.2 hm' (r'.v _)⟩)
    exact ⟨d, fs, rfl, h3, h4⟩⟩
/-! ### texts -/
theorem bk_tm {kD : D → Mm → Prop} {rD : D → List D → Mm → DP → Prop} (h : ∀ dx d, EJ X W o dx → AJ X W es d → EJ X W e (dBM kD rD dx d)) (hk : ∀ z M, kD (.str z) M)
    (k : BK X W o E (fun ob m1 => ∃ z, ob = .v (.str z) ∧ BAK X W es E (fun os m2 => RKL (rD (.str z)) os (fun y m3 => κ (.v y) m3) m2) m1) m) : BK X W e E κ m :=
  bk_of (h _ _ bE_j bA_j) fun fin ρ B M pd po P PX r hm hp => k fin ρ B M pd po _ PX r hm fun ob m1 d ⟨z, e1, k1⟩ hm1 v => by
    subst e1
    rw [v.ofV]
    refine ⟨hk z M, k1 fin ρ B M pd po _ PX r hm1 fun os m2 ds k2 hm2 v2 => ?_⟩
    obtain ⟨y, m3, k3, hm3, q⟩ := k2 fin hm2
    exact q M ds P v2 (hp _ m3 _ k3 hm3 (VM.v y))
theorem ek_tm {kD : D → Mm → Prop} {rD : D → List D → Mm → DP → Prop} (h : ∀ dx d, EJ X W o dx → AJ X W es d → EJ X W e (dBM kD rD dx d)) (hk : ∀ z M, kD (.str z) M)
    (k : BK X W o E (fun ob m1 => ∃ z, ob = .v (.str z) ∧ AK X W es E (fun as E1 m2 => RKL (rD (.str z)) (as.map (·.2)) (fun y m3 => κE (.v y) (putB E1 as (as.map (·.2))) m3) m2) ξ m1) m) : EK X W e E κE ξ m :=
  fun fin ρ B M pd po P PX r hm hp hx => ⟨_, h _ _ bE_j bA_j, k fin ρ B M pd po _ PX r hm fun ob m1 d ⟨z, e1, k1⟩ hm1 v => by
    subst e1
    rw [v.ofV]
    refine ⟨hk z M, k1 fin ρ B M pd po _ PX r hm1 (fun as E1 m2 ds M1 k2 hm2 r1 hl ho => ?_) hx⟩
    obtain ⟨y, m3, k3, hm3, q⟩ := k2 fin hm2
    have hl2 : ds.length = (as.map (·.2)).length := by rw [List.length_map]; exact hl
    have hv : VMs M1 ds (as.map (·.2)) := by
      obtain ⟨φ, F, w⟩ := r1
      obtain ⟨F1, F2, _, h1, _, _⟩ := w.pen.cut2 hl2
      exact h1.vms
    exact q M1 ds P hv (hp _ _ m3 y M1 k3 hm3 ((Rel.putB r1 hl hl2 ho).v y))⟩
theorem k_str (z : Str) (M : Mm) : kStr (.str z) M := ⟨z, rfl⟩
/-- items of a tuple or list -/
def SqIs (o : O) (xs : List D) : Prop := ∀ M d, VM M d o → sqD M d = some xs
theorem sq_tup {xs : List D} : SqIs (.v (.tup xs)) xs := fun M d v => by rw [v.ofV]; rfl
theorem sq_as {o : O} {xs : List D} (h : AsIs o xs) : SqIs o xs := fun M d v => by
  have a1 := asL_lst (h M d v)
  unfold sqD
  split
  · cases a1
  · exact a1
theorem sq_lst {xs : List D} : SqIs (.v (.lst xs)) xs := sq_as as_v
def joinS (a : Str) (ys : List Str) : Option Str := if (ys.map (·.length)).sum + ys.length * a.length ≤ 16777216 then some (Txt.join a ys) else none
theorem rl_join {z : Str} {ys : List Str} {ob : O} {g : Str → Option α} (h : SqIs ob (ys.map D.str)) (k : ∀ y, κD (.str y) (g y)) : RKL (rJoinD (.str z)) [ob] κD ((joinS z ys).bind g) := rl_opt D.str (fun y hy M ds P v p => by
  unfold joinS at hy
  split at hy
  · rename_i hl
    cases hy
    obtain ⟨d, rfl, w⟩ := vm1 v
    exact ⟨z, d, ys, rfl, rfl, h M d w, hl, p⟩
  · cases hy) k
def splitS (a b : Str) : Option (List Str) := if (b.length == 0) = false ∧ a.length + 2 ≤ sizeLine then some (Txt.split a b) else none
theorem rl_split {z y : Str} {g : List Str → Option α} (k : ∀ ys : List Str, κD (.lst (ys.map D.str)) (g ys)) : RKL (rSplitD (.str z)) [.v (.str y)] κD ((splitS z y).bind g) := rl_opt (fun ys => D.lst (ys.map D.str)) (fun w hw M ds P v p => by
  unfold splitS at hw
  split at hw
  · rename_i hl
    cases hw
    obtain ⟨d, rfl, w⟩ := vm1 v
    rw [w.ofV]
    exact ⟨z, y, rfl, rfl, hl.1, hl.2, p⟩
  · cases hw) k
/-- a sign in a text -/
def inSg (x z : Str) : Option Bool := match x.cps.toList with
  | [c] => some (decide (c ∈ z.cps.toList))
  | _ => none
theorem rk_inSg {x z : Str} {g : Bool → Option α} (k : ∀ b, κD (.bl b) (g b)) : RK2 rInSg (.v (.str x)) (.v (.str z)) κD ((inSg x z).bind g) := rk_opt .bl (fun b h M d e P v w p => by
  rw [v.ofV, w.ofV]
  unfold inSg at h
  split at h
  · rename_i c hc
    cases h
    refine ⟨c, z, ?_, rfl, p⟩
    have : x.cps = #[c] := by
      apply Array.ext'
      exact hc
    cases x
    simp only at this
    rw [this]
  · cases h) k
theorem rk_isN {neg : Bool} {x : D} (k : κD (.bl (neg ^^ isN x)) m) : RK2 (rIsN neg) (.v x) (.v .non) κD m := rk_tot _ (fun M d e P v w p => by rw [v.ofV, w.ofV]; exact ⟨rfl, p⟩) k
theorem rk_isNO {neg : Bool} {o : O} (h : ∀ M d, VM M d o → isN d = false) (k : κD (.bl (neg ^^ false)) m) : RK2 (rIsN neg) o (.v .non) κD m := rk_tot _ (fun M d e P v w p => by rw [w.ofV]; exact ⟨rfl, by rw [h M d v]; exact p⟩) k
/-! ### len of dicts -/
def TbN (o : O) (n : Nat) : Prop := ∀ M d, VM M d o → ∃ t, tabR M d = some t ∧ (match t with
  | .k kvs => kvs.length
  | .t kvs => kvs.length) = n
theorem tb_k {κ ν : Type} {ek : κ → Key} {ev : ν → D} {kvs : List (κ × ν)} : TbN (kO ek ev kvs) kvs.length := fun M d ⟨F, v⟩ => by
  obtain ⟨a, rfl, ha, rfl⟩ := kO_vm v
  exact ⟨.k _, by unfold tabR; dsimp only; rw [ha], List.length_map _⟩
theorem tb_t {κ ν : Type} {ek : κ → List Key} {ev : ν → D} {kvs : List (κ × ν)} : TbN (tO ek ev kvs) kvs.length := fun M d ⟨F, v⟩ => by
  obtain ⟨a, rfl, ha, rfl⟩ := tO_vm v
  exact ⟨.t _, by unfold tabR; dsimp only; rw [ha], List.length_map _⟩
theorem tb_kv {kvs : List (Key × D)} : TbN (.v (.dct kvs)) kvs.length := fun M d v => by
  rw [v.ofV]
  exact ⟨.k kvs, rfl, rfl⟩
theorem tb_tv {kvs : List (List Key × D)} : TbN (.v (.dtt kvs)) kvs.length := fun M d v => by
  rw [v.ofV]
  exact ⟨.t kvs, rfl, rfl⟩
theorem rl_lenTab {o : O} {n : Nat} (h : TbN o n) (k : κD (.int n) m) : RKL rLenTab [o] κD m := rl_tot _ (fun M ds P v p => by
  obtain ⟨d, rfl, w⟩ := vm1 v
  obtain ⟨t, h1, h2⟩ := h M d w
  refine ⟨d, t, rfl, h1, ?_⟩
  subst h2
  cases t <;> exact p) k
/-! ### enumerate of tuples -/
variable {κI : List D → Env → Option α → Prop} {elts : List Expr} {kk : Nat} {tpos : Pos}
theorem ik_enumT (hm0 : X.mg "enumerate" = none) (h : EK X W a E (fun o E1 m1 => ∃ ds : List D, o = .v (.tup ds) ∧ κI (ds.zipIdx.map fun q => .tup [.int (q.2 : Nat), q.1]) E1 m1) ξ m) (hg : Gl X "enumerate" := by rfl) (hs : starEach [a] X.env = [(false, eval a X.env)] := by rfl) :
    IK X W (.Tuple elts kk tpos) (.Call (.Name "enumerate" p) [a] [] pos) E κI ξ m := fun fin ρ B M pd po P PX r hm hp hx =>
  ⟨_, ij_enumT hm0 bA_j hg hs, ⟨_, aj_cons bE_j aj_nil (by rw [hs]; rfl), h fin ρ B M pd po _ PX r hm (fun o E1 m1 d M1 ⟨ds, e1, k⟩ hm1 r1 => by
    subst e1
    obtain ⟨rfl, r2⟩ := r1.ofV
    exact hp _ E1 m1 M1 k hm1 r2) hx⟩⟩
/-! ### {"k": e, ..} -/
/-- the values of a display, whose keys are texts -/
def PK {α : Type} (X : Cx) (W : WX') : List Key → List (Option Expr) → List Expr → Env → (List O → Env → Option α → Prop) → Xi α → Option α → Prop
  | [], [], [], E, κ, _, m => κ [] E m
  | kk :: kr, some ke :: r, ve :: vr, E, κ, ξ, m => BK X W ke E (fun o m1 => ∃ y, o = .v y ∧ keyOf y = some kk ∧ EK X W ve E (fun o2 E1 m2 => PK X W kr r vr E1 (fun os E2 m3 => κ (o2 :: os) E2 m3) ξ m2) ξ m1) m
  | _, _, _, _, _, _, _ => False
def pTr (X : Cx) (W : WX') : List (Option Expr) → List Expr → List (DE × DE)
  | some ke :: r, ve :: vr => (bE X W ke, bE X W ve) :: pTr X W r vr
  | _, _ => []
theorem psj_all : ∀ (keys : List (Option Expr)) (vals : List Expr), keys.all (·.isSome) = true → keys.length = vals.length → PsJ X W pos keys vals (pTr X W keys vals)
  | [], [], _, _ => psj_nil
  | some ke :: r, ve :: vr, h, l => psj_cons bE_j bE_j (psj_all r vr (by simpa using h) (by simpa using l))
  | none :: _, _ :: _, h, _ => by simp at h
  | [], _ :: _, _, l => by simp at l
  | _ :: _, [], _, l => by simp at l
theorem pk_go {fin : α} {ρ : Ev} {B : Mm} {PX : XP} : ∀ {kr : List Key} {keys : List (Option Expr)} {vals : List Expr} {E : Env} {κ : List O → Env → Option α → Prop} {m : Option α} {M : Mm} {pd : List D} {po : List O} {P : List (D × D) → Mm → Prop}, PK X W kr keys vals E κ ξ m → Rel E ρ B M pd po → m = some fin →
    (∀ ps os E' m' M', κ os E' m' → m' = some fin → keysOf ps = some (kr.zip (ps.map (·.2))) → ps.length = kr.length → ps.length = os.length → Rel E' ρ B M' (ps.map (·.2) ++ pd) (os ++ po) → P ps M') →
    (∀ C fs E' m' M', ξ C fs E' m' → m' = some fin → Rel E' ρ B M' pd po → PX C fs M') → dPairs (pTr X W keys vals) ρ M P PX
  | [], [], [], E, κ, m, M, pd, po, P, k, r, hm, hp, hx => hp [] [] E m M k hm rfl rfl rfl r
  | kk :: kr, some ke :: keys, ve :: vals, E, κ, m, M, pd, po, P, k, r, hm, hp, hx => by
    show bE X W ke ρ M _ PX
    refine k fin ρ B M pd po _ PX r hm fun o m1 d ⟨y, e1, e2, k1⟩ hm1 v => ?_
    subst e1
    obtain rfl := v.ofV
    refine k1 fin ρ B M pd po _ PX r hm1 (fun o2 E1 m2 d2 M1 k2 hm2 r1 => ?_) hx
    refine pk_go k2 r1 hm2 (fun ps os E' m' M' k3 hm3 h1 hl0 h2 r2 => ?_) fun C fs E' m' M' z hm' r' => hx C fs E' m' M' z hm' r'.drop1
    refine hp ((d, d2) :: ps) (o2 :: os) E' m' M' k3 hm3 ?_ (by simp [hl0]) (by simp [h2]) (Rel.mid r2 (by rw [List.length_map]; exact h2))
    unfold keysOf
    rw [e2, h1]
    rfl
  | [], [], _ :: _, _, _, _, _, _, _, _, k, _, _, _, _ => k.elim
  | [], some _ :: _, _, _, _, _, _, _, _, _, k, _, _, _, _ => k.elim
  | [], none :: _, _, _, _, _, _, _, _, _, k, _, _, _, _ => k.elim
  | _ :: _, [], _, _, _, _, _, _, _, _, k, _, _, _, _ => k.elim
  | _ :: _, none :: _, _, _, _, _, _, _, _, _, k, _, _, _, _ => k.elim
  | _ :: _, some _ :: _, [], _, _, _, _, _, _, _, k, _, _, _, _ => k.elim
theorem mem_any {κ ν : Type} [DecidableEq κ] {kvs : List (κ × ν)} {k : κ} (h : k ∉ kvs.map (·.1)) : (kvs.any fun kv => decide (kv.1 = k)) = false := by
  rw [List.any_eq_false]
  intro kv hkv
  simp only [decide_eq_true_eq]
  intro z
  exact h (List.mem_map.mpr ⟨kv, hkv, z⟩)
theorem merged_nd : ∀ (more acc : List (Key × D)), ((acc ++ more).map (·.1)).Nodup → DL.merged acc more = acc ++ more
  | [], acc, _ => by simp [DL.merged]
  | (k, v) :: r, acc, h => by
    have h1 : k ∉ acc.map (·.1) := fun z => by
      rw [List.map_append, List.nodup_append] at h
      exact h.2.2 k z k (by simp) rfl
    have e : DL.ins acc k v = acc ++ [(k, v)] := by
      unfold DL.ins
      rw [mem_any h1]
      rfl
    show DL.merged (DL.ins acc k v) r = _
    rw [e, merged_nd r (acc ++ [(k, v)]) (by rw [List.append_assoc]; exact h), List.append_assoc]
    rfl
theorem ek_disp (kr : List Key) {keys : List (Option Expr)} {vals : List Expr} (h : PK X W kr keys vals E (fun os E1 m1 => κE (.k kr os) E1 m1) ξ m) (hnd : kr.Nodup := by decide +kernel) (hl15 : kr.length ≤ 15 := by decide) (hall : keys.all (·.isSome) = true := by rfl) (hl : keys.length = vals.length := by rfl) (h0 : keys ≠ [] := by exact fun z => by cases z)
    (h15 : keys.length ≤ 15 := by decide) : EK X W (.Dict keys vals pos) E κE ξ m := fun fin ρ B M pd po P PX r hm hp hx => ⟨_, ej_disp (psj_all keys vals hall hl) hall hl h0 h15, fun p hpn => by
  have hB : B p = none := by
    cases q : B p with
    | none => rfl
    | some mo =>
      obtain ⟨φ, F, w⟩ := r
      have := (w.bas p mo q).1
      rw [hpn] at this
      cases this
  refine pk_go h (r.baseN (mo := .dct []) hpn) hm (fun ps os E' m' M' k1 hm1 h1 hl0 h2 r2 => ?_) fun C fs E' m' M' z hm' r' => hx C fs E' m' M' z hm' ?_
  · have hl2 : (ps.map (·.2)).length = os.length := by rw [List.length_map]; exact h2
    have hlz : kr.length = (ps.map (·.2)).length := by rw [List.length_map]; exact hl0.symm
    have hmf : (kr.zip (ps.map (·.2))).map (·.1) = kr := List.map_fst_zip (by omega)
    have r3 := Rel.baseO (o := .k [] []) hB r2 fun M'' hM'' => .k (ks := []) (ds := []) hM'' rfl .nil List.not_mem_nil
    have hM' : M' p = some (.dct []) := (r2.baseU (mo2 := .dct [])).1
    rw [hM', h1]
    refine ⟨by rw [← List.length_map (f := (·.1)), hmf]; exact hl15, ?_⟩
    rw [merged_nd _ [] (by rw [List.nil_append, hmf]; exact hnd), List.nil_append]
    refine hp _ E' m' _ _ k1 hm1 ?_
    refine Rel.chg (ds := .ref p :: ps.map (·.2)) (os := .k [] [] :: os) (M' := um M' p (.dct (kr.zip (ps.map (·.2))))) r3 (by simp [h2]) [.ref p] [.k kr os] fun F hF => ?_
    cases hF with
    | cons g1 g2 g3 =>
      rename_i G1 G2
      cases g1 with
      | k q1 q2 q3 q4 =>
        have hn : p ∉ G2 := fun z => g3 p List.mem_cons_self z
        refine ⟨(p :: G2) ++ [], .cons (.k um_same hlz (g2.fr fun b hb => um_ne fun z => hn (by rw [← z]; exact hb)) hn) .nil Dis.nil', fun b hb hnb => um_ne fun z => hnb (by rw [z]; simp), fun b hb => .inl ?_⟩
        simp at hb
        rcases hb with rfl | hb
        · simp
        · simp [hb]
  · obtain ⟨φ, F, w⟩ := r'
    exact ⟨φ, F, w.val, w.emp, w.pen, w.dis, w.dsp, fun a mo e => w.bas a mo (by
      have z : a ≠ p := fun z => by rw [z, hB] at e; cases e
      rw [um_ne z]
      exact e)⟩⟩
end
end B

/-! B: backwards; nothing is claimed; embeddings by types -/
namespace B
open PySem PySem.Spec PyProof.Rows L2 DL
section
variable {α A : Type} {X : Cx} {W : WX'} {a e : Expr} {E : Env} {κ : O → Option α → Prop} {κE : O → Env → Option α → Prop} {ξ : Xi α} {m : Option α} {pos p p1 p2 p3 : Pos} {kp : List Nat} {T : Tg α}
theorem bk_rev {j} (h : BK X W a E (fun o m1 => ∃ xs : List D, AsIs o xs ∧ κ (.v (.lst xs.reverse)) m1) m) : BK X W (.Subscript a (.Slice none none (some (.UnaryOp .USub (.Constant (.int 1) j p1) p2)) p3) pos) E κ m :=
  bk_of (ej_rev bE_j) fun fin ρ B M pd po P PX r hm hp => h fin ρ B M pd po _ PX r hm fun o m1 d ⟨xs, h1, k⟩ hm1 v => by
    try dsimp only
    rw [asL_lst (h1 M d v)]
    exact hp _ m1 _ k hm1 (VM.v _)
theorem ek_rev {j} (h : EK X W a E (fun o E1 m1 => ∃ xs : List D, AsIs o xs ∧ κE (.v (.lst xs.reverse)) E1 m1) ξ m) : EK X W (.Subscript a (.Slice none none (some (.UnaryOp .USub (.Constant (.int 1) j p1) p2)) p3) pos) E κE ξ m :=
  fun fin ρ B M pd po P PX r hm hp hx => ⟨_, ej_rev bE_j, h fin ρ B M pd po _ PX r hm (fun o E1 m1 d M1 ⟨xs, h1, k⟩ hm1 r1 => by
    try dsimp only
    rw [asL_lst (h1 M1 d r1.top)]
    exact hp _ E1 m1 _ M1 k hm1 (r1.drop1.v _)) hx⟩
/-- an own list, backwards -/
theorem ek_revM {j} (ed : A → D) (h : EK X W a E (fun o E1 m1 => ∃ xs : List A, AsIs o (xs.map ed) ∧ κE (lO ed xs.reverse) E1 m1) ξ m) : EK X W (.Subscript a (.Slice none none (some (.UnaryOp .USub (.Constant (.int 1) j p1) p2)) p3) pos) E κE ξ m :=
  fun fin ρ B M pd po P PX r hm hp hx => ⟨_, ej_revM bE_j, h fin ρ B M pd po _ PX r hm (fun o E1 m1 d M1 ⟨xs, h1, k⟩ hm1 r1 => by
    try dsimp only
    rw [asL_lst (h1 M1 d r1.top)]
    intro b hb
    refine hp _ E1 m1 _ _ k hm1 ?_
    refine Rel.chg (ds := []) (os := []) (ds' := [.ref b]) (os' := [lO ed xs.reverse]) (M' := um M1 b (.lst ((xs.map ed).reverse))) r1.drop1 rfl fun F hF => ?_
    cases hF
    refine ⟨[b] ++ [], .cons (lO_or (by rw [um_same, List.map_reverse])) .nil Dis.nil', fun c hc _ => um_ne fun z => hc (by rw [z]; exact hb), fun c hc => by simp at hc; exact .inr (by rw [hc]; exact hb)⟩) hx⟩
theorem sk_none {s : Stmt} : SK X W kp s E T (none : Option α) := fun _ _ _ _ _ _ h => nomatch h
theorem lk_none {s : List Stmt} : LK X W kp s E T (none : Option α) := fun _ _ _ _ _ _ h => nomatch h
theorem ek_none : EK X W e E κE ξ (none : Option α) := fun _ _ _ _ _ _ _ _ _ h => nomatch h
/-- a slot is forgotten -/
theorem lk_drop (E' : Env) {s : List Stmt} (h : LK X W kp s E' T m) (l : leE E' E := by exact ⟨rfl, rfl⟩) : LK X W kp s E T m := lk_le h l
end
abbrev eT {A : Type} (e : A → D) : List A → D := fun xs => .tup (xs.map e)
abbrev eL {A : Type} (e : A → D) : List A → D := fun xs => .lst (xs.map e)
abbrev eP2 {A B : Type} (e : A → D) (f : B → D) : A × B → D := fun p => .tup [e p.1, f p.2]
abbrev eP3 {A B C : Type} (e : A → D) (f : B → D) (g : C → D) : A × B × C → D := fun p => .tup [e p.1, f p.2.1, g p.2.2]
abbrev eP4 {A B C G : Type} (e : A → D) (f : B → D) (g : C → D) (h : G → D) : A × B × C × G → D := fun p => .tup [e p.1, f p.2.1, g p.2.2.1, h p.2.2.2]
abbrev eS {A : Type} (e : A → D) : List A → D := fun xs => .scr (xs.map e)
abbrev eN : Unit → D := fun _ => .non
abbrev eD : D → D := fun d => d
end B

/-! B: records that stay, pairs of a walk, comprehensions of a bounded length -/
namespace B
open PySem PySem.Spec PyProof.Rows L2 DL
section
variable {α A : Type} {X : Cx} {W : WX'} {a b e : Expr} {es rest : List Expr} {E : Env} {κ : O → Option α → Prop} {κE : O → Env → Option α → Prop} {ξ : Xi α} {m : Option α} {pos p p1 p2 p3 : Pos} {kp : List Nat} {T : Tg α} {rD : RD2}
/-- a record that stays, read at a key -/
theorem li_rz {ks : List Key} {ds : List D} {x : Str} {d : D} (j : Nat) (hj : ixOf ks (.inr x) = some j := by decide +kernel) (hl : ks.length = ds.length := by rfl) (hd : ds[j]? = some d := by rfl) : LookIs (.v (.dct (ks.zip ds))) (.str x) (some d) := fun M t v => by
  rw [li_rv M t v, (lkg_zip hl hj).1, hd]
theorem bk_dgetS (hu : X.A.units + 1 < cLine) (h : BK X W a E (fun t m1 => BK X W b E (fun q m2 => ∃ (y z : D), q = .v y ∧ LookIs t y (some z) ∧ κ (.v z) m2) m1) m) (hs : NoSl b := by exact fun _ _ => rfl) : BK X W (.Subscript a b pos) E κ m :=
  bk_of (ej_dgetG hu bE_j bE_j hs) fun fin ρ B M pd po P PX r hm hp => h fin ρ B M pd po _ PX r hm fun t m1 d k1 hm1 v1 => k1 fin ρ B M pd po _ PX r hm1 fun q m2 d2 ⟨y, z, e1, e3, k⟩ hm2 v2 => by
    subst e1
    rw [v2.ofV]
    show (match look M d y with
      | some (some z) => P z M
      | _ => False)
    rw [e3 M d v1]
    exact hp _ _ _ k hm2 (VM.v _)
/-- `and`, its second part with effects that come to nothing -/
theorem ek_andO (E0 : Env) (h : EK X W a E (fun o E1 m1 => ∃ (x : Bool) (mb : Option Bool) (k : Bool → Option α), o = .v (.bl x) ∧ m1 = (if x then mb else some false).bind k ∧ leE E0 E1 ∧
      (x = true → EK X W (.BoolOp .And (b :: rest) pos) E1 (fun p E2 m2 => ∃ y, p = .v (.bl y) ∧ m2 = some y ∧ leE E0 E2) (fun _ _ _ _ => False) mb) ∧ ∀ y, κE (.v (.bl y)) E0 (k y)) ξ m) : EK X W (.BoolOp .And (a :: b :: rest) pos) E κE ξ m := by
  exact fun fin ρ B M pd po P PX r hm hp hx => ⟨_, ej_and bE_j bE_j, h fin ρ B M pd po _ PX r hm (fun o E1 m1 d M1 ⟨x, mb, k, e1, e2, l0, t, kn⟩ hm1 r1 => by
    subst e1 e2
    obtain ⟨rfl, r2⟩ := r1.ofV
    cases x with
    | true =>
      rw [if_pos rfl] at hm1
      cases hb : mb with
      | none => rw [hb] at hm1; cases hm1
      | some ys =>
        rw [hb] at hm1
        refine t rfl ys ρ B M1 pd po P PX r2 hb (fun p E2 m2 d2 M2 ⟨y, e3, e4, l2⟩ hm2 r3 => ?_) fun _ _ _ _ _ z => z.elim
        rw [e4] at hm2
        cases hm2
        exact hp p _ _ d2 M2 (by rw [e3]; exact kn _) hm1 (r3.le (leE_ok l2))
    | false =>
      rw [if_neg Bool.false_ne_true] at hm1
      exact hp _ _ _ _ M1 (kn false) hm1 ((r2.v _).le (leE_ok l0))) hx⟩
theorem ek_orO (E0 : Env) (h : EK X W a E (fun o E1 m1 => ∃ (x : Bool) (mb : Option Bool) (k : Bool → Option α), o = .v (.bl x) ∧ m1 = (if x then some true else mb).bind k ∧ leE E0 E1 ∧
      (x = false → EK X W (.BoolOp .Or (b :: rest) pos) E1 (fun p E2 m2 => ∃ y, p = .v (.bl y) ∧ m2 = some y ∧ leE E0 E2) (fun _ _ _ _ => False) mb) ∧ ∀ y, κE (.v (.bl y)) E0 (k y)) ξ m) : EK X W (.BoolOp .Or (a :: b :: rest) pos) E κE ξ m := by
  exact fun fin ρ B M pd po P PX r hm hp hx => ⟨_, ej_or bE_j bE_j, h fin ρ B M pd po _ PX r hm (fun o E1 m1 d M1 ⟨x, mb, k, e1, e2, l0, t, kn⟩ hm1 r1 => by
    subst e1 e2
    obtain ⟨rfl, r2⟩ := r1.ofV
    cases x with
    | false =>
      rw [if_neg Bool.false_ne_true] at hm1
      cases hb : mb with
      | none => rw [hb] at hm1; cases hm1
      | some ys =>
        rw [hb] at hm1
        refine t rfl ys ρ B M1 pd po P PX r2 hb (fun p E2 m2 d2 M2 ⟨y, e3, e4, l2⟩ hm2 r3 => ?_) fun _ _ _ _ _ z => z.elim
        rw [e4] at hm2
        cases hm2
        exact hp p _ _ d2 M2 (by rw [e3]; exact kn _) hm1 (r3.le (leE_ok l2))
    | true =>
      rw [if_pos rfl] at hm1
      exact hp _ _ _ _ M1 (kn true) hm1 ((r2.v _).le (leE_ok l0))) hx⟩
end
def enumI {A : Type} (xs : List A) : List (Int × A) := xs.zipIdx.map fun p => ((p.2 : Int), p.1)
theorem enumI_map {A : Type} {ed : A → D} {xs : List A} : ((xs.map ed).zipIdx.map fun q => D.tup [.int (q.2 : Nat), q.1]) = (enumI xs).map (eP2 D.int ed) := by
  unfold enumI
  rw [List.zipIdx_map, List.map_map, List.map_map]
  rfl
/-! ### comprehensions over what is not too long -/
def szO {A : Type} (xs : List A) : Option Unit := if xs.length ≤ sizeLine then some () else none
def mapZ {A β : Type} (f : A → Option β) (xs : List A) : Option (List β) := if xs.length ≤ sizeLine then mapO f xs else none
def mapSZ {A β S : Type} (f : S → A → Option (β × S)) (xs : List A) (s : S) : Option (List β × S) := if xs.length ≤ sizeLine then mapS f xs s else none
def filZ {A β : Type} (c : A → Option Bool) (f : A → Option β) (xs : List A) : Option (List β) := if xs.length ≤ sizeLine then filO c f xs else none
section
variable {α S A β : Type} {X : Cx} {W : WX'} {elt tg iter iff : Expr} {ifs : List Expr} {scope : Scope} {own : List (Str × Nat)} {pos : Pos} {g : TG} {dg : D → Ev → (Ev → Prop) → Prop} {E : Env} {κE : O → Env → Option α → Prop} {ξ : Xi α} {m : Option α}
theorem ek_lcZ (E0 : Env) (ed : A → D) (eb : β → D) (hc : X.calm = true) (hN : X.N.Nodup) (ok : BlkOk X.N X.env.scope scope own) (ht0 : TgOk X.K g (own.map (·.2)) dg)
    (hg : ∀ (s : Shared) (H : Hp) (C : Addr) (cl : List (Str × Addr)) (fp : List Addr), PG (X.blk s H scope (compEnvC scope cl C X.env) fp) tg g)
    (hv : ∀ i, i ∈ own.map (·.2) → gE E0 i = none)
    (h : IK X W tg iter E (fun ds E1 m1 => ∃ (xs : List A) (f : A → Option β) (k : List β → Option α) (E2 : A → Env), ds = xs.map ed ∧ leE E0 E1 ∧ m1 = (mapZ f xs).bind k ∧
      (∀ x, DgOk dg (own.map (·.2)) (ed x) E0 (E2 x)) ∧
      (∀ x (s1 : Shared) (H : Hp) (C : Addr) (cl : List (Str × Addr)) (fp : List Addr), EK (X.blk s1 H scope (compEnvC scope cl C X.env) fp) W0 elt (E2 x) (fun o E3 m3 => ∃ y, o = .v (eb y) ∧ m3 = some y ∧ leE E0 E3) (fun _ _ _ _ => False) (f x)) ∧
      (∀ x, leE E0 (E2 x)) ∧ (∀ x, leE (E2 x) (E2 x)) ∧
      ∀ ys, κE (.v (.lst (ys.map eb))) E0 (k ys)) ξ m)
    (hs : ∀ x, foldedSetIterable iter X.env x = pure x := by intro _; rfl) : EK X W (.ListComp elt [⟨tg, iter, [], 0⟩] scope pos) E κE ξ m := by
  refine ek_lcO E0 ed eb hc hN ok ht0 hg hv ?_ hs
  refine fun fin ρ B M pd po P PX r hm hp hx => h fin ρ B M pd po P PX r hm (fun ds E' m' M' ⟨xs, f, k, E2, e1, l0, e2, hd, he, hle, hle2, kn⟩ hm' r' => ?_) hx
  by_cases hl : xs.length ≤ sizeLine
  · refine hp ds E' m' M' ⟨xs, f, k, E2, e1, l0, ?_, hl, hd, he, hle, hle2, kn⟩ hm' r'
    rw [e2]
    unfold mapZ
    rw [if_pos hl]
  · rw [e2] at hm'
    unfold mapZ at hm'
    rw [if_neg hl] at hm'
    cases hm'
theorem ek_lcSZ (Es : S → Env) (ed : A → D) (eb : β → D) (hc : X.calm = true) (hN : X.N.Nodup) (ok : BlkOk X.N X.env.scope scope own) (ht0 : TgOk X.K g (own.map (·.2)) dg)
    (hg : ∀ (s : Shared) (H : Hp) (C : Addr) (cl : List (Str × Addr)) (fp : List Addr), PG (X.blk s H scope (compEnvC scope cl C X.env) fp) tg g)
    (hv : ∀ s i, i ∈ own.map (·.2) → gE (Es s) i = none)
    (h : IK X W tg iter E (fun ds E1 m1 => ∃ (xs : List A) (s0 : S) (f : S → A → Option (β × S)) (k : List β × S → Option α) (E2 : S → A → Env), ds = xs.map ed ∧ leE (Es s0) E1 ∧ m1 = (mapSZ f xs s0).bind k ∧
      (∀ s x, DgOk dg (own.map (·.2)) (ed x) (Es s) (E2 s x)) ∧
      (∀ s x (s1 : Shared) (H : Hp) (C : Addr) (cl : List (Str × Addr)) (fp : List Addr), EK (X.blk s1 H scope (compEnvC scope cl C X.env) fp) W0 elt (E2 s x) (fun o E3 m3 => ∃ y s', o = .v (eb y) ∧ m3 = some (y, s') ∧ leE (Es s') E3) (fun _ _ _ _ => False) (f s x)) ∧
      (∀ s x, leE (Es s) (E2 s x)) ∧ (∀ s x, leE (E2 s x) (E2 s x)) ∧
      ∀ ys s, κE (.v (.lst (ys.map eb))) (Es s) (k (ys, s))) ξ m)
    (hs : ∀ x, foldedSetIterable iter X.env x = pure x := by intro _; rfl) : EK X W (.ListComp elt [⟨tg, iter, [], 0⟩] scope pos) E κE ξ m := by
  refine ek_lcS Es ed eb hc hN ok ht0 hg hv ?_ hs
  refine fun fin ρ B M pd po P PX r hm hp hx => h fin ρ B M pd po P PX r hm (fun ds E' m' M' ⟨xs, s0, f, k, E2, e1, l0, e2, hd, he, hle, hle2, kn⟩ hm' r' => ?_) hx
  by_cases hl : xs.length ≤ sizeLine
  · refine hp ds E' m' M' ⟨xs, s0, f, k, E2, e1, l0, ?_, hl, hd, he, hle, hle2, kn⟩ hm' r'
    rw [e2]
    unfold mapSZ
    rw [if_pos hl]
  · rw [e2] at hm'
    unfold mapSZ at hm'
    rw [if_neg hl] at hm'
    cases hm'
theorem ek_lcF (E0 : Env) (ed : A → D) (eb : β → D) (hc : X.calm = true) (hN : X.N.Nodup) (ok : BlkOk X.N X.env.scope scope own) (ht0 : TgOk X.K g (own.map (·.2)) dg)
    (hg : ∀ (s : Shared) (H : Hp) (C : Addr) (cl : List (Str × Addr)) (fp : List Addr), PG (X.blk s H scope (compEnvC scope cl C X.env) fp) tg g)
    (hv : ∀ i, i ∈ own.map (·.2) → gE E0 i = none)
    (h : IK X W tg iter E (fun ds E1 m1 => ∃ (xs : List A) (c : A → Option Bool) (f : A → Option β) (k : List β → Option α) (E2 : A → Env), ds = xs.map ed ∧ leE E0 E1 ∧ m1 = (filZ c f xs).bind k ∧
      (∀ x, DgOk dg (own.map (·.2)) (ed x) E0 (E2 x)) ∧
      (∀ x (s1 : Shared) (H : Hp) (C : Addr) (cl : List (Str × Addr)) (fp : List Addr), TK (X.blk s1 H scope (compEnvC scope cl C X.env) fp) W0 iff (E2 x) (fun b E3 m3 => m3 = some b ∧ leE (E2 x) E3) (fun _ _ _ _ => False) (c x)) ∧
      (∀ x (s1 : Shared) (H : Hp) (C : Addr) (cl : List (Str × Addr)) (fp : List Addr), EK (X.blk s1 H scope (compEnvC scope cl C X.env) fp) W0 elt (E2 x) (fun o E3 m3 => ∃ y, o = .v (eb y) ∧ m3 = some y ∧ leE E0 E3) (fun _ _ _ _ => False) (f x)) ∧
      (∀ x, leE E0 (E2 x)) ∧
      ∀ ys, κE (.v (.lst (ys.map eb))) E0 (k ys)) ξ m)
    (hs : ∀ x, foldedSetIterable iter X.env x = pure x := by intro _; rfl) : EK X W (.ListComp elt [⟨tg, iter, [iff], 0⟩] scope pos) E κE ξ m := by
  refine ek_lc (S := Unit) (fun _ => E0) ed eb hc hN ok ht0 hg (fun _ => hv) ?_ hs
  refine fun fin ρ B M pd po P PX r hm hp hx => h fin ρ B M pd po P PX r hm (fun ds E' m' M' ⟨xs, c, f, k, E2, e1, l0, e2, hd, hc2, he, hle, kn⟩ hm' r' => ?_) hx
  by_cases hl : xs.length ≤ sizeLine
  · refine hp ds E' m' M' ⟨xs, (), fun s x => (c x).map fun b => (b, s), fun s x => (f x).map fun y => (y, s), fun p => k p.1, fun _ => E2, e1, l0, ?_, hl, fun _ => hd, fun s x s1 H C cl fp => ck_one ?_, fun s x s1 H C cl fp => ?_, fun _ => hle, fun ys _ => kn ys⟩ hm' r'
    · rw [compF_filO, e2]
      unfold filZ
      rw [if_pos hl]
      cases filO c f xs <;> rfl
    · intro fin2 ρ2 B2 M2 pd2 po2 P2 PX2 r2 hm2 hp2 hx2
      have hm2 : (c x).map (fun b => (b, s)) = some fin2 := hm2
      cases hcx : c x with
      | none => rw [hcx] at hm2; cases hm2
      | some b =>
        rw [hcx] at hm2
        cases hm2
        exact hc2 x s1 H C cl fp b ρ2 B2 M2 pd2 po2 P2 PX2 r2 hcx (fun b' E3 m3 M3 ⟨e3, l3⟩ hm3 r3 => by
          rw [e3] at hm3
          cases hm3
          exact hp2 _ E3 (some (b, s)) M3 ⟨s, rfl, l3⟩ rfl r3) fun _ _ _ _ _ z => z.elim
    · intro fin2 ρ2 B2 M2 pd2 po2 P2 PX2 r2 hm2 hp2 hx2
      have hm2 : (f x).map (fun y => (y, s)) = some fin2 := hm2
      cases hfx : f x with
      | none => rw [hfx] at hm2; cases hm2
      | some b =>
        rw [hfx] at hm2
        cases hm2
        exact he x s1 H C cl fp b ρ2 B2 M2 pd2 po2 P2 PX2 r2 hfx (fun o E3 m3 d3 M3 ⟨y, e3, e4, l3⟩ hm3 r3 => by
          rw [e4] at hm3
          cases hm3
          exact hp2 o E3 (some (b, s)) d3 M3 ⟨b, s, e3, rfl, l3⟩ rfl r3) fun _ _ _ _ _ z => z.elim
  · rw [e2] at hm'
    unfold filZ at hm'
    rw [if_neg hl] at hm'
    cases hm'
end
end B

/-! B: displays with a star -/
namespace B
open PySem PySem.Spec PyProof.Rows L2 DL
section
variable {α A : Type} {X : Cx} {W : WX'} {es : List Expr} {E : Env} {κE : O → Env → Option α → Prop} {ξ : Xi α} {m : Option α} {pos : Pos}
theorem addL_at {pre ys z : List A} (h : addL pre ys = some z) : z = pre ++ ys ∧ z.length ≤ sizeLine := by
  unfold addL at h
  split at h
  · rename_i hl
    cases h
    exact ⟨rfl, by rw [List.length_append]; exact hl⟩
  · cases h
theorem ek_lstS (ed : A → D) (k : AK X W es E (fun as E1 m1 => ∃ (pre ys : List A) (g : List A → Option α), as.map (·.2) = (pre ++ ys).map (fun x => .v (ed x)) ∧ m1 = (addL pre ys).bind g ∧ ∀ z, κE (.v (.lst (z.map ed))) E1 (g z)) ξ m) : EK X W (.List es pos) E κE ξ m := by
  refine fun fin ρ B M pd po P PX r hm hp hx => ek_lst (κE := fun o E1 m1 => m1 = some fin → ∃ m2, κE o E1 m2 ∧ m2 = some fin) (ξ := fun C fs E1 m1 => ξ C fs E1 m1) ?_ fin ρ B M pd po P PX r hm (fun o E' m' d M' hk hm' r' => by
    obtain ⟨m2, k2, h2⟩ := hk hm'
    exact hp o E' m2 d M' k2 h2 r') hx
  refine fun fin2 ρ2 B2 M2 pd2 po2 P2 PX2 r2 hm2 hp2 hx2 => k fin2 ρ2 B2 M2 pd2 po2 P2 PX2 r2 hm2 (fun as E1 m1 ds M1 ⟨pre, ys, g, e1, e2, kn⟩ hm1 r1 hl ho => ?_) hx2
  have hfin : fin2 = fin := by rw [hm] at hm2; cases hm2; rfl
  subst hfin
  subst e2
  cases hz : addL pre ys with
  | none => rw [hz] at hm1; cases hm1
  | some z =>
    obtain ⟨rfl, hlz⟩ := addL_at hz
    refine hp2 as E1 _ ds M1 ⟨(pre ++ ys).map ed, by rw [e1, List.map_map]; rfl, by rw [List.length_map]; exact hlz, fun _ => ⟨g (pre ++ ys), kn _, by rw [hz] at hm1; exact hm1⟩⟩ hm1 r1 hl ho
theorem ek_tupS {x1} (ed : A → D) (k : AK X W es E (fun as E1 m1 => ∃ (pre ys : List A) (g : List A → Option α), as.map (·.2) = (pre ++ ys).map (fun x => .v (ed x)) ∧ m1 = (addL pre ys).bind g ∧ ∀ z, κE (.v (.tup (z.map ed))) E1 (g z)) ξ m) : EK X W (.Tuple es x1 pos) E κE ξ m := by
  refine fun fin ρ B M pd po P PX r hm hp hx => ek_tup (κE := fun o E1 m1 => m1 = some fin → ∃ m2, κE o E1 m2 ∧ m2 = some fin) (ξ := fun C fs E1 m1 => ξ C fs E1 m1) ?_ fin ρ B M pd po P PX r hm (fun o E' m' d M' hk hm' r' => by
    obtain ⟨m2, k2, h2⟩ := hk hm'
    exact hp o E' m2 d M' k2 h2 r') hx
  refine fun fin2 ρ2 B2 M2 pd2 po2 P2 PX2 r2 hm2 hp2 hx2 => k fin2 ρ2 B2 M2 pd2 po2 P2 PX2 r2 hm2 (fun as E1 m1 ds M1 ⟨pre, ys, g, e1, e2, kn⟩ hm1 r1 hl ho => ?_) hx2
  have hfin : fin2 = fin := by rw [hm] at hm2; cases hm2; rfl
  subst hfin
  subst e2
  cases hz : addL pre ys with
  | none => rw [hz] at hm1; cases hm1
  | some z =>
    obtain ⟨rfl, hlz⟩ := addL_at hz
    refine hp2 as E1 _ ds M1 ⟨(pre ++ ys).map ed, by rw [e1, List.map_map]; rfl, by rw [List.length_map]; exact hlz, fun _ => ⟨g (pre ++ ys), kn _, by rw [hz] at hm1; exact hm1⟩⟩ hm1 r1 hl ho
end
theorem star_eq {A : Type} {ed : A → D} {pre : List (Option Nat × O)} {ps ys : List A} (h : pre.map (fun q : Option Nat × O => q.2) = ps.map fun x => O.v (ed x)) : (pre ++ ((ys.map ed).map (fun x => ((none : Option Nat), O.v x)) ++ [])).map (fun q : Option Nat × O => q.2) = (ps ++ ys).map fun x => O.v (ed x) := by
  rw [List.map_append, h, List.append_nil, List.map_append, List.map_map, List.map_map]
  rfl
theorem ej_bltT {X : Cx} {W : WX'} {x : Str} {T : String} {pos : Pos} (hm : X.mg x = none) (hg : Gl X x := by rfl) (hv : bootBuiltins x = some (.type T) := by decide +kernel) (hn : x ≠ "__name__" := by decide) (hd : (x == ("__debug__" : Str)) = false := by decide) : EJ X W (.Name x pos) (dC (.ty T)) :=
  ej_c (pe_bltn hg hm hv (v := .ty T) rfl hn hd) fun _ _ => .ty T
def sgns (z : Str) : List Str := z.cps.toList.map fun c => ⟨#[c]⟩
theorem signs_map {z : Str} : (z.cps.toList.map fun c => D.str ⟨#[c]⟩) = (sgns z).map D.str := by
  unfold sgns
  rw [List.map_map]
  rfl
theorem zip_map {A B : Type} {ea : A → D} {eb : B → D} : ∀ {xs : List A} {ys : List B}, (((xs.map ea).zip (ys.map eb)).map fun q => D.tup [q.1, q.2]) = (xs.zip ys).map (eP2 ea eb)
  | [], _ => rfl
  | _ :: _, [] => rfl
  | x :: xs, y :: ys => by
    show D.tup [ea x, eb y] :: _ = eP2 ea eb (x, y) :: _
    exact congrArg _ zip_map
def dctZ {A κ ν : Type} [DecidableEq κ] (f : A → Option (κ × ν)) (xs : List A) : Option (List (κ × ν)) := if xs.length ≤ sizeLine then dctF f xs [] else none
section
variable {α A κ ν : Type} {X : Cx} {W : WX'} {kx vx tg iter : Expr} {scope : Scope} {own : List (Str × Nat)} {pos : Pos} {g : TG} {dg : D → Ev → (Ev → Prop) → Prop} {E : Env} {κE : O → Env → Option α → Prop} {ξ : Xi α} {m : Option α}
theorem ek_dcZ [DecidableEq κ] (E0 : Env) (ed : A → D) {ek : κ → Key} {eD : κ → D} (hk : KeyE ek eD) (ev : ν → D) (hc : X.calm = true) (hN : X.N.Nodup) (ok : BlkOk X.N X.env.scope scope own) (ht0 : TgOk X.K g (own.map (·.2)) dg)
    (hg : ∀ (s : Shared) (H : Hp) (C : Addr) (cl : List (Str × Addr)) (fp : List Addr), PG (X.blk s H scope (compEnvC scope cl C X.env) fp) tg g)
    (hv : ∀ i, i ∈ own.map (·.2) → gE E0 i = none)
    (h : IK X W tg iter E (fun ds E1 m1 => ∃ (xs : List A) (f : A → Option (κ × ν)) (k : List (κ × ν) → Option α) (E2 : A → Env), ds = xs.map ed ∧ leE E0 E1 ∧ m1 = (dctZ f xs).bind k ∧
      (∀ x, DgOk dg (own.map (·.2)) (ed x) E0 (E2 x)) ∧
      (∀ x (s1 : Shared) (H : Hp) (C : Addr) (cl : List (Str × Addr)) (fp : List Addr), BK (X.blk s1 H scope (compEnvC scope cl C X.env) fp) W0 kx (E2 x) (fun o m2 => ∃ y, o = .v (eD y) ∧ ∀ (s2 : Shared) (H' : Hp) (C' : Addr) (cl' : List (Str × Addr)) (fp' : List Addr), BK (X.blk s2 H' scope (compEnvC scope cl' C' X.env) fp') W0 vx (E2 x) (fun q m3 => ∃ v, q = .v (ev v) ∧ m3 = some (y, v)) m2) (f x)) ∧
      (∀ x, leE E0 (E2 x)) ∧
      ∀ ys, κE (kO ek ev ys) E0 (k ys)) ξ m)
    (hs : ∀ x, foldedSetIterable iter X.env x = pure x := by intro _; rfl) : EK X W (.DictComp kx vx [⟨tg, iter, [], 0⟩] scope pos) E κE ξ m := by
  refine ek_dc E0 ed hk ev hc hN ok ht0 hg hv ?_ hs
  refine fun fin ρ B M pd po P PX r hm hp hx => h fin ρ B M pd po P PX r hm (fun ds E' m' M' ⟨xs, f, k, E2, e1, l0, e2, hd, he, hle, kn⟩ hm' r' => ?_) hx
  by_cases hl : xs.length ≤ sizeLine
  · refine hp ds E' m' M' ⟨xs, f, k, E2, e1, l0, ?_, hl, hd, he, hle, kn⟩ hm' r'
    rw [e2]
    unfold dctZ
    rw [if_pos hl]
  · rw [e2] at hm'
    unfold dctZ at hm'
    rw [if_neg hl] at hm'
    cases hm'
end
end B

/-! B: chains as tests, pop -/
namespace B
open PySem PySem.Spec PyProof.Rows L2 DL
section
variable {α : Type} {X : Cx} {W : WX'} {e a b c : Expr} {es : List Expr} {E : Env} {κ : O → Option α → Prop} {κE : O → Env → Option α → Prop} {κT : Bool → Env → Option α → Prop} {ξ : Xi α} {m : Option α} {pos : Pos} {rD rD' : RD2}
theorem chain_go {f f' : Int → Int → Bool} (q : ∀ i j M P, P (.bl (f i j)) M → rD (.int i) (.int j) M P) (q' : ∀ i j M P, P (.bl (f' i j)) M → rD' (.int i) (.int j) M P)
    (k : BK X W a E (fun o m1 => BK X W b E (fun p m2 => ∃ i j k, o = .v (.int i) ∧ p = .v (.int j) ∧ VT X W c E (.int k) ∧ κ (.v (.bl (f i j && f' j k))) m2) m1) m) :
    ∀ fin ρ B M pd po P PX, Rel E ρ B M pd po → m = some fin → (∀ o m' d, κ o m' → m' = some fin → VM M d o → P d M) → dChain rD rD' (bE X W a) (bE X W b) (bE X W c) ρ M P PX :=
  fun fin ρ B M pd po P PX r hm hp => k fin ρ B M pd po _ PX r hm fun o m1 d k1 hm1 v1 => k1 fin ρ B M pd po _ PX r hm1 fun p m2 d2 ⟨i, j, l, e1, e2, vt, k2⟩ hm2 v2 => by
    subst e1 e2
    rw [v1.ofV, v2.ofV]
    refine q i j M _ ?_
    show (match D.bl (f i j) with
      | .bl true => bE X W c ρ M (fun w M4 => rD' (.int j) w M4 P) PX
      | .bl false => P (.bl false) M
      | _ => False)
    cases hf : f i j with
    | true =>
      rw [hf, Bool.true_and] at k2
      exact vt (κ := fun o m' => o = .v (.int l) ∧ m' = m2) ⟨rfl, rfl⟩ fin ρ B M pd po _ PX r hm2 fun o m3 d3 ⟨e3, e4⟩ hm3 v3 => by
        subst e3 e4
        rw [v3.ofV]
        exact q' j l M P (hp _ _ _ k2 hm2 (VM.v _))
    | false =>
      rw [hf, Bool.false_and] at k2
      exact hp _ _ _ k2 hm2 (VM.v _)
theorem chainj {K : Fz} {r r' : R2} {da db dc : DE} (j : R2J K r rD) (j' : R2J K r' rD') : ∀ σ H Q, liE K W (dChain rD rD' da db dc) σ H Q → tChain r r' (liE K W da) (liE K W db) (liE K W dc) σ H Q := fun σ H Q ⟨ρ, M, Hf, P, PX, s, d, fe, fx⟩ => ⟨ρ, M, Hf, _, PX, s, d, fun x M1 v Hf1 H1 d1 e1 m1 r1 => ⟨ρ, M1, Hf1, _, PX, s.go e1 m1, d1, fun y M2 u Hf2 H2 d2 e2 m2 r2 => j m2 (r1.mono e2) r2 d2 fun z M3 w Hf3 H3 d3 e3 m3 r3 => by
    split at d3
    · cases r3
      exact ⟨true, rfl, (if_pos rfl).mpr ⟨ρ, M3, Hf3, _, PX, ((s.go e1 m1).go e2 m2).go e3 m3, d3, fun t M4 w4 Hf4 H4 d4 e4 m4 r4 => j' m4 ((r2.mono e3).mono e4) r4 d4 (fe.go (((e1.trans e2).trans e3).trans e4)), ((fx.go e1).go e2).go e3⟩⟩
    · cases r3
      exact ⟨false, rfl, (if_neg Bool.false_ne_true).mpr (fe _ _ _ _ _ d3 ((e1.trans e2).trans e3) m3 (.bl _))⟩
    · exact d3.elim, fx.go e1⟩, fx⟩
theorem tj_leLe {da db dc : DE} (ha : EJ X W a da) (hb : EJ X W b db) (hc : EJ X W c dc) (hm : lastMarks [.LtE, .LtE] [b, c] = false := by with_unfolding_all rfl) : TJ X W (.Compare a [.LtE, .LtE] [b, c] pos) (dTst (dChain rLe rLe da db dc)) :=
  pt_weak (pt_chain op_le op_le ha hb hc hm) fun σ H Q ⟨ρ, M, Hf, P, PX, s, d, fe, fx⟩ => chainj (rj_i0 fun _ _ _ => .bl _) (rj_i0 fun _ _ _ => .bl _) _ _ _ (tstj σ H Q ⟨ρ, M, Hf, P, PX, s, d, fe, fx⟩)
theorem tj_leLt {da db dc : DE} (ha : EJ X W a da) (hb : EJ X W b db) (hc : EJ X W c dc) (hm : lastMarks [.LtE, .Lt] [b, c] = false := by with_unfolding_all rfl) : TJ X W (.Compare a [.LtE, .Lt] [b, c] pos) (dTst (dChain rLe rLt da db dc)) :=
  pt_weak (pt_chain op_le op_lt ha hb hc hm) fun σ H Q ⟨ρ, M, Hf, P, PX, s, d, fe, fx⟩ => chainj (rj_i0 fun _ _ _ => .bl _) (rj_i0 fun _ _ _ => .bl _) _ _ _ (tstj σ H Q ⟨ρ, M, Hf, P, PX, s, d, fe, fx⟩)
theorem tk_chain {f f' : Int → Int → Bool} (h : ∀ da db dc, EJ X W a da → EJ X W b db → EJ X W c dc → TJ X W e (dTst (dChain rD rD' da db dc))) (q : ∀ i j M P, P (.bl (f i j)) M → rD (.int i) (.int j) M P) (q' : ∀ i j M P, P (.bl (f' i j)) M → rD' (.int i) (.int j) M P)
    (k : BK X W a E (fun o m1 => BK X W b E (fun p m2 => ∃ i j k, o = .v (.int i) ∧ p = .v (.int j) ∧ VT X W c E (.int k) ∧ κT (f i j && f' j k) E m2) m1) m) : TK X W e E κT ξ m :=
  fun fin ρ B M pd po P PX r hm hp hx => ⟨_, h _ _ _ bE_j bE_j bE_j, chain_go (κ := fun o m' => ∃ t, o = .v (.bl t) ∧ κT t E m') (f := f) (f' := f') q q' (fun fin ρ B M pd po P PX r hm hp => k fin ρ B M pd po P PX r hm fun o m1 d k1 hm1 v1 => hp o m1 d (fun fin ρ B M pd po P PX r hm hp => k1 fin ρ B M pd po P PX r hm fun p m2 d ⟨i, j, l, e1, e2, vt, k2⟩ hm2 v2 => hp p m2 d ⟨i, j, l, e1, e2, vt, _, rfl, k2⟩ hm2 v2) hm1 v1)
    fin ρ B M pd po _ PX r hm fun o m1 d ⟨t, e1, k2⟩ hm1 v1 => by
      subst e1
      rw [v1.ofV]
      exact hp t E m1 M k2 hm1 r⟩
/-- a method without arguments -/
theorem ek_mB0 (i : Nat) (s : Option Nat) {o1 : O} {rM : D → List D → Mm → DP → Prop} {kD : D → Mm → Prop} (j : ∀ dx, EJ X W a dx → EJ X W e (dBM kD rM dx dNil)) (hr : Recv X W a E i s) (ho : getS E i s = some o1) (hk : ∀ M d F, OR M d o1 F → kD d M)
    (ms : MS rM o1 [] (fun z o1' m2 => κE (.v z) (putS E i s o1') m2) m) : EK X W e E κE ξ m :=
  fun fin ρ B M pd po P PX r hm hp hx => ⟨_, j _ bE_j, hr ρ B M pd po _ PX r fun d hd => by
    obtain ⟨d', F1, q1, q2, q3⟩ := r.foc ho
    obtain rfl := isAt_uq hd q1
    refine ⟨hk M d F1 q2, ?_⟩
    obtain ⟨z, o1', m2, k2, hm2, st⟩ := ms fin hm
    exact st M d F1 P q2 fun M' c => hp _ _ m2 _ M' k2 hm2 ((q3 M' o1' c).v z)⟩
/-- a slot's own thing goes on -/
theorem ek_mov (i : Nat) {x : Str} {o : O} (k : κE o (sE E i none) m) (hE : gE E i = some o := by rfl) (hN : X.N[i]? = some x := by rfl) (hv : Vis X.env.scope x := by first | exact Or.inl rfl | exact Or.inr (Or.inl rfl) | exact Or.inr (Or.inr rfl))
    (hd : (x == ("__debug__" : Str)) = false := by decide) (hcd : (x == ("__classdict__" : Str)) = false := by decide) : EK X W (.Name x pos) E κE ξ m :=
  fun fin ρ B M pd po P PX r hm hp hx => ⟨dVar i, ej_var i hN hv hd hcd, by
    obtain ⟨d, h1, r1⟩ := r.mov hE
    unfold dVar
    rw [show gt ρ i = some d from h1]
    exact hp o _ m d M k hm r1⟩
end
end B

/-! B: comprehensions whose value is stored at once -/
namespace B
open PySem PySem.Spec PyProof.Rows L2 DL
/-- an expression by a reading of a given sort -/
def EKJ {α : Type} (J : DE → Prop) (E : Env) (κ : O → Env → Option α → Prop) (ξ : Xi α) (m : Option α) : Prop :=
  ∀ fin ρ B M pd po P PX, Rel E ρ B M pd po → m = some fin →
    (∀ o E' m' d M', κ o E' m' → m' = some fin → Rel E' ρ B M' (d :: pd) (o :: po) → P d M') →
    (∀ C fs E' m' M', ξ C fs E' m' → m' = some fin → Rel E' ρ B M' pd po → PX C fs M') → ∃ d : DE, J d ∧ d ρ M P PX
section
variable {α S A β κ ν : Type} {J : DE → Prop} {X : Cx} {W : WX'} {elt kx vx tg iter iff : Expr} {ifs : List Expr} {scope : Scope} {own : List (Str × Nat)} {pos : Pos} {g : TG} {dg : D → Ev → (Ev → Prop) → Prop} {E : Env} {κE : O → Env → Option α → Prop} {ξ : Xi α} {m : Option α}

theorem jk_lc (hJ : ∀ (di : DI) (tt : DT) (te : DE), IJ X W tg iter di → (∀ (s : Shared) (H : Hp) (C : Addr) (cl : List (Str × Addr)) (fp : List Addr), PTs (X.blk s H scope (compEnvC scope cl C X.env) fp) ifs (liT X.K W0 tt)) → (∀ (s : Shared) (H : Hp) (C : Addr) (cl : List (Str × Addr)) (fp : List Addr), EJ (X.blk s H scope (compEnvC scope cl C X.env) fp) W0 elt te) → J (dLc di dg tt te (own.map (·.2)))) (Es : S → Env) (ed : A → D) (eb : β → D) (hc : X.calm = true) (hN : X.N.Nodup) (ok : BlkOk X.N X.env.scope scope own) (ht0 : TgOk X.K g (own.map (·.2)) dg)
    (hg : ∀ (s : Shared) (H : Hp) (C : Addr) (cl : List (Str × Addr)) (fp : List Addr), PG (X.blk s H scope (compEnvC scope cl C X.env) fp) tg g)
    (hv : ∀ s i, i ∈ own.map (·.2) → gE (Es s) i = none)
    (h : IK X W tg iter E (fun ds E1 m1 => ∃ (xs : List A) (s0 : S) (c : S → A → Option (Bool × S)) (f : S → A → Option (β × S)) (k : List β × S → Option α) (E2 : S → A → Env), ds = xs.map ed ∧ leE (Es s0) E1 ∧ m1 = (compF c f xs s0).bind k ∧ xs.length ≤ sizeLine ∧
      (∀ s x, DgOk dg (own.map (·.2)) (ed x) (Es s) (E2 s x)) ∧
      (∀ s x (s1 : Shared) (H : Hp) (C : Addr) (cl : List (Str × Addr)) (fp : List Addr), CK (X.blk s1 H scope (compEnvC scope cl C X.env) fp) ifs (E2 s x) (fun b E3 m3 => ∃ s', m3 = some (b, s') ∧ leE (E2 s' x) E3) (c s x)) ∧
      (∀ s x (s1 : Shared) (H : Hp) (C : Addr) (cl : List (Str × Addr)) (fp : List Addr), EK (X.blk s1 H scope (compEnvC scope cl C X.env) fp) W0 elt (E2 s x) (fun o E3 m3 => ∃ y s', o = .v (eb y) ∧ m3 = some (y, s') ∧ leE (Es s') E3) (fun _ _ _ _ => False) (f s x)) ∧
      (∀ s x, leE (Es s) (E2 s x)) ∧
      ∀ ys s, κE (.v (.lst (ys.map eb))) (Es s) (k (ys, s))) ξ m) : EKJ J E κE ξ m := fun fin ρ B M pd po P PX r hm hp hx =>
  ⟨dLc (bI X W tg iter) dg (fun ρ M P PX => ∀ s1 H C cl fp, bTs (X.blk s1 H scope (compEnvC scope cl C X.env) fp) W0 ifs ρ M P PX) (fun ρ M P PX => ∀ s1 H C cl fp, bE (X.blk s1 H scope (compEnvC scope cl C X.env) fp) W0 elt ρ M P PX) (own.map (·.2)),
    hJ _ _ _ bI_j (fun s H C cl fp => ⟨fun pins s' σ H' Q I ⟨ρ, M, Hf, P, PX, sr, h, fe, fx⟩ => bTs_j.run pins s' σ H' Q I ⟨ρ, M, Hf, P, PX, sr, h s H C cl fp, fe, fx⟩⟩)
      (fun s H C cl fp => ⟨fun pins s' σ H' Q I ⟨ρ, M, Hf, P, PX, sr, h, fe, fx⟩ => bE_j.run pins s' σ H' Q I ⟨ρ, M, Hf, P, PX, sr, h s H C cl fp, fe, fx⟩⟩),
    h fin ρ B M pd po _ PX r hm (fun ds E1 m1 M1 ⟨xs, s0, c, f, k, E2, e1, l0, e2, hl, hd, hck, hel, hle, kn⟩ hm1 r1 D hD => by
      subst e1 e2
      have hBD : B D = none := by
        cases q : B D with
        | none => rfl
        | some mo =>
          obtain ⟨φ, F, w⟩ := r1
          have := (w.bas D mo q).1
          rw [hD] at this
          cases this
      refine ⟨fun i M' => ∃ (s : S) (acc ys : List β) (s2 : S), acc.length ≤ i ∧ compF c f (xs.drop i) s = some (ys, s2) ∧ k (acc ++ ys, s2) = some fin ∧ Rel (Es s) ρ (um B D (.lst (acc.map eb))) M' pd po, ?_, ?_, ?_⟩
      · cases hq : compF c f xs s0 with
        | none => rw [hq] at hm1; cases hm1
        | some p =>
          rw [hq, Option.bind_some] at hm1
          refine ⟨s0, [], p.1, p.2, Nat.le_refl _, hq, hm1, ?_⟩
          have r2 := r1.le (leE_ok l0)
          obtain ⟨φ, F, w⟩ := r2
          have nF : ∀ b ∈ F, b ≠ D := fun b hb z => w.pen.al b hb (by rw [z]; exact hD)
          have nφ : ∀ i, ∀ b ∈ φ i, b ≠ D := fun i b hb z => by
            cases q : gE (Es s0) i with
            | none => rw [w.emp i q] at hb; cases hb
            | some o =>
              obtain ⟨d, _, t⟩ := w.val i o q
              exact t.al b hb (by rw [z]; exact hD)
          refine ⟨φ, F, fun i o e => ?_, w.emp, w.pen.fr fun b hb => um_ne (nF b hb), w.dis, w.dsp, fun a mo e => ?_⟩
          · obtain ⟨d, h1, h2⟩ := w.val i o e
            exact ⟨d, h1, h2.fr fun b hb => um_ne (nφ i b hb)⟩
          · by_cases z : a = D
            · subst z
              rw [um_same] at e
              cases e
              exact ⟨um_same, fun hb => nF a hb rfl, fun i hb => nφ i a hb rfl⟩
            · rw [um_ne z] at e
              exact ⟨(um_ne z).trans (w.bas a mo e).1, (w.bas a mo e).2⟩
      · rintro i d M2 hdi ⟨s, acc, ys, s2, ha, hcf, hk, r2⟩
        rw [List.getElem?_map] at hdi
        cases hxi : xs[i]? with
        | none => rw [hxi] at hdi; cases hdi
        | some x =>
          rw [hxi] at hdi
          cases hdi
          have hil : i < xs.length := (List.getElem?_eq_some_iff.mp hxi).1
          rw [drop_cons hxi, compF] at hcf
          have r3 : Rel (Es s) (wpD ρ (own.map (·.2))) (um B D (.lst (acc.map eb))) M2 pd po := r2.rho fun j hj => wpD_out fun z => hj (hv s j z)
          refine hd s x r3 fun ρ2 r4 q4 => ?_
          have back : ∀ {s' : S} {B' M' : Mm}, Rel (Es s') ρ2 B' M' pd po → Rel (Es s') ρ B' M' pd po := fun {s' B' M'} r' => r'.rho fun j hj => by
            have hj2 : j ∉ own.map (·.2) := fun z => hj (hv s' j z)
            rw [q4 j hj2, wpD_out hj2]
          cases hcs : c s x with
          | none => rw [hcs] at hcf; cases hcf
          | some t =>
            rw [hcs, Option.bind_some] at hcf
            intro s1 H C cl fp
            refine hck s x s1 H C cl fp t ρ2 _ M2 pd po _ r4 hcs fun b E3 m3 M3 ⟨s', e3, l3⟩ hm3 r5 => ?_
            rw [e3] at hm3
            cases hm3
            cases b with
            | false =>
              rw [if_neg Bool.false_ne_true] at hcf
              exact ⟨s', acc, ys, s2, Nat.le_succ_of_le ha, hcf, hk, back ((r5.le (leE_ok l3)).le (leE_ok (hle s' x)))⟩
            | true =>
              rw [if_pos rfl] at hcf
              dsimp only at hcf
              cases hfs : f s' x with
              | none => rw [hfs] at hcf; cases hcf
              | some yt =>
                rw [hfs, Option.bind_some] at hcf
                cases hrest : compF c f (xs.drop (i + 1)) yt.2 with
                | none => rw [hrest] at hcf; cases hcf
                | some zs =>
                  rw [hrest] at hcf
                  cases hcf
                  intro s1' H' C' cl' fp'
                  refine hel s' x s1' H' C' cl' fp' yt ρ2 _ M3 pd po _ XF (r5.le (leE_ok l3)) hfs (fun o E4 m4 d4 M4 ⟨y, s4, e4, e5, l4⟩ hm4 r6 => ?_) fun _ _ _ _ _ z => z.elim
                  subst e4
                  rw [e5] at hm4
                  cases hm4
                  obtain ⟨rfl, r7⟩ := r6.ofV
                  have r8 := back (r7.le (leE_ok l4))
                  obtain ⟨φ, F, w⟩ := r8
                  have hMD := (w.bas D _ um_same)
                  try dsimp only
                  rw [hMD.1]
                  refine ⟨by rw [List.length_map]; omega, s4, acc ++ [y], zs.1, zs.2, by rw [List.length_append]; exact Nat.succ_le_succ ha, hrest, by rw [List.append_assoc]; exact hk, ?_⟩
                  have nF : ∀ b ∈ F, b ≠ D := fun b hb z => hMD.2.1 (by rw [← z]; exact hb)
                  have nφ : ∀ i, ∀ b ∈ φ i, b ≠ D := fun i b hb z => hMD.2.2 i (by rw [← z]; exact hb)
                  refine ⟨φ, F, fun i o e => ?_, w.emp, w.pen.fr fun b hb => um_ne (nF b hb), w.dis, w.dsp, fun a mo e => ?_⟩
                  · obtain ⟨d, h1, h2⟩ := w.val i o e
                    exact ⟨d, h1, h2.fr fun b hb => um_ne (nφ i b hb)⟩
                  · by_cases z : a = D
                    · subst z
                      rw [um_same] at e ⊢
                      rw [List.map_append] at e
                      exact ⟨e, hMD.2⟩
                    · rw [um_ne z] at e
                      have := w.bas a mo (by rw [um_ne z]; exact e)
                      exact ⟨(um_ne z).trans this.1, this.2⟩
      · rintro M2 ⟨s, acc, ys, s2, ha, hcf, hk, r2⟩
        rw [List.length_map, List.drop_length] at hcf
        cases hcf
        obtain ⟨φ, F, w⟩ := r2
        have hMD := (w.bas D _ um_same)
        rw [hMD.1]
        rw [List.append_nil] at hk
        refine hp _ _ _ _ _ (kn acc s) hk (Rel.v _ ?_)
        have nF : ∀ b ∈ F, b ≠ D := fun b hb z => hMD.2.1 (by rw [← z]; exact hb)
        have nφ : ∀ i, ∀ b ∈ φ i, b ≠ D := fun i b hb z => hMD.2.2 i (by rw [← z]; exact hb)
        refine ⟨φ, F, fun i o e => ?_, w.emp, w.pen.fr fun b hb => dm_ne (nF b hb), w.dis, w.dsp, fun a mo e => ?_⟩
        · obtain ⟨d, h1, h2⟩ := w.val i o e
          exact ⟨d, h1, h2.fr fun b hb => dm_ne (nφ i b hb)⟩
        · have z : a ≠ D := fun z => by rw [z, hBD] at e; cases e
          have := w.bas a mo (by rw [um_ne z]; exact e)
          exact ⟨(dm_ne z).trans this.1, this.2⟩) hx⟩
theorem jk_lcS (hJ : ∀ (di : DI) (tt : DT) (te : DE), IJ X W tg iter di → (∀ (s : Shared) (H : Hp) (C : Addr) (cl : List (Str × Addr)) (fp : List Addr), PTs (X.blk s H scope (compEnvC scope cl C X.env) fp) [] (liT X.K W0 tt)) → (∀ (s : Shared) (H : Hp) (C : Addr) (cl : List (Str × Addr)) (fp : List Addr), EJ (X.blk s H scope (compEnvC scope cl C X.env) fp) W0 elt te) → J (dLc di dg tt te (own.map (·.2)))) (Es : S → Env) (ed : A → D) (eb : β → D) (hc : X.calm = true) (hN : X.N.Nodup) (ok : BlkOk X.N X.env.scope scope own) (ht0 : TgOk X.K g (own.map (·.2)) dg)
    (hg : ∀ (s : Shared) (H : Hp) (C : Addr) (cl : List (Str × Addr)) (fp : List Addr), PG (X.blk s H scope (compEnvC scope cl C X.env) fp) tg g)
    (hv : ∀ s i, i ∈ own.map (·.2) → gE (Es s) i = none)
    (h : IK X W tg iter E (fun ds E1 m1 => ∃ (xs : List A) (s0 : S) (f : S → A → Option (β × S)) (k : List β × S → Option α) (E2 : S → A → Env), ds = xs.map ed ∧ leE (Es s0) E1 ∧ m1 = (mapS f xs s0).bind k ∧ xs.length ≤ sizeLine ∧
      (∀ s x, DgOk dg (own.map (·.2)) (ed x) (Es s) (E2 s x)) ∧
      (∀ s x (s1 : Shared) (H : Hp) (C : Addr) (cl : List (Str × Addr)) (fp : List Addr), EK (X.blk s1 H scope (compEnvC scope cl C X.env) fp) W0 elt (E2 s x) (fun o E3 m3 => ∃ y s', o = .v (eb y) ∧ m3 = some (y, s') ∧ leE (Es s') E3) (fun _ _ _ _ => False) (f s x)) ∧
      (∀ s x, leE (Es s) (E2 s x)) ∧ (∀ s x, leE (E2 s x) (E2 s x)) ∧
      ∀ ys s, κE (.v (.lst (ys.map eb))) (Es s) (k (ys, s))) ξ m) : EKJ J E κE ξ m := by
  refine jk_lc hJ Es ed eb hc hN ok ht0 hg hv ?_
  refine fun fin ρ B M pd po P PX r hm hp hx => h fin ρ B M pd po P PX r hm (fun ds E' m' M' ⟨xs, s0, f, k, E2, e1, l0, e2, hl, hd, he, hle, hle2, kn⟩ hm' r' => hp ds E' m' M' ?_ hm' r') hx
  refine ⟨xs, s0, fun s _ => some (true, s), f, k, E2, e1, l0, by rw [compF_mapS]; exact e2, hl, hd, fun s x s1 H C cl fp => ck_nil ⟨s, rfl, hle2 s x⟩, he, hle, kn⟩
theorem jk_lcO (hJ : ∀ (di : DI) (tt : DT) (te : DE), IJ X W tg iter di → (∀ (s : Shared) (H : Hp) (C : Addr) (cl : List (Str × Addr)) (fp : List Addr), PTs (X.blk s H scope (compEnvC scope cl C X.env) fp) [] (liT X.K W0 tt)) → (∀ (s : Shared) (H : Hp) (C : Addr) (cl : List (Str × Addr)) (fp : List Addr), EJ (X.blk s H scope (compEnvC scope cl C X.env) fp) W0 elt te) → J (dLc di dg tt te (own.map (·.2)))) (E0 : Env) (ed : A → D) (eb : β → D) (hc : X.calm = true) (hN : X.N.Nodup) (ok : BlkOk X.N X.env.scope scope own) (ht0 : TgOk X.K g (own.map (·.2)) dg)
    (hg : ∀ (s : Shared) (H : Hp) (C : Addr) (cl : List (Str × Addr)) (fp : List Addr), PG (X.blk s H scope (compEnvC scope cl C X.env) fp) tg g)
    (hv : ∀ i, i ∈ own.map (·.2) → gE E0 i = none)
    (h : IK X W tg iter E (fun ds E1 m1 => ∃ (xs : List A) (f : A → Option β) (k : List β → Option α) (E2 : A → Env), ds = xs.map ed ∧ leE E0 E1 ∧ m1 = (mapO f xs).bind k ∧ xs.length ≤ sizeLine ∧
      (∀ x, DgOk dg (own.map (·.2)) (ed x) E0 (E2 x)) ∧
      (∀ x (s1 : Shared) (H : Hp) (C : Addr) (cl : List (Str × Addr)) (fp : List Addr), EK (X.blk s1 H scope (compEnvC scope cl C X.env) fp) W0 elt (E2 x) (fun o E3 m3 => ∃ y, o = .v (eb y) ∧ m3 = some y ∧ leE E0 E3) (fun _ _ _ _ => False) (f x)) ∧
      (∀ x, leE E0 (E2 x)) ∧ (∀ x, leE (E2 x) (E2 x)) ∧
      ∀ ys, κE (.v (.lst (ys.map eb))) E0 (k ys)) ξ m) : EKJ J E κE ξ m := by
  refine jk_lcS hJ (S := Unit) (fun _ => E0) ed eb hc hN ok ht0 hg (fun _ => hv) ?_
  refine fun fin ρ B M pd po P PX r hm hp hx => h fin ρ B M pd po P PX r hm (fun ds E' m' M' ⟨xs, f, k, E2, e1, l0, e2, hl, hd, he, hle, hle2, kn⟩ hm' r' => hp ds E' m' M' ?_ hm' r') hx
  refine ⟨xs, (), fun s x => (f x).map fun y => (y, s), fun p => k p.1, fun _ => E2, e1, l0, ?_, hl, fun _ => hd, fun s x s1 H C cl fp => ?_, fun _ => hle, fun _ => hle2, fun ys _ => kn ys⟩
  · rw [mapS_mapO, e2]
    cases mapO f xs <;> rfl
  · intro fin2 ρ2 B2 M2 pd2 po2 P2 PX2 r2 hm2 hp2 hx2
    dsimp only at hm2
    cases hf : f x with
    | none => rw [hf] at hm2; cases hm2
    | some y =>
      rw [hf] at hm2
      cases hm2
      refine he x s1 H C cl fp y ρ2 B2 M2 pd2 po2 P2 PX2 r2 hf (fun o E3 m3 d3 M3 ⟨z, g1, g2, g3⟩ hm3 r3 => ?_) fun _ _ _ _ _ z => z.elim
      rw [g2] at hm3
      cases hm3
      exact hp2 o E3 _ d3 M3 ⟨_, (), g1, rfl, g3⟩ rfl r3
open Classical in
theorem jk_lcZ (hJ : ∀ (di : DI) (tt : DT) (te : DE), IJ X W tg iter di → (∀ (s : Shared) (H : Hp) (C : Addr) (cl : List (Str × Addr)) (fp : List Addr), PTs (X.blk s H scope (compEnvC scope cl C X.env) fp) [] (liT X.K W0 tt)) → (∀ (s : Shared) (H : Hp) (C : Addr) (cl : List (Str × Addr)) (fp : List Addr), EJ (X.blk s H scope (compEnvC scope cl C X.env) fp) W0 elt te) → J (dLc di dg tt te (own.map (·.2)))) (E0 : Env) (ed : A → D) (eb : β → D) (hc : X.calm = true) (hN : X.N.Nodup) (ok : BlkOk X.N X.env.scope scope own) (ht0 : TgOk X.K g (own.map (·.2)) dg)
    (hg : ∀ (s : Shared) (H : Hp) (C : Addr) (cl : List (Str × Addr)) (fp : List Addr), PG (X.blk s H scope (compEnvC scope cl C X.env) fp) tg g)
    (hv : ∀ i, i ∈ own.map (·.2) → gE E0 i = none)
    (h : IK X W tg iter E (fun ds E1 m1 => ∃ (xs : List A) (f : A → Option β) (k : List β → Option α) (E2 : A → Env), ds = xs.map ed ∧ leE E0 E1 ∧ m1 = (mapZ f xs).bind k ∧
      (∀ x, DgOk dg (own.map (·.2)) (ed x) E0 (E2 x)) ∧
      (∀ x (s1 : Shared) (H : Hp) (C : Addr) (cl : List (Str × Addr)) (fp : List Addr), EK (X.blk s1 H scope (compEnvC scope cl C X.env) fp) W0 elt (E2 x) (fun o E3 m3 => ∃ y, o = .v (eb y) ∧ m3 = some y ∧ leE E0 E3) (fun _ _ _ _ => False) (f x)) ∧
      (∀ x, leE E0 (E2 x)) ∧ (∀ x, leE (E2 x) (E2 x)) ∧
      ∀ ys, κE (.v (.lst (ys.map eb))) E0 (k ys)) ξ m) : EKJ J E κE ξ m := by
  refine jk_lcO hJ E0 ed eb hc hN ok ht0 hg hv ?_
  refine fun fin ρ B M pd po P PX r hm hp hx => h fin ρ B M pd po P PX r hm (fun ds E' m' M' ⟨xs, f, k, E2, e1, l0, e2, hd, he, hle, hle2, kn⟩ hm' r' => ?_) hx
  by_cases hl : xs.length ≤ sizeLine
  · refine hp ds E' m' M' ⟨xs, f, k, E2, e1, l0, ?_, hl, hd, he, hle, hle2, kn⟩ hm' r'
    rw [e2]
    unfold mapZ
    rw [if_pos hl]
  · rw [e2] at hm'
    unfold mapZ at hm'
    rw [if_neg hl] at hm'
    cases hm'
theorem jk_lcSZ (hJ : ∀ (di : DI) (tt : DT) (te : DE), IJ X W tg iter di → (∀ (s : Shared) (H : Hp) (C : Addr) (cl : List (Str × Addr)) (fp : List Addr), PTs (X.blk s H scope (compEnvC scope cl C X.env) fp) [] (liT X.K W0 tt)) → (∀ (s : Shared) (H : Hp) (C : Addr) (cl : List (Str × Addr)) (fp : List Addr), EJ (X.blk s H scope (compEnvC scope cl C X.env) fp) W0 elt te) → J (dLc di dg tt te (own.map (·.2)))) (Es : S → Env) (ed : A → D) (eb : β → D) (hc : X.calm = true) (hN : X.N.Nodup) (ok : BlkOk X.N X.env.scope scope own) (ht0 : TgOk X.K g (own.map (·.2)) dg)
    (hg : ∀ (s : Shared) (H : Hp) (C : Addr) (cl : List (Str × Addr)) (fp : List Addr), PG (X.blk s H scope (compEnvC scope cl C X.env) fp) tg g)
    (hv : ∀ s i, i ∈ own.map (·.2) → gE (Es s) i = none)
    (h : IK X W tg iter E (fun ds E1 m1 => ∃ (xs : List A) (s0 : S) (f : S → A → Option (β × S)) (k : List β × S → Option α) (E2 : S → A → Env), ds = xs.map ed ∧ leE (Es s0) E1 ∧ m1 = (mapSZ f xs s0).bind k ∧
      (∀ s x, DgOk dg (own.map (·.2)) (ed x) (Es s) (E2 s x)) ∧
      (∀ s x (s1 : Shared) (H : Hp) (C : Addr) (cl : List (Str × Addr)) (fp : List Addr), EK (X.blk s1 H scope (compEnvC scope cl C X.env) fp) W0 elt (E2 s x) (fun o E3 m3 => ∃ y s', o = .v (eb y) ∧ m3 = some (y, s') ∧ leE (Es s') E3) (fun _ _ _ _ => False) (f s x)) ∧
      (∀ s x, leE (Es s) (E2 s x)) ∧ (∀ s x, leE (E2 s x) (E2 s x)) ∧
      ∀ ys s, κE (.v (.lst (ys.map eb))) (Es s) (k (ys, s))) ξ m) : EKJ J E κE ξ m := by
  refine jk_lcS hJ Es ed eb hc hN ok ht0 hg hv ?_
  refine fun fin ρ B M pd po P PX r hm hp hx => h fin ρ B M pd po P PX r hm (fun ds E' m' M' ⟨xs, s0, f, k, E2, e1, l0, e2, hd, he, hle, hle2, kn⟩ hm' r' => ?_) hx
  by_cases hl : xs.length ≤ sizeLine
  · refine hp ds E' m' M' ⟨xs, s0, f, k, E2, e1, l0, ?_, hl, hd, he, hle, hle2, kn⟩ hm' r'
    rw [e2]
    unfold mapSZ
    rw [if_pos hl]
  · rw [e2] at hm'
    unfold mapSZ at hm'
    rw [if_neg hl] at hm'
    cases hm'
theorem jk_lcF (hJ : ∀ (di : DI) (tt : DT) (te : DE), IJ X W tg iter di → (∀ (s : Shared) (H : Hp) (C : Addr) (cl : List (Str × Addr)) (fp : List Addr), PTs (X.blk s H scope (compEnvC scope cl C X.env) fp) [iff] (liT X.K W0 tt)) → (∀ (s : Shared) (H : Hp) (C : Addr) (cl : List (Str × Addr)) (fp : List Addr), EJ (X.blk s H scope (compEnvC scope cl C X.env) fp) W0 elt te) → J (dLc di dg tt te (own.map (·.2)))) (E0 : Env) (ed : A → D) (eb : β → D) (hc : X.calm = true) (hN : X.N.Nodup) (ok : BlkOk X.N X.env.scope scope own) (ht0 : TgOk X.K g (own.map (·.2)) dg)
    (hg : ∀ (s : Shared) (H : Hp) (C : Addr) (cl : List (Str × Addr)) (fp : List Addr), PG (X.blk s H scope (compEnvC scope cl C X.env) fp) tg g)
    (hv : ∀ i, i ∈ own.map (·.2) → gE E0 i = none)
    (h : IK X W tg iter E (fun ds E1 m1 => ∃ (xs : List A) (c : A → Option Bool) (f : A → Option β) (k : List β → Option α) (E2 : A → Env), ds = xs.map ed ∧ leE E0 E1 ∧ m1 = (filZ c f xs).bind k ∧
      (∀ x, DgOk dg (own.map (·.2)) (ed x) E0 (E2 x)) ∧
      (∀ x (s1 : Shared) (H : Hp) (C : Addr) (cl : List (Str × Addr)) (fp : List Addr), TK (X.blk s1 H scope (compEnvC scope cl C X.env) fp) W0 iff (E2 x) (fun b E3 m3 => m3 = some b ∧ leE (E2 x) E3) (fun _ _ _ _ => False) (c x)) ∧
      (∀ x (s1 : Shared) (H : Hp) (C : Addr) (cl : List (Str × Addr)) (fp : List Addr), EK (X.blk s1 H scope (compEnvC scope cl C X.env) fp) W0 elt (E2 x) (fun o E3 m3 => ∃ y, o = .v (eb y) ∧ m3 = some y ∧ leE E0 E3) (fun _ _ _ _ => False) (f x)) ∧
      (∀ x, leE E0 (E2 x)) ∧
      ∀ ys, κE (.v (.lst (ys.map eb))) E0 (k ys)) ξ m) : EKJ J E κE ξ m := by
  refine jk_lc hJ (S := Unit) (fun _ => E0) ed eb hc hN ok ht0 hg (fun _ => hv) ?_
  refine fun fin ρ B M pd po P PX r hm hp hx => h fin ρ B M pd po P PX r hm (fun ds E' m' M' ⟨xs, c, f, k, E2, e1, l0, e2, hd, hc2, he, hle, kn⟩ hm' r' => ?_) hx
  by_cases hl : xs.length ≤ sizeLine
  · refine hp ds E' m' M' ⟨xs, (), fun s x => (c x).map fun b => (b, s), fun s x => (f x).map fun y => (y, s), fun p => k p.1, fun _ => E2, e1, l0, ?_, hl, fun _ => hd, fun s x s1 H C cl fp => ck_one ?_, fun s x s1 H C cl fp => ?_, fun _ => hle, fun ys _ => kn ys⟩ hm' r'
    · rw [compF_filO, e2]
      unfold filZ
      rw [if_pos hl]
      cases filO c f xs <;> rfl
    · intro fin2 ρ2 B2 M2 pd2 po2 P2 PX2 r2 hm2 hp2 hx2
      have hm2 : (c x).map (fun b => (b, s)) = some fin2 := hm2
      cases hcx : c x with
      | none => rw [hcx] at hm2; cases hm2
      | some b =>
        rw [hcx] at hm2
        cases hm2
        exact hc2 x s1 H C cl fp b ρ2 B2 M2 pd2 po2 P2 PX2 r2 hcx (fun b' E3 m3 M3 ⟨e3, l3⟩ hm3 r3 => by
          rw [e3] at hm3
          cases hm3
          exact hp2 _ E3 (some (b, s)) M3 ⟨s, rfl, l3⟩ rfl r3) fun _ _ _ _ _ z => z.elim
    · intro fin2 ρ2 B2 M2 pd2 po2 P2 PX2 r2 hm2 hp2 hx2
      have hm2 : (f x).map (fun y => (y, s)) = some fin2 := hm2
      cases hfx : f x with
      | none => rw [hfx] at hm2; cases hm2
      | some b =>
        rw [hfx] at hm2
        cases hm2
        exact he x s1 H C cl fp b ρ2 B2 M2 pd2 po2 P2 PX2 r2 hfx (fun o E3 m3 d3 M3 ⟨y, e3, e4, l3⟩ hm3 r3 => by
          rw [e4] at hm3
          cases hm3
          exact hp2 o E3 (some (b, s)) d3 M3 ⟨b, s, e3, rfl, l3⟩ rfl r3) fun _ _ _ _ _ z => z.elim
  · rw [e2] at hm'
    unfold filZ at hm'
    rw [if_neg hl] at hm'
    cases hm'
theorem jk_dc [DecidableEq κ] (hJ : ∀ (di : DI) (tt : DT) (tk tv : DE), IJ X W tg iter di → (∀ (s : Shared) (H : Hp) (C : Addr) (cl : List (Str × Addr)) (fp : List Addr), PTs (X.blk s H scope (compEnvC scope cl C X.env) fp) [] (liT X.K W0 tt)) → (∀ (s : Shared) (H : Hp) (C : Addr) (cl : List (Str × Addr)) (fp : List Addr), EJ (X.blk s H scope (compEnvC scope cl C X.env) fp) W0 kx tk) → (∀ (s : Shared) (H : Hp) (C : Addr) (cl : List (Str × Addr)) (fp : List Addr), EJ (X.blk s H scope (compEnvC scope cl C X.env) fp) W0 vx tv) → J (dDcM di dg tt tk tv (own.map (·.2)))) (E0 : Env) (ed : A → D) {ek : κ → Key} {eD : κ → D} (hk : KeyE ek eD) (ev : ν → D) (hc : X.calm = true) (hN : X.N.Nodup) (ok : BlkOk X.N X.env.scope scope own) (ht0 : TgOk X.K g (own.map (·.2)) dg)
    (hg : ∀ (s : Shared) (H : Hp) (C : Addr) (cl : List (Str × Addr)) (fp : List Addr), PG (X.blk s H scope (compEnvC scope cl C X.env) fp) tg g)
    (hv : ∀ i, i ∈ own.map (·.2) → gE E0 i = none)
    (h : IK X W tg iter E (fun ds E1 m1 => ∃ (xs : List A) (f : A → Option (κ × ν)) (k : List (κ × ν) → Option α) (E2 : A → Env), ds = xs.map ed ∧ leE E0 E1 ∧ m1 = (dctF f xs []).bind k ∧ xs.length ≤ sizeLine ∧
      (∀ x, DgOk dg (own.map (·.2)) (ed x) E0 (E2 x)) ∧
      (∀ x (s1 : Shared) (H : Hp) (C : Addr) (cl : List (Str × Addr)) (fp : List Addr), BK (X.blk s1 H scope (compEnvC scope cl C X.env) fp) W0 kx (E2 x) (fun o m2 => ∃ y, o = .v (eD y) ∧ ∀ (s2 : Shared) (H' : Hp) (C' : Addr) (cl' : List (Str × Addr)) (fp' : List Addr), BK (X.blk s2 H' scope (compEnvC scope cl' C' X.env) fp') W0 vx (E2 x) (fun q m3 => ∃ v, q = .v (ev v) ∧ m3 = some (y, v)) m2) (f x)) ∧
      (∀ x, leE E0 (E2 x)) ∧
      ∀ ys, κE (kO ek ev ys) E0 (k ys)) ξ m) : EKJ J E κE ξ m := fun fin ρ B M pd po P PX r hm hp hx =>
  ⟨dDcM (bI X W tg iter) dg (fun ρ M P PX => ∀ s1 H C cl fp, bTs (X.blk s1 H scope (compEnvC scope cl C X.env) fp) W0 [] ρ M P PX) (fun ρ M P PX => ∀ s1 H C cl fp, bE (X.blk s1 H scope (compEnvC scope cl C X.env) fp) W0 kx ρ M P PX) (fun ρ M P PX => ∀ s1 H C cl fp, bE (X.blk s1 H scope (compEnvC scope cl C X.env) fp) W0 vx ρ M P PX) (own.map (·.2)),
    hJ _ _ _ _ bI_j (fun s H C cl fp => ⟨fun pins s' σ H' Q I ⟨ρ, M, Hf, P, PX, sr, h, fe, fx⟩ => bTs_j.run pins s' σ H' Q I ⟨ρ, M, Hf, P, PX, sr, h s H C cl fp, fe, fx⟩⟩)
      (fun s H C cl fp => ⟨fun pins s' σ H' Q I ⟨ρ, M, Hf, P, PX, sr, h, fe, fx⟩ => bE_j.run pins s' σ H' Q I ⟨ρ, M, Hf, P, PX, sr, h s H C cl fp, fe, fx⟩⟩)
      (fun s H C cl fp => ⟨fun pins s' σ H' Q I ⟨ρ, M, Hf, P, PX, sr, h, fe, fx⟩ => bE_j.run pins s' σ H' Q I ⟨ρ, M, Hf, P, PX, sr, h s H C cl fp, fe, fx⟩⟩),
    h fin ρ B M pd po _ PX r hm (fun ds E1 m1 M1 ⟨xs, f, k, E2, e1, l0, e2, hl, hd, hel, hle, kn⟩ hm1 r1 D hD => by
      subst e1 e2
      have hBD : B D = none := by
        cases q : B D with
        | none => rfl
        | some mo =>
          obtain ⟨φ, F, w⟩ := r1
          have := (w.bas D mo q).1
          rw [hD] at this
          cases this
      refine ⟨fun i M' => ∃ (acc : List (κ × ν)), acc.length ≤ i ∧ (dctF f (xs.drop i) acc).bind k = some fin ∧ Rel E0 ρ (um B D (.dct (acc.map fun p => (ek p.1, ev p.2)))) M' pd po, ?_, ?_, ?_⟩
      · exact ⟨[], Nat.le_refl _, hm1, (r1.le (leE_ok l0)).baseN hD⟩
      · rintro i d M2 hdi ⟨acc, ha, hcf, r2⟩
        rw [List.getElem?_map] at hdi
        cases hxi : xs[i]? with
        | none => rw [hxi] at hdi; cases hdi
        | some x =>
          rw [hxi] at hdi
          cases hdi
          have hil : i < xs.length := (List.getElem?_eq_some_iff.mp hxi).1
          rw [drop_cons hxi, dctF] at hcf
          have r3 : Rel E0 (wpD ρ (own.map (·.2))) (um B D (.dct (acc.map fun p => (ek p.1, ev p.2)))) M2 pd po := r2.rho fun j hj => wpD_out fun z => hj (hv j z)
          refine hd x r3 fun ρ2 r4 q4 => ?_
          have back : ∀ {B' M' : Mm}, Rel E0 ρ2 B' M' pd po → Rel E0 ρ B' M' pd po := fun {B' M'} r' => r'.rho fun j hj => by
            have hj2 : j ∉ own.map (·.2) := fun z => hj (hv j z)
            rw [q4 j hj2, wpD_out hj2]
          intro s1 H C cl fp
          refine ⟨dYes, ptsj_nil, ?_⟩
          show (∀ s1 H C cl fp, bE _ W0 kx ρ2 M2 _ XF)
          intro s1 H C cl fp
          cases hfx : f x with
          | none => rw [hfx] at hcf; cases hcf
          | some kv =>
            rw [hfx, Option.bind_some] at hcf
            refine hel x s1 H C cl fp kv ρ2 _ M2 pd po _ XF r4 hfx fun o m2 d ⟨y, e1, hb⟩ hm2 v2 => ?_
            subst e1
            obtain rfl := v2.ofV
            intro s2 H' C' cl' fp'
            refine hb s2 H' C' cl' fp' kv ρ2 _ M2 pd po _ XF r4 hm2 fun q m3 d2 ⟨v, e2, e3⟩ hm3 v3 => ?_
            subst e2
            obtain rfl := v3.ofV
            rw [e3] at hm3
            cases hm3
            obtain ⟨hM, r5⟩ := r4.baseU (mo2 := .dct ((insg acc y v).map fun p => (ek p.1, ev p.2)))
            try dsimp only
            rw [hM, hk.key]
            refine ⟨by rw [List.length_map]; omega, insg acc y v, Nat.le_trans (insg_len _ _ _) (Nat.succ_le_succ ha), hcf, ?_⟩
            have e5 : DL.ins (acc.map fun p => (ek p.1, ev p.2)) (ek y) (ev v) = (insg acc y v).map fun p => (ek p.1, ev p.2) := insg_map hk.inj y v acc
            rw [e5]
            exact back (r5.le (leE_ok (hle x)))
      · rintro M2 ⟨acc, ha, hcf, r2⟩
        rw [List.length_map, List.drop_length] at hcf
        exact hp _ _ _ _ _ (kn acc) hcf (Rel.baseO hBD r2 fun M' hM' => kO_or hM')) hx⟩
theorem jk_dcZ [DecidableEq κ] (hJ : ∀ (di : DI) (tt : DT) (tk tv : DE), IJ X W tg iter di → (∀ (s : Shared) (H : Hp) (C : Addr) (cl : List (Str × Addr)) (fp : List Addr), PTs (X.blk s H scope (compEnvC scope cl C X.env) fp) [] (liT X.K W0 tt)) → (∀ (s : Shared) (H : Hp) (C : Addr) (cl : List (Str × Addr)) (fp : List Addr), EJ (X.blk s H scope (compEnvC scope cl C X.env) fp) W0 kx tk) → (∀ (s : Shared) (H : Hp) (C : Addr) (cl : List (Str × Addr)) (fp : List Addr), EJ (X.blk s H scope (compEnvC scope cl C X.env) fp) W0 vx tv) → J (dDcM di dg tt tk tv (own.map (·.2)))) (E0 : Env) (ed : A → D) {ek : κ → Key} {eD : κ → D} (hk : KeyE ek eD) (ev : ν → D) (hc : X.calm = true) (hN : X.N.Nodup) (ok : BlkOk X.N X.env.scope scope own) (ht0 : TgOk X.K g (own.map (·.2)) dg)
    (hg : ∀ (s : Shared) (H : Hp) (C : Addr) (cl : List (Str × Addr)) (fp : List Addr), PG (X.blk s H scope (compEnvC scope cl C X.env) fp) tg g)
    (hv : ∀ i, i ∈ own.map (·.2) → gE E0 i = none)
    (h : IK X W tg iter E (fun ds E1 m1 => ∃ (xs : List A) (f : A → Option (κ × ν)) (k : List (κ × ν) → Option α) (E2 : A → Env), ds = xs.map ed ∧ leE E0 E1 ∧ m1 = (dctZ f xs).bind k ∧
      (∀ x, DgOk dg (own.map (·.2)) (ed x) E0 (E2 x)) ∧
      (∀ x (s1 : Shared) (H : Hp) (C : Addr) (cl : List (Str × Addr)) (fp : List Addr), BK (X.blk s1 H scope (compEnvC scope cl C X.env) fp) W0 kx (E2 x) (fun o m2 => ∃ y, o = .v (eD y) ∧ ∀ (s2 : Shared) (H' : Hp) (C' : Addr) (cl' : List (Str × Addr)) (fp' : List Addr), BK (X.blk s2 H' scope (compEnvC scope cl' C' X.env) fp') W0 vx (E2 x) (fun q m3 => ∃ v, q = .v (ev v) ∧ m3 = some (y, v)) m2) (f x)) ∧
      (∀ x, leE E0 (E2 x)) ∧
      ∀ ys, κE (kO ek ev ys) E0 (k ys)) ξ m) : EKJ J E κE ξ m := by
  refine jk_dc hJ E0 ed hk ev hc hN ok ht0 hg hv ?_
  refine fun fin ρ B M pd po P PX r hm hp hx => h fin ρ B M pd po P PX r hm (fun ds E' m' M' ⟨xs, f, k, E2, e1, l0, e2, hd, he, hle, kn⟩ hm' r' => ?_) hx
  by_cases hl : xs.length ≤ sizeLine
  · refine hp ds E' m' M' ⟨xs, f, k, E2, e1, l0, ?_, hl, hd, he, hle, kn⟩ hm' r'
    rw [e2]
    unfold dctZ
    rw [if_pos hl]
  · rw [e2] at hm'
    unfold dctZ at hm'
    rw [if_neg hl] at hm'
    cases hm'
/-- x = [..], on one line -/
theorem sk_setJ {T : Tg α} {kp : List Nat} {x : Str} {e : Expr} {pos' : Pos} (i : Nat) (h : EKJ (fun d => SJ X W (.Assign [.Name x pos'] e pos) (dAsg d (dgName i))) E (fun o E1 m1 => T.nx (sE E1 i (some o)) m1) T.ex m) (hk : i ∉ kp := by decide) : SK X W kp (.Assign [.Name x pos'] e pos) E T m := fun fin ρ B M DD r hm a => by
  obtain ⟨d, j, hd⟩ := h fin ρ B M [] [] (fun y M1 => DD.nx (st ρ i (some y)) M1) (DD.ex ρ) r hm (fun o E' m' d M' k hm' r' => a.nx _ m' _ M' k hm' (r'.set i) (st_kp hk)) fun C fs E' m' M' k hm' r' => a.ex C fs E' m' ρ M' k hm' r' fun _ _ => rfl
  exact ⟨_, j, hd⟩
end
end B

/-! B: lists of own lists -/
namespace B
open PySem PySem.Spec PyProof.Rows L2 DL
/-- an own list of own lists -/
def llO {A : Type} (e : A → D) (xs : List (List A)) : O := .l (xs.map (lO e))
theorem llO_or {A : Type} {e : A → D} {M : Mm} : ∀ {xs : List (List A)} {ds : List D} {F : List Addr}, ORs M ds (xs.map (lO e)) F → ds = F.map D.ref ∧ LsAt M F (xs.map fun l => l.map e)
  | [], _, _, .nil => ⟨rfl, .nil⟩
  | x :: xs, _, _, .cons h t n => by
    obtain ⟨a, rfl, ha, rfl⟩ := lO_orI h
    obtain ⟨rfl, h2⟩ := llO_or t
    exact ⟨rfl, .cons ha (fun z => n a List.mem_cons_self z) h2⟩
section
variable {α A S β : Type} {X : Cx} {W : WX'} {a b c e elt tg iter : Expr} {es : List Expr} {E : Env} {κE : O → Env → Option α → Prop} {ξ : Xi α} {m : Option α} {pos : Pos} {kp : List Nat} {T : Tg α} {rest : List Stmt} {scope : Scope} {own : List (Str × Nat)} {g : TG} {dg : D → Ev → (Ev → Prop) → Prop}
theorem lk_frz2 (i : Nat) {ed : A → D} {xs : List (List A)} (h : LK X W kp rest (sE E i (some (.v (.lst (xs.map (eL ed)))))) T m) (hE : gE E i = some (llO ed xs) := by rfl) (hk : i ∉ kp := by decide) : LK X W kp rest E T m := fun fin ρ B M DD r hm ac => by
  obtain ⟨d, h1, r1⟩ := r.mov hE
  obtain ⟨F, hF⟩ := r1.top
  cases hF with
  | l g1 g2 g3 =>
    rename_i a0 ds F0
    obtain ⟨rfl, h3⟩ := llO_or g2
    have hd : (xs.map fun l => l.map ed).map D.lst = xs.map (eL ed) := by rw [List.map_map]; rfl
    refine ⟨_, bj_frz2 bB_j, a0, F0, _, h1, g1, h3, g3, ?_⟩
    rw [hd]
    refine h fin _ B _ DD ?_ hm (ac.go (st_kp hk))
    have r2 := Rel.chg (ds := [.ref a0]) (os := [llO ed xs]) (M' := dm (dmL M F0) a0) r1 rfl [.lst (xs.map (eL ed))] [.v (.lst (xs.map (eL ed)))] fun F2 h2 => by
      cases h2 with
      | cons k1 k2 k3 =>
        cases k2
        obtain rfl := k1.uq (OR.l g1 g2 g3)
        refine ⟨[] ++ [], .cons (.v _) .nil Dis.nil, fun b hb hn => ?_, fun b hb => nomatch hb⟩
        have n1 : b ≠ a0 := fun z => hn (by rw [z]; simp)
        have n2 : b ∉ F0 := fun z => hn (by simp [z])
        rw [dm_ne n1, dmL_ne n2]
    exact (r2.set i).set2
/-- a comprehension's list is one's own -/
theorem ek_lcM (Es : S → Env) (ed : A → D) (eb : β → D) (hc : X.calm = true) (hN : X.N.Nodup) (ok : BlkOk X.N X.env.scope scope own) (ht0 : TgOk X.K g (own.map (·.2)) dg)
    (hg : ∀ (s : Shared) (H : Hp) (C : Addr) (cl : List (Str × Addr)) (fp : List Addr), PG (X.blk s H scope (compEnvC scope cl C X.env) fp) tg g)
    (hv : ∀ s i, i ∈ own.map (·.2) → gE (Es s) i = none)
    (h : IK X W tg iter E (fun ds E1 m1 => ∃ (xs : List A) (s0 : S) (f : S → A → Option (β × S)) (k : List β × S → Option α) (E2 : S → A → Env), ds = xs.map ed ∧ leE (Es s0) E1 ∧ m1 = (mapSZ f xs s0).bind k ∧
      (∀ s x, DgOk dg (own.map (·.2)) (ed x) (Es s) (E2 s x)) ∧
      (∀ s x (s1 : Shared) (H : Hp) (C : Addr) (cl : List (Str × Addr)) (fp : List Addr), EK (X.blk s1 H scope (compEnvC scope cl C X.env) fp) W0 elt (E2 s x) (fun o E3 m3 => ∃ y s', o = .v (eb y) ∧ m3 = some (y, s') ∧ leE (Es s') E3) (fun _ _ _ _ => False) (f s x)) ∧
      (∀ s x, leE (Es s) (E2 s x)) ∧ (∀ s x, leE (E2 s x) (E2 s x)) ∧
      ∀ ys s, κE (lO eb ys) (Es s) (k (ys, s))) ξ m)
    (hs : ∀ x, foldedSetIterable iter X.env x = pure x := by intro _; rfl) : EK X W (.ListComp elt [⟨tg, iter, [], 0⟩] scope pos) E κE ξ m := fun fin ρ B M pd po P PX r hm hp hx =>
  ⟨dLcM (bI X W tg iter) dg (fun ρ M P PX => ∀ s1 H C cl fp, bTs (X.blk s1 H scope (compEnvC scope cl C X.env) fp) W0 [] ρ M P PX) (fun ρ M P PX => ∀ s1 H C cl fp, bE (X.blk s1 H scope (compEnvC scope cl C X.env) fp) W0 elt ρ M P PX) (own.map (·.2)),
    ej_lcM hc hN bI_j ok ht0 hg (fun s H C cl fp => ⟨fun pins s' σ H' Q I ⟨ρ, M, Hf, P, PX, sr, h, fe, fx⟩ => bTs_j.run pins s' σ H' Q I ⟨ρ, M, Hf, P, PX, sr, h s H C cl fp, fe, fx⟩⟩)
      (fun s H C cl fp => ⟨fun pins s' σ H' Q I ⟨ρ, M, Hf, P, PX, sr, h, fe, fx⟩ => bE_j.run pins s' σ H' Q I ⟨ρ, M, Hf, P, PX, sr, h s H C cl fp, fe, fx⟩⟩) hs,
    h fin ρ B M pd po _ PX r hm (fun ds E1 m1 M1 ⟨xs, s0, f, k, E2, e1, l0, e2, hd, hel, hle, _, kn⟩ hm1 r1 D hD => by
      subst e1 e2
      have hBD : B D = none := by
        cases q : B D with
        | none => rfl
        | some mo =>
          obtain ⟨φ, F, w⟩ := r1
          have := (w.bas D mo q).1
          rw [hD] at this
          cases this
      have hl : xs.length ≤ sizeLine := by
        by_cases hl : xs.length ≤ sizeLine
        · exact hl
        · unfold mapSZ at hm1
          rw [if_neg hl] at hm1
          cases hm1
      have hm1 : (mapS f xs s0).bind k = some fin := by
        unfold mapSZ at hm1
        rw [if_pos hl] at hm1
        exact hm1
      refine ⟨fun i M' => ∃ (s : S) (acc : List β), acc.length ≤ i ∧ ((mapS f (xs.drop i) s).bind fun p => k (acc ++ p.1, p.2)) = some fin ∧ Rel (Es s) ρ (um B D (.lst (acc.map eb))) M' pd po, ?_, ?_, ?_⟩
      · refine ⟨s0, [], Nat.le_refl _, ?_, (r1.le (leE_ok l0)).baseN hD⟩
        rw [List.drop_zero]
        exact hm1
      · rintro i d M2 hdi ⟨s, acc, ha, hcf, r2⟩
        rw [List.getElem?_map] at hdi
        cases hxi : xs[i]? with
        | none => rw [hxi] at hdi; cases hdi
        | some x =>
          rw [hxi] at hdi
          cases hdi
          have hil : i < xs.length := (List.getElem?_eq_some_iff.mp hxi).1
          rw [drop_cons hxi, mapS] at hcf
          have r3 : Rel (Es s) (wpD ρ (own.map (·.2))) (um B D (.lst (acc.map eb))) M2 pd po := r2.rho fun j hj => wpD_out fun z => hj (hv s j z)
          refine hd s x r3 fun ρ2 r4 q4 => ?_
          have back : ∀ {s' : S} {B' M' : Mm}, Rel (Es s') ρ2 B' M' pd po → Rel (Es s') ρ B' M' pd po := fun {s' B' M'} r' => r'.rho fun j hj => by
            have hj2 : j ∉ own.map (·.2) := fun z => hj (hv s' j z)
            rw [q4 j hj2, wpD_out hj2]
          intro s1 H C cl fp
          refine ⟨dYes, ptsj_nil, ?_⟩
          show (∀ s1 H C cl fp, bE _ W0 elt ρ2 M2 _ XF)
          intro s1 H C cl fp
          cases hfx : f s x with
          | none => rw [hfx] at hcf; cases hcf
          | some yt =>
            rw [hfx, Option.bind_some] at hcf
            refine hel s x s1 H C cl fp yt ρ2 _ M2 pd po _ XF r4 hfx (fun o E4 m4 d4 M4 ⟨y, s4, e4, e5, l4⟩ hm4 r6 => ?_) fun _ _ _ _ _ z => z.elim
            subst e4
            rw [e5] at hm4
            cases hm4
            obtain ⟨rfl, r7⟩ := r6.ofV
            have r8 := back (r7.le (leE_ok l4))
            obtain ⟨hM, r9⟩ := r8.baseU (mo2 := .lst ((acc ++ [y]).map eb))
            try dsimp only
            rw [hM]
            refine ⟨by rw [List.length_map]; omega, s4, acc ++ [y], by rw [List.length_append]; exact Nat.succ_le_succ ha, ?_, ?_⟩
            · rw [← hcf]
              dsimp only
              cases mapS f (xs.drop (i + 1)) s4 with
              | none => rfl
              | some q =>
                simp [List.append_assoc]
            · have e9 : (acc ++ [y]).map eb = acc.map eb ++ [eb y] := by
                rw [List.map_append]
                rfl
              rw [e9] at r9 ⊢
              exact r9
      · rintro M2 ⟨s, acc, ha, hcf, r2⟩
        rw [List.length_map, List.drop_length] at hcf
        have hcf : k (acc ++ [], s) = some fin := hcf
        rw [List.append_nil] at hcf
        exact hp _ _ _ _ _ (kn acc s) hcf (Rel.baseO hBD r2 fun M' hM' => lO_or hM')) hx⟩
def pushLL {A : Type} (xs : List (List A)) (x : List A) : Option (List (List A)) := if xs.length < sizeLine then some (xs ++ [x]) else none
/-- an own list is put into a list of such -/
theorem ek_appLL (i : Nat) (ed : A → D) {xs0 : List (List A)} (ho : gE E i = some (llO ed xs0)) (j : ∀ dx d, EJ X W a dx → AJ X W [b] d → EJ X W e (dBM kList rAppD dx d)) (hr : Recv X W a E i none)
    (h : AK X W [b] E (fun as E1 m1 => ∃ (x : List A) (xs : List (List A)) (k : List (List A) → Option α), as.map (·.2) = [lO ed x] ∧ gE E1 i = some (llO ed xs) ∧ m1 = (pushLL xs x).bind k ∧ ∀ ys, κE (.v .non) (sE E1 i (some (llO ed ys))) (k ys)) ξ m) : EK X W e E κE ξ m := by
  refine fun fin ρ B M pd po P PX r hm hp hx => ek_appO i ⟨_, ho⟩ j hr (κE := fun o E' m' => m' = some fin → ∃ m2, κE o E' m2 ∧ m2 = some fin) (ξ := ξ) (m := m) ?_ fin ρ B M pd po P PX r hm (fun o E' m' d M' hk hm' r' => by
    obtain ⟨m2, k2, h2⟩ := hk hm'
    exact hp o E' m2 d M' k2 h2 r') hx
  refine fun fin2 ρ2 B2 M2 pd2 po2 P2 PX2 r2 hm2 hp2 hx2 => h fin2 ρ2 B2 M2 pd2 po2 P2 PX2 r2 hm2 (fun as E1 m1 ds M1 ⟨x, xs, k, e1, e2, e3, kn⟩ hm1 r1 hl ho => ?_) hx2
  have hfin : fin2 = fin := by rw [hm] at hm2; cases hm2; rfl
  subst hfin
  subst e3
  by_cases hlx : xs.length < sizeLine
  · refine hp2 as E1 _ ds M1 ⟨lO ed x, xs.map (lO ed), e1, e2, by rw [List.length_map]; exact hlx, fun hm3 => ⟨k (xs ++ [x]), ?_, ?_⟩⟩ hm1 r1 hl ho
    · have := kn (xs ++ [x])
      unfold llO at this
      rw [List.map_append] at this
      exact this
    · unfold pushLL at hm1
      rw [if_pos hlx] at hm1
      exact hm1
  · unfold pushLL at hm1
    rw [if_neg hlx] at hm1
    cases hm1
/-- the first item of the first list -/
def set00 {A : Type} (xs : List (List A)) (y : A) : Option (List (List A)) := match xs with
  | [] => none
  | x :: r => (setL x 0 y).map (· :: r)
theorem sk_set00 {s : Stmt} (i : Nat) (ed : A → D) (Ef : List (List A) → Env) {xs : List (List A)} (y : A) (k : List (List A) → Option α) (kn : ∀ ys, T.nx (sE E i (some (llO ed ys))) (k ys)) (hm0 : m = (set00 xs y).bind k := by rfl) (hE : E = Ef xs := by rfl) (hS : ∀ xs q, sE (Ef xs) i q = sE E i q := by intro _ _; rfl)
    (h : ∀ (z : List A) (r : List (List A)) (m' : Option α) (k' : List A → Option α), m' = (setL z 0 y).bind k' → (∀ ys, T.nx (sE (Ef (z :: r)) i (some (.l (lO ed ys :: r.map (lO ed))))) (k' ys)) → SK X W kp s (Ef (z :: r)) T m') : SK X W kp s E T m := by
  subst hm0
  cases xs with
  | nil => exact fun _ _ _ _ _ _ hm => nomatch hm
  | cons z r =>
    have h1 := h z r ((set00 (z :: r) y).bind k) (fun ys => k (ys :: r)) ?_ fun ys => by
      rw [hS]
      exact kn (ys :: r)
    · rw [← hE] at h1
      exact h1
    · show ((setL z 0 y).map (· :: r)).bind k = _
      cases setL z 0 y <;> rfl
end
end B

/-! B: zip in any mix -/
namespace B
open PySem PySem.Spec PyProof.Rows L2 DL
section
variable {α : Type} {X : Cx} {W : WX'} {a b : Expr} {E : Env} {ξ : Xi α} {m : Option α} {p pos tpos : Pos} {κI : List D → Env → Option α → Prop} {elts : List Expr} {kk : Nat}
theorem ik_zipB (t u : Bool) (hm0 : X.mg "zip" = none) (h : AK X W [a, b] E (fun as E1 m1 => ∃ ds es : List D, as.map (·.2) = [.v (kindB t ds), .v (kindB u es)] ∧ κI ((ds.zip es).map fun q => .tup [q.1, q.2]) E1 m1) ξ m) (hg : Gl X "zip" := by rfl)
    (hs : starEach [a, b] X.env = (false, eval a X.env) :: starEach [b] X.env := by rfl) (hpl : (backTo pos (starEach [b] X.env)).any (·.1) = false := by rfl) : IK X W (.Tuple elts kk tpos) (.Call (.Name "zip" p) [a, b] [] pos) E κI ξ m := fun fin ρ B M pd po P PX r hm hp hx =>
  ⟨_, ij_zipB t u hm0 bA_j hg hs hpl, h fin ρ B M pd po _ PX r hm (fun as E1 m1 xs M1 ⟨ds, es, e1, k⟩ hm1 r1 hl _ => by
    have hl2 : xs.length = 2 := by rw [hl, ← as.length_map (·.2), e1]; rfl
    match xs, hl2, r1 with
    | [d, d2], _, r1 =>
      rw [e1] at r1
      obtain ⟨rfl, r3⟩ := Rel.ofV r1
      obtain ⟨rfl, r2⟩ := Rel.ofV r3
      exact ⟨ds, es, rfl, hp _ E1 m1 M1 k hm1 r2⟩) hx⟩
/-- a slot's own thing is lent behind the further arguments, which may change it -/
theorem ak_movL {es : List Expr} {κA : List (Option Nat × O) → Env → Option α → Prop} (i : Nat) {x : Str} {o0 : O} (k : AK X W es E (fun os E2 m2 => ∃ o, gE E2 i = some o ∧ κA ((some i, o) :: os) (sE E2 i none) m2) ξ m) (hE : gE E i = some o0 := by rfl) (hN : X.N[i]? = some x := by rfl) (hv : Vis X.env.scope x := by first | exact Or.inl rfl | exact Or.inr (Or.inl rfl) | exact Or.inr (Or.inr rfl))
    (hd : (x == ("__debug__" : Str)) = false := by decide) (hcd : (x == ("__classdict__" : Str)) = false := by decide) (hs : starEach (.Name x pos :: es) X.env = (false, eval (.Name x pos) X.env) :: starEach es X.env := by rfl) : AK X W (.Name x pos :: es) E κA ξ m :=
  fun fin ρ B M pd po P PX r hm hp hx => ⟨dCons (dVar i) (bA X W es), aj_cons (ej_var i hN hv hd hcd) bA_j hs, by
    obtain ⟨d, h1, _⟩ := r.mov hE
    unfold dCons dVar
    rw [show gt ρ i = some d from h1]
    refine k fin ρ B M pd po _ PX r hm (fun os E2 m2 ds M2 ⟨o, e2, k2⟩ hm2 r2 hl ho => ?_) hx
    obtain ⟨d', h2, r3⟩ := r2.mov e2
    have : d' = d := by
      rw [h1] at h2
      exact (Option.some.inj h2).symm
    subst this
    refine hp _ _ m2 (d' :: ds) M2 k2 hm2 r3 (congrArg Nat.succ hl) fun j l p h => ?_
    cases j with
    | zero =>
      rw [List.getElem?_cons_zero] at h ⊢
      cases h
      exact h1
    | succ j =>
      rw [List.getElem?_cons_succ] at h ⊢
      exact ho j l p h⟩
end
end B


namespace WK
open PySem PySem.Spec PyProof.Rows L2 DL B
def top (i : Nat) : Stmt := PySem.Challenge.pw_anybase_k14_how_many.main.body.getD i (.Pass ⟨0, 0, 0, 0⟩)
def clsBody : Stmt → List Stmt
  | .ClassDef _ _ _ b .. => b
  | _ => []
def mth (i j : Nat) : Stmt := (clsBody (top i)).getD j (.Pass ⟨0, 0, 0, 0⟩)
structure Deck where
  cells : List Int
  blend : Int
  draws : Int
abbrev kdeck : List Key := [.inr "cells", .inr "blend", .inr "draws"]
abbrev odeck (d : Deck) : O := .k kdeck [lO D.int d.cells, .v (.int d.blend), .v (.int d.draws)]
structure Plan where
  root : Int
  grid : List (List Int)
  marks : List Str
abbrev kplan : List Key := [.inr "root", .inr "grid", .inr "marks"]
abbrev oplan (d : Plan) : O := .k kplan [.v (.int d.root), .v (eT (eT D.int) d.grid), .v (eT D.str d.marks)]
structure RuleV where
  base : Int
  moves : List (List Int)
  answers : List Str
abbrev nRule : List Str := ["base", "moves", "answers"]
abbrev eRule (C : Addr) (r : RuleV) : D := .obj C (([("base" : Str), "moves", "answers"] : List Str).zip [.int r.base, eT (eT D.int) r.moves, eT D.str r.answers])
abbrev eplan (d : Plan) : D := .dct (kplan.zip [.int d.root, eT (eT D.int) d.grid, eT D.str d.marks])
abbrev s_digits_of : Stmt := top 32
abbrev N_digits_of : List Str := ["base", "number", "found", "left"]
theorem sc_digits_of : FnScope N_digits_of ["base", "number"] (defScope s_digits_of) := ⟨rfl, rfl, rfl, by decide +kernel, rfl, by decide +kernel, by decide +kernel⟩
noncomputable def m_digits_of (x_base : Int) (x_number : Int) : Option ((List Int)) := ((whO (fun (s1 : (List Int) × Int) => (some (decide (s1.2 > (0 : Int))))) (fun (s1 : (List Int) × Int) => ((modI s1.2 x_base).bind fun v2 => ((pushO s1.1 v2).bind fun v3 => ((divI s1.2 x_base).bind fun v4 => (some (v3, v4)))))) (([] : (List Int)), x_number)).bind (fun (s1 : (List Int) × Int) => (some (List.reverse s1.1))))
abbrev ea_digits_of : (Int × Int) → List O := fun a => [(.v (.int a.1)), (.v (.int a.2))]
noncomputable abbrev mf_digits_of : (Int × Int) → Option ((List Int)) := fun a => m_digits_of a.1 a.2
abbrev er_digits_of : (Int × Int) → ((List Int)) → Out := fun a r => .ret (.v (.tup (List.map D.int r))) [(.v (.int a.1)), (.v (.int a.2))]
theorem ok_digits_of {P : Program} {w : World} {K : Fz} {mg : Str → Option Value} {base : Heap} {f : Addr} {fd : FuncData} (F : FunD K "digits_of" "digits_of" (defArgs s_digits_of) (defBody s_digits_of) (defScope s_digits_of) [] [] f fd) (b_tuple : mg "tuple" = none) : DFn GG P w K mg base 1 f fd ["base", "number"] (bSp (ea_digits_of) mf_digits_of (er_digits_of)) := by
  obtain ⟨oc, od, dV, kV, doc, pm, an, cdv, ct, osl, e1, e2, e3, _, _⟩ := F.ex
  refine DFn.mkB [] (fun _ _ h => h) ⟨oc, od, dV, kV, doc, pm, an, cdv, ct, osl, e1, e2, e3⟩ sc_digits_of (fun _ => rfl) ?_
  intro cdv A outer s H E hr hg a
  obtain ⟨x_base, x_number⟩ := a
  have sc := sc_digits_of
  have tk : Takes (cxOf (L2.CX P w) P w K mg base N_digits_of "digits_of" (defScope s_digits_of) f cdv A outer s H E) (WB E) := takes_of rfl rfl rfl rfl
  have hp : PassesOwn (model P w) (A.deeper (envOfC "digits_of" (defScope s_digits_of) s.heap.objs.size f cdv)) (cxOf (L2.CX P w) P w K mg base N_digits_of "digits_of" (defScope s_digits_of) f cdv A outer s H E).env (cxOf (L2.CX P w) P w K mg base N_digits_of "digits_of" (defScope s_digits_of) f cdv A outer s H E).xe := passes_of rfl
  have hu := hr.units
  have hu1 := hu_of hr
  exact (lk_cons (sk_set 2 sc.nd (ek_lstM (ak_nil ⟨by decide, (lk_cons (sk_set 3 sc.nd (ek_b (bk_var 1 (o := (.v (.int x_number))) ⟨_, rfl, (lk_cons (sk_whileO (fun (s1 : (List Int) × Int) => [some (.v (.int x_base)), none, some (lO D.int s1.1), some (.v (.int s1.2))]) (([] : (List Int)), x_number) (fun (s1 : (List Int) × Int) => ((modI s1.2 x_base).bind fun v2 => ((pushO s1.1 v2).bind fun v3 => ((divI s1.2 x_base).bind fun v4 => (some (v3, v4)))))) (fun (s1 : (List Int) × Int) => (some (decide (s1.2 > (0 : Int))))) (fun (s1 : (List Int) × Int) => (some (List.reverse s1.1))) hp ⟨rfl, ⟨rfl, ⟨rfl, trivial⟩⟩⟩ rfl (fun s1 => (tk_cmpB (fun _ _ ha hb => tj_gt ha hb) (bk_var 3 (o := (.v (.int s1.2))) (bk_int (rk_gtI ⟨_, rfl, ⟨rfl, ⟨rfl, ⟨rfl, ⟨rfl, trivial⟩⟩⟩⟩⟩))))) (fun s1 => (lk_cons (sk_expr (ek_mB 2 none (o1 := (lO D.int s1.1)) (fun _ _ ha hb => ej_append ha hb) (rv_slot 2) rfl kl_ok (bak_cons (bk_op (fun _ _ => ej_mod) (bk_var 3 (o := (.v (.int s1.2))) (bk_var 0 (o := (.v (.int x_base))) (rk_modI fun v2 => (bak_nil ⟨[(.int v2)], rfl, ms_app fun v3 => (lk_one (sk_set 3 sc.nd (ek_b (bk_op (fun _ _ => ej_div) (bk_var 3 (o := (.v (.int s1.2))) (bk_var 0 (o := (.v (.int x_base))) (rk_divI fun v4 => ⟨_, rfl, ⟨_, rfl, ⟨rfl, ⟨rfl, ⟨rfl, trivial⟩⟩⟩⟩⟩)))))))⟩)))))))))) (fun s1 => (lk_one (sk_ret (ek_b (bk_cb (fun _ ha => ej_tuple b_tuple ha) (bak_cons (bk_rev (bk_var 2 (o := (lO D.int s1.1)) ⟨_, as_own, by rw [← List.map_reverse]; exact (bak_nil (rl_tupL as_v ⟨_, rfl, ⟨(List.reverse s1.1), _, rfl, rfl, ⟨.inl ⟨_, rfl, rfl⟩, ⟨.inl ⟨_, rfl, rfl⟩, trivial⟩⟩⟩⟩))⟩))))))))))⟩))))⟩))))
abbrev s__law_tens : Stmt := top 53
abbrev N__law_tens : List Str := ["_law_many", "_law_found", "_law_k"]
theorem sc__law_tens : FnScope N__law_tens ["_law_many"] (defScope s__law_tens) := ⟨rfl, rfl, rfl, by decide +kernel, rfl, by decide +kernel, by decide +kernel⟩
noncomputable def m__law_tens (x__law_many : Int) : Option (Int) := ((rangeO 0 x__law_many).bind fun xs1 => ((forO (fun (s2 : Int) (x3 : Int) => ((mulI s2 (10 : Int)).bind fun v4 => (some v4))) xs1 (1 : Int)).bind (fun (s2 : Int) => (some s2))))
abbrev ea__law_tens : (Int) → List O := fun a => [(.v (.int a))]
noncomputable abbrev mf__law_tens : (Int) → Option (Int) := fun a => m__law_tens a
abbrev er__law_tens : (Int) → (Int) → Out := fun a r => .ret (.v (.int r)) [(.v (.int a))]
theorem ok__law_tens {P : Program} {w : World} {K : Fz} {mg : Str → Option Value} {base : Heap} {f : Addr} {fd : FuncData} (F : FunD K "_law_tens" "_law_tens" (defArgs s__law_tens) (defBody s__law_tens) (defScope s__law_tens) [] [] f fd) (b_range : mg "range" = none) : DFn GG P w K mg base 1 f fd ["_law_many"] (bSp (ea__law_tens) mf__law_tens (er__law_tens)) := by
  obtain ⟨oc, od, dV, kV, doc, pm, an, cdv, ct, osl, e1, e2, e3, _, _⟩ := F.ex
  refine DFn.mkB [] (fun _ _ h => h) ⟨oc, od, dV, kV, doc, pm, an, cdv, ct, osl, e1, e2, e3⟩ sc__law_tens (fun _ => rfl) ?_
  intro cdv A outer s H E hr hg a
  generalize a = x__law_many
  have sc := sc__law_tens
  have tk : Takes (cxOf (L2.CX P w) P w K mg base N__law_tens "_law_tens" (defScope s__law_tens) f cdv A outer s H E) (WB E) := takes_of rfl rfl rfl rfl
  have hp : PassesOwn (model P w) (A.deeper (envOfC "_law_tens" (defScope s__law_tens) s.heap.objs.size f cdv)) (cxOf (L2.CX P w) P w K mg base N__law_tens "_law_tens" (defScope s__law_tens) f cdv A outer s H E).env (cxOf (L2.CX P w) P w K mg base N__law_tens "_law_tens" (defScope s__law_tens) f cdv A outer s H E).xe := passes_of rfl
  have hu := hr.units
  have hu1 := hu_of hr
  exact (lk_cons (sk_set 1 sc.nd (ek_b (bk_int ⟨_, rfl, (lk_cons (sk_forO (fun (s2 : Int) => [none, some (.v (.int s2))]) D.int hp rfl (ik_range1 b_range (ak_cons (ek_b (bk_var 0 (o := (.v (.int x__law_many))) ⟨_, rfl, (ak_nil ⟨_, _, rfl, rfl, fun xs1 => ⟨xs1, (1 : Int), (fun (s2 : Int) (x3 : Int) => ((mulI s2 (10 : Int)).bind fun v4 => (some v4))), (fun (s2 : Int) => (some s2)), rfl, ⟨rfl, trivial⟩, rfl, fun s2 x3 => (gk_name 2 sc.nd (lk_one (sk_set 1 sc.nd (ek_b (bk_op (fun _ _ => ej_mul) (bk_var 1 (o := (.v (.int s2))) (bk_int (rk_mulI fun v4 => ⟨_, rfl, ⟨_, rfl, ⟨rfl, trivial⟩⟩⟩)))))))), fun s2 => (lk_one (sk_ret (ek_b (bk_var 1 (o := (.v (.int s2))) ⟨_, rfl, ⟨s2, _, rfl, rfl, ⟨.inl ⟨_, rfl, rfl⟩, trivial⟩⟩⟩))))⟩⟩)⟩))))))⟩))))
abbrev s__law_draw : Stmt := top 51
abbrev N__law_draw : List Str := ["_law_deck_here", "_law_many", "_law_turn", "_law_cell", "_law_mixed"]
theorem sc__law_draw : FnScope N__law_draw ["_law_deck_here", "_law_many"] (defScope s__law_draw) := ⟨rfl, rfl, rfl, by decide +kernel, rfl, by decide +kernel, by decide +kernel⟩
noncomputable def m__law_draw (x__law_deck_here : Deck) (x__law_many : Int) : Option (Int × Deck) := ((eqD (.lst (List.map D.int (⟨x__law_deck_here.cells, x__law_deck_here.blend, (x__law_deck_here.draws + (1 : Int))⟩ : Deck).cells)) (.lst (List.map D.int ([] : List Int)))).bind fun b1 => (if (true ^^ b1) then ((popO (⟨x__law_deck_here.cells, x__law_deck_here.blend, (x__law_deck_here.draws + (1 : Int))⟩ : Deck).cells).bind fun v2 => ((powI (10 : Int) (18 : Int)).bind fun v3 => (if (decide (v2.1 ≥ v3)) then ((divI v2.1 x__law_many).bind fun v4 => ((pushO (⟨v2.2, (⟨x__law_deck_here.cells, x__law_deck_here.blend, (x__law_deck_here.draws + (1 : Int))⟩ : Deck).blend, (⟨x__law_deck_here.cells, x__law_deck_here.blend, (x__law_deck_here.draws + (1 : Int))⟩ : Deck).draws⟩ : Deck).cells v4).bind fun v5 => ((modI v2.1 x__law_many).bind fun v6 => (some (v6, (⟨v5, (⟨v2.2, (⟨x__law_deck_here.cells, x__law_deck_here.blend, (x__law_deck_here.draws + (1 : Int))⟩ : Deck).blend, (⟨x__law_deck_here.cells, x__law_deck_here.blend, (x__law_deck_here.draws + (1 : Int))⟩ : Deck).draws⟩ : Deck).blend, (⟨v2.2, (⟨x__law_deck_here.cells, x__law_deck_here.blend, (x__law_deck_here.draws + (1 : Int))⟩ : Deck).blend, (⟨x__law_deck_here.cells, x__law_deck_here.blend, (x__law_deck_here.draws + (1 : Int))⟩ : Deck).draws⟩ : Deck).draws⟩ : Deck)))))) else ((modI (v2.1 + (⟨v2.2, (⟨x__law_deck_here.cells, x__law_deck_here.blend, (x__law_deck_here.draws + (1 : Int))⟩ : Deck).blend, (⟨x__law_deck_here.cells, x__law_deck_here.blend, (x__law_deck_here.draws + (1 : Int))⟩ : Deck).draws⟩ : Deck).blend) (2147483629 : Int)).bind fun v7 => ((mulI (60167 : Int) (⟨x__law_deck_here.cells, x__law_deck_here.blend, (x__law_deck_here.draws + (1 : Int))⟩ : Deck).draws).bind fun v8 => ((mulI v8 (⟨x__law_deck_here.cells, x__law_deck_here.blend, (x__law_deck_here.draws + (1 : Int))⟩ : Deck).draws).bind fun v9 => ((mulI ((v7 + v9) + (47 : Int)) (40692 : Int)).bind fun v10 => ((modI v10 (2147483647 : Int)).bind fun v11 => ((mulI v11 v11).bind fun v12 => ((mulI (69621 : Int) (⟨x__law_deck_here.cells, x__law_deck_here.blend, (x__law_deck_here.draws + (1 : Int))⟩ : Deck).draws).bind fun v13 => ((modI ((v12 + v13) + (47 : Int)) (2147483587 : Int)).bind fun v14 => ((mulI v14 (39373 : Int)).bind fun v15 => ((modI v15 (2147483563 : Int)).bind fun v16 => ((divI v16 (64 : Int)).bind fun v17 => ((modI v17 x__law_many).bind fun v18 => (some (v18, (⟨v2.2, (⟨x__law_deck_here.cells, x__law_deck_here.blend, (x__law_deck_here.draws + (1 : Int))⟩ : Deck).blend, (⟨x__law_deck_here.cells, x__law_deck_here.blend, (x__law_deck_here.draws + (1 : Int))⟩ : Deck).draws⟩ : Deck)))))))))))))))))) else ((modI (⟨x__law_deck_here.cells, x__law_deck_here.blend, (x__law_deck_here.draws + (1 : Int))⟩ : Deck).blend (2147483629 : Int)).bind fun v21 => ((mulI (60167 : Int) (⟨x__law_deck_here.cells, x__law_deck_here.blend, (x__law_deck_here.draws + (1 : Int))⟩ : Deck).draws).bind fun v22 => ((mulI v22 (⟨x__law_deck_here.cells, x__law_deck_here.blend, (x__law_deck_here.draws + (1 : Int))⟩ : Deck).draws).bind fun v23 => ((mulI ((v21 + v23) + (47 : Int)) (40692 : Int)).bind fun v24 => ((modI v24 (2147483647 : Int)).bind fun v25 => ((mulI v25 v25).bind fun v26 => ((mulI (69621 : Int) (⟨x__law_deck_here.cells, x__law_deck_here.blend, (x__law_deck_here.draws + (1 : Int))⟩ : Deck).draws).bind fun v27 => ((modI ((v26 + v27) + (47 : Int)) (2147483587 : Int)).bind fun v28 => ((mulI v28 (39373 : Int)).bind fun v29 => ((modI v29 (2147483563 : Int)).bind fun v30 => ((divI v30 (64 : Int)).bind fun v31 => ((modI v31 x__law_many).bind fun v32 => (some (v32, (⟨x__law_deck_here.cells, x__law_deck_here.blend, (x__law_deck_here.draws + (1 : Int))⟩ : Deck)))))))))))))))))
abbrev ea__law_draw : (Deck × Int) → List O := fun a => [(odeck a.1), (.v (.int a.2))]
noncomputable abbrev mf__law_draw : (Deck × Int) → Option (Int × Deck) := fun a => m__law_draw a.1 a.2
abbrev er__law_draw : (Deck × Int) → (Int × Deck) → Out := fun a r => .ret (.v (.int r.1)) [(odeck r.2), (.v (.int a.2))]
theorem ok__law_draw {P : Program} {w : World} {K : Fz} {mg : Str → Option Value} {base : Heap} {f : Addr} {fd : FuncData} (F : FunD K "_law_draw" "_law_draw" (defArgs s__law_draw) (defBody s__law_draw) (defScope s__law_draw) [] [] f fd) (b_int : mg "int" = none) : DFn GG P w K mg base 1 f fd ["_law_deck_here", "_law_many"] (bSp (ea__law_draw) mf__law_draw (er__law_draw)) := by
  obtain ⟨oc, od, dV, kV, doc, pm, an, cdv, ct, osl, e1, e2, e3, _, _⟩ := F.ex
  refine DFn.mkB [0] (fun _ _ h => h) ⟨oc, od, dV, kV, doc, pm, an, cdv, ct, osl, e1, e2, e3⟩ sc__law_draw (fun _ => rfl) ?_
  intro cdv A outer s H E hr hg a
  obtain ⟨x__law_deck_here, x__law_many⟩ := a
  have sc := sc__law_draw
  have tk : Takes (cxOf (L2.CX P w) P w K mg base N__law_draw "_law_draw" (defScope s__law_draw) f cdv A outer s H E) (WB E) := takes_of rfl rfl rfl rfl
  have hp : PassesOwn (model P w) (A.deeper (envOfC "_law_draw" (defScope s__law_draw) s.heap.objs.size f cdv)) (cxOf (L2.CX P w) P w K mg base N__law_draw "_law_draw" (defScope s__law_draw) f cdv A outer s H E).env (cxOf (L2.CX P w) P w K mg base N__law_draw "_law_draw" (defScope s__law_draw) f cdv A outer s H E).xe := passes_of rfl
  have hu := hr.units
  have hu1 := hu_of hr
  exact (lk_cons (sk_dput 0 none hu1 (ek_b (bk_op (fun _ _ => ej_add) (bk_rv 0 (some 2) (o1 := (.v (.int x__law_deck_here.draws))) (rv_key 0 2 hu1 (ks := kdeck)) (bk_int (rk_addI ⟨_, rfl, ⟨_, _, rfl, (rv_slot 0), rfl, bk_str ⟨_, rfl, ps_r 2 (lk_cons (sk_par2 2 3 rfl sc.nd (ak_cons (ek_b (bk_rv 0 (some 2) (o1 := (.v (.int (⟨x__law_deck_here.cells, x__law_deck_here.blend, (x__law_deck_here.draws + (1 : Int))⟩ : Deck).draws))) (rv_key 0 2 hu1 (ks := kdeck)) ⟨_, rfl, (ak_cons (ek_b (bk_rv 0 (some 1) (o1 := (.v (.int (⟨x__law_deck_here.cells, x__law_deck_here.blend, (x__law_deck_here.draws + (1 : Int))⟩ : Deck).blend))) (rv_key 0 1 hu1 (ks := kdeck)) ⟨_, rfl, (ak_nil ⟨_, _, rfl, (lk_cons (sk_if (tk_cmpB (fun _ _ ha hb => tj_ne hu ha hb) (bk_rv 0 (some 0) (o1 := (lO D.int (⟨x__law_deck_here.cells, x__law_deck_here.blend, (x__law_deck_here.draws + (1 : Int))⟩ : Deck).cells)) (rv_key 0 0 hu1 (ks := kdeck)) (bk_lst (bak_nil ⟨[], rfl, (by show 0 ≤ sizeLine; decide), (rk_eqO dr_lO (dr_v (fun _ z => by cases z)) fun b1 => ⟨_, rfl, ⟨((popO (⟨x__law_deck_here.cells, x__law_deck_here.blend, (x__law_deck_here.draws + (1 : Int))⟩ : Deck).cells).bind fun v2 => ((powI (10 : Int) (18 : Int)).bind fun v3 => (if (decide (v2.1 ≥ v3)) then ((divI v2.1 x__law_many).bind fun v4 => ((pushO (⟨v2.2, (⟨x__law_deck_here.cells, x__law_deck_here.blend, (x__law_deck_here.draws + (1 : Int))⟩ : Deck).blend, (⟨x__law_deck_here.cells, x__law_deck_here.blend, (x__law_deck_here.draws + (1 : Int))⟩ : Deck).draws⟩ : Deck).cells v4).bind fun v5 => ((modI v2.1 x__law_many).bind fun v6 => (some (v6, (⟨v5, (⟨v2.2, (⟨x__law_deck_here.cells, x__law_deck_here.blend, (x__law_deck_here.draws + (1 : Int))⟩ : Deck).blend, (⟨x__law_deck_here.cells, x__law_deck_here.blend, (x__law_deck_here.draws + (1 : Int))⟩ : Deck).draws⟩ : Deck).blend, (⟨v2.2, (⟨x__law_deck_here.cells, x__law_deck_here.blend, (x__law_deck_here.draws + (1 : Int))⟩ : Deck).blend, (⟨x__law_deck_here.cells, x__law_deck_here.blend, (x__law_deck_here.draws + (1 : Int))⟩ : Deck).draws⟩ : Deck).draws⟩ : Deck)))))) else ((modI (v2.1 + (⟨v2.2, (⟨x__law_deck_here.cells, x__law_deck_here.blend, (x__law_deck_here.draws + (1 : Int))⟩ : Deck).blend, (⟨x__law_deck_here.cells, x__law_deck_here.blend, (x__law_deck_here.draws + (1 : Int))⟩ : Deck).draws⟩ : Deck).blend) (2147483629 : Int)).bind fun v7 => ((mulI (60167 : Int) (⟨x__law_deck_here.cells, x__law_deck_here.blend, (x__law_deck_here.draws + (1 : Int))⟩ : Deck).draws).bind fun v8 => ((mulI v8 (⟨x__law_deck_here.cells, x__law_deck_here.blend, (x__law_deck_here.draws + (1 : Int))⟩ : Deck).draws).bind fun v9 => ((mulI ((v7 + v9) + (47 : Int)) (40692 : Int)).bind fun v10 => ((modI v10 (2147483647 : Int)).bind fun v11 => ((mulI v11 v11).bind fun v12 => ((mulI (69621 : Int) (⟨x__law_deck_here.cells, x__law_deck_here.blend, (x__law_deck_here.draws + (1 : Int))⟩ : Deck).draws).bind fun v13 => ((modI ((v12 + v13) + (47 : Int)) (2147483587 : Int)).bind fun v14 => ((mulI v14 (39373 : Int)).bind fun v15 => ((modI v15 (2147483563 : Int)).bind fun v16 => ((divI v16 (64 : Int)).bind fun v17 => ((modI v17 x__law_many).bind fun v18 => (some (v18, (⟨v2.2, (⟨x__law_deck_here.cells, x__law_deck_here.blend, (x__law_deck_here.draws + (1 : Int))⟩ : Deck).blend, (⟨x__law_deck_here.cells, x__law_deck_here.blend, (x__law_deck_here.draws + (1 : Int))⟩ : Deck).draws⟩ : Deck)))))))))))))))))), ((modI (⟨x__law_deck_here.cells, x__law_deck_here.blend, (x__law_deck_here.draws + (1 : Int))⟩ : Deck).blend (2147483629 : Int)).bind fun v21 => ((mulI (60167 : Int) (⟨x__law_deck_here.cells, x__law_deck_here.blend, (x__law_deck_here.draws + (1 : Int))⟩ : Deck).draws).bind fun v22 => ((mulI v22 (⟨x__law_deck_here.cells, x__law_deck_here.blend, (x__law_deck_here.draws + (1 : Int))⟩ : Deck).draws).bind fun v23 => ((mulI ((v21 + v23) + (47 : Int)) (40692 : Int)).bind fun v24 => ((modI v24 (2147483647 : Int)).bind fun v25 => ((mulI v25 v25).bind fun v26 => ((mulI (69621 : Int) (⟨x__law_deck_here.cells, x__law_deck_here.blend, (x__law_deck_here.draws + (1 : Int))⟩ : Deck).draws).bind fun v27 => ((modI ((v26 + v27) + (47 : Int)) (2147483587 : Int)).bind fun v28 => ((mulI v28 (39373 : Int)).bind fun v29 => ((modI v29 (2147483563 : Int)).bind fun v30 => ((divI v30 (64 : Int)).bind fun v31 => ((modI v31 x__law_many).bind fun v32 => (some (v32, (⟨x__law_deck_here.cells, x__law_deck_here.blend, (x__law_deck_here.draws + (1 : Int))⟩ : Deck))))))))))))))), rfl, fun _ => (lk_cons (sk_set 3 sc.nd (ek_mB0 0 (some 0) (o1 := (lO D.int (⟨x__law_deck_here.cells, x__law_deck_here.blend, (x__law_deck_here.draws + (1 : Int))⟩ : Deck).cells)) (fun _ ha => ej_pop ha) (rv_key 0 0 hu1 (ks := kdeck)) rfl kl_ok (ms_pop fun y19 y20 => (lk_cons (sk_if (tk_cmpB (fun _ _ ha hb => tj_ge ha hb) (bk_var 3 (o := (.v (.int y19))) (bk_op (fun _ _ => ej_pow) (bk_int (bk_int (rk_powI fun v3 => (rk_geI ⟨_, rfl, ⟨((divI y19 x__law_many).bind fun v4 => ((pushO (⟨y20, (⟨x__law_deck_here.cells, x__law_deck_here.blend, (x__law_deck_here.draws + (1 : Int))⟩ : Deck).blend, (⟨x__law_deck_here.cells, x__law_deck_here.blend, (x__law_deck_here.draws + (1 : Int))⟩ : Deck).draws⟩ : Deck).cells v4).bind fun v5 => ((modI y19 x__law_many).bind fun v6 => (some (v6, (⟨v5, (⟨y20, (⟨x__law_deck_here.cells, x__law_deck_here.blend, (x__law_deck_here.draws + (1 : Int))⟩ : Deck).blend, (⟨x__law_deck_here.cells, x__law_deck_here.blend, (x__law_deck_here.draws + (1 : Int))⟩ : Deck).draws⟩ : Deck).blend, (⟨y20, (⟨x__law_deck_here.cells, x__law_deck_here.blend, (x__law_deck_here.draws + (1 : Int))⟩ : Deck).blend, (⟨x__law_deck_here.cells, x__law_deck_here.blend, (x__law_deck_here.draws + (1 : Int))⟩ : Deck).draws⟩ : Deck).draws⟩ : Deck)))))), ((modI (y19 + (⟨y20, (⟨x__law_deck_here.cells, x__law_deck_here.blend, (x__law_deck_here.draws + (1 : Int))⟩ : Deck).blend, (⟨x__law_deck_here.cells, x__law_deck_here.blend, (x__law_deck_here.draws + (1 : Int))⟩ : Deck).draws⟩ : Deck).blend) (2147483629 : Int)).bind fun v7 => ((mulI (60167 : Int) (⟨x__law_deck_here.cells, x__law_deck_here.blend, (x__law_deck_here.draws + (1 : Int))⟩ : Deck).draws).bind fun v8 => ((mulI v8 (⟨x__law_deck_here.cells, x__law_deck_here.blend, (x__law_deck_here.draws + (1 : Int))⟩ : Deck).draws).bind fun v9 => ((mulI ((v7 + v9) + (47 : Int)) (40692 : Int)).bind fun v10 => ((modI v10 (2147483647 : Int)).bind fun v11 => ((mulI v11 v11).bind fun v12 => ((mulI (69621 : Int) (⟨x__law_deck_here.cells, x__law_deck_here.blend, (x__law_deck_here.draws + (1 : Int))⟩ : Deck).draws).bind fun v13 => ((modI ((v12 + v13) + (47 : Int)) (2147483587 : Int)).bind fun v14 => ((mulI v14 (39373 : Int)).bind fun v15 => ((modI v15 (2147483563 : Int)).bind fun v16 => ((divI v16 (64 : Int)).bind fun v17 => ((modI v17 x__law_many).bind fun v18 => (some (v18, (⟨y20, (⟨x__law_deck_here.cells, x__law_deck_here.blend, (x__law_deck_here.draws + (1 : Int))⟩ : Deck).blend, (⟨x__law_deck_here.cells, x__law_deck_here.blend, (x__law_deck_here.draws + (1 : Int))⟩ : Deck).draws⟩ : Deck))))))))))))))), rfl, fun _ => (lk_cons (sk_expr (ek_mB 0 (some 0) (o1 := (lO D.int (⟨y20, (⟨x__law_deck_here.cells, x__law_deck_here.blend, (x__law_deck_here.draws + (1 : Int))⟩ : Deck).blend, (⟨x__law_deck_here.cells, x__law_deck_here.blend, (x__law_deck_here.draws + (1 : Int))⟩ : Deck).draws⟩ : Deck).cells)) (fun _ _ ha hb => ej_append ha hb) (rv_key 0 0 hu1 (ks := kdeck)) rfl kl_ok (bak_cons (bk_op (fun _ _ => ej_div) (bk_var 3 (o := (.v (.int y19))) (bk_var 1 (o := (.v (.int x__law_many))) (rk_divI fun v4 => (bak_nil ⟨[(.int v4)], rfl, ms_app fun v5 => (lk_one (sk_ret (ek_b (bk_op (fun _ _ => ej_mod) (bk_cb (fun _ ha => ej_intc b_int ha) (bak_cons (bk_var 3 (o := (.v (.int y19))) (bak_nil (rl_intI (bk_var 1 (o := (.v (.int x__law_many))) (rk_modI fun v6 => ⟨_, rfl, ⟨(v6, (⟨v5, (⟨y20, (⟨x__law_deck_here.cells, x__law_deck_here.blend, (x__law_deck_here.draws + (1 : Int))⟩ : Deck).blend, (⟨x__law_deck_here.cells, x__law_deck_here.blend, (x__law_deck_here.draws + (1 : Int))⟩ : Deck).draws⟩ : Deck).blend, (⟨y20, (⟨x__law_deck_here.cells, x__law_deck_here.blend, (x__law_deck_here.draws + (1 : Int))⟩ : Deck).blend, (⟨x__law_deck_here.cells, x__law_deck_here.blend, (x__law_deck_here.draws + (1 : Int))⟩ : Deck).draws⟩ : Deck).draws⟩ : Deck)), _, rfl, rfl, ⟨.inr ⟨by decide, rfl⟩, ⟨.inl ⟨_, rfl, rfl⟩, trivial⟩⟩⟩⟩)))))))))))⟩))))))))), fun _ => (lk_nil (lk_one (sk_set 3 sc.nd (ek_b (bk_op (fun _ _ => ej_add) (bk_var 3 (o := (.v (.int y19))) (bk_rv 0 (some 1) (o1 := (.v (.int (⟨y20, (⟨x__law_deck_here.cells, x__law_deck_here.blend, (x__law_deck_here.draws + (1 : Int))⟩ : Deck).blend, (⟨x__law_deck_here.cells, x__law_deck_here.blend, (x__law_deck_here.draws + (1 : Int))⟩ : Deck).draws⟩ : Deck).blend))) (rv_key 0 1 hu1 (ks := kdeck)) (rk_addI ⟨_, rfl, (lk_cons (sk_set 4 sc.nd (ek_b (bk_op (fun _ _ => ej_mod) (bk_op (fun _ _ => ej_mul) (bk_cb (fun _ ha => ej_intc b_int ha) (bak_cons (bk_op (fun _ _ => ej_add) (bk_op (fun _ _ => ej_add) (bk_op (fun _ _ => ej_mod) (bk_cb (fun _ ha => ej_intc b_int ha) (bak_cons (bk_var 3 (o := (.v (.int (y19 + (⟨y20, (⟨x__law_deck_here.cells, x__law_deck_here.blend, (x__law_deck_here.draws + (1 : Int))⟩ : Deck).blend, (⟨x__law_deck_here.cells, x__law_deck_here.blend, (x__law_deck_here.draws + (1 : Int))⟩ : Deck).draws⟩ : Deck).blend)))) (bak_nil (rl_intI (bk_int (rk_modI fun v7 => (bk_op (fun _ _ => ej_mul) (bk_op (fun _ _ => ej_mul) (bk_int (bk_var 2 (o := (.v (.int (⟨x__law_deck_here.cells, x__law_deck_here.blend, (x__law_deck_here.draws + (1 : Int))⟩ : Deck).draws))) (rk_mulI fun v8 => (bk_var 2 (o := (.v (.int (⟨x__law_deck_here.cells, x__law_deck_here.blend, (x__law_deck_here.draws + (1 : Int))⟩ : Deck).draws))) (rk_mulI fun v9 => (rk_addI (bk_int (rk_addI (bak_nil (rl_intI (bk_int (rk_mulI fun v10 => (bk_int (rk_modI fun v11 => ⟨_, rfl, (lk_cons (sk_set 4 sc.nd (ek_b (bk_op (fun _ _ => ej_mod) (bk_cb (fun _ ha => ej_intc b_int ha) (bak_cons (bk_op (fun _ _ => ej_add) (bk_op (fun _ _ => ej_add) (bk_op (fun _ _ => ej_mul) (bk_var 4 (o := (.v (.int v11))) (bk_var 4 (o := (.v (.int v11))) (rk_mulI fun v12 => (bk_op (fun _ _ => ej_mul) (bk_int (bk_var 2 (o := (.v (.int (⟨x__law_deck_here.cells, x__law_deck_here.blend, (x__law_deck_here.draws + (1 : Int))⟩ : Deck).draws))) (rk_mulI fun v13 => (rk_addI (bk_int (rk_addI (bak_nil (rl_intI (bk_int (rk_modI fun v14 => ⟨_, rfl, (lk_one (sk_ret (ek_b (bk_op (fun _ _ => ej_mod) (bk_op (fun _ _ => ej_div) (bk_op (fun _ _ => ej_mod) (bk_cb (fun _ ha => ej_intc b_int ha) (bak_cons (bk_op (fun _ _ => ej_mul) (bk_var 4 (o := (.v (.int v14))) (bk_int (rk_mulI fun v15 => (bak_nil (rl_intI (bk_int (rk_modI fun v16 => (bk_int (rk_divI fun v17 => (bk_var 1 (o := (.v (.int x__law_many))) (rk_modI fun v18 => ⟨_, rfl, ⟨(v18, (⟨y20, (⟨x__law_deck_here.cells, x__law_deck_here.blend, (x__law_deck_here.draws + (1 : Int))⟩ : Deck).blend, (⟨x__law_deck_here.cells, x__law_deck_here.blend, (x__law_deck_here.draws + (1 : Int))⟩ : Deck).draws⟩ : Deck)), _, rfl, rfl, ⟨.inr ⟨by decide, rfl⟩, ⟨.inl ⟨_, rfl, rfl⟩, trivial⟩⟩⟩⟩))))))))))))))))))))⟩)))))))))))))))))))))))⟩)))))))))))))))))))))))))))))))))⟩))))))))⟩⟩))))))))))))), fun _ => (lk_nil (lk_cons (sk_set 4 sc.nd (ek_b (bk_op (fun _ _ => ej_mod) (bk_op (fun _ _ => ej_mul) (bk_cb (fun _ ha => ej_intc b_int ha) (bak_cons (bk_op (fun _ _ => ej_add) (bk_op (fun _ _ => ej_add) (bk_op (fun _ _ => ej_mod) (bk_cb (fun _ ha => ej_intc b_int ha) (bak_cons (bk_var 3 (o := (.v (.int (⟨x__law_deck_here.cells, x__law_deck_here.blend, (x__law_deck_here.draws + (1 : Int))⟩ : Deck).blend))) (bak_nil (rl_intI (bk_int (rk_modI fun v21 => (bk_op (fun _ _ => ej_mul) (bk_op (fun _ _ => ej_mul) (bk_int (bk_var 2 (o := (.v (.int (⟨x__law_deck_here.cells, x__law_deck_here.blend, (x__law_deck_here.draws + (1 : Int))⟩ : Deck).draws))) (rk_mulI fun v22 => (bk_var 2 (o := (.v (.int (⟨x__law_deck_here.cells, x__law_deck_here.blend, (x__law_deck_here.draws + (1 : Int))⟩ : Deck).draws))) (rk_mulI fun v23 => (rk_addI (bk_int (rk_addI (bak_nil (rl_intI (bk_int (rk_mulI fun v24 => (bk_int (rk_modI fun v25 => ⟨_, rfl, (lk_cons (sk_set 4 sc.nd (ek_b (bk_op (fun _ _ => ej_mod) (bk_cb (fun _ ha => ej_intc b_int ha) (bak_cons (bk_op (fun _ _ => ej_add) (bk_op (fun _ _ => ej_add) (bk_op (fun _ _ => ej_mul) (bk_var 4 (o := (.v (.int v25))) (bk_var 4 (o := (.v (.int v25))) (rk_mulI fun v26 => (bk_op (fun _ _ => ej_mul) (bk_int (bk_var 2 (o := (.v (.int (⟨x__law_deck_here.cells, x__law_deck_here.blend, (x__law_deck_here.draws + (1 : Int))⟩ : Deck).draws))) (rk_mulI fun v27 => (rk_addI (bk_int (rk_addI (bak_nil (rl_intI (bk_int (rk_modI fun v28 => ⟨_, rfl, (lk_one (sk_ret (ek_b (bk_op (fun _ _ => ej_mod) (bk_op (fun _ _ => ej_div) (bk_op (fun _ _ => ej_mod) (bk_cb (fun _ ha => ej_intc b_int ha) (bak_cons (bk_op (fun _ _ => ej_mul) (bk_var 4 (o := (.v (.int v28))) (bk_int (rk_mulI fun v29 => (bak_nil (rl_intI (bk_int (rk_modI fun v30 => (bk_int (rk_divI fun v31 => (bk_var 1 (o := (.v (.int x__law_many))) (rk_modI fun v32 => ⟨_, rfl, ⟨(v32, (⟨x__law_deck_here.cells, x__law_deck_here.blend, (x__law_deck_here.draws + (1 : Int))⟩ : Deck)), _, rfl, rfl, ⟨.inr ⟨by decide, rfl⟩, ⟨.inl ⟨_, rfl, rfl⟩, trivial⟩⟩⟩⟩))))))))))))))))))))⟩)))))))))))))))))))))))⟩))))))))))))))))))))))))))))))))))⟩⟩)⟩))))))⟩)⟩)))⟩)))))⟩⟩⟩)))))))
abbrev s__law_pick : Stmt := top 52
abbrev N__law_pick : List Str := ["_law_deck_here", "_law_some"]
theorem sc__law_pick : FnScope N__law_pick ["_law_deck_here", "_law_some"] (defScope s__law_pick) := ⟨rfl, rfl, rfl, by decide +kernel, rfl, by decide +kernel, by decide +kernel⟩
noncomputable def m__law_pick (x__law_deck_here : Deck) (x__law_some : (List Int)) : Option (Int × Deck) := ((m__law_draw x__law_deck_here ((x__law_some.length : Nat) : Int)).bind fun r1 => ((atO x__law_some r1.1).bind fun v2 => (some (v2, r1.2))))
abbrev ea__law_pick : (Deck × (List Int)) → List O := fun a => [(odeck a.1), (.v (.lst (List.map D.int a.2)))]
noncomputable abbrev mf__law_pick : (Deck × (List Int)) → Option (Int × Deck) := fun a => m__law_pick a.1 a.2
abbrev er__law_pick : (Deck × (List Int)) → (Int × Deck) → Out := fun a r => .ret (.v (.int r.1)) [(odeck r.2), (.v (.lst (List.map D.int a.2)))]
theorem ok__law_pick {P : Program} {w : World} {K : Fz} {mg : Str → Option Value} {base : Heap} {f : Addr} {fd : FuncData} (F : FunD K "_law_pick" "_law_pick" (defArgs s__law_pick) (defBody s__law_pick) (defScope s__law_pick) [] [] f fd) (C__law_draw : Cal P w K mg base 1 "_law_draw" ["_law_deck_here", "_law_many"] (bSp (ea__law_draw) mf__law_draw (er__law_draw))) (b_len : mg "len" = none) : DFn GG P w K mg base 2 f fd ["_law_deck_here", "_law_some"] (bSp (ea__law_pick) mf__law_pick (er__law_pick)) := by
  obtain ⟨oc, od, dV, kV, doc, pm, an, cdv, ct, osl, e1, e2, e3, _, _⟩ := F.ex
  refine DFn.mkB [0] (fun _ _ h => h) ⟨oc, od, dV, kV, doc, pm, an, cdv, ct, osl, e1, e2, e3⟩ sc__law_pick (fun _ => rfl) ?_
  intro cdv A outer s H E hr hg a
  obtain ⟨x__law_deck_here, x__law_some⟩ := a
  have sc := sc__law_pick
  have tk : Takes (cxOf (L2.CX P w) P w K mg base N__law_pick "_law_pick" (defScope s__law_pick) f cdv A outer s H E) (WB E) := takes_of rfl rfl rfl rfl
  have hp : PassesOwn (model P w) (A.deeper (envOfC "_law_pick" (defScope s__law_pick) s.heap.objs.size f cdv)) (cxOf (L2.CX P w) P w K mg base N__law_pick "_law_pick" (defScope s__law_pick) f cdv A outer s H E).env (cxOf (L2.CX P w) P w K mg base N__law_pick "_law_pick" (defScope s__law_pick) f cdv A outer s H E).xe := passes_of rfl
  have hu := hr.units
  have hu1 := hu_of hr
  exact (lk_one (sk_ret (ek_op (fun _ _ => ej_ix) (ek_b (bk_var 1 (o := (.v (.lst (List.map D.int x__law_some)))) ⟨_, rfl, (ek_call C__law_draw hr hg tk (ak_mov 0 (o := (odeck x__law_deck_here)) (ak_cons (ek_b (bk_cb (fun _ ha => ej_len b_len ha) (bak_cons (bk_var 1 (o := (.v (.lst (List.map D.int x__law_some)))) (bak_nil (rl_lenL as_v (by rw [List.length_map]; exact ⟨_, rfl, (ak_nil ⟨(x__law_deck_here, ((x__law_some.length : Nat) : Int)), _, rfl, rfl, fun r1 => (rk_ixL fun v2 => ⟨(v2, r1.2), _, rfl, rfl, ⟨.inr ⟨by decide, rfl⟩, ⟨.inl ⟨_, rfl, rfl⟩, trivial⟩⟩⟩)⟩)⟩))))))))))⟩)))))
abbrev s__law_pick_s : Stmt := top 52
abbrev N__law_pick_s : List Str := ["_law_deck_here", "_law_some"]
theorem sc__law_pick_s : FnScope N__law_pick_s ["_law_deck_here", "_law_some"] (defScope s__law_pick_s) := ⟨rfl, rfl, rfl, by decide +kernel, rfl, by decide +kernel, by decide +kernel⟩
noncomputable def m__law_pick_s (x__law_deck_here : Deck) (x__law_some : (List Str)) : Option (Str × Deck) := ((m__law_draw x__law_deck_here ((x__law_some.length : Nat) : Int)).bind fun r1 => ((atO x__law_some r1.1).bind fun v2 => (some (v2, r1.2))))
abbrev ea__law_pick_s : (Deck × (List Str)) → List O := fun a => [(odeck a.1), (.v (.lst (List.map D.str a.2)))]
noncomputable abbrev mf__law_pick_s : (Deck × (List Str)) → Option (Str × Deck) := fun a => m__law_pick_s a.1 a.2
abbrev er__law_pick_s : (Deck × (List Str)) → (Str × Deck) → Out := fun a r => .ret (.v (.str r.1)) [(odeck r.2), (.v (.lst (List.map D.str a.2)))]
theorem ok__law_pick_s {P : Program} {w : World} {K : Fz} {mg : Str → Option Value} {base : Heap} {f : Addr} {fd : FuncData} (F : FunD K "_law_pick" "_law_pick" (defArgs s__law_pick_s) (defBody s__law_pick_s) (defScope s__law_pick_s) [] [] f fd) (C__law_draw : Cal P w K mg base 1 "_law_draw" ["_law_deck_here", "_law_many"] (bSp (ea__law_draw) mf__law_draw (er__law_draw))) (b_len : mg "len" = none) : DFn GG P w K mg base 2 f fd ["_law_deck_here", "_law_some"] (bSp (ea__law_pick_s) mf__law_pick_s (er__law_pick_s)) := by
  obtain ⟨oc, od, dV, kV, doc, pm, an, cdv, ct, osl, e1, e2, e3, _, _⟩ := F.ex
  refine DFn.mkB [0] (fun _ _ h => h) ⟨oc, od, dV, kV, doc, pm, an, cdv, ct, osl, e1, e2, e3⟩ sc__law_pick_s (fun _ => rfl) ?_
  intro cdv A outer s H E hr hg a
  obtain ⟨x__law_deck_here, x__law_some⟩ := a
  have sc := sc__law_pick_s
  have tk : Takes (cxOf (L2.CX P w) P w K mg base N__law_pick_s "_law_pick" (defScope s__law_pick_s) f cdv A outer s H E) (WB E) := takes_of rfl rfl rfl rfl
  have hp : PassesOwn (model P w) (A.deeper (envOfC "_law_pick" (defScope s__law_pick_s) s.heap.objs.size f cdv)) (cxOf (L2.CX P w) P w K mg base N__law_pick_s "_law_pick" (defScope s__law_pick_s) f cdv A outer s H E).env (cxOf (L2.CX P w) P w K mg base N__law_pick_s "_law_pick" (defScope s__law_pick_s) f cdv A outer s H E).xe := passes_of rfl
  have hu := hr.units
  have hu1 := hu_of hr
  exact (lk_one (sk_ret (ek_op (fun _ _ => ej_ix) (ek_b (bk_var 1 (o := (.v (.lst (List.map D.str x__law_some)))) ⟨_, rfl, (ek_call C__law_draw hr hg tk (ak_mov 0 (o := (odeck x__law_deck_here)) (ak_cons (ek_b (bk_cb (fun _ ha => ej_len b_len ha) (bak_cons (bk_var 1 (o := (.v (.lst (List.map D.str x__law_some)))) (bak_nil (rl_lenL as_v (by rw [List.length_map]; exact ⟨_, rfl, (ak_nil ⟨(x__law_deck_here, ((x__law_some.length : Nat) : Int)), _, rfl, rfl, fun r1 => (rk_ixL fun v2 => ⟨(v2, r1.2), _, rfl, rfl, ⟨.inr ⟨by decide, rfl⟩, ⟨.inl ⟨_, rfl, rfl⟩, trivial⟩⟩⟩)⟩)⟩))))))))))⟩)))))
abbrev s__law_great : Stmt := top 57
abbrev N__law_great : List Str := ["_law_deck_here"]
theorem sc__law_great : FnScope N__law_great ["_law_deck_here"] (defScope s__law_great) := ⟨rfl, rfl, rfl, by decide +kernel, rfl, by decide +kernel, by decide +kernel⟩
noncomputable def m__law_great (x__law_deck_here : Deck) : Option (Int × Deck) := ((m__law_tens (299 : Int)).bind fun r1 => ((powI (10 : Int) (9 : Int)).bind fun v2 => ((m__law_draw x__law_deck_here v2).bind fun r3 => ((m__law_tens (150 : Int)).bind fun r4 => ((mulI r3.1 r4).bind fun v5 => ((powI (10 : Int) (9 : Int)).bind fun v6 => ((m__law_draw r3.2 v6).bind fun r7 => (some (((r1 + v5) + r7.1), r7.2)))))))))
abbrev ea__law_great : (Deck) → List O := fun a => [(odeck a)]
noncomputable abbrev mf__law_great : (Deck) → Option (Int × Deck) := fun a => m__law_great a
abbrev er__law_great : (Deck) → (Int × Deck) → Out := fun a r => .ret (.v (.int r.1)) [(odeck r.2)]
theorem ok__law_great {P : Program} {w : World} {K : Fz} {mg : Str → Option Value} {base : Heap} {f : Addr} {fd : FuncData} (F : FunD K "_law_great" "_law_great" (defArgs s__law_great) (defBody s__law_great) (defScope s__law_great) [] [] f fd) (C__law_tens : Cal P w K mg base 1 "_law_tens" ["_law_many"] (bSp (ea__law_tens) mf__law_tens (er__law_tens))) (C__law_draw : Cal P w K mg base 1 "_law_draw" ["_law_deck_here", "_law_many"] (bSp (ea__law_draw) mf__law_draw (er__law_draw))) : DFn GG P w K mg base 2 f fd ["_law_deck_here"] (bSp (ea__law_great) mf__law_great (er__law_great)) := by
  obtain ⟨oc, od, dV, kV, doc, pm, an, cdv, ct, osl, e1, e2, e3, _, _⟩ := F.ex
  refine DFn.mkB [0] (fun _ _ h => h) ⟨oc, od, dV, kV, doc, pm, an, cdv, ct, osl, e1, e2, e3⟩ sc__law_great (fun _ => rfl) ?_
  intro cdv A outer s H E hr hg a
  generalize a = x__law_deck_here
  have sc := sc__law_great
  have tk : Takes (cxOf (L2.CX P w) P w K mg base N__law_great "_law_great" (defScope s__law_great) f cdv A outer s H E) (WB E) := takes_of rfl rfl rfl rfl
  have hp : PassesOwn (model P w) (A.deeper (envOfC "_law_great" (defScope s__law_great) s.heap.objs.size f cdv)) (cxOf (L2.CX P w) P w K mg base N__law_great "_law_great" (defScope s__law_great) f cdv A outer s H E).env (cxOf (L2.CX P w) P w K mg base N__law_great "_law_great" (defScope s__law_great) f cdv A outer s H E).xe := passes_of rfl
  have hu := hr.units
  have hu1 := hu_of hr
  exact (lk_one (sk_ret (ek_op (fun _ _ => ej_add) (ek_op (fun _ _ => ej_add) (ek_call C__law_tens hr hg tk (ak_cons (ek_b (bk_int ⟨_, rfl, (ak_nil ⟨(299 : Int), _, rfl, rfl, fun r1 => (ek_op (fun _ _ => ej_mul) (ek_call C__law_draw hr hg tk (ak_mov 0 (o := (odeck x__law_deck_here)) (ak_cons (ek_b (bk_op (fun _ _ => ej_pow) (bk_int (bk_int (rk_powI fun v2 => ⟨_, rfl, (ak_nil ⟨(x__law_deck_here, v2), _, rfl, rfl, fun r3 => (ek_call C__law_tens hr hg tk (ak_cons (ek_b (bk_int ⟨_, rfl, (ak_nil ⟨(150 : Int), _, rfl, rfl, fun r4 => (rk_mulI fun v5 => (rk_addI (ek_call C__law_draw hr hg tk (ak_mov 0 (o := (odeck r3.2)) (ak_cons (ek_b (bk_op (fun _ _ => ej_pow) (bk_int (bk_int (rk_powI fun v6 => ⟨_, rfl, (ak_nil ⟨(r3.2, v6), _, rfl, rfl, fun r7 => (rk_addI ⟨(((r1 + v5) + r7.1), r7.2), _, rfl, rfl, ⟨.inr ⟨by decide, rfl⟩, trivial⟩⟩)⟩)⟩))))))))))⟩)⟩))))⟩)⟩)))))))))⟩)⟩))))))))
abbrev s_is_number : Stmt := top 23
abbrev N_is_number : List Str := ["thing"]
theorem sc_is_number : FnScope N_is_number ["thing"] (defScope s_is_number) := ⟨rfl, rfl, rfl, by decide +kernel, rfl, by decide +kernel, by decide +kernel⟩
noncomputable def m_is_number (x_thing : Int) : Option (Bool) := ((isT "int" (.int x_thing)).bind fun b1 => ((if b1 then ((isT "bool" (.int x_thing)).bind fun b2 => ((if (!b2) then (some (decide (x_thing ≥ (0 : Int)))) else some false).bind fun b3 => (some b3))) else some false).bind fun b4 => (some b4)))
abbrev ea_is_number : (Int) → List O := fun a => [(.v (.int a))]
noncomputable abbrev mf_is_number : (Int) → Option (Bool) := fun a => m_is_number a
abbrev er_is_number : (Int) → (Bool) → Out := fun a r => .ret (.v (.bl r)) [(.v (.int a))]
theorem ok_is_number {P : Program} {w : World} {K : Fz} {mg : Str → Option Value} {base : Heap} {f : Addr} {fd : FuncData} (F : FunD K "is_number" "is_number" (defArgs s_is_number) (defBody s_is_number) (defScope s_is_number) [] [] f fd) (b_isinstance : mg "isinstance" = none) (b_int : mg "int" = none) (b_bool : mg "bool" = none) (k_bool : KnowsT K "bool") (k_int : KnowsT K "int") : DFn GG P w K mg base 1 f fd ["thing"] (bSp (ea_is_number) mf_is_number (er_is_number)) := by
  obtain ⟨oc, od, dV, kV, doc, pm, an, cdv, ct, osl, e1, e2, e3, _, _⟩ := F.ex
  refine DFn.mkB [] (fun _ _ h => h) ⟨oc, od, dV, kV, doc, pm, an, cdv, ct, osl, e1, e2, e3⟩ sc_is_number (fun _ => rfl) ?_
  intro cdv A outer s H E hr hg a
  generalize a = x_thing
  have sc := sc_is_number
  have tk : Takes (cxOf (L2.CX P w) P w K mg base N_is_number "is_number" (defScope s_is_number) f cdv A outer s H E) (WB E) := takes_of rfl rfl rfl rfl
  have hp : PassesOwn (model P w) (A.deeper (envOfC "is_number" (defScope s_is_number) s.heap.objs.size f cdv)) (cxOf (L2.CX P w) P w K mg base N_is_number "is_number" (defScope s_is_number) f cdv A outer s H E).env (cxOf (L2.CX P w) P w K mg base N_is_number "is_number" (defScope s_is_number) f cdv A outer s H E).xe := passes_of rfl
  have hu := hr.units
  have hu1 := hu_of hr
  exact (lk_one (sk_ret (ek_andO [some (.v (.int x_thing))] (ek_b (bk_cb (fun _ ha => ej_is "int" k_int b_isinstance ha) (bak_cons (bk_var 0 (o := (.v (.int x_thing))) (bak_cons (bk_c (ej_bltT b_int) (bak_nil (rl_is fun b1 => ⟨_, rfl, ⟨b1, ((isT "bool" (.int x_thing)).bind fun b2 => ((if (!b2) then (some (decide (x_thing ≥ (0 : Int)))) else some false).bind fun b3 => (some b3))), fun b4 => (some b4), rfl, rfl, ⟨rfl, trivial⟩, fun _ => (ek_andO [some (.v (.int x_thing))] (ek_b (bk_not (bk_cb (fun _ ha => ej_is "bool" k_bool b_isinstance ha) (bak_cons (bk_var 0 (o := (.v (.int x_thing))) (bak_cons (bk_c (ej_bltT b_bool) (bak_nil (rl_is fun b2 => ⟨_, rfl, ⟨_, rfl, ⟨(!b2), (some (decide (x_thing ≥ (0 : Int)))), fun b3 => (some b3), rfl, rfl, ⟨rfl, trivial⟩, fun _ => (ek_one (ek_b (bk_op (fun _ _ ha hb => ej_ge ha hb) (bk_var 0 (o := (.v (.int x_thing))) (bk_int (rk_geI ⟨_, rfl, ⟨_, rfl, rfl, ⟨rfl, trivial⟩⟩⟩)))))), fun b3 => ⟨_, rfl, rfl, ⟨rfl, trivial⟩⟩⟩⟩⟩)))))))))), fun b4 => ⟨b4, _, rfl, rfl, ⟨.inl ⟨_, rfl, rfl⟩, trivial⟩⟩⟩⟩)))))))))))
abbrev s_is_base : Stmt := top 24
abbrev N_is_base : List Str := ["thing"]
theorem sc_is_base : FnScope N_is_base ["thing"] (defScope s_is_base) := ⟨rfl, rfl, rfl, by decide +kernel, rfl, by decide +kernel, by decide +kernel⟩
noncomputable def m_is_base (x_thing : Int) : Option (Bool) := ((m_is_number x_thing).bind fun r1 => ((if r1 then (some (decide ((2 : Int) ≤ x_thing) && decide (x_thing ≤ (16 : Int)))) else some false).bind fun b2 => (some b2)))
abbrev ea_is_base : (Int) → List O := fun a => [(.v (.int a))]
noncomputable abbrev mf_is_base : (Int) → Option (Bool) := fun a => m_is_base a
abbrev er_is_base : (Int) → (Bool) → Out := fun a r => .ret (.v (.bl r)) [(.v (.int a))]
theorem ok_is_base {P : Program} {w : World} {K : Fz} {mg : Str → Option Value} {base : Heap} {f : Addr} {fd : FuncData} (F : FunD K "is_base" "is_base" (defArgs s_is_base) (defBody s_is_base) (defScope s_is_base) [] [] f fd) (C_is_number : Cal P w K mg base 1 "is_number" ["thing"] (bSp (ea_is_number) mf_is_number (er_is_number))) (h_GREATEST_BASE : ∃ t, mg "GREATEST_BASE" = some (.int 16 t)) (h_LEAST_BASE : ∃ t, mg "LEAST_BASE" = some (.int 2 t)) : DFn GG P w K mg base 2 f fd ["thing"] (bSp (ea_is_base) mf_is_base (er_is_base)) := by
  obtain ⟨oc, od, dV, kV, doc, pm, an, cdv, ct, osl, e1, e2, e3, _, _⟩ := F.ex
  obtain ⟨_, g_GREATEST_BASE⟩ := h_GREATEST_BASE
  obtain ⟨_, g_LEAST_BASE⟩ := h_LEAST_BASE
  refine DFn.mkB [] (fun _ _ h => h) ⟨oc, od, dV, kV, doc, pm, an, cdv, ct, osl, e1, e2, e3⟩ sc_is_base (fun _ => rfl) ?_
  intro cdv A outer s H E hr hg a
  generalize a = x_thing
  have sc := sc_is_base
  have tk : Takes (cxOf (L2.CX P w) P w K mg base N_is_base "is_base" (defScope s_is_base) f cdv A outer s H E) (WB E) := takes_of rfl rfl rfl rfl
  have hp : PassesOwn (model P w) (A.deeper (envOfC "is_base" (defScope s_is_base) s.heap.objs.size f cdv)) (cxOf (L2.CX P w) P w K mg base N_is_base "is_base" (defScope s_is_base) f cdv A outer s H E).env (cxOf (L2.CX P w) P w K mg base N_is_base "is_base" (defScope s_is_base) f cdv A outer s H E).xe := passes_of rfl
  have hu := hr.units
  have hu1 := hu_of hr
  exact (lk_one (sk_ret (ek_andO [some (.v (.int x_thing))] (ek_call C_is_number hr hg tk (ak_cons (ek_b (bk_var 0 (o := (.v (.int x_thing))) ⟨_, rfl, (ak_nil ⟨x_thing, _, rfl, rfl, fun r1 => ⟨r1, (some (decide ((2 : Int) ≤ x_thing) && decide (x_thing ≤ (16 : Int)))), fun b2 => (some b2), rfl, rfl, ⟨rfl, trivial⟩, fun _ => (ek_one (ek_b (bk_chain (f := fun i j => decide (i ≤ j)) (f' := fun i j => decide (i ≤ j)) (fun _ _ _ ha hb hc => ej_leLe ha hb hc) (fun _ _ _ _ p => p) (fun _ _ _ _ p => p) (bk_gI rfl g_LEAST_BASE (bk_var 0 (o := (.v (.int x_thing))) ⟨_, _, _, rfl, rfl, fun k => (bk_gI rfl g_GREATEST_BASE k), ⟨_, rfl, ⟨_, rfl, rfl, ⟨rfl, trivial⟩⟩⟩⟩))))), fun b2 => ⟨b2, _, rfl, rfl, ⟨.inl ⟨_, rfl, rfl⟩, trivial⟩⟩⟩⟩)⟩)))))))
abbrev s_is_word : Stmt := top 25
abbrev N_is_word : List Str := ["thing", "sign"]
theorem sc_is_word : FnScope N_is_word ["thing"] (defScope s_is_word) := ⟨rfl, rfl, rfl, by decide +kernel, rfl, by decide +kernel, by decide +kernel⟩
noncomputable def m_is_word (x_thing : Str) : Option (Bool) := ((isT "str" (.str x_thing)).bind fun b1 => ((if (!b1) then some (true, ()) else ((lenS x_thing).bind fun v2 => (some ((!(decide ((1 : Int) ≤ v2) && decide (v2 ≤ (8 : Int)))), ())))).bind fun z7 => (if z7.1 then (some false) else ((mapZ (fun (x4 : Str) => ((inSg x4 ("abcdefghijklmnopqrstuvwxyz" : Str)).bind fun b5 => (some b5))) (sgns x_thing)).bind (fun (ys6 : List Bool) => (some (List.all ys6 id)))))))
abbrev ea_is_word : (Str) → List O := fun a => [(.v (.str a))]
noncomputable abbrev mf_is_word : (Str) → Option (Bool) := fun a => m_is_word a
abbrev er_is_word : (Str) → (Bool) → Out := fun a r => .ret (.v (.bl r)) [(.v (.str a))]
theorem ok_is_word {P : Program} {w : World} {K : Fz} {mg : Str → Option Value} {base : Heap} {f : Addr} {fd : FuncData} (F : FunD K "is_word" "is_word" (defArgs s_is_word) (defBody s_is_word) (defScope s_is_word) [] [] f fd) (b_isinstance : mg "isinstance" = none) (b_str : mg "str" = none) (b_len : mg "len" = none) (b_all : mg "all" = none) (k_str : KnowsT K "str") (h_LONGEST_ANSWER : ∃ t, mg "LONGEST_ANSWER" = some (.int 8 t)) (h_LETTERS : ∃ t, mg "LETTERS" = some (.str "abcdefghijklmnopqrstuvwxyz" t)) : DFn GG P w K mg base 1 f fd ["thing"] (bSp (ea_is_word) mf_is_word (er_is_word)) := by
  obtain ⟨oc, od, dV, kV, doc, pm, an, cdv, ct, osl, e1, e2, e3, _, _⟩ := F.ex
  obtain ⟨_, g_LONGEST_ANSWER⟩ := h_LONGEST_ANSWER
  obtain ⟨_, g_LETTERS⟩ := h_LETTERS
  refine DFn.mkB [] (fun _ _ h => h) ⟨oc, od, dV, kV, doc, pm, an, cdv, ct, osl, e1, e2, e3⟩ sc_is_word (fun _ => rfl) ?_
  intro cdv A outer s H E hr hg a
  generalize a = x_thing
  have sc := sc_is_word
  have tk : Takes (cxOf (L2.CX P w) P w K mg base N_is_word "is_word" (defScope s_is_word) f cdv A outer s H E) (WB E) := takes_of rfl rfl rfl rfl
  have hp : PassesOwn (model P w) (A.deeper (envOfC "is_word" (defScope s_is_word) s.heap.objs.size f cdv)) (cxOf (L2.CX P w) P w K mg base N_is_word "is_word" (defScope s_is_word) f cdv A outer s H E).env (cxOf (L2.CX P w) P w K mg base N_is_word "is_word" (defScope s_is_word) f cdv A outer s H E).xe := passes_of rfl
  have hu := hr.units
  have hu1 := hu_of hr
  exact (lk_cons (sk_if (tk_w (wk_orP (S := Unit) (fun _ => [some (.v (.str x_thing))]) (tk_not (tk_e (ek_b (bk_cb (fun _ ha => ej_is "str" k_str b_isinstance ha) (bak_cons (bk_var 0 (o := (.v (.str x_thing))) (bak_cons (bk_c (ej_bltT b_str) (bak_nil (rl_is fun b1 => ⟨_, rfl, ⟨_, rfl, ⟨_, (), fun z7 => (if z7.1 then (some false) else ((mapZ (fun (x4 : Str) => ((inSg x4 ("abcdefghijklmnopqrstuvwxyz" : Str)).bind fun b5 => (some b5))) (sgns x_thing)).bind (fun (ys6 : List Bool) => (some (List.all ys6 id))))), rfl, ⟨rfl, trivial⟩, fun _ => (wk_or1 (tk_not (tk_chain (f := fun i j => decide (i ≤ j)) (f' := fun i j => decide (i ≤ j)) (fun _ _ _ ha hb hc => tj_leLe ha hb hc) (fun _ _ _ _ p => p) (fun _ _ _ _ p => p) (bk_int (bk_cb (fun _ ha => ej_len b_len ha) (bak_cons (bk_var 0 (o := (.v (.str x_thing))) (bak_nil (rl_lenS fun v2 => ⟨_, _, _, rfl, rfl, fun k => (bk_gI rfl g_LONGEST_ANSWER k), ⟨(), rfl, ⟨rfl, trivial⟩⟩⟩))))))))), fun b3 _ => ⟨(some false), ((mapZ (fun (x4 : Str) => ((inSg x4 ("abcdefghijklmnopqrstuvwxyz" : Str)).bind fun b5 => (some b5))) (sgns x_thing)).bind (fun (ys6 : List Bool) => (some (List.all ys6 id)))), rfl, fun _ => (lk_one (sk_ret (ek_b (bk_bl ⟨_, rfl, ⟨false, _, rfl, rfl, ⟨.inl ⟨_, rfl, rfl⟩, trivial⟩⟩⟩)))), fun _ => (lk_nil (lk_one (sk_ret (ek_cb (fun _ ha => ej_all rfl b_all ha) (ak_cons (ek_lcZ (own := [("sign", 1)]) [some (.v (.str x_thing))] D.str D.bl rfl sc.nd (blkOk_by (by show blkC N_is_word (defScope s_is_word) _ _ = true; decide +kernel)) (tg_name (by decide)) (fun _ _ _ _ _ => (pg_name (i := 1) sc.nd rfl (.inl (by kernel_rfl)) (.inr (by kernel_rfl)))) (fun i hi => by simp only [List.map, List.mem_cons, List.not_mem_nil, or_false] at hi; subst hi; rfl) (ik_str (ek_b (bk_var 0 (o := (.v (.str x_thing))) ⟨_, rfl, ⟨_, rfl, ⟨(sgns x_thing), (fun (x4 : Str) => ((inSg x4 ("abcdefghijklmnopqrstuvwxyz" : Str)).bind fun b5 => (some b5))), (fun (ys6 : List Bool) => (some (List.all ys6 id))), (fun (x4 : Str) => [some (.v (.str x_thing)), some (.v (.str x4))]), signs_map, ⟨rfl, trivial⟩, rfl, fun x4 => (dg_name (i := 1)), fun x4 _ _ _ _ _ => (ek_b (bk_op (fun _ _ ha hb => ej_inSg ha hb) (bk_var 1 (o := (.v (.str x4))) (bk_gS (by show _ = _; kernel_rfl) g_LETTERS (rk_inSg fun b5 => ⟨_, rfl, ⟨b5, rfl, rfl, ⟨rfl, trivial⟩⟩⟩)) (hv := Or.inl (by kernel_rfl))))), fun x4 => ⟨rfl, trivial⟩, fun x4 => ⟨rfl, ⟨rfl, trivial⟩⟩, fun ys6 => (ak_nil (rl_all as_v ⟨(List.all ys6 id), _, rfl, rfl, ⟨.inl ⟨_, rfl, rfl⟩, trivial⟩⟩))⟩⟩⟩)))))))))⟩⟩⟩⟩))))))))))))))
abbrev s_is_answer : Stmt := top 26
abbrev N_is_answer : List Str := ["thing"]
theorem sc_is_answer : FnScope N_is_answer ["thing"] (defScope s_is_answer) := ⟨rfl, rfl, rfl, by decide +kernel, rfl, by decide +kernel, by decide +kernel⟩
noncomputable def m_is_answer (x_thing : Str) : Option (Bool) := ((m_is_word x_thing).bind fun r1 => ((if r1 then (some (true ^^ seq x_thing ("self" : Str))) else some false).bind fun b2 => (some b2)))
abbrev ea_is_answer : (Str) → List O := fun a => [(.v (.str a))]
noncomputable abbrev mf_is_answer : (Str) → Option (Bool) := fun a => m_is_answer a
abbrev er_is_answer : (Str) → (Bool) → Out := fun a r => .ret (.v (.bl r)) [(.v (.str a))]
theorem ok_is_answer {P : Program} {w : World} {K : Fz} {mg : Str → Option Value} {base : Heap} {f : Addr} {fd : FuncData} (F : FunD K "is_answer" "is_answer" (defArgs s_is_answer) (defBody s_is_answer) (defScope s_is_answer) [] [] f fd) (C_is_word : Cal P w K mg base 1 "is_word" ["thing"] (bSp (ea_is_word) mf_is_word (er_is_word))) (h_BARRED_ANSWER : ∃ t, mg "BARRED_ANSWER" = some (.str "self" t)) : DFn GG P w K mg base 2 f fd ["thing"] (bSp (ea_is_answer) mf_is_answer (er_is_answer)) := by
  obtain ⟨oc, od, dV, kV, doc, pm, an, cdv, ct, osl, e1, e2, e3, _, _⟩ := F.ex
  obtain ⟨_, g_BARRED_ANSWER⟩ := h_BARRED_ANSWER
  refine DFn.mkB [] (fun _ _ h => h) ⟨oc, od, dV, kV, doc, pm, an, cdv, ct, osl, e1, e2, e3⟩ sc_is_answer (fun _ => rfl) ?_
  intro cdv A outer s H E hr hg a
  generalize a = x_thing
  have sc := sc_is_answer
  have tk : Takes (cxOf (L2.CX P w) P w K mg base N_is_answer "is_answer" (defScope s_is_answer) f cdv A outer s H E) (WB E) := takes_of rfl rfl rfl rfl
  have hp : PassesOwn (model P w) (A.deeper (envOfC "is_answer" (defScope s_is_answer) s.heap.objs.size f cdv)) (cxOf (L2.CX P w) P w K mg base N_is_answer "is_answer" (defScope s_is_answer) f cdv A outer s H E).env (cxOf (L2.CX P w) P w K mg base N_is_answer "is_answer" (defScope s_is_answer) f cdv A outer s H E).xe := passes_of rfl
  have hu := hr.units
  have hu1 := hu_of hr
  exact (lk_one (sk_ret (ek_andO [some (.v (.str x_thing))] (ek_call C_is_word hr hg tk (ak_cons (ek_b (bk_var 0 (o := (.v (.str x_thing))) ⟨_, rfl, (ak_nil ⟨x_thing, _, rfl, rfl, fun r1 => ⟨r1, (some (true ^^ seq x_thing ("self" : Str))), fun b2 => (some b2), rfl, rfl, ⟨rfl, trivial⟩, fun _ => (ek_one (ek_b (bk_op (fun _ _ ha hb => ej_ne hu ha hb) (bk_var 0 (o := (.v (.str x_thing))) (bk_gS rfl g_BARRED_ANSWER (rk_eqS ⟨_, rfl, ⟨_, rfl, rfl, ⟨rfl, trivial⟩⟩⟩)))))), fun b2 => ⟨b2, _, rfl, rfl, ⟨.inl ⟨_, rfl, rfl⟩, trivial⟩⟩⟩⟩)⟩)))))))
abbrev s_are_states : Stmt := top 27
abbrev N_are_states : List Str := ["many", "thing", "item"]
theorem sc_are_states : FnScope N_are_states ["many", "thing"] (defScope s_are_states) := ⟨rfl, rfl, rfl, by decide +kernel, rfl, by decide +kernel, by decide +kernel⟩
noncomputable def m_are_states (x_many : Int) (x_thing : (List Int)) : Option (Bool) := ((isT "tuple" (.tup (List.map D.int x_thing))).bind fun b1 => ((if b1 then ((mapZ (fun (x2 : Int) => ((m_is_number x2).bind fun r3 => ((if r3 then (some (decide (x2 < x_many))) else some false).bind fun b4 => (some b4)))) x_thing).bind (fun (ys5 : List Bool) => (some (List.all ys5 id)))) else some false).bind fun b6 => (some b6)))
abbrev ea_are_states : (Int × (List Int)) → List O := fun a => [(.v (.int a.1)), (.v (.tup (List.map D.int a.2)))]
noncomputable abbrev mf_are_states : (Int × (List Int)) → Option (Bool) := fun a => m_are_states a.1 a.2
abbrev er_are_states : (Int × (List Int)) → (Bool) → Out := fun a r => .ret (.v (.bl r)) [(.v (.int a.1)), (.v (.tup (List.map D.int a.2)))]
theorem ok_are_states {P : Program} {w : World} {K : Fz} {mg : Str → Option Value} {base : Heap} {f : Addr} {fd : FuncData} (F : FunD K "are_states" "are_states" (defArgs s_are_states) (defBody s_are_states) (defScope s_are_states) [] [] f fd) (C_is_number : Cal P w K mg base 1 "is_number" ["thing"] (bSp (ea_is_number) mf_is_number (er_is_number))) (b_isinstance : mg "isinstance" = none) (b_tuple : mg "tuple" = none) (b_all : mg "all" = none) (k_tuple : KnowsT K "tuple") : DFn GG P w K mg base 2 f fd ["many", "thing"] (bSp (ea_are_states) mf_are_states (er_are_states)) := by
  obtain ⟨oc, od, dV, kV, doc, pm, an, cdv, ct, osl, e1, e2, e3, _, _⟩ := F.ex
  refine DFn.mkB [] (fun _ _ h => h) ⟨oc, od, dV, kV, doc, pm, an, cdv, ct, osl, e1, e2, e3⟩ sc_are_states (fun _ => rfl) ?_
  intro cdv A outer s H E hr hg a
  obtain ⟨x_many, x_thing⟩ := a
  have sc := sc_are_states
  have tk : Takes (cxOf (L2.CX P w) P w K mg base N_are_states "are_states" (defScope s_are_states) f cdv A outer s H E) (WB E) := takes_of rfl rfl rfl rfl
  have hp : PassesOwn (model P w) (A.deeper (envOfC "are_states" (defScope s_are_states) s.heap.objs.size f cdv)) (cxOf (L2.CX P w) P w K mg base N_are_states "are_states" (defScope s_are_states) f cdv A outer s H E).env (cxOf (L2.CX P w) P w K mg base N_are_states "are_states" (defScope s_are_states) f cdv A outer s H E).xe := passes_of rfl
  have hu := hr.units
  have hu1 := hu_of hr
  exact (lk_one (sk_ret (ek_andO [some (.v (.int x_many)), some (.v (.tup (List.map D.int x_thing)))] (ek_b (bk_cb (fun _ ha => ej_is "tuple" k_tuple b_isinstance ha) (bak_cons (bk_var 1 (o := (.v (.tup (List.map D.int x_thing)))) (bak_cons (bk_c (ej_bltT b_tuple) (bak_nil (rl_is fun b1 => ⟨_, rfl, ⟨b1, ((mapZ (fun (x2 : Int) => ((m_is_number x2).bind fun r3 => ((if r3 then (some (decide (x2 < x_many))) else some false).bind fun b4 => (some b4)))) x_thing).bind (fun (ys5 : List Bool) => (some (List.all ys5 id)))), fun b6 => (some b6), rfl, rfl, ⟨rfl, ⟨rfl, trivial⟩⟩, fun _ => (ek_one (ek_cb (fun _ ha => ej_all rfl b_all ha) (ak_cons (ek_lcZ (own := [("item", 2)]) [some (.v (.int x_many)), some (.v (.tup (List.map D.int x_thing)))] D.int D.bl rfl sc.nd (blkOk_by (by show blkC N_are_states (defScope s_are_states) _ _ = true; decide +kernel)) (tg_name (by decide)) (fun _ _ _ _ _ => (pg_name (i := 2) sc.nd rfl (.inl (by kernel_rfl)) (.inr (by kernel_rfl)))) (fun i hi => by simp only [List.map, List.mem_cons, List.not_mem_nil, or_false] at hi; subst hi; rfl) (ik_seq (ek_b (bk_var 1 (o := (.v (.tup (List.map D.int x_thing)))) ⟨_, rfl, ⟨_, .inl rfl, ⟨x_thing, (fun (x2 : Int) => ((m_is_number x2).bind fun r3 => ((if r3 then (some (decide (x2 < x_many))) else some false).bind fun b4 => (some b4)))), (fun (ys5 : List Bool) => (some (List.all ys5 id))), (fun (x2 : Int) => [some (.v (.int x_many)), some (.v (.tup (List.map D.int x_thing))), some (.v (.int x2))]), rfl, ⟨rfl, ⟨rfl, trivial⟩⟩, rfl, fun x2 => (dg_name (i := 2)), fun x2 _ _ _ _ _ => (ek_andO [some (.v (.int x_many)), some (.v (.tup (List.map D.int x_thing))), some (.v (.int x2))] (ek_call C_is_number hr hg takes00 (ak_cons (ek_b (bk_var 2 (o := (.v (.int x2))) ⟨_, rfl, (ak_nil ⟨x2, _, rfl, rfl, fun r3 => ⟨r3, (some (decide (x2 < x_many))), fun b4 => (some b4), rfl, rfl, ⟨rfl, ⟨rfl, ⟨rfl, trivial⟩⟩⟩, fun _ => (ek_one (ek_b (bk_op (fun _ _ ha hb => ej_lt ha hb) (bk_var 2 (o := (.v (.int x2))) (bk_var 0 (o := (.v (.int x_many))) (rk_ltI ⟨_, rfl, ⟨_, rfl, rfl, ⟨rfl, ⟨rfl, ⟨rfl, trivial⟩⟩⟩⟩⟩) (hv := Or.inr (Or.inl (by kernel_rfl)))) (hv := Or.inl (by kernel_rfl)))))), fun b4 => ⟨b4, rfl, rfl, ⟨rfl, ⟨rfl, trivial⟩⟩⟩⟩⟩)⟩ (hv := Or.inl (by kernel_rfl))))) (hg := by show _ = _; kernel_rfl))), fun x2 => ⟨rfl, ⟨rfl, trivial⟩⟩, fun x2 => ⟨rfl, ⟨rfl, ⟨rfl, trivial⟩⟩⟩, fun ys5 => (ak_nil (rl_all as_v ⟨_, rfl, rfl, ⟨rfl, ⟨rfl, trivial⟩⟩⟩))⟩⟩⟩))))))), fun b6 => ⟨b6, _, rfl, rfl, ⟨.inl ⟨_, rfl, rfl⟩, ⟨.inl ⟨_, rfl, rfl⟩, trivial⟩⟩⟩⟩⟩)))))))))))
abbrev s_check_moves : Stmt := top 33
abbrev N_check_moves : List Str := ["base", "moves", "row"]
theorem sc_check_moves : FnScope N_check_moves ["base", "moves"] (defScope s_check_moves) := ⟨rfl, rfl, rfl, by decide +kernel, rfl, by decide +kernel, by decide +kernel⟩
noncomputable def m_check_moves (x_base : Int) (x_moves : (List (List Int))) : Option (Unit) := ((isT "tuple" (.tup (List.map (eT D.int) x_moves))).bind fun b1 => ((if (!b1) then some (true, ()) else ((eqD (.tup (List.map (eT D.int) x_moves)) (.tup (List.map D.int []))).bind fun b2 => (some ((false ^^ b2), ())))).bind fun z9 => (if z9.1 then (none) else ((forO (fun (s4 : Unit) (x5 : (List Int)) => ((m_are_states ((x_moves.length : Nat) : Int) x5).bind fun r6 => ((if (!r6) then some (true, ()) else (some ((true ^^ decide (((x5.length : Nat) : Int) = x_base)), ()))).bind fun z8 => (if z8.1 then (none) else (some ()))))) x_moves ()).bind (fun (s4 : Unit) => (some ()))))))
abbrev ea_check_moves : (Int × (List (List Int))) → List O := fun a => [(.v (.int a.1)), (.v (.tup (List.map (eT D.int) a.2)))]
noncomputable abbrev mf_check_moves : (Int × (List (List Int))) → Option (Unit) := fun a => m_check_moves a.1 a.2
abbrev er_check_moves : (Int × (List (List Int))) → (Unit) → Out := fun a r => .ret (.v .non) [(.v (.int a.1)), (.v (.tup (List.map (eT D.int) a.2)))]
theorem ok_check_moves {P : Program} {w : World} {K : Fz} {mg : Str → Option Value} {base : Heap} {f : Addr} {fd : FuncData} (F : FunD K "check_moves" "check_moves" (defArgs s_check_moves) (defBody s_check_moves) (defScope s_check_moves) [] [] f fd) (C_are_states : Cal P w K mg base 2 "are_states" ["many", "thing"] (bSp (ea_are_states) mf_are_states (er_are_states))) (b_isinstance : mg "isinstance" = none) (b_tuple : mg "tuple" = none) (b_len : mg "len" = none) (k_tuple : KnowsT K "tuple") : DFn GG P w K mg base 3 f fd ["base", "moves"] (bSp (ea_check_moves) mf_check_moves (er_check_moves)) := by
  obtain ⟨oc, od, dV, kV, doc, pm, an, cdv, ct, osl, e1, e2, e3, _, _⟩ := F.ex
  refine DFn.mkB [] (fun _ _ h => h) ⟨oc, od, dV, kV, doc, pm, an, cdv, ct, osl, e1, e2, e3⟩ sc_check_moves (fun _ => rfl) ?_
  intro cdv A outer s H E hr hg a
  obtain ⟨x_base, x_moves⟩ := a
  have sc := sc_check_moves
  have tk : Takes (cxOf (L2.CX P w) P w K mg base N_check_moves "check_moves" (defScope s_check_moves) f cdv A outer s H E) (WB E) := takes_of rfl rfl rfl rfl
  have hp : PassesOwn (model P w) (A.deeper (envOfC "check_moves" (defScope s_check_moves) s.heap.objs.size f cdv)) (cxOf (L2.CX P w) P w K mg base N_check_moves "check_moves" (defScope s_check_moves) f cdv A outer s H E).env (cxOf (L2.CX P w) P w K mg base N_check_moves "check_moves" (defScope s_check_moves) f cdv A outer s H E).xe := passes_of rfl
  have hu := hr.units
  have hu1 := hu_of hr
  exact (lk_cons (sk_if (tk_w (wk_orP (S := Unit) (fun _ => [some (.v (.int x_base)), some (.v (.tup (List.map (eT D.int) x_moves)))]) (tk_not (tk_e (ek_b (bk_cb (fun _ ha => ej_is "tuple" k_tuple b_isinstance ha) (bak_cons (bk_var 1 (o := (.v (.tup (List.map (eT D.int) x_moves)))) (bak_cons (bk_c (ej_bltT b_tuple) (bak_nil (rl_is fun b1 => ⟨_, rfl, ⟨_, rfl, ⟨_, (), fun z9 => (if z9.1 then (none) else ((forO (fun (s4 : Unit) (x5 : (List Int)) => ((m_are_states ((x_moves.length : Nat) : Int) x5).bind fun r6 => ((if (!r6) then some (true, ()) else (some ((true ^^ decide (((x5.length : Nat) : Int) = x_base)), ()))).bind fun z8 => (if z8.1 then (none) else (some ()))))) x_moves ()).bind (fun (s4 : Unit) => (some ())))), rfl, ⟨rfl, ⟨rfl, trivial⟩⟩, fun _ => (wk_or1 (tk_cmpB (fun _ _ ha hb => tj_eq hu ha hb) (bk_var 1 (o := (.v (.tup (List.map (eT D.int) x_moves)))) (bk_tup (bak_nil ⟨[], rfl, (by show 0 ≤ sizeLine; decide), (rk_eqV fun b2 => ⟨_, rfl, ⟨(), rfl, ⟨rfl, ⟨rfl, trivial⟩⟩⟩⟩)⟩))))), fun b3 _ => ⟨(none), ((forO (fun (s4 : Unit) (x5 : (List Int)) => ((m_are_states ((x_moves.length : Nat) : Int) x5).bind fun r6 => ((if (!r6) then some (true, ()) else (some ((true ^^ decide (((x5.length : Nat) : Int) = x_base)), ()))).bind fun z8 => (if z8.1 then (none) else (some ()))))) x_moves ()).bind (fun (s4 : Unit) => (some ()))), rfl, fun _ => lk_none, fun _ => (lk_nil (lk_one (sk_forO (fun (s4 : Unit) => [some (.v (.int x_base)), some (.v (.tup (List.map (eT D.int) x_moves)))]) (eT D.int) hp rfl (ik_seq (ek_b (bk_var 1 (o := (.v (.tup (List.map (eT D.int) x_moves)))) ⟨_, rfl, ⟨_, .inl rfl, ⟨x_moves, (), (fun (s4 : Unit) (x5 : (List Int)) => ((m_are_states ((x_moves.length : Nat) : Int) x5).bind fun r6 => ((if (!r6) then some (true, ()) else (some ((true ^^ decide (((x5.length : Nat) : Int) = x_base)), ()))).bind fun z8 => (if z8.1 then (none) else (some ()))))), (fun (s4 : Unit) => (some ())), rfl, ⟨rfl, ⟨rfl, trivial⟩⟩, rfl, fun s4 x5 => (gk_name 2 sc.nd (lk_one (sk_if (tk_w (wk_orP (S := Unit) (fun _ => [some (.v (.int x_base)), some (.v (.tup (List.map (eT D.int) x_moves))), some (.v (.tup (List.map D.int x5)))]) (tk_not (tk_e (ek_call C_are_states hr hg tk (ak_cons (ek_b (bk_cb (fun _ ha => ej_len b_len ha) (bak_cons (bk_var 1 (o := (.v (.tup (List.map (eT D.int) x_moves)))) (bak_nil (rl_lenT (by rw [List.length_map]; exact ⟨_, rfl, (ak_cons (ek_b (bk_var 2 (o := (.v (.tup (List.map D.int x5)))) ⟨_, rfl, (ak_nil ⟨(((x_moves.length : Nat) : Int), x5), _, rfl, rfl, fun r6 => ⟨_, rfl, ⟨_, (), fun z8 => (if z8.1 then (none) else (some ())), rfl, ⟨rfl, ⟨rfl, ⟨rfl, trivial⟩⟩⟩, fun _ => (wk_or1 (tk_cmpB (fun _ _ ha hb => tj_ne hu ha hb) (bk_cb (fun _ ha => ej_len b_len ha) (bak_cons (bk_var 2 (o := (.v (.tup (List.map D.int x5)))) (bak_nil (rl_lenT (by rw [List.length_map]; exact (bk_var 0 (o := (.v (.int x_base))) (rk_eqI ⟨_, rfl, ⟨(), rfl, ⟨rfl, ⟨rfl, ⟨rfl, trivial⟩⟩⟩⟩⟩)))))))))), fun b7 _ => ⟨(none), (some ()), rfl, fun _ => lk_none, fun _ => (lk_nil ⟨_, rfl, ⟨rfl, ⟨rfl, trivial⟩⟩⟩)⟩⟩⟩⟩)⟩)))⟩)))))))))))))))), fun s4 => ⟨(), _, rfl, rfl, ⟨.inl ⟨_, rfl, rfl⟩, ⟨.inl ⟨_, rfl, rfl⟩, trivial⟩⟩⟩⟩⟩⟩))))))⟩⟩⟩⟩))))))))))))))
abbrev s_check_answers : Stmt := top 34
abbrev N_check_answers : List Str := ["many", "answers", "answer"]
theorem sc_check_answers : FnScope N_check_answers ["many", "answers"] (defScope s_check_answers) := ⟨rfl, rfl, rfl, by decide +kernel, rfl, by decide +kernel, by decide +kernel⟩
noncomputable def m_check_answers (x_many : Int) (x_answers : (List Str)) : Option (Unit) := ((isT "tuple" (.tup (List.map D.str x_answers))).bind fun b1 => ((if (!b1) then some (true, ()) else ((if (true ^^ decide (((x_answers.length : Nat) : Int) = x_many)) then some (true, ()) else ((mapZ (fun (x2 : Str) => ((m_is_answer x2).bind fun r3 => (some r3))) x_answers).bind (fun (ys4 : List Bool) => (some ((!(List.all ys4 id)), ()))))).bind fun z6 => (some (z6.1, ())))).bind fun z8 => (if z8.1 then (none) else (some ()))))
abbrev ea_check_answers : (Int × (List Str)) → List O := fun a => [(.v (.int a.1)), (.v (.tup (List.map D.str a.2)))]
noncomputable abbrev mf_check_answers : (Int × (List Str)) → Option (Unit) := fun a => m_check_answers a.1 a.2
abbrev er_check_answers : (Int × (List Str)) → (Unit) → Out := fun a r => .ret (.v .non) [(.v (.int a.1)), (.v (.tup (List.map D.str a.2)))]
theorem ok_check_answers {P : Program} {w : World} {K : Fz} {mg : Str → Option Value} {base : Heap} {f : Addr} {fd : FuncData} (F : FunD K "check_answers" "check_answers" (defArgs s_check_answers) (defBody s_check_answers) (defScope s_check_answers) [] [] f fd) (C_is_answer : Cal P w K mg base 2 "is_answer" ["thing"] (bSp (ea_is_answer) mf_is_answer (er_is_answer))) (b_isinstance : mg "isinstance" = none) (b_tuple : mg "tuple" = none) (b_all : mg "all" = none) (b_len : mg "len" = none) (k_tuple : KnowsT K "tuple") : DFn GG P w K mg base 3 f fd ["many", "answers"] (bSp (ea_check_answers) mf_check_answers (er_check_answers)) := by
  obtain ⟨oc, od, dV, kV, doc, pm, an, cdv, ct, osl, e1, e2, e3, _, _⟩ := F.ex
  refine DFn.mkB [] (fun _ _ h => h) ⟨oc, od, dV, kV, doc, pm, an, cdv, ct, osl, e1, e2, e3⟩ sc_check_answers (fun _ => rfl) ?_
  intro cdv A outer s H E hr hg a
  obtain ⟨x_many, x_answers⟩ := a
  have sc := sc_check_answers
  have tk : Takes (cxOf (L2.CX P w) P w K mg base N_check_answers "check_answers" (defScope s_check_answers) f cdv A outer s H E) (WB E) := takes_of rfl rfl rfl rfl
  have hp : PassesOwn (model P w) (A.deeper (envOfC "check_answers" (defScope s_check_answers) s.heap.objs.size f cdv)) (cxOf (L2.CX P w) P w K mg base N_check_answers "check_answers" (defScope s_check_answers) f cdv A outer s H E).env (cxOf (L2.CX P w) P w K mg base N_check_answers "check_answers" (defScope s_check_answers) f cdv A outer s H E).xe := passes_of rfl
  have hu := hr.units
  have hu1 := hu_of hr
  exact (lk_one (sk_if (tk_w (wk_orP (S := Unit) (fun _ => [some (.v (.int x_many)), some (.v (.tup (List.map D.str x_answers)))]) (tk_not (tk_e (ek_b (bk_cb (fun _ ha => ej_is "tuple" k_tuple b_isinstance ha) (bak_cons (bk_var 1 (o := (.v (.tup (List.map D.str x_answers)))) (bak_cons (bk_c (ej_bltT b_tuple) (bak_nil (rl_is fun b1 => ⟨_, rfl, ⟨_, rfl, ⟨_, (), fun z8 => (if z8.1 then (none) else (some ())), rfl, ⟨rfl, ⟨rfl, trivial⟩⟩, fun _ => (wk_orP (S := Unit) (fun _ => [some (.v (.int x_many)), some (.v (.tup (List.map D.str x_answers)))]) (tk_cmpB (fun _ _ ha hb => tj_ne hu ha hb) (bk_cb (fun _ ha => ej_len b_len ha) (bak_cons (bk_var 1 (o := (.v (.tup (List.map D.str x_answers)))) (bak_nil (rl_lenT (by rw [List.length_map]; exact (bk_var 0 (o := (.v (.int x_many))) (rk_eqI ⟨_, rfl, ⟨_, (), fun z6 => (some (z6.1, ())), rfl, ⟨rfl, ⟨rfl, trivial⟩⟩, fun _ => (wk_or1 (tk_not (tk_e (ek_cb (fun _ ha => ej_all rfl b_all ha) (ak_cons (ek_lcZ (own := [("answer", 2)]) [some (.v (.int x_many)), some (.v (.tup (List.map D.str x_answers)))] D.str D.bl rfl sc.nd (blkOk_by (by show blkC N_check_answers (defScope s_check_answers) _ _ = true; decide +kernel)) (tg_name (by decide)) (fun _ _ _ _ _ => (pg_name (i := 2) sc.nd rfl (.inl (by kernel_rfl)) (.inr (by kernel_rfl)))) (fun i hi => by simp only [List.map, List.mem_cons, List.not_mem_nil, or_false] at hi; subst hi; rfl) (ik_seq (ek_b (bk_var 1 (o := (.v (.tup (List.map D.str x_answers)))) ⟨_, rfl, ⟨_, .inl rfl, ⟨x_answers, (fun (x2 : Str) => ((m_is_answer x2).bind fun r3 => (some r3))), (fun (ys4 : List Bool) => (some ((!(List.all ys4 id)), ()))), (fun (x2 : Str) => [some (.v (.int x_many)), some (.v (.tup (List.map D.str x_answers))), some (.v (.str x2))]), rfl, ⟨rfl, ⟨rfl, trivial⟩⟩, rfl, fun x2 => (dg_name (i := 2)), fun x2 _ _ _ _ _ => (ek_call C_is_answer hr hg takes00 (ak_cons (ek_b (bk_var 2 (o := (.v (.str x2))) ⟨_, rfl, (ak_nil ⟨x2, _, rfl, rfl, fun r3 => ⟨r3, rfl, rfl, ⟨rfl, ⟨rfl, trivial⟩⟩⟩⟩)⟩ (hv := Or.inl (by kernel_rfl))))) (hg := by show _ = _; kernel_rfl)), fun x2 => ⟨rfl, ⟨rfl, trivial⟩⟩, fun x2 => ⟨rfl, ⟨rfl, ⟨rfl, trivial⟩⟩⟩, fun ys4 => (ak_nil (rl_all as_v ⟨_, rfl, ⟨(), rfl, ⟨rfl, ⟨rfl, trivial⟩⟩⟩⟩))⟩⟩⟩))))))))), fun b5 _ => ⟨(), rfl, ⟨rfl, ⟨rfl, trivial⟩⟩⟩⟩⟩)))))))))), fun b7 _ => ⟨(none), (some ()), rfl, fun _ => lk_none, fun _ => (lk_nil ⟨(), _, rfl, rfl, ⟨.inl ⟨_, rfl, rfl⟩, ⟨.inl ⟨_, rfl, rfl⟩, trivial⟩⟩⟩)⟩⟩⟩⟩))))))))))))))
abbrev s_states_reached : Stmt := top 10
abbrev N_states_reached : List Str := ["moves", "known", "order", "at", "target"]
theorem sc_states_reached : FnScope N_states_reached ["moves"] (defScope s_states_reached) := ⟨rfl, rfl, rfl, by decide +kernel, rfl, by decide +kernel, by decide +kernel⟩
noncomputable def m_states_reached (x_moves : (List (List Int))) : Option ((List Int)) := ((whO (fun (s1 : (List (Int × Bool)) × (List Int) × Int) => (some (decide (s1.2.2 < ((s1.2.1.length : Nat) : Int))))) (fun (s1 : (List (Int × Bool)) × (List Int) × Int) => ((atO s1.2.1 s1.2.2).bind fun v2 => ((atO x_moves v2).bind fun v3 => ((forO (fun (s4 : (List (Int × Bool)) × (List Int)) (x5 : Int) => ((if (true ^^ (Option.isSome (lkg s4.1 x5))) then ((putO s4.1 x5 true).bind fun v6 => ((pushO s4.2 x5).bind fun v7 => (some (v6, v7)))) else (some (s4.1, s4.2))).bind fun (s8 : (List (Int × Bool)) × (List Int)) => (some (s8.1, s8.2)))) v3 (s1.1, s1.2.1)).bind (fun (s4 : (List (Int × Bool)) × (List Int)) => (some (s4.1, s4.2, (s1.2.2 + (1 : Int))))))))) ([(0, true)], [(0 : Int)], (0 : Int))).bind (fun (s1 : (List (Int × Bool)) × (List Int) × Int) => (some s1.2.1)))
abbrev ea_states_reached : ((List (List Int))) → List O := fun a => [(.v (.tup (List.map (eT D.int) a)))]
noncomputable abbrev mf_states_reached : ((List (List Int))) → Option ((List Int)) := fun a => m_states_reached a
abbrev er_states_reached : ((List (List Int))) → ((List Int)) → Out := fun a r => .ret (lO D.int r) [(.v (.tup (List.map (eT D.int) a)))]
theorem ok_states_reached {P : Program} {w : World} {K : Fz} {mg : Str → Option Value} {base : Heap} {f : Addr} {fd : FuncData} (F : FunD K "states_reached" "states_reached" (defArgs s_states_reached) (defBody s_states_reached) (defScope s_states_reached) [] [] f fd) (b_len : mg "len" = none) : DFn GG P w K mg base 1 f fd ["moves"] (bSp (ea_states_reached) mf_states_reached (er_states_reached)) := by
  obtain ⟨oc, od, dV, kV, doc, pm, an, cdv, ct, osl, e1, e2, e3, _, _⟩ := F.ex
  refine DFn.mkB [] (fun _ _ h => h) ⟨oc, od, dV, kV, doc, pm, an, cdv, ct, osl, e1, e2, e3⟩ sc_states_reached (fun _ => rfl) ?_
  intro cdv A outer s H E hr hg a
  generalize a = x_moves
  have sc := sc_states_reached
  have tk : Takes (cxOf (L2.CX P w) P w K mg base N_states_reached "states_reached" (defScope s_states_reached) f cdv A outer s H E) (WB E) := takes_of rfl rfl rfl rfl
  have hp : PassesOwn (model P w) (A.deeper (envOfC "states_reached" (defScope s_states_reached) s.heap.objs.size f cdv)) (cxOf (L2.CX P w) P w K mg base N_states_reached "states_reached" (defScope s_states_reached) f cdv A outer s H E).env (cxOf (L2.CX P w) P w K mg base N_states_reached "states_reached" (defScope s_states_reached) f cdv A outer s H E).xe := passes_of rfl
  have hu := hr.units
  have hu1 := hu_of hr
  exact (lk_cons (sk_set 1 sc.nd (ek_disp [.inl 0] (bk_int ⟨_, rfl, rfl, (ek_b (bk_bl ⟨_, rfl, (lk_cons (sk_set 2 sc.nd (ek_lstM (ak_cons (ek_b (bk_int ⟨_, rfl, (ak_nil ⟨by show 1 ≤ sizeLine; decide, (lk_cons (sk_set 3 sc.nd (ek_b (bk_int ⟨_, rfl, (lk_cons (sk_whileO (fun (s1 : (List (Int × Bool)) × (List Int) × Int) => [some (.v (.tup (List.map (eT D.int) x_moves))), some (kO Sum.inl D.bl s1.1), some (lO D.int s1.2.1), some (.v (.int s1.2.2))]) ([(0, true)], [(0 : Int)], (0 : Int)) (fun (s1 : (List (Int × Bool)) × (List Int) × Int) => ((atO s1.2.1 s1.2.2).bind fun v2 => ((atO x_moves v2).bind fun v3 => ((forO (fun (s4 : (List (Int × Bool)) × (List Int)) (x5 : Int) => ((if (true ^^ (Option.isSome (lkg s4.1 x5))) then ((putO s4.1 x5 true).bind fun v6 => ((pushO s4.2 x5).bind fun v7 => (some (v6, v7)))) else (some (s4.1, s4.2))).bind fun (s8 : (List (Int × Bool)) × (List Int)) => (some (s8.1, s8.2)))) v3 (s1.1, s1.2.1)).bind (fun (s4 : (List (Int × Bool)) × (List Int)) => (some (s4.1, s4.2, (s1.2.2 + (1 : Int))))))))) (fun (s1 : (List (Int × Bool)) × (List Int) × Int) => (some (decide (s1.2.2 < ((s1.2.1.length : Nat) : Int))))) (fun (s1 : (List (Int × Bool)) × (List Int) × Int) => (some s1.2.1)) hp ⟨rfl, ⟨rfl, ⟨rfl, ⟨rfl, trivial⟩⟩⟩⟩ rfl (fun s1 => (tk_cmpB (fun _ _ ha hb => tj_lt ha hb) (bk_var 3 (o := (.v (.int s1.2.2))) (bk_cb (fun _ ha => ej_len b_len ha) (bak_cons (bk_var 2 (o := (lO D.int s1.2.1)) (bak_nil (rl_lenL as_own (by rw [List.length_map]; exact (rk_ltI ⟨_, rfl, ⟨rfl, ⟨rfl, ⟨rfl, ⟨rfl, ⟨rfl, trivial⟩⟩⟩⟩⟩⟩)))))))))) (fun s1 => (lk_cons (sk_forO (fun (s4 : (List (Int × Bool)) × (List Int)) => [some (.v (.tup (List.map (eT D.int) x_moves))), some (kO Sum.inl D.bl s4.1), some (lO D.int s4.2), some (.v (.int s1.2.2))]) D.int hp rfl (ik_seq (ek_b (bk_op (fun _ _ => ej_ix) (bk_var 0 (o := (.v (.tup (List.map (eT D.int) x_moves)))) (bk_op (fun _ _ => ej_ix) (bk_var 2 (o := (lO D.int s1.2.1)) (bk_var 3 (o := (.v (.int s1.2.2))) (rk_ixM fun v2 => (rk_ixT fun v3 => ⟨_, rfl, ⟨_, .inl rfl, ⟨v3, (s1.1, s1.2.1), (fun (s4 : (List (Int × Bool)) × (List Int)) (x5 : Int) => ((if (true ^^ (Option.isSome (lkg s4.1 x5))) then ((putO s4.1 x5 true).bind fun v6 => ((pushO s4.2 x5).bind fun v7 => (some (v6, v7)))) else (some (s4.1, s4.2))).bind fun (s8 : (List (Int × Bool)) × (List Int)) => (some (s8.1, s8.2)))), (fun (s4 : (List (Int × Bool)) × (List Int)) => (some (s4.1, s4.2, (s1.2.2 + (1 : Int))))), rfl, ⟨rfl, ⟨rfl, ⟨rfl, ⟨rfl, trivial⟩⟩⟩⟩, rfl, fun s4 x5 => (gk_name 4 sc.nd (lk_one (sk_ifO (fun s8 : (List (Int × Bool)) × (List Int) => [some (.v (.tup (List.map (eT D.int) x_moves))), some (kO Sum.inl D.bl s8.1), some (lO D.int s8.2), some (.v (.int s1.2.2)), some (.v (.int x5))]) (tk_in true (fun _ _ ha hb => tj_notinG hu1 ha hb) (ek_b (bk_var 4 (o := (.v (.int x5))) ⟨_, rfl, (bk_var 1 (o := (kO Sum.inl D.bl s4.1)) ⟨_, _, rfl, (li_k keyI), by rw [Option.isSome_map]; exact ⟨((putO s4.1 x5 true).bind fun v6 => ((pushO s4.2 x5).bind fun v7 => (some (v6, v7)))), (some (s4.1, s4.2)), fun (s8 : (List (Int × Bool)) × (List Int)) => (some (s8.1, s8.2)), rfl, fun _ => (lk_cons (sk_dput 1 none hu1 (ek_b (bk_bl ⟨_, rfl, ⟨_, _, rfl, (rv_slot 1), rfl, (bk_var 4 (o := (.v (.int x5))) ⟨_, rfl, (ps_k keyI fun v6 => (lk_one (sk_expr (ek_mB 2 none (o1 := (lO D.int s4.2)) (fun _ _ ha hb => ej_append ha hb) (rv_slot 2) rfl kl_ok (bak_cons (bk_var 4 (o := (.v (.int x5))) (bak_nil ⟨[(.int x5)], rfl, ms_app fun v7 => ⟨_, rfl, ⟨rfl, ⟨rfl, ⟨rfl, ⟨rfl, ⟨rfl, trivial⟩⟩⟩⟩⟩⟩⟩)))))))⟩)⟩⟩)))), fun _ => (lk_nil ⟨_, rfl, ⟨rfl, ⟨rfl, ⟨rfl, ⟨rfl, ⟨rfl, trivial⟩⟩⟩⟩⟩⟩), fun s8 => ⟨_, rfl, ⟨rfl, ⟨rfl, ⟨rfl, ⟨rfl, trivial⟩⟩⟩⟩⟩⟩⟩)⟩)))))), fun s4 => (lk_one (sk_augI (n := s1.2.2) 3 sc.nd (ek_b (bk_int ⟨_, rfl, ⟨_, rfl, ⟨_, rfl, ⟨rfl, ⟨rfl, ⟨rfl, ⟨rfl, trivial⟩⟩⟩⟩⟩⟩⟩))))⟩⟩⟩)))))))))))) (fun s1 => (lk_one (sk_ret (ek_mov 2 (o := (lO D.int s1.2.1)) ⟨s1.2.1, _, rfl, rfl, ⟨.inl ⟨_, rfl, rfl⟩, trivial⟩⟩))))))⟩))))⟩)⟩))))))⟩))⟩))))
abbrev s_numbered : Stmt := top 11
abbrev N_numbered : List Str := ["signs", "numbers", "found", "sign"]
theorem sc_numbered : FnScope N_numbered ["signs"] (defScope s_numbered) := ⟨rfl, rfl, rfl, by decide +kernel, rfl, by decide +kernel, by decide +kernel⟩
noncomputable def m_numbered (x_signs : (List Str)) : Option ((List Int)) := ((forO (fun (s1 : (List (Str × Int)) × (List Int)) (x2 : Str) => ((if (true ^^ (Option.isSome (lkg s1.1 x2))) then ((putO s1.1 x2 ((s1.1.length : Nat) : Int)).bind fun v3 => (some v3)) else (some s1.1)).bind fun (s4 : (List (Str × Int))) => ((lkg s4 x2).bind fun v5 => ((pushO s1.2 v5).bind fun v6 => (some (s4, v6)))))) x_signs (([] : (List (Str × Int))), ([] : (List Int)))).bind (fun (s1 : (List (Str × Int)) × (List Int)) => (some s1.2)))
abbrev ea_numbered : ((List Str)) → List O := fun a => [(.v (.lst (List.map D.str a)))]
noncomputable abbrev mf_numbered : ((List Str)) → Option ((List Int)) := fun a => m_numbered a
abbrev er_numbered : ((List Str)) → ((List Int)) → Out := fun a r => .ret (lO D.int r) [(.v (.lst (List.map D.str a)))]
theorem ok_numbered {P : Program} {w : World} {K : Fz} {mg : Str → Option Value} {base : Heap} {f : Addr} {fd : FuncData} (F : FunD K "numbered" "numbered" (defArgs s_numbered) (defBody s_numbered) (defScope s_numbered) [] [] f fd) (b_len : mg "len" = none) : DFn GG P w K mg base 1 f fd ["signs"] (bSp (ea_numbered) mf_numbered (er_numbered)) := by
  obtain ⟨oc, od, dV, kV, doc, pm, an, cdv, ct, osl, e1, e2, e3, _, _⟩ := F.ex
  refine DFn.mkB [] (fun _ _ h => h) ⟨oc, od, dV, kV, doc, pm, an, cdv, ct, osl, e1, e2, e3⟩ sc_numbered (fun _ => rfl) ?_
  intro cdv A outer s H E hr hg a
  generalize a = x_signs
  have sc := sc_numbered
  have tk : Takes (cxOf (L2.CX P w) P w K mg base N_numbered "numbered" (defScope s_numbered) f cdv A outer s H E) (WB E) := takes_of rfl rfl rfl rfl
  have hp : PassesOwn (model P w) (A.deeper (envOfC "numbered" (defScope s_numbered) s.heap.objs.size f cdv)) (cxOf (L2.CX P w) P w K mg base N_numbered "numbered" (defScope s_numbered) f cdv A outer s H E).env (cxOf (L2.CX P w) P w K mg base N_numbered "numbered" (defScope s_numbered) f cdv A outer s H E).xe := passes_of rfl
  have hu := hr.units
  have hu1 := hu_of hr
  exact (lk_cons (sk_set 1 sc.nd (ek_newK (lk_cons (sk_set 2 sc.nd (ek_lstM (ak_nil ⟨by decide, (lk_cons (sk_forO (fun (s1 : (List (Str × Int)) × (List Int)) => [none, some (kO Sum.inr D.int s1.1), some (lO D.int s1.2)]) D.str hp rfl (ik_seq (ek_b (bk_var 0 (o := (.v (.lst (List.map D.str x_signs)))) ⟨_, rfl, ⟨_, .inr (.inl rfl), ⟨x_signs, (([] : (List (Str × Int))), ([] : (List Int))), (fun (s1 : (List (Str × Int)) × (List Int)) (x2 : Str) => ((if (true ^^ (Option.isSome (lkg s1.1 x2))) then ((putO s1.1 x2 ((s1.1.length : Nat) : Int)).bind fun v3 => (some v3)) else (some s1.1)).bind fun (s4 : (List (Str × Int))) => ((lkg s4 x2).bind fun v5 => ((pushO s1.2 v5).bind fun v6 => (some (s4, v6)))))), (fun (s1 : (List (Str × Int)) × (List Int)) => (some s1.2)), rfl, ⟨rfl, ⟨rfl, trivial⟩⟩, rfl, fun s1 x2 => (gk_name 3 sc.nd (lk_cons (sk_ifO (fun s4 : (List (Str × Int)) => [none, some (kO Sum.inr D.int s4), some (lO D.int s1.2), some (.v (.str x2))]) (tk_in true (fun _ _ ha hb => tj_notinG hu1 ha hb) (ek_b (bk_var 3 (o := (.v (.str x2))) ⟨_, rfl, (bk_var 1 (o := (kO Sum.inr D.int s1.1)) ⟨_, _, rfl, (li_k keyS), by rw [Option.isSome_map]; exact ⟨((putO s1.1 x2 ((s1.1.length : Nat) : Int)).bind fun v3 => (some v3)), (some s1.1), fun (s4 : (List (Str × Int))) => ((lkg s4 x2).bind fun v5 => ((pushO s1.2 v5).bind fun v6 => (some (s4, v6)))), rfl, fun _ => (lk_one (sk_dput 1 none hu1 (ek_b (bk_cb (fun _ ha => ej_lenTab b_len ha) (bak_cons (bk_var 1 (o := (kO Sum.inr D.int s1.1)) (bak_nil (rl_lenTab tb_k ⟨_, rfl, ⟨_, _, rfl, (rv_slot 1), rfl, (bk_var 3 (o := (.v (.str x2))) ⟨_, rfl, (ps_k keyS fun v3 => ⟨_, rfl, ⟨rfl, ⟨rfl, ⟨rfl, trivial⟩⟩⟩⟩)⟩)⟩⟩)))))))), fun _ => (lk_nil ⟨_, rfl, ⟨rfl, ⟨rfl, ⟨rfl, trivial⟩⟩⟩⟩), fun s4 => (lk_one (sk_expr (ek_mB 2 none (o1 := (lO D.int s1.2)) (fun _ _ ha hb => ej_append ha hb) (rv_slot 2) rfl kl_ok (bak_cons (bk_dget D.int hu1 (bk_var 1 (o := (kO Sum.inr D.int s4)) (bk_var 3 (o := (.v (.str x2))) ⟨_, (lkg s4 x2), _, rfl, (li_k keyS), rfl, fun v5 => (bak_nil ⟨[(.int v5)], rfl, ms_app fun v6 => ⟨_, rfl, ⟨rfl, ⟨rfl, trivial⟩⟩⟩⟩)⟩)))))))⟩⟩)⟩)))))), fun s1 => (lk_one (sk_ret (ek_mov 2 (o := (lO D.int s1.2)) ⟨s1.2, _, rfl, rfl, ⟨.inl ⟨_, rfl, rfl⟩, trivial⟩⟩)))⟩⟩⟩)))))⟩)))))))
abbrev s_numbered_t : Stmt := top 11
abbrev N_numbered_t : List Str := ["signs", "numbers", "found", "sign"]
theorem sc_numbered_t : FnScope N_numbered_t ["signs"] (defScope s_numbered_t) := ⟨rfl, rfl, rfl, by decide +kernel, rfl, by decide +kernel, by decide +kernel⟩
noncomputable def m_numbered_t (x_signs : (List (List Int))) : Option ((List Int)) := ((forO (fun (s1 : (List ((List Int) × Int)) × (List Int)) (x2 : (List Int)) => ((if (true ^^ (Option.isSome (lkg s1.1 x2))) then ((putO s1.1 x2 ((s1.1.length : Nat) : Int)).bind fun v3 => (some v3)) else (some s1.1)).bind fun (s4 : (List ((List Int) × Int))) => ((lkg s4 x2).bind fun v5 => ((pushO s1.2 v5).bind fun v6 => (some (s4, v6)))))) x_signs (([] : (List ((List Int) × Int))), ([] : (List Int)))).bind (fun (s1 : (List ((List Int) × Int)) × (List Int)) => (some s1.2)))
abbrev ea_numbered_t : ((List (List Int))) → List O := fun a => [(.v (.lst (List.map (eT D.int) a)))]
noncomputable abbrev mf_numbered_t : ((List (List Int))) → Option ((List Int)) := fun a => m_numbered_t a
abbrev er_numbered_t : ((List (List Int))) → ((List Int)) → Out := fun a r => .ret (lO D.int r) [(.v (.lst (List.map (eT D.int) a)))]
theorem ok_numbered_t {P : Program} {w : World} {K : Fz} {mg : Str → Option Value} {base : Heap} {f : Addr} {fd : FuncData} (F : FunD K "numbered" "numbered" (defArgs s_numbered_t) (defBody s_numbered_t) (defScope s_numbered_t) [] [] f fd) (b_len : mg "len" = none) : DFn GG P w K mg base 1 f fd ["signs"] (bSp (ea_numbered_t) mf_numbered_t (er_numbered_t)) := by
  obtain ⟨oc, od, dV, kV, doc, pm, an, cdv, ct, osl, e1, e2, e3, _, _⟩ := F.ex
  refine DFn.mkB [] (fun _ _ h => h) ⟨oc, od, dV, kV, doc, pm, an, cdv, ct, osl, e1, e2, e3⟩ sc_numbered_t (fun _ => rfl) ?_
  intro cdv A outer s H E hr hg a
  generalize a = x_signs
  have sc := sc_numbered_t
  have tk : Takes (cxOf (L2.CX P w) P w K mg base N_numbered_t "numbered" (defScope s_numbered_t) f cdv A outer s H E) (WB E) := takes_of rfl rfl rfl rfl
  have hp : PassesOwn (model P w) (A.deeper (envOfC "numbered" (defScope s_numbered_t) s.heap.objs.size f cdv)) (cxOf (L2.CX P w) P w K mg base N_numbered_t "numbered" (defScope s_numbered_t) f cdv A outer s H E).env (cxOf (L2.CX P w) P w K mg base N_numbered_t "numbered" (defScope s_numbered_t) f cdv A outer s H E).xe := passes_of rfl
  have hu := hr.units
  have hu1 := hu_of hr
  exact (lk_cons (sk_set 1 sc.nd (ek_newT (lk_cons (sk_set 2 sc.nd (ek_lstM (ak_nil ⟨by decide, (lk_cons (sk_forO (fun (s1 : (List ((List Int) × Int)) × (List Int)) => [none, some (tO kIs D.int s1.1), some (lO D.int s1.2)]) (eT D.int) hp rfl (ik_seq (ek_b (bk_var 0 (o := (.v (.lst (List.map (eT D.int) x_signs)))) ⟨_, rfl, ⟨_, .inr (.inl rfl), ⟨x_signs, (([] : (List ((List Int) × Int))), ([] : (List Int))), (fun (s1 : (List ((List Int) × Int)) × (List Int)) (x2 : (List Int)) => ((if (true ^^ (Option.isSome (lkg s1.1 x2))) then ((putO s1.1 x2 ((s1.1.length : Nat) : Int)).bind fun v3 => (some v3)) else (some s1.1)).bind fun (s4 : (List ((List Int) × Int))) => ((lkg s4 x2).bind fun v5 => ((pushO s1.2 v5).bind fun v6 => (some (s4, v6)))))), (fun (s1 : (List ((List Int) × Int)) × (List Int)) => (some s1.2)), rfl, ⟨rfl, ⟨rfl, trivial⟩⟩, rfl, fun s1 x2 => (gk_name 3 sc.nd (lk_cons (sk_ifO (fun s4 : (List ((List Int) × Int)) => [none, some (tO kIs D.int s4), some (lO D.int s1.2), some (.v (.tup (List.map D.int x2)))]) (tk_in true (fun _ _ ha hb => tj_notinG hu1 ha hb) (ek_b (bk_var 3 (o := (.v (.tup (List.map D.int x2)))) ⟨_, rfl, (bk_var 1 (o := (tO kIs D.int s1.1)) ⟨_, _, rfl, (li_t keyIs), by rw [Option.isSome_map]; exact ⟨((putO s1.1 x2 ((s1.1.length : Nat) : Int)).bind fun v3 => (some v3)), (some s1.1), fun (s4 : (List ((List Int) × Int))) => ((lkg s4 x2).bind fun v5 => ((pushO s1.2 v5).bind fun v6 => (some (s4, v6)))), rfl, fun _ => (lk_one (sk_dput 1 none hu1 (ek_b (bk_cb (fun _ ha => ej_lenTab b_len ha) (bak_cons (bk_var 1 (o := (tO kIs D.int s1.1)) (bak_nil (rl_lenTab tb_t ⟨_, rfl, ⟨_, _, rfl, (rv_slot 1), rfl, (bk_var 3 (o := (.v (.tup (List.map D.int x2)))) ⟨_, rfl, (ps_t keyIs fun v3 => ⟨_, rfl, ⟨rfl, ⟨rfl, ⟨rfl, trivial⟩⟩⟩⟩)⟩)⟩⟩)))))))), fun _ => (lk_nil ⟨_, rfl, ⟨rfl, ⟨rfl, ⟨rfl, trivial⟩⟩⟩⟩), fun s4 => (lk_one (sk_expr (ek_mB 2 none (o1 := (lO D.int s1.2)) (fun _ _ ha hb => ej_append ha hb) (rv_slot 2) rfl kl_ok (bak_cons (bk_dget D.int hu1 (bk_var 1 (o := (tO kIs D.int s4)) (bk_var 3 (o := (.v (.tup (List.map D.int x2)))) ⟨_, (lkg s4 x2), _, rfl, (li_t keyIs), rfl, fun v5 => (bak_nil ⟨[(.int v5)], rfl, ms_app fun v6 => ⟨_, rfl, ⟨rfl, ⟨rfl, trivial⟩⟩⟩⟩)⟩)))))))⟩⟩)⟩)))))), fun s1 => (lk_one (sk_ret (ek_mov 2 (o := (lO D.int s1.2)) ⟨s1.2, _, rfl, rfl, ⟨.inl ⟨_, rfl, rfl⟩, trivial⟩⟩)))⟩⟩⟩)))))⟩)))))))
abbrev s_classes_of : Stmt := top 12
abbrev N_classes_of : List Str := ["rows", "answers", "kinds", "many", "state", "row", "target"]
theorem sc_classes_of : FnScope N_classes_of ["rows", "answers"] (defScope s_classes_of) := ⟨rfl, rfl, rfl, by decide +kernel, rfl, by decide +kernel, by decide +kernel⟩
noncomputable def m_classes_of (x_rows : (List (List Int))) (x_answers : (List Str)) : Option ((List Int)) := ((m_numbered x_answers).bind fun r1 => ((whO (fun (s2 : (List Int) × Int) => ((maxL s2.1).bind fun v3 => (some (decide ((v3 + (1 : Int)) > s2.2))))) (fun (s2 : (List Int) × Int) => ((maxL s2.1).bind fun v4 => ((mapZ (fun (x5 : (Int × (List Int))) => ((atO s2.1 x5.1).bind fun v6 => ((mapZ (fun (x7 : Int) => ((atO s2.1 x7).bind fun v8 => (some v8))) x5.2).bind (fun (ys9 : List Int) => ((addL [v6] ys9).bind fun v10 => (some v10)))))) (enumI x_rows)).bind (fun (ys11 : List (List Int)) => ((m_numbered_t ys11).bind fun r12 => (some (r12, (v4 + (1 : Int))))))))) (r1, (0 : Int))).bind (fun (s2 : (List Int) × Int) => (some s2.1))))
abbrev ea_classes_of : ((List (List Int)) × (List Str)) → List O := fun a => [(.v (.lst (List.map (eL D.int) a.1))), (.v (.lst (List.map D.str a.2)))]
noncomputable abbrev mf_classes_of : ((List (List Int)) × (List Str)) → Option ((List Int)) := fun a => m_classes_of a.1 a.2
abbrev er_classes_of : ((List (List Int)) × (List Str)) → ((List Int)) → Out := fun a r => .ret (lO D.int r) [(.v (.lst (List.map (eL D.int) a.1))), (.v (.lst (List.map D.str a.2)))]
theorem ok_classes_of {P : Program} {w : World} {K : Fz} {mg : Str → Option Value} {base : Heap} {f : Addr} {fd : FuncData} (F : FunD K "classes_of" "classes_of" (defArgs s_classes_of) (defBody s_classes_of) (defScope s_classes_of) [] [] f fd) (C_numbered : Cal P w K mg base 1 "numbered" ["signs"] (bSp (ea_numbered) mf_numbered (er_numbered))) (C_numbered_t : Cal P w K mg base 1 "numbered" ["signs"] (bSp (ea_numbered_t) mf_numbered_t (er_numbered_t))) (b_max : mg "max" = none) (b_enumerate : mg "enumerate" = none) : DFn GG P w K mg base 2 f fd ["rows", "answers"] (bSp (ea_classes_of) mf_classes_of (er_classes_of)) := by
  obtain ⟨oc, od, dV, kV, doc, pm, an, cdv, ct, osl, e1, e2, e3, _, _⟩ := F.ex
  refine DFn.mkB [] (fun _ _ h => h) ⟨oc, od, dV, kV, doc, pm, an, cdv, ct, osl, e1, e2, e3⟩ sc_classes_of (fun _ => rfl) ?_
  intro cdv A outer s H E hr hg a
  obtain ⟨x_rows, x_answers⟩ := a
  have sc := sc_classes_of
  have tk : Takes (cxOf (L2.CX P w) P w K mg base N_classes_of "classes_of" (defScope s_classes_of) f cdv A outer s H E) (WB E) := takes_of rfl rfl rfl rfl
  have hp : PassesOwn (model P w) (A.deeper (envOfC "classes_of" (defScope s_classes_of) s.heap.objs.size f cdv)) (cxOf (L2.CX P w) P w K mg base N_classes_of "classes_of" (defScope s_classes_of) f cdv A outer s H E).env (cxOf (L2.CX P w) P w K mg base N_classes_of "classes_of" (defScope s_classes_of) f cdv A outer s H E).xe := passes_of rfl
  have hu := hr.units
  have hu1 := hu_of hr
  exact (lk_cons (sk_set 2 sc.nd (ek_call C_numbered hr hg tk (ak_cons (ek_b (bk_var 1 (o := (.v (.lst (List.map D.str x_answers)))) ⟨_, rfl, (ak_nil ⟨x_answers, _, rfl, rfl, fun r1 => (lk_cons (sk_set 3 sc.nd (ek_b (bk_int ⟨_, rfl, (lk_cons (sk_whileO (fun (s2 : (List Int) × Int) => [some (.v (.lst (List.map (eL D.int) x_rows))), none, some (lO D.int s2.1), some (.v (.int s2.2))]) (r1, (0 : Int)) (fun (s2 : (List Int) × Int) => ((maxL s2.1).bind fun v4 => ((mapZ (fun (x5 : (Int × (List Int))) => ((atO s2.1 x5.1).bind fun v6 => ((mapZ (fun (x7 : Int) => ((atO s2.1 x7).bind fun v8 => (some v8))) x5.2).bind (fun (ys9 : List Int) => ((addL [v6] ys9).bind fun v10 => (some v10)))))) (enumI x_rows)).bind (fun (ys11 : List (List Int)) => ((m_numbered_t ys11).bind fun r12 => (some (r12, (v4 + (1 : Int))))))))) (fun (s2 : (List Int) × Int) => ((maxL s2.1).bind fun v3 => (some (decide ((v3 + (1 : Int)) > s2.2))))) (fun (s2 : (List Int) × Int) => (some s2.1)) hp ⟨rfl, ⟨rfl, ⟨rfl, trivial⟩⟩⟩ rfl (fun s2 => (tk_cmpB (fun _ _ ha hb => tj_gt ha hb) (bk_op (fun _ _ => ej_add) (bk_cb (fun _ ha => ej_max rfl b_max ha) (bak_cons (bk_var 2 (o := (lO D.int s2.1)) (bak_nil (rl_max as_own fun v3 => (bk_int (rk_addI (bk_var 3 (o := (.v (.int s2.2))) (rk_gtI ⟨_, rfl, ⟨rfl, ⟨rfl, ⟨rfl, ⟨rfl, trivial⟩⟩⟩⟩⟩)))))) (hv := Or.inr (Or.inl (by kernel_rfl))))))))) (fun s2 => (lk_cons (sk_set 3 sc.nd (ek_b (bk_op (fun _ _ => ej_add) (bk_cb (fun _ ha => ej_max rfl b_max ha) (bak_cons (bk_var 2 (o := (lO D.int s2.1)) (bak_nil (rl_max as_own fun v4 => (bk_int (rk_addI ⟨_, rfl, (lk_one (sk_set 2 sc.nd (ek_call C_numbered_t hr hg tk (ak_cons (ek_lcZ (own := [("state", 4), ("row", 5)]) [some (.v (.lst (List.map (eL D.int) x_rows))), none, some (lO D.int s2.1), some (.v (.int (v4 + (1 : Int))))] (eP2 D.int (eL D.int)) (eT D.int) rfl sc.nd (blkOk_by (by show blkC N_classes_of (defScope s_classes_of) _ _ = true; decide +kernel)) (tg_tup (is := [4, 5]) (by decide)) (fun _ _ _ _ _ => (pg_tup rfl (pgs_cons (pg_name (i := 4) sc.nd rfl (.inl (by kernel_rfl)) (.inr (by kernel_rfl))) (pgs_cons (pg_name (i := 5) sc.nd rfl (.inl (by kernel_rfl)) (.inr (by kernel_rfl))) pgs_nil)))) (fun i hi => by simp only [List.map, List.mem_cons, List.not_mem_nil, or_false] at hi; rcases hi with rfl | rfl <;> rfl) (ik_enum b_enumerate (ek_b (bk_var 0 (o := (.v (.lst (List.map (eL D.int) x_rows)))) ⟨_, rfl, ⟨_, rfl, ⟨(enumI x_rows), (fun (x5 : (Int × (List Int))) => ((atO s2.1 x5.1).bind fun v6 => ((mapZ (fun (x7 : Int) => ((atO s2.1 x7).bind fun v8 => (some v8))) x5.2).bind (fun (ys9 : List Int) => ((addL [v6] ys9).bind fun v10 => (some v10)))))), (fun (ys11 : List (List Int)) => ((m_numbered_t ys11).bind fun r12 => (some (r12, (v4 + (1 : Int)))))), (fun (x5 : (Int × (List Int))) => [some (.v (.lst (List.map (eL D.int) x_rows))), none, some (lO D.int s2.1), some (.v (.int (v4 + (1 : Int)))), some (.v (.int x5.1)), some (.v (.lst (List.map D.int x5.2)))]), enumI_map, ⟨rfl, ⟨rfl, ⟨rfl, trivial⟩⟩⟩, rfl, fun x5 => (dg_tup (is := [4, 5]) (vs := [4, 5]) (ds := [(.int x5.1), (.lst (List.map D.int x5.2))]) (E := [some (.v (.lst (List.map (eL D.int) x_rows))), none, some (lO D.int s2.1), some (.v (.int (v4 + (1 : Int))))]) rfl (by decide)), fun x5 _ _ _ _ _ => (ek_tupS D.int (ak_cons (ek_b (bk_op (fun _ _ => ej_ix) (bk_var 2 (o := (lO D.int s2.1)) (bk_var 4 (o := (.v (.int x5.1))) (rk_ixM fun v6 => ⟨_, rfl, (ak_star (ek_lcZ (own := [("target", 6)]) [some (.v (.lst (List.map (eL D.int) x_rows))), none, some (lO D.int s2.1), some (.v (.int (v4 + (1 : Int)))), some (.v (.int x5.1)), some (.v (.lst (List.map D.int x5.2)))] D.int D.int rfl sc.nd (blkOk_by (by kernel_rfl)) (tg_name (by decide)) (fun _ _ _ _ _ => (pg_name (i := 6) sc.nd rfl (.inl (by kernel_rfl)) (.inr (by kernel_rfl)))) (fun i hi => by simp only [List.map, List.mem_cons, List.not_mem_nil, or_false] at hi; subst hi; rfl) (ik_seq (ek_b (bk_var 5 (o := (.v (.lst (List.map D.int x5.2)))) ⟨_, rfl, ⟨_, .inr (.inl rfl), ⟨x5.2, (fun (x7 : Int) => ((atO s2.1 x7).bind fun v8 => (some v8))), (fun (ys9 : List Int) => ((addL [v6] ys9).bind fun v10 => (some v10))), (fun (x7 : Int) => [some (.v (.lst (List.map (eL D.int) x_rows))), none, some (lO D.int s2.1), some (.v (.int (v4 + (1 : Int)))), some (.v (.int x5.1)), some (.v (.lst (List.map D.int x5.2))), some (.v (.int x7))]), rfl, ⟨rfl, ⟨rfl, ⟨rfl, ⟨rfl, ⟨rfl, trivial⟩⟩⟩⟩⟩, rfl, fun x7 => (dg_name (i := 6)), fun x7 _ _ _ _ _ => (ek_b (bk_op (fun _ _ => ej_ix) (bk_var 2 (o := (lO D.int s2.1)) (bk_var 6 (o := (.v (.int x7))) (rk_ixM fun v8 => ⟨_, rfl, ⟨v8, rfl, rfl, ⟨rfl, ⟨rfl, ⟨rfl, ⟨rfl, ⟨rfl, trivial⟩⟩⟩⟩⟩⟩⟩) (hv := Or.inl (by kernel_rfl))) (hv := Or.inr (Or.inl (by kernel_rfl)))))), fun x7 => ⟨rfl, ⟨rfl, ⟨rfl, ⟨rfl, ⟨rfl, trivial⟩⟩⟩⟩⟩, fun x7 => ⟨rfl, ⟨rfl, ⟨rfl, ⟨rfl, ⟨rfl, ⟨rfl, trivial⟩⟩⟩⟩⟩⟩, fun ys9 => ⟨_, .inr rfl, ak_nil ⟨[v6], ys9, fun v10 => (some v10), star_eq (pre := [(none, .v (.int v6))]) rfl, rfl, fun v10 => ⟨v10, rfl, rfl, ⟨rfl, ⟨rfl, ⟨rfl, trivial⟩⟩⟩⟩⟩⟩⟩⟩⟩ (hv := Or.inl (by kernel_rfl)))))))⟩) (hv := Or.inl (by kernel_rfl))) (hv := Or.inr (Or.inl (by kernel_rfl)))))))), fun x5 => ⟨rfl, ⟨rfl, ⟨rfl, trivial⟩⟩⟩, fun x5 => ⟨rfl, ⟨rfl, ⟨rfl, ⟨rfl, ⟨rfl, trivial⟩⟩⟩⟩⟩, fun ys11 => (ak_nil ⟨ys11, _, rfl, rfl, fun r12 => ⟨_, rfl, ⟨rfl, ⟨rfl, ⟨rfl, trivial⟩⟩⟩⟩⟩)⟩⟩⟩)))))) (hx := Or.inr (by kernel_rfl))))⟩)))) (hv := Or.inr (Or.inl (by kernel_rfl))))))))))) (fun s2 => (lk_one (sk_ret (ek_mov 2 (o := (lO D.int s2.1)) ⟨s2.1, _, rfl, rfl, ⟨.inl ⟨_, rfl, rfl⟩, ⟨.inl ⟨_, rfl, rfl⟩, trivial⟩⟩⟩ (hv := Or.inr (Or.inl (by kernel_rfl)))))))))⟩))))⟩)⟩)))) (hx := Or.inr (by kernel_rfl))))
abbrev s_least_parts : Stmt := top 13
abbrev N_least_parts : List Str := ["moves", "answers", "order", "places", "rows", "told", "kinds", "firsts", "state", "kind", "some", "found", "place", "target"]
theorem sc_least_parts : FnScope N_least_parts ["moves", "answers"] (defScope s_least_parts) := ⟨rfl, rfl, rfl, by decide +kernel, rfl, by decide +kernel, by decide +kernel⟩
noncomputable def m_least_parts (x_moves : (List (List Int))) (x_answers : (List Str)) : Option (((List (List Int)) × (List Str))) := ((m_states_reached x_moves).bind fun r1 => ((dctZ (fun (x2 : (Int × Int)) => (some (x2.2, x2.1))) (enumI r1)).bind (fun (d3 : List (Int × Int)) => ((mapZ (fun (x4 : Int) => ((atO x_moves x4).bind fun v5 => ((mapZ (fun (x6 : Int) => ((lkg d3 x6).bind fun v7 => (some v7))) v5).bind (fun (ys8 : List Int) => (some ys8))))) r1).bind (fun (ys9 : List (List Int)) => ((mapZ (fun (x10 : Int) => ((atO x_answers x10).bind fun v11 => (some v11))) r1).bind (fun (ys12 : List Str) => ((m_classes_of ys9 ys12).bind fun r13 => ((forO (fun (s14 : (List (Int × Int))) (x15 : (Int × Int)) => ((if (true ^^ (Option.isSome (lkg s14 x15.2))) then ((putO s14 x15.2 x15.1).bind fun v16 => (some v16)) else (some s14)).bind fun (s17 : (List (Int × Int))) => (some s17))) (enumI r13) ([] : (List (Int × Int)))).bind (fun (s14 : (List (Int × Int))) => ((rangeO 0 ((s14.length : Nat) : Int)).bind fun xs18 => ((mapZ (fun (x19 : Int) => ((lkg s14 x19).bind fun v20 => (some v20))) xs18).bind (fun (ys21 : List Int) => ((mapZ (fun (x22 : Int) => ((atO ys9 x22).bind fun v23 => ((mapZ (fun (x24 : Int) => ((atO r13 x24).bind fun v25 => (some v25))) v23).bind (fun (ys26 : List Int) => (some ys26))))) ys21).bind (fun (ys27 : List (List Int)) => ((mapZ (fun (x28 : Int) => ((atO ys12 x28).bind fun v29 => (some v29))) ys21).bind (fun (ys30 : List Str) => (some (ys27, ys30)))))))))))))))))))
abbrev ea_least_parts : ((List (List Int)) × (List Str)) → List O := fun a => [(.v (.tup (List.map (eT D.int) a.1))), (.v (.tup (List.map D.str a.2)))]
noncomputable abbrev mf_least_parts : ((List (List Int)) × (List Str)) → Option (((List (List Int)) × (List Str))) := fun a => m_least_parts a.1 a.2
abbrev er_least_parts : ((List (List Int)) × (List Str)) → (((List (List Int)) × (List Str))) → Out := fun a r => .ret (.v ((eP2 (eT (eT D.int)) (eT D.str)) r)) [(.v (.tup (List.map (eT D.int) a.1))), (.v (.tup (List.map D.str a.2)))]
theorem ok_least_parts {P : Program} {w : World} {K : Fz} {mg : Str → Option Value} {base : Heap} {f : Addr} {fd : FuncData} (F : FunD K "least_parts" "least_parts" (defArgs s_least_parts) (defBody s_least_parts) (defScope s_least_parts) [] [] f fd) (C_states_reached : Cal P w K mg base 1 "states_reached" ["moves"] (bSp (ea_states_reached) mf_states_reached (er_states_reached))) (C_classes_of : Cal P w K mg base 2 "classes_of" ["rows", "answers"] (bSp (ea_classes_of) mf_classes_of (er_classes_of))) (b_enumerate : mg "enumerate" = none) (b_range : mg "range" = none) (b_tuple : mg "tuple" = none) (b_len : mg "len" = none) : DFn GG P w K mg base 3 f fd ["moves", "answers"] (bSp (ea_least_parts) mf_least_parts (er_least_parts)) := by
  obtain ⟨oc, od, dV, kV, doc, pm, an, cdv, ct, osl, e1, e2, e3, _, _⟩ := F.ex
  refine DFn.mkB [] (fun _ _ h => h) ⟨oc, od, dV, kV, doc, pm, an, cdv, ct, osl, e1, e2, e3⟩ sc_least_parts (fun _ => rfl) ?_
  intro cdv A outer s H E hr hg a
  obtain ⟨x_moves, x_answers⟩ := a
  have sc := sc_least_parts
  have tk : Takes (cxOf (L2.CX P w) P w K mg base N_least_parts "least_parts" (defScope s_least_parts) f cdv A outer s H E) (WB E) := takes_of rfl rfl rfl rfl
  have hp : PassesOwn (model P w) (A.deeper (envOfC "least_parts" (defScope s_least_parts) s.heap.objs.size f cdv)) (cxOf (L2.CX P w) P w K mg base N_least_parts "least_parts" (defScope s_least_parts) f cdv A outer s H E).env (cxOf (L2.CX P w) P w K mg base N_least_parts "least_parts" (defScope s_least_parts) f cdv A outer s H E).xe := passes_of rfl
  have hu := hr.units
  have hu1 := hu_of hr
  exact (lk_cons (sk_set 2 sc.nd (ek_call C_states_reached hr hg tk (ak_cons (ek_b (bk_var 0 (o := (.v (.tup (List.map (eT D.int) x_moves)))) ⟨_, rfl, (ak_nil ⟨x_moves, _, rfl, rfl, fun r1 => (lk_frz 2 (FrzO.l D.int r1) (lk_cons (sk_set 3 sc.nd (ek_dcZ (own := [("place", 12), ("state", 8)]) [some (.v (.tup (List.map (eT D.int) x_moves))), some (.v (.tup (List.map D.str x_answers))), some (.v (.lst (List.map D.int r1)))] (eP2 D.int D.int) keyI D.int rfl sc.nd (blkOk_by (by show blkC N_least_parts (defScope s_least_parts) _ _ = true; decide +kernel)) (tg_tup (is := [12, 8]) (by decide)) (fun _ _ _ _ _ => (pg_tup rfl (pgs_cons (pg_name (i := 12) sc.nd rfl (.inl (by kernel_rfl)) (.inr (by kernel_rfl))) (pgs_cons (pg_name (i := 8) sc.nd rfl (.inl (by kernel_rfl)) (.inr (by kernel_rfl))) pgs_nil)))) (fun i hi => by simp only [List.map, List.mem_cons, List.not_mem_nil, or_false] at hi; rcases hi with rfl | rfl <;> rfl) (ik_enum b_enumerate (ek_b (bk_var 2 (o := (.v (.lst (List.map D.int r1)))) ⟨_, rfl, ⟨_, rfl, ⟨(enumI r1), (fun (x2 : (Int × Int)) => (some (x2.2, x2.1))), (fun (d3 : List (Int × Int)) => ((mapZ (fun (x4 : Int) => ((atO x_moves x4).bind fun v5 => ((mapZ (fun (x6 : Int) => ((lkg d3 x6).bind fun v7 => (some v7))) v5).bind (fun (ys8 : List Int) => (some ys8))))) r1).bind (fun (ys9 : List (List Int)) => ((mapZ (fun (x10 : Int) => ((atO x_answers x10).bind fun v11 => (some v11))) r1).bind (fun (ys12 : List Str) => ((m_classes_of ys9 ys12).bind fun r13 => ((forO (fun (s14 : (List (Int × Int))) (x15 : (Int × Int)) => ((if (true ^^ (Option.isSome (lkg s14 x15.2))) then ((putO s14 x15.2 x15.1).bind fun v16 => (some v16)) else (some s14)).bind fun (s17 : (List (Int × Int))) => (some s17))) (enumI r13) ([] : (List (Int × Int)))).bind (fun (s14 : (List (Int × Int))) => ((rangeO 0 ((s14.length : Nat) : Int)).bind fun xs18 => ((mapZ (fun (x19 : Int) => ((lkg s14 x19).bind fun v20 => (some v20))) xs18).bind (fun (ys21 : List Int) => ((mapZ (fun (x22 : Int) => ((atO ys9 x22).bind fun v23 => ((mapZ (fun (x24 : Int) => ((atO r13 x24).bind fun v25 => (some v25))) v23).bind (fun (ys26 : List Int) => (some ys26))))) ys21).bind (fun (ys27 : List (List Int)) => ((mapZ (fun (x28 : Int) => ((atO ys12 x28).bind fun v29 => (some v29))) ys21).bind (fun (ys30 : List Str) => (some (ys27, ys30))))))))))))))))), (fun (x2 : (Int × Int)) => [some (.v (.tup (List.map (eT D.int) x_moves))), some (.v (.tup (List.map D.str x_answers))), some (.v (.lst (List.map D.int r1))), none, none, none, none, none, some (.v (.int x2.2)), none, none, none, some (.v (.int x2.1))]), enumI_map, ⟨rfl, ⟨rfl, ⟨rfl, trivial⟩⟩⟩, rfl, fun x2 => (dg_tup (is := [12, 8]) (vs := [12, 8]) (ds := [(.int x2.1), (.int x2.2)]) (E := [some (.v (.tup (List.map (eT D.int) x_moves))), some (.v (.tup (List.map D.str x_answers))), some (.v (.lst (List.map D.int r1)))]) rfl (by decide)), fun x2 _ _ _ _ _ => (bk_var 8 (o := (.v (.int x2.2))) ⟨x2.2, rfl, fun _ _ _ _ _ => (bk_var 12 (o := (.v (.int x2.1))) ⟨x2.1, rfl, rfl⟩ (hv := Or.inl (by kernel_rfl)))⟩ (hv := Or.inl (by kernel_rfl))), fun x2 => ⟨rfl, ⟨rfl, ⟨rfl, trivial⟩⟩⟩, fun d3 => (lk_cons (sk_set 4 sc.nd (ek_lcZ (own := [("state", 8)]) [some (.v (.tup (List.map (eT D.int) x_moves))), some (.v (.tup (List.map D.str x_answers))), some (.v (.lst (List.map D.int r1))), some (kO Sum.inl D.int d3)] D.int (eL D.int) rfl sc.nd (blkOk_by (by show blkC N_least_parts (defScope s_least_parts) _ _ = true; decide +kernel)) (tg_name (by decide)) (fun _ _ _ _ _ => (pg_name (i := 8) sc.nd rfl (.inl (by kernel_rfl)) (.inr (by kernel_rfl)))) (fun i hi => by simp only [List.map, List.mem_cons, List.not_mem_nil, or_false] at hi; subst hi; rfl) (ik_seq (ek_b (bk_var 2 (o := (.v (.lst (List.map D.int r1)))) ⟨_, rfl, ⟨_, .inr (.inl rfl), ⟨r1, (fun (x4 : Int) => ((atO x_moves x4).bind fun v5 => ((mapZ (fun (x6 : Int) => ((lkg d3 x6).bind fun v7 => (some v7))) v5).bind (fun (ys8 : List Int) => (some ys8))))), (fun (ys9 : List (List Int)) => ((mapZ (fun (x10 : Int) => ((atO x_answers x10).bind fun v11 => (some v11))) r1).bind (fun (ys12 : List Str) => ((m_classes_of ys9 ys12).bind fun r13 => ((forO (fun (s14 : (List (Int × Int))) (x15 : (Int × Int)) => ((if (true ^^ (Option.isSome (lkg s14 x15.2))) then ((putO s14 x15.2 x15.1).bind fun v16 => (some v16)) else (some s14)).bind fun (s17 : (List (Int × Int))) => (some s17))) (enumI r13) ([] : (List (Int × Int)))).bind (fun (s14 : (List (Int × Int))) => ((rangeO 0 ((s14.length : Nat) : Int)).bind fun xs18 => ((mapZ (fun (x19 : Int) => ((lkg s14 x19).bind fun v20 => (some v20))) xs18).bind (fun (ys21 : List Int) => ((mapZ (fun (x22 : Int) => ((atO ys9 x22).bind fun v23 => ((mapZ (fun (x24 : Int) => ((atO r13 x24).bind fun v25 => (some v25))) v23).bind (fun (ys26 : List Int) => (some ys26))))) ys21).bind (fun (ys27 : List (List Int)) => ((mapZ (fun (x28 : Int) => ((atO ys12 x28).bind fun v29 => (some v29))) ys21).bind (fun (ys30 : List Str) => (some (ys27, ys30))))))))))))))), (fun (x4 : Int) => [some (.v (.tup (List.map (eT D.int) x_moves))), some (.v (.tup (List.map D.str x_answers))), some (.v (.lst (List.map D.int r1))), some (kO Sum.inl D.int d3), none, none, none, none, some (.v (.int x4))]), rfl, ⟨rfl, ⟨rfl, ⟨rfl, ⟨rfl, trivial⟩⟩⟩⟩, rfl, fun x4 => (dg_name (i := 8)), fun x4 _ _ _ _ _ => (ek_lcZ (own := [("target", 13)]) [some (.v (.tup (List.map (eT D.int) x_moves))), some (.v (.tup (List.map D.str x_answers))), some (.v (.lst (List.map D.int r1))), some (kO Sum.inl D.int d3), none, none, none, none, some (.v (.int x4))] D.int D.int rfl sc.nd (blkOk_by (by kernel_rfl)) (tg_name (by decide)) (fun _ _ _ _ _ => (pg_name (i := 13) sc.nd rfl (.inl (by kernel_rfl)) (.inr (by kernel_rfl)))) (fun i hi => by simp only [List.map, List.mem_cons, List.not_mem_nil, or_false] at hi; subst hi; rfl) (ik_seq (ek_b (bk_op (fun _ _ => ej_ix) (bk_var 0 (o := (.v (.tup (List.map (eT D.int) x_moves)))) (bk_var 8 (o := (.v (.int x4))) (rk_ixT fun v5 => ⟨_, rfl, ⟨_, .inl rfl, ⟨v5, (fun (x6 : Int) => ((lkg d3 x6).bind fun v7 => (some v7))), (fun (ys8 : List Int) => (some ys8)), (fun (x6 : Int) => [some (.v (.tup (List.map (eT D.int) x_moves))), some (.v (.tup (List.map D.str x_answers))), some (.v (.lst (List.map D.int r1))), some (kO Sum.inl D.int d3), none, none, none, none, some (.v (.int x4)), none, none, none, none, some (.v (.int x6))]), rfl, ⟨rfl, ⟨rfl, ⟨rfl, ⟨rfl, ⟨rfl, trivial⟩⟩⟩⟩⟩, rfl, fun x6 => (dg_name (i := 13)), fun x6 _ _ _ _ _ => (ek_b (bk_dget D.int hu1 (bk_var 3 (o := (kO Sum.inl D.int d3)) (bk_var 13 (o := (.v (.int x6))) ⟨_, (lkg d3 x6), _, rfl, (li_k keyI), rfl, fun v7 => ⟨_, rfl, ⟨v7, rfl, rfl, ⟨rfl, ⟨rfl, ⟨rfl, ⟨rfl, ⟨rfl, trivial⟩⟩⟩⟩⟩⟩⟩⟩ (hv := Or.inl (by kernel_rfl))) (hv := Or.inr (Or.inl (by kernel_rfl)))))), fun x6 => ⟨rfl, ⟨rfl, ⟨rfl, ⟨rfl, ⟨rfl, trivial⟩⟩⟩⟩⟩, fun x6 => ⟨rfl, ⟨rfl, ⟨rfl, ⟨rfl, ⟨rfl, ⟨rfl, trivial⟩⟩⟩⟩⟩⟩, fun ys8 => ⟨ys8, rfl, rfl, ⟨rfl, ⟨rfl, ⟨rfl, ⟨rfl, trivial⟩⟩⟩⟩⟩⟩⟩⟩) (hv := Or.inl (by kernel_rfl))) (hv := Or.inr (Or.inl (by kernel_rfl)))))))), fun x4 => ⟨rfl, ⟨rfl, ⟨rfl, ⟨rfl, trivial⟩⟩⟩⟩, fun x4 => ⟨rfl, ⟨rfl, ⟨rfl, ⟨rfl, ⟨rfl, trivial⟩⟩⟩⟩⟩, fun ys9 => (lk_cons (sk_set 5 sc.nd (ek_lcZ (own := [("state", 8)]) [some (.v (.tup (List.map (eT D.int) x_moves))), some (.v (.tup (List.map D.str x_answers))), some (.v (.lst (List.map D.int r1))), some (kO Sum.inl D.int d3), some (.v (.lst (List.map (eL D.int) ys9)))] D.int D.str rfl sc.nd (blkOk_by (by show blkC N_least_parts (defScope s_least_parts) _ _ = true; decide +kernel)) (tg_name (by decide)) (fun _ _ _ _ _ => (pg_name (i := 8) sc.nd rfl (.inl (by kernel_rfl)) (.inr (by kernel_rfl)))) (fun i hi => by simp only [List.map, List.mem_cons, List.not_mem_nil, or_false] at hi; subst hi; rfl) (ik_seq (ek_b (bk_var 2 (o := (.v (.lst (List.map D.int r1)))) ⟨_, rfl, ⟨_, .inr (.inl rfl), ⟨r1, (fun (x10 : Int) => ((atO x_answers x10).bind fun v11 => (some v11))), (fun (ys12 : List Str) => ((m_classes_of ys9 ys12).bind fun r13 => ((forO (fun (s14 : (List (Int × Int))) (x15 : (Int × Int)) => ((if (true ^^ (Option.isSome (lkg s14 x15.2))) then ((putO s14 x15.2 x15.1).bind fun v16 => (some v16)) else (some s14)).bind fun (s17 : (List (Int × Int))) => (some s17))) (enumI r13) ([] : (List (Int × Int)))).bind (fun (s14 : (List (Int × Int))) => ((rangeO 0 ((s14.length : Nat) : Int)).bind fun xs18 => ((mapZ (fun (x19 : Int) => ((lkg s14 x19).bind fun v20 => (some v20))) xs18).bind (fun (ys21 : List Int) => ((mapZ (fun (x22 : Int) => ((atO ys9 x22).bind fun v23 => ((mapZ (fun (x24 : Int) => ((atO r13 x24).bind fun v25 => (some v25))) v23).bind (fun (ys26 : List Int) => (some ys26))))) ys21).bind (fun (ys27 : List (List Int)) => ((mapZ (fun (x28 : Int) => ((atO ys12 x28).bind fun v29 => (some v29))) ys21).bind (fun (ys30 : List Str) => (some (ys27, ys30))))))))))))), (fun (x10 : Int) => [some (.v (.tup (List.map (eT D.int) x_moves))), some (.v (.tup (List.map D.str x_answers))), some (.v (.lst (List.map D.int r1))), some (kO Sum.inl D.int d3), some (.v (.lst (List.map (eL D.int) ys9))), none, none, none, some (.v (.int x10))]), rfl, ⟨rfl, ⟨rfl, ⟨rfl, ⟨rfl, ⟨rfl, trivial⟩⟩⟩⟩⟩, rfl, fun x10 => (dg_name (i := 8)), fun x10 _ _ _ _ _ => (ek_b (bk_op (fun _ _ => ej_ix) (bk_var 1 (o := (.v (.tup (List.map D.str x_answers)))) (bk_var 8 (o := (.v (.int x10))) (rk_ixT fun v11 => ⟨_, rfl, ⟨v11, rfl, rfl, ⟨rfl, ⟨rfl, ⟨rfl, ⟨rfl, ⟨rfl, trivial⟩⟩⟩⟩⟩⟩⟩) (hv := Or.inl (by kernel_rfl))) (hv := Or.inr (Or.inl (by kernel_rfl)))))), fun x10 => ⟨rfl, ⟨rfl, ⟨rfl, ⟨rfl, ⟨rfl, trivial⟩⟩⟩⟩⟩, fun x10 => ⟨rfl, ⟨rfl, ⟨rfl, ⟨rfl, ⟨rfl, ⟨rfl, trivial⟩⟩⟩⟩⟩⟩, fun ys12 => (lk_cons (sk_set 6 sc.nd (ek_call C_classes_of hr hg tk (ak_cons (ek_b (bk_var 4 (o := (.v (.lst (List.map (eL D.int) ys9)))) ⟨_, rfl, (ak_cons (ek_b (bk_var 5 (o := (.v (.lst (List.map D.str ys12)))) ⟨_, rfl, (ak_nil ⟨(ys9, ys12), _, rfl, rfl, fun r13 => (lk_frz 6 (FrzO.l D.int r13) (lk_cons (sk_set 7 sc.nd (ek_newK (lk_cons (sk_forO (fun (s14 : (List (Int × Int))) => [none, none, none, none, some (.v (.lst (List.map (eL D.int) ys9))), some (.v (.lst (List.map D.str ys12))), some (.v (.lst (List.map D.int r13))), some (kO Sum.inl D.int s14)]) (eP2 D.int D.int) hp rfl (ik_enum b_enumerate (ek_b (bk_var 6 (o := (.v (.lst (List.map D.int r13)))) ⟨_, rfl, ⟨_, rfl, ⟨(enumI r13), ([] : (List (Int × Int))), (fun (s14 : (List (Int × Int))) (x15 : (Int × Int)) => ((if (true ^^ (Option.isSome (lkg s14 x15.2))) then ((putO s14 x15.2 x15.1).bind fun v16 => (some v16)) else (some s14)).bind fun (s17 : (List (Int × Int))) => (some s17))), (fun (s14 : (List (Int × Int))) => ((rangeO 0 ((s14.length : Nat) : Int)).bind fun xs18 => ((mapZ (fun (x19 : Int) => ((lkg s14 x19).bind fun v20 => (some v20))) xs18).bind (fun (ys21 : List Int) => ((mapZ (fun (x22 : Int) => ((atO ys9 x22).bind fun v23 => ((mapZ (fun (x24 : Int) => ((atO r13 x24).bind fun v25 => (some v25))) v23).bind (fun (ys26 : List Int) => (some ys26))))) ys21).bind (fun (ys27 : List (List Int)) => ((mapZ (fun (x28 : Int) => ((atO ys12 x28).bind fun v29 => (some v29))) ys21).bind (fun (ys30 : List Str) => (some (ys27, ys30)))))))))), enumI_map, ⟨rfl, ⟨rfl, ⟨rfl, ⟨rfl, trivial⟩⟩⟩⟩, rfl, fun s14 x15 => (gk_tup rfl (gsk_cons (gk_name 8 sc.nd (gsk_cons (gk_name 9 sc.nd (gsk_nil (lk_one (sk_ifO (fun s17 : (List (Int × Int)) => [none, none, none, none, some (.v (.lst (List.map (eL D.int) ys9))), some (.v (.lst (List.map D.str ys12))), some (.v (.lst (List.map D.int r13))), some (kO Sum.inl D.int s17), some (.v (.int x15.1)), some (.v (.int x15.2))]) (tk_in true (fun _ _ ha hb => tj_notinG hu1 ha hb) (ek_b (bk_var 9 (o := (.v (.int x15.2))) ⟨_, rfl, (bk_var 7 (o := (kO Sum.inl D.int s14)) ⟨_, _, rfl, (li_k keyI), by rw [Option.isSome_map]; exact ⟨((putO s14 x15.2 x15.1).bind fun v16 => (some v16)), (some s14), fun (s17 : (List (Int × Int))) => (some s17), rfl, fun _ => (lk_one (sk_dput 7 none hu1 (ek_b (bk_var 8 (o := (.v (.int x15.1))) ⟨_, rfl, ⟨_, _, rfl, (rv_slot 7 (hv := Or.inr (Or.inl (by kernel_rfl)))), rfl, (bk_var 9 (o := (.v (.int x15.2))) ⟨_, rfl, (ps_k keyI fun v16 => ⟨_, rfl, ⟨rfl, ⟨rfl, ⟨rfl, ⟨rfl, ⟨rfl, ⟨rfl, trivial⟩⟩⟩⟩⟩⟩⟩)⟩)⟩⟩)))), fun _ => (lk_nil ⟨_, rfl, ⟨rfl, ⟨rfl, ⟨rfl, ⟨rfl, ⟨rfl, ⟨rfl, trivial⟩⟩⟩⟩⟩⟩⟩), fun s17 => ⟨_, rfl, ⟨rfl, ⟨rfl, ⟨rfl, ⟨rfl, trivial⟩⟩⟩⟩⟩⟩⟩ (hv := Or.inr (Or.inl (by kernel_rfl))))⟩))))))))))), fun s14 => (lk_cons (sk_setJ 10 (jk_lcZ (own := [("kind", 9)]) (fun _ _ _ hi ht he => sj_setLc (own := [("kind", 9)]) 10 rfl sc.nd hi (blkOk_by (by show blkC N_least_parts (defScope s_least_parts) _ _ = true; decide +kernel)) (tg_name (by decide)) (fun _ _ _ _ _ => (pg_name (i := 9) sc.nd rfl (.inl (by kernel_rfl)) (.inr (by kernel_rfl)))) ht he (hsw := by rfl)) [none, none, none, none, some (.v (.lst (List.map (eL D.int) ys9))), some (.v (.lst (List.map D.str ys12))), some (.v (.lst (List.map D.int r13))), some (kO Sum.inl D.int s14)] D.int D.int rfl sc.nd (blkOk_by (by show blkC N_least_parts (defScope s_least_parts) _ _ = true; decide +kernel)) (tg_name (by decide)) (fun _ _ _ _ _ => (pg_name (i := 9) sc.nd rfl (.inl (by kernel_rfl)) (.inr (by kernel_rfl)))) (fun i hi => by simp only [List.map, List.mem_cons, List.not_mem_nil, or_false] at hi; subst hi; rfl) (ik_range1 b_range (ak_cons (ek_b (bk_cb (fun _ ha => ej_lenTab b_len ha) (bak_cons (bk_var 7 (o := (kO Sum.inl D.int s14)) (bak_nil (rl_lenTab tb_k ⟨_, rfl, (ak_nil ⟨_, _, rfl, rfl, fun xs18 => ⟨xs18, (fun (x19 : Int) => ((lkg s14 x19).bind fun v20 => (some v20))), (fun (ys21 : List Int) => ((mapZ (fun (x22 : Int) => ((atO ys9 x22).bind fun v23 => ((mapZ (fun (x24 : Int) => ((atO r13 x24).bind fun v25 => (some v25))) v23).bind (fun (ys26 : List Int) => (some ys26))))) ys21).bind (fun (ys27 : List (List Int)) => ((mapZ (fun (x28 : Int) => ((atO ys12 x28).bind fun v29 => (some v29))) ys21).bind (fun (ys30 : List Str) => (some (ys27, ys30))))))), (fun (x19 : Int) => [none, none, none, none, some (.v (.lst (List.map (eL D.int) ys9))), some (.v (.lst (List.map D.str ys12))), some (.v (.lst (List.map D.int r13))), some (kO Sum.inl D.int s14), none, some (.v (.int x19))]), rfl, ⟨rfl, ⟨rfl, ⟨rfl, ⟨rfl, trivial⟩⟩⟩⟩, rfl, fun x19 => (dg_name (i := 9)), fun x19 _ _ _ _ _ => (ek_b (bk_dget D.int hu1 (bk_var 7 (o := (kO Sum.inl D.int s14)) (bk_var 9 (o := (.v (.int x19))) ⟨_, (lkg s14 x19), _, rfl, (li_k keyI), rfl, fun v20 => ⟨_, rfl, ⟨v20, rfl, rfl, ⟨rfl, ⟨rfl, ⟨rfl, ⟨rfl, trivial⟩⟩⟩⟩⟩⟩⟩ (hv := Or.inl (by kernel_rfl))) (hv := Or.inr (Or.inl (by kernel_rfl)))))), fun x19 => ⟨rfl, ⟨rfl, ⟨rfl, ⟨rfl, trivial⟩⟩⟩⟩, fun x19 => ⟨rfl, ⟨rfl, ⟨rfl, ⟨rfl, ⟨rfl, trivial⟩⟩⟩⟩⟩, fun ys21 => (lk_cons (sk_setJ 11 (jk_lcZ (own := [("state", 8)]) (fun _ _ _ hi ht he => sj_setLc (own := [("state", 8)]) 11 rfl sc.nd hi (blkOk_by (by show blkC N_least_parts (defScope s_least_parts) _ _ = true; decide +kernel)) (tg_name (by decide)) (fun _ _ _ _ _ => (pg_name (i := 8) sc.nd rfl (.inl (by kernel_rfl)) (.inr (by kernel_rfl)))) ht he (hsw := by rfl)) [none, none, none, none, some (.v (.lst (List.map (eL D.int) ys9))), some (.v (.lst (List.map D.str ys12))), some (.v (.lst (List.map D.int r13))), some (kO Sum.inl D.int s14), none, none, some (.v (.lst (List.map D.int ys21)))] D.int (eT D.int) rfl sc.nd (blkOk_by (by show blkC N_least_parts (defScope s_least_parts) _ _ = true; decide +kernel)) (tg_name (by decide)) (fun _ _ _ _ _ => (pg_name (i := 8) sc.nd rfl (.inl (by kernel_rfl)) (.inr (by kernel_rfl)))) (fun i hi => by simp only [List.map, List.mem_cons, List.not_mem_nil, or_false] at hi; subst hi; rfl) (ik_seq (ek_b (bk_var 10 (o := (.v (.lst (List.map D.int ys21)))) ⟨_, rfl, ⟨_, .inr (.inl rfl), ⟨ys21, (fun (x22 : Int) => ((atO ys9 x22).bind fun v23 => ((mapZ (fun (x24 : Int) => ((atO r13 x24).bind fun v25 => (some v25))) v23).bind (fun (ys26 : List Int) => (some ys26))))), (fun (ys27 : List (List Int)) => ((mapZ (fun (x28 : Int) => ((atO ys12 x28).bind fun v29 => (some v29))) ys21).bind (fun (ys30 : List Str) => (some (ys27, ys30))))), (fun (x22 : Int) => [none, none, none, none, some (.v (.lst (List.map (eL D.int) ys9))), some (.v (.lst (List.map D.str ys12))), some (.v (.lst (List.map D.int r13))), some (kO Sum.inl D.int s14), some (.v (.int x22)), none, some (.v (.lst (List.map D.int ys21)))]), rfl, ⟨rfl, ⟨rfl, ⟨rfl, ⟨rfl, ⟨rfl, trivial⟩⟩⟩⟩⟩, rfl, fun x22 => (dg_name (i := 8)), fun x22 _ _ _ _ _ => (ek_cb (fun _ ha => ej_tuple b_tuple ha (hg := by show _ = _; kernel_rfl)) (ak_cons (ek_lcZ (own := [("target", 13)]) [none, none, none, none, some (.v (.lst (List.map (eL D.int) ys9))), some (.v (.lst (List.map D.str ys12))), some (.v (.lst (List.map D.int r13))), some (kO Sum.inl D.int s14), some (.v (.int x22)), none, some (.v (.lst (List.map D.int ys21)))] D.int D.int rfl sc.nd (blkOk_by (by kernel_rfl)) (tg_name (by decide)) (fun _ _ _ _ _ => (pg_name (i := 13) sc.nd rfl (.inl (by kernel_rfl)) (.inr (by kernel_rfl)))) (fun i hi => by simp only [List.map, List.mem_cons, List.not_mem_nil, or_false] at hi; subst hi; rfl) (ik_seq (ek_b (bk_op (fun _ _ => ej_ix) (bk_var 4 (o := (.v (.lst (List.map (eL D.int) ys9)))) (bk_var 8 (o := (.v (.int x22))) (rk_ixL fun v23 => ⟨_, rfl, ⟨_, .inr (.inl rfl), ⟨v23, (fun (x24 : Int) => ((atO r13 x24).bind fun v25 => (some v25))), (fun (ys26 : List Int) => (some ys26)), (fun (x24 : Int) => [none, none, none, none, some (.v (.lst (List.map (eL D.int) ys9))), some (.v (.lst (List.map D.str ys12))), some (.v (.lst (List.map D.int r13))), some (kO Sum.inl D.int s14), some (.v (.int x22)), none, some (.v (.lst (List.map D.int ys21))), none, none, some (.v (.int x24))]), rfl, ⟨rfl, ⟨rfl, ⟨rfl, ⟨rfl, ⟨rfl, ⟨rfl, trivial⟩⟩⟩⟩⟩⟩, rfl, fun x24 => (dg_name (i := 13)), fun x24 _ _ _ _ _ => (ek_b (bk_op (fun _ _ => ej_ix) (bk_var 6 (o := (.v (.lst (List.map D.int r13)))) (bk_var 13 (o := (.v (.int x24))) (rk_ixL fun v25 => ⟨_, rfl, ⟨v25, rfl, rfl, ⟨rfl, ⟨rfl, ⟨rfl, ⟨rfl, ⟨rfl, ⟨rfl, trivial⟩⟩⟩⟩⟩⟩⟩⟩) (hv := Or.inl (by kernel_rfl))) (hv := Or.inr (Or.inl (by kernel_rfl)))))), fun x24 => ⟨rfl, ⟨rfl, ⟨rfl, ⟨rfl, ⟨rfl, ⟨rfl, trivial⟩⟩⟩⟩⟩⟩, fun x24 => ⟨rfl, ⟨rfl, ⟨rfl, ⟨rfl, ⟨rfl, ⟨rfl, ⟨rfl, trivial⟩⟩⟩⟩⟩⟩⟩, fun ys26 => (ak_nil (rl_tupL as_v ⟨ys26, rfl, rfl, ⟨rfl, ⟨rfl, ⟨rfl, ⟨rfl, ⟨rfl, trivial⟩⟩⟩⟩⟩⟩))⟩⟩⟩) (hv := Or.inl (by kernel_rfl))) (hv := Or.inr (Or.inl (by kernel_rfl)))))))))), fun x22 => ⟨rfl, ⟨rfl, ⟨rfl, ⟨rfl, ⟨rfl, trivial⟩⟩⟩⟩⟩, fun x22 => ⟨rfl, ⟨rfl, ⟨rfl, ⟨rfl, ⟨rfl, ⟨rfl, trivial⟩⟩⟩⟩⟩⟩, fun ys27 => (lk_one (sk_ret (ek_tup (ak_cons (ek_b (bk_cb (fun _ ha => ej_tuple b_tuple ha) (bak_cons (bk_var 11 (o := (.v (.lst (List.map (eT D.int) ys27)))) (bak_nil (rl_tupL as_v ⟨_, rfl, (ak_cons (ek_cb (fun _ ha => ej_tuple b_tuple ha) (ak_cons (ek_lcZ (own := [("state", 8)]) [none, none, none, none, some (.v (.lst (List.map (eL D.int) ys9))), some (.v (.lst (List.map D.str ys12))), some (.v (.lst (List.map D.int r13))), some (kO Sum.inl D.int s14), none, none, some (.v (.lst (List.map D.int ys21))), some (.v (.lst (List.map (eT D.int) ys27)))] D.int D.str rfl sc.nd (blkOk_by (by show blkC N_least_parts (defScope s_least_parts) _ _ = true; decide +kernel)) (tg_name (by decide)) (fun _ _ _ _ _ => (pg_name (i := 8) sc.nd rfl (.inl (by kernel_rfl)) (.inr (by kernel_rfl)))) (fun i hi => by simp only [List.map, List.mem_cons, List.not_mem_nil, or_false] at hi; subst hi; rfl) (ik_seq (ek_b (bk_var 10 (o := (.v (.lst (List.map D.int ys21)))) ⟨_, rfl, ⟨_, .inr (.inl rfl), ⟨ys21, (fun (x28 : Int) => ((atO ys12 x28).bind fun v29 => (some v29))), (fun (ys30 : List Str) => (some (ys27, ys30))), (fun (x28 : Int) => [none, none, none, none, some (.v (.lst (List.map (eL D.int) ys9))), some (.v (.lst (List.map D.str ys12))), some (.v (.lst (List.map D.int r13))), some (kO Sum.inl D.int s14), some (.v (.int x28)), none, some (.v (.lst (List.map D.int ys21))), some (.v (.lst (List.map (eT D.int) ys27)))]), rfl, ⟨rfl, ⟨rfl, ⟨rfl, ⟨rfl, ⟨rfl, ⟨rfl, trivial⟩⟩⟩⟩⟩⟩, rfl, fun x28 => (dg_name (i := 8)), fun x28 _ _ _ _ _ => (ek_b (bk_op (fun _ _ => ej_ix) (bk_var 5 (o := (.v (.lst (List.map D.str ys12)))) (bk_var 8 (o := (.v (.int x28))) (rk_ixL fun v29 => ⟨_, rfl, ⟨v29, rfl, rfl, ⟨rfl, ⟨rfl, ⟨rfl, ⟨rfl, ⟨rfl, ⟨rfl, trivial⟩⟩⟩⟩⟩⟩⟩⟩) (hv := Or.inl (by kernel_rfl))) (hv := Or.inr (Or.inl (by kernel_rfl)))))), fun x28 => ⟨rfl, ⟨rfl, ⟨rfl, ⟨rfl, ⟨rfl, ⟨rfl, trivial⟩⟩⟩⟩⟩⟩, fun x28 => ⟨rfl, ⟨rfl, ⟨rfl, ⟨rfl, ⟨rfl, ⟨rfl, ⟨rfl, trivial⟩⟩⟩⟩⟩⟩⟩, fun ys30 => (ak_nil (rl_tupL as_v (ak_nil ⟨[(.tup (List.map (eT D.int) ys27)), (.tup (List.map D.str ys30))], rfl, (by show 2 ≤ sizeLine; decide), ⟨(ys27, ys30), _, rfl, rfl, ⟨.inl ⟨_, rfl, rfl⟩, ⟨.inl ⟨_, rfl, rfl⟩, trivial⟩⟩⟩⟩)))⟩⟩⟩)))))))⟩))))))))))⟩⟩⟩))))))⟩⟩)⟩)) (hv := Or.inr (Or.inl (by kernel_rfl))))))))))))⟩⟩⟩ (hv := Or.inr (Or.inl (by kernel_rfl))))))))) (hx := Or.inr (by kernel_rfl)))))⟩)⟩ (hv := Or.inr (Or.inl (by kernel_rfl))))))⟩ (hv := Or.inr (Or.inl (by kernel_rfl))))))) (hx := Or.inr (by kernel_rfl))))⟩⟩⟩)))) (hx := Or.inr (by kernel_rfl))))⟩⟩⟩)))) (hx := Or.inr (by kernel_rfl))))⟩⟩⟩)))) (hx := Or.inr (by kernel_rfl)))))⟩)⟩ (hv := Or.inr (Or.inl (by kernel_rfl)))))))))
abbrev s_Rule___init__ : Stmt := mth 35 0
abbrev N_Rule___init__ : List Str := ["self", "base", "moves", "answers"]
theorem sc_Rule___init__ : FnScope N_Rule___init__ ["self", "base", "moves", "answers"] (defScope s_Rule___init__) := ⟨rfl, rfl, rfl, by decide +kernel, rfl, by decide +kernel, by decide +kernel⟩
noncomputable def m_Rule___init__ (x_base : Int) (x_moves : (List (List Int))) (x_answers : (List Str)) : Option (RuleV) := ((m_is_base x_base).bind fun r1 => (if (!r1) then (none) else ((m_check_moves x_base x_moves).bind fun r2 => ((atO x_moves (0 : Int)).bind fun v3 => ((atO v3 (0 : Int)).bind fun v4 => (if (true ^^ decide (v4 = (0 : Int))) then (none) else ((m_check_answers ((x_moves.length : Nat) : Int) x_answers).bind fun r5 => ((m_least_parts x_moves x_answers).bind fun r6 => (some (⟨x_base, r6.1, r6.2⟩ : RuleV))))))))))
abbrev ea_Rule___init__ (CR : Addr) : (Unit × Int × (List (List Int)) × (List Str)) → List O := fun a => [(.o CR [] []), (.v (.int a.2.1)), (.v (.tup (List.map (eT D.int) a.2.2.1))), (.v (.tup (List.map D.str a.2.2.2)))]
noncomputable abbrev mf_Rule___init__ : (Unit × Int × (List (List Int)) × (List Str)) → Option (RuleV) := fun a => m_Rule___init__ a.2.1 a.2.2.1 a.2.2.2
abbrev er_Rule___init__ (CR : Addr) : (Unit × Int × (List (List Int)) × (List Str)) → (RuleV) → Out := fun a r => .ret (.v .non) [(.o CR ["base", "moves", "answers"] (List.map O.v [(.int r.base), (.tup (List.map (eT D.int) r.moves)), (.tup (List.map D.str r.answers))])), (.v (.int a.2.1)), (.v (.tup (List.map (eT D.int) a.2.2.1))), (.v (.tup (List.map D.str a.2.2.2)))]
theorem ok_Rule___init__ {P : Program} {w : World} {K : Fz} {mg : Str → Option Value} {base : Heap} {f : Addr} {CR : Addr} {fd : FuncData} (F : FunD K "__init__" "Rule.__init__" (defArgs s_Rule___init__) (defBody s_Rule___init__) (defScope s_Rule___init__) [] [] f fd) (C_is_base : Cal P w K mg base 2 "is_base" ["thing"] (bSp (ea_is_base) mf_is_base (er_is_base))) (C_check_moves : Cal P w K mg base 3 "check_moves" ["base", "moves"] (bSp (ea_check_moves) mf_check_moves (er_check_moves))) (C_check_answers : Cal P w K mg base 3 "check_answers" ["many", "answers"] (bSp (ea_check_answers) mf_check_answers (er_check_answers))) (C_least_parts : Cal P w K mg base 3 "least_parts" ["moves", "answers"] (bSp (ea_least_parts) mf_least_parts (er_least_parts))) (b_len : mg "len" = none) (n_Rule_answers : NoAttr K CR "answers") (n_Rule_base : NoAttr K CR "base") (n_Rule_moves : NoAttr K CR "moves") (c_Rule : Cls K CR) : DFn GG P w K mg base 4 f fd ["self", "base", "moves", "answers"] (bSp (ea_Rule___init__ CR) mf_Rule___init__ (er_Rule___init__ CR)) := by
  obtain ⟨oc, od, dV, kV, doc, pm, an, cdv, ct, osl, e1, e2, e3, _, _⟩ := F.ex
  refine DFn.mkB [0] (fun _ _ h => h) ⟨oc, od, dV, kV, doc, pm, an, cdv, ct, osl, e1, e2, e3⟩ sc_Rule___init__ (fun _ => rfl) ?_
  intro cdv A outer s H E hr hg a
  obtain ⟨_, x_base, x_moves, x_answers⟩ := a
  have sc := sc_Rule___init__
  have tk : Takes (cxOf (L2.CX P w) P w K mg base N_Rule___init__ "Rule.__init__" (defScope s_Rule___init__) f cdv A outer s H E) (WB E) := takes_of rfl rfl rfl rfl
  have hp : PassesOwn (model P w) (A.deeper (envOfC "Rule.__init__" (defScope s_Rule___init__) s.heap.objs.size f cdv)) (cxOf (L2.CX P w) P w K mg base N_Rule___init__ "Rule.__init__" (defScope s_Rule___init__) f cdv A outer s H E).env (cxOf (L2.CX P w) P w K mg base N_Rule___init__ "Rule.__init__" (defScope s_Rule___init__) f cdv A outer s H E).xe := passes_of rfl
  have hu := hr.units
  have hu1 := hu_of hr
  exact (lk_cons (sk_if (tk_not (tk_e (ek_call C_is_base hr hg tk (ak_cons (ek_b (bk_var 1 (o := (.v (.int x_base))) ⟨_, rfl, (ak_nil ⟨x_base, _, rfl, rfl, fun r1 => ⟨_, rfl, ⟨(none), ((m_check_moves x_base x_moves).bind fun r2 => ((atO x_moves (0 : Int)).bind fun v3 => ((atO v3 (0 : Int)).bind fun v4 => (if (true ^^ decide (v4 = (0 : Int))) then (none) else ((m_check_answers ((x_moves.length : Nat) : Int) x_answers).bind fun r5 => ((m_least_parts x_moves x_answers).bind fun r6 => (some (⟨x_base, r6.1, r6.2⟩ : RuleV)))))))), rfl, fun _ => lk_none, fun _ => (lk_nil (lk_cons (sk_expr (ek_call C_check_moves hr hg tk (ak_cons (ek_b (bk_var 1 (o := (.v (.int x_base))) ⟨_, rfl, (ak_cons (ek_b (bk_var 2 (o := (.v (.tup (List.map (eT D.int) x_moves)))) ⟨_, rfl, (ak_nil ⟨(x_base, x_moves), _, rfl, rfl, fun r2 => (lk_cons (sk_if (tk_cmpB (fun _ _ ha hb => tj_ne hu ha hb) (bk_op (fun _ _ => ej_ix) (bk_op (fun _ _ => ej_ix) (bk_var 2 (o := (.v (.tup (List.map (eT D.int) x_moves)))) (bk_int (rk_ixT fun v3 => (bk_int (rk_ixT fun v4 => (bk_int (rk_eqI ⟨_, rfl, ⟨(none), ((m_check_answers ((x_moves.length : Nat) : Int) x_answers).bind fun r5 => ((m_least_parts x_moves x_answers).bind fun r6 => (some (⟨x_base, r6.1, r6.2⟩ : RuleV)))), rfl, fun _ => lk_none, fun _ => (lk_nil (lk_cons (sk_expr (ek_call C_check_answers hr hg tk (ak_cons (ek_b (bk_cb (fun _ ha => ej_len b_len ha) (bak_cons (bk_var 2 (o := (.v (.tup (List.map (eT D.int) x_moves)))) (bak_nil (rl_lenT (by rw [List.length_map]; exact ⟨_, rfl, (ak_cons (ek_b (bk_var 3 (o := (.v (.tup (List.map D.str x_answers)))) ⟨_, rfl, (ak_nil ⟨(((x_moves.length : Nat) : Int), x_answers), _, rfl, rfl, fun r5 => (lk_cons (sk_asg (ek_b (bk_var 1 (o := (.v (.int x_base))) ⟨_, rfl, (gk_fld 0 (NS := []) (os := []) c_Rule n_Rule_base (lk_one (sk_asg (ek_call C_least_parts hr hg tk (ak_cons (ek_b (bk_var 2 (o := (.v (.tup (List.map (eT D.int) x_moves)))) ⟨_, rfl, (ak_cons (ek_b (bk_var 3 (o := (.v (.tup (List.map D.str x_answers)))) ⟨_, rfl, (ak_nil ⟨(x_moves, x_answers), _, rfl, rfl, fun r6 => (gk_tup rfl (gsk_cons (gk_fld 0 (NS := ["base"]) (os := [(.v (.int x_base))]) c_Rule n_Rule_moves (gsk_cons (gk_fld 0 (NS := ["base", "moves"]) (os := [(.v (.int x_base)), (.v (.tup (List.map (eT D.int) r6.1)))]) c_Rule n_Rule_answers (gsk_nil ⟨(⟨x_base, r6.1, r6.2⟩ : RuleV), _, rfl, rfl, ⟨.inr ⟨by decide, rfl⟩, ⟨.inl ⟨_, rfl, rfl⟩, ⟨.inl ⟨_, rfl, rfl⟩, ⟨.inl ⟨_, rfl, rfl⟩, trivial⟩⟩⟩⟩⟩))))))⟩)⟩)))⟩)))))))⟩))))⟩)⟩)))⟩))))))))))))⟩⟩))))))))))))⟩)⟩)))⟩)))))))⟩⟩⟩)⟩))))))))
abbrev s_Rule___str__ : Stmt := mth 35 5
abbrev N_Rule___str__ : List Str := ["self", "lines", "row", "answer", "state"]
theorem sc_Rule___str__ : FnScope N_Rule___str__ ["self"] (defScope s_Rule___str__) := ⟨rfl, rfl, rfl, by decide +kernel, rfl, by decide +kernel, by decide +kernel⟩
noncomputable def m_Rule___str__ (x_self : RuleV) : Option (Str) := ((addS ("base" : Str) (" " : Str)).bind fun v1 => ((strI x_self.base).bind fun v2 => ((addS v1 v2).bind fun v3 => ((forO (fun (s4 : (List Str)) (x5 : ((List Int) × Str)) => ((mapZ (fun (x6 : Int) => ((strI x6).bind fun v7 => (some v7))) x5.1).bind (fun (ys8 : List Str) => ((addL [x5.2] ys8).bind fun v9 => ((joinS (" " : Str) v9).bind fun v10 => ((pushO s4 v10).bind fun v11 => (some v11))))))) (List.zip x_self.moves x_self.answers) [v3]).bind (fun (s4 : (List Str)) => ((joinS ("\n" : Str) s4).bind fun v12 => (some v12)))))))
abbrev ea_Rule___str__ (CR : Addr) : (RuleV) → List O := fun a => [(.v ((eRule CR) a))]
noncomputable abbrev mf_Rule___str__ : (RuleV) → Option (Str) := fun a => m_Rule___str__ a
abbrev er_Rule___str__ (CR : Addr) : (RuleV) → (Str) → Out := fun a r => .ret (.v (.str r)) [(.v ((eRule CR) a))]
theorem ok_Rule___str__ {P : Program} {w : World} {K : Fz} {mg : Str → Option Value} {base : Heap} {f : Addr} {CR : Addr} {fd : FuncData} (F : FunD K "__str__" "Rule.__str__" (defArgs s_Rule___str__) (defBody s_Rule___str__) (defScope s_Rule___str__) [] [] f fd) (b_zip : mg "zip" = none) (b_str : mg "str" = none) (n_Rule_answers : NoAttr K CR "answers") (n_Rule_base : NoAttr K CR "base") (n_Rule_moves : NoAttr K CR "moves") (c_Rule : Cls K CR) (h_BASE_WORD : ∃ t, mg "BASE_WORD" = some (.str "base" t)) : DFn GG P w K mg base 1 f fd ["self"] (bSp (ea_Rule___str__ CR) mf_Rule___str__ (er_Rule___str__ CR)) := by
  obtain ⟨oc, od, dV, kV, doc, pm, an, cdv, ct, osl, e1, e2, e3, _, _⟩ := F.ex
  obtain ⟨_, g_BASE_WORD⟩ := h_BASE_WORD
  refine DFn.mkB [] (fun _ _ h => h) ⟨oc, od, dV, kV, doc, pm, an, cdv, ct, osl, e1, e2, e3⟩ sc_Rule___str__ (fun _ => rfl) ?_
  intro cdv A outer s H E hr hg a
  generalize a = x_self
  have sc := sc_Rule___str__
  have tk : Takes (cxOf (L2.CX P w) P w K mg base N_Rule___str__ "Rule.__str__" (defScope s_Rule___str__) f cdv A outer s H E) (WB E) := takes_of rfl rfl rfl rfl
  have hp : PassesOwn (model P w) (A.deeper (envOfC "Rule.__str__" (defScope s_Rule___str__) s.heap.objs.size f cdv)) (cxOf (L2.CX P w) P w K mg base N_Rule___str__ "Rule.__str__" (defScope s_Rule___str__) f cdv A outer s H E).env (cxOf (L2.CX P w) P w K mg base N_Rule___str__ "Rule.__str__" (defScope s_Rule___str__) f cdv A outer s H E).xe := passes_of rfl
  have hu := hr.units
  have hu1 := hu_of hr
  exact (lk_cons (sk_set 1 sc.nd (ek_lstM (ak_cons (ek_b (bk_op (fun _ _ => ej_add) (bk_op (fun _ _ => ej_add) (bk_gS rfl g_BASE_WORD (bk_str (rk_addS fun v1 => (bk_cb (fun _ ha => ej_str1 b_str ha) (bak_cons (bk_fldV 0 (NS := nRule) c_Rule n_Rule_base (bk_var 0 (o := (.v ((eRule CR) x_self))) ⟨_, _, rfl, rfl, rfl, (bak_nil (rl_strI fun v2 => (rk_addS fun v3 => ⟨_, rfl, (ak_nil ⟨by show 1 ≤ sizeLine; decide, (lk_cons (sk_forO (fun (s4 : (List Str)) => [none, some (lO D.str s4)]) (eP2 (eT D.int) D.str) hp rfl (ik_zipB true true b_zip (ak_cons (ek_b (bk_fldV 1 (NS := nRule) c_Rule n_Rule_moves (bk_var 0 (o := (.v ((eRule CR) x_self))) ⟨_, _, rfl, rfl, rfl, ⟨_, rfl, (ak_cons (ek_b (bk_fldV 2 (NS := nRule) c_Rule n_Rule_answers (bk_var 0 (o := (.v ((eRule CR) x_self))) ⟨_, _, rfl, rfl, rfl, ⟨_, rfl, (ak_nil ⟨List.map (eT D.int) x_self.moves, List.map D.str x_self.answers, rfl, ⟨(List.zip x_self.moves x_self.answers), [v3], (fun (s4 : (List Str)) (x5 : ((List Int) × Str)) => ((mapZ (fun (x6 : Int) => ((strI x6).bind fun v7 => (some v7))) x5.1).bind (fun (ys8 : List Str) => ((addL [x5.2] ys8).bind fun v9 => ((joinS (" " : Str) v9).bind fun v10 => ((pushO s4 v10).bind fun v11 => (some v11))))))), (fun (s4 : (List Str)) => ((joinS ("\n" : Str) s4).bind fun v12 => (some v12))), zip_map, ⟨rfl, trivial⟩, rfl, fun s4 x5 => (gk_tup rfl (gsk_cons (gk_name 2 sc.nd (gsk_cons (gk_name 3 sc.nd (gsk_nil (lk_one (sk_expr (ek_mA 1 (o0 := (lO D.str s4)) (fun _ _ ha hb => ej_append ha hb) (rv_slot 1) rfl kl_ok (ak_cons (ek_tm (fun _ _ ho ha => ej_join ho ha) k_str (bk_str ⟨_, rfl, (ak_cons (ek_lstS D.str (ak_cons (ek_b (bk_var 3 (o := (.v (.str x5.2))) ⟨_, rfl, (ak_star (ek_lcZ (own := [("state", 4)]) [none, some (lO D.str s4), some (.v (.tup (List.map D.int x5.1))), some (.v (.str x5.2))] D.int D.str rfl sc.nd (blkOk_by (by show blkC N_Rule___str__ (defScope s_Rule___str__) _ _ = true; decide +kernel)) (tg_name (by decide)) (fun _ _ _ _ _ => (pg_name (i := 4) sc.nd rfl (.inl (by kernel_rfl)) (.inr (by kernel_rfl)))) (fun i hi => by simp only [List.map, List.mem_cons, List.not_mem_nil, or_false] at hi; subst hi; rfl) (ik_seq (ek_b (bk_var 2 (o := (.v (.tup (List.map D.int x5.1)))) ⟨_, rfl, ⟨_, .inl rfl, ⟨x5.1, (fun (x6 : Int) => ((strI x6).bind fun v7 => (some v7))), (fun (ys8 : List Str) => ((addL [x5.2] ys8).bind fun v9 => ((joinS (" " : Str) v9).bind fun v10 => ((pushO s4 v10).bind fun v11 => (some v11))))), (fun (x6 : Int) => [none, some (lO D.str s4), some (.v (.tup (List.map D.int x5.1))), some (.v (.str x5.2)), some (.v (.int x6))]), rfl, ⟨rfl, ⟨rfl, ⟨rfl, trivial⟩⟩⟩, rfl, fun x6 => (dg_name (i := 4)), fun x6 _ _ _ _ _ => (ek_b (bk_cb (fun _ ha => ej_str1 b_str ha (hg := by show _ = _; kernel_rfl)) (bak_cons (bk_var 4 (o := (.v (.int x6))) (bak_nil (rl_strI fun v7 => ⟨_, rfl, ⟨v7, rfl, rfl, ⟨rfl, ⟨rfl, ⟨rfl, trivial⟩⟩⟩⟩⟩)) (hv := Or.inl (by kernel_rfl)))))), fun x6 => ⟨rfl, ⟨rfl, ⟨rfl, trivial⟩⟩⟩, fun x6 => ⟨rfl, ⟨rfl, ⟨rfl, ⟨rfl, trivial⟩⟩⟩⟩, fun ys8 => ⟨_, .inr rfl, ak_nil ⟨[x5.2], ys8, fun v9 => ((joinS (" " : Str) v9).bind fun v10 => ((pushO s4 v10).bind fun v11 => (some v11))), star_eq (pre := [(none, .v (.str x5.2))]) rfl, rfl, fun v9 => (ak_nil (rl_join sq_lst fun v10 => (ak_nil ⟨[(.str v10)], (lO D.str s4), rfl, rfl, ms_app fun v11 => ⟨_, rfl, ⟨rfl, trivial⟩⟩⟩)))⟩⟩⟩⟩⟩)))))⟩)))))⟩)))))))))))), fun s4 => (lk_one (sk_ret (ek_tm (fun _ _ ho ha => ej_join ho ha) k_str (bk_str ⟨_, rfl, (ak_mov 1 (o := (lO D.str s4)) (ak_nil (rl_join (sq_as as_own) fun v12 => ⟨v12, _, rfl, rfl, ⟨.inl ⟨_, rfl, rfl⟩, trivial⟩⟩)))⟩))))⟩⟩)⟩⟩))))⟩⟩)))))))⟩)⟩)))⟩))))))))))))))
abbrev s_counts_ahead : Stmt := top 46
abbrev N_counts_ahead : List Str := ["rule", "last", "row", "there"]
theorem sc_counts_ahead : FnScope N_counts_ahead ["rule", "last"] (defScope s_counts_ahead) := ⟨rfl, rfl, rfl, by decide +kernel, rfl, by decide +kernel, by decide +kernel⟩
noncomputable def m_counts_ahead (x_rule : RuleV) (x_last : (List Int)) : Option ((List Int)) := ((mapZ (fun (x1 : (List Int)) => ((mapZ (fun (x2 : Int) => ((atO x_last x2).bind fun v3 => (some v3))) x1).bind (fun (ys4 : List Int) => (some (List.sum ys4))))) x_rule.moves).bind (fun (ys5 : List Int) => (some ys5)))
abbrev ea_counts_ahead (CR : Addr) : (RuleV × (List Int)) → List O := fun a => [(.v ((eRule CR) a.1)), (.v (.lst (List.map D.int a.2)))]
noncomputable abbrev mf_counts_ahead : (RuleV × (List Int)) → Option ((List Int)) := fun a => m_counts_ahead a.1 a.2
abbrev er_counts_ahead (CR : Addr) : (RuleV × (List Int)) → ((List Int)) → Out := fun a r => .ret (.v (.lst (List.map D.int r))) [(.v ((eRule CR) a.1)), (.v (.lst (List.map D.int a.2)))]
theorem ok_counts_ahead {P : Program} {w : World} {K : Fz} {mg : Str → Option Value} {base : Heap} {f : Addr} {CR : Addr} {fd : FuncData} (F : FunD K "counts_ahead" "counts_ahead" (defArgs s_counts_ahead) (defBody s_counts_ahead) (defScope s_counts_ahead) [] [] f fd) (b_sum : mg "sum" = none) (n_Rule_moves : NoAttr K CR "moves") (c_Rule : Cls K CR) : DFn GG P w K mg base 1 f fd ["rule", "last"] (bSp (ea_counts_ahead CR) mf_counts_ahead (er_counts_ahead CR)) := by
  obtain ⟨oc, od, dV, kV, doc, pm, an, cdv, ct, osl, e1, e2, e3, _, _⟩ := F.ex
  refine DFn.mkB [] (fun _ _ h => h) ⟨oc, od, dV, kV, doc, pm, an, cdv, ct, osl, e1, e2, e3⟩ sc_counts_ahead (fun _ => rfl) ?_
  intro cdv A outer s H E hr hg a
  obtain ⟨x_rule, x_last⟩ := a
  have sc := sc_counts_ahead
  have tk : Takes (cxOf (L2.CX P w) P w K mg base N_counts_ahead "counts_ahead" (defScope s_counts_ahead) f cdv A outer s H E) (WB E) := takes_of rfl rfl rfl rfl
  have hp : PassesOwn (model P w) (A.deeper (envOfC "counts_ahead" (defScope s_counts_ahead) s.heap.objs.size f cdv)) (cxOf (L2.CX P w) P w K mg base N_counts_ahead "counts_ahead" (defScope s_counts_ahead) f cdv A outer s H E).env (cxOf (L2.CX P w) P w K mg base N_counts_ahead "counts_ahead" (defScope s_counts_ahead) f cdv A outer s H E).xe := passes_of rfl
  have hu := hr.units
  have hu1 := hu_of hr
  exact (lk_one (sk_ret (ek_lcZ (own := [("row", 2)]) [some (.v ((eRule CR) x_rule)), some (.v (.lst (List.map D.int x_last)))] (eT D.int) D.int rfl sc.nd (blkOk_by (by show blkC N_counts_ahead (defScope s_counts_ahead) _ _ = true; decide +kernel)) (tg_name (by decide)) (fun _ _ _ _ _ => (pg_name (i := 2) sc.nd rfl (.inl (by kernel_rfl)) (.inr (by kernel_rfl)))) (fun i hi => by simp only [List.map, List.mem_cons, List.not_mem_nil, or_false] at hi; subst hi; rfl) (ik_seq (ek_b (bk_fldV 1 (NS := nRule) c_Rule n_Rule_moves (bk_var 0 (o := (.v ((eRule CR) x_rule))) ⟨_, _, rfl, rfl, rfl, ⟨_, rfl, ⟨_, .inl rfl, ⟨x_rule.moves, (fun (x1 : (List Int)) => ((mapZ (fun (x2 : Int) => ((atO x_last x2).bind fun v3 => (some v3))) x1).bind (fun (ys4 : List Int) => (some (List.sum ys4))))), (fun (ys5 : List Int) => (some ys5)), (fun (x1 : (List Int)) => [some (.v ((eRule CR) x_rule)), some (.v (.lst (List.map D.int x_last))), some (.v (.tup (List.map D.int x1)))]), rfl, ⟨rfl, ⟨rfl, trivial⟩⟩, rfl, fun x1 => (dg_name (i := 2)), fun x1 _ _ _ _ _ => (ek_cb (fun _ ha => ej_sum rfl b_sum ha (hg := by show _ = _; kernel_rfl)) (ak_cons (ek_lcZ (own := [("there", 3)]) [some (.v ((eRule CR) x_rule)), some (.v (.lst (List.map D.int x_last))), some (.v (.tup (List.map D.int x1)))] D.int D.int rfl sc.nd (blkOk_by (by kernel_rfl)) (tg_name (by decide)) (fun _ _ _ _ _ => (pg_name (i := 3) sc.nd rfl (.inl (by kernel_rfl)) (.inr (by kernel_rfl)))) (fun i hi => by simp only [List.map, List.mem_cons, List.not_mem_nil, or_false] at hi; subst hi; rfl) (ik_seq (ek_b (bk_var 2 (o := (.v (.tup (List.map D.int x1)))) ⟨_, rfl, ⟨_, .inl rfl, ⟨x1, (fun (x2 : Int) => ((atO x_last x2).bind fun v3 => (some v3))), (fun (ys4 : List Int) => (some (List.sum ys4))), (fun (x2 : Int) => [some (.v ((eRule CR) x_rule)), some (.v (.lst (List.map D.int x_last))), some (.v (.tup (List.map D.int x1))), some (.v (.int x2))]), rfl, ⟨rfl, ⟨rfl, ⟨rfl, trivial⟩⟩⟩, rfl, fun x2 => (dg_name (i := 3)), fun x2 _ _ _ _ _ => (ek_b (bk_op (fun _ _ => ej_ix) (bk_var 1 (o := (.v (.lst (List.map D.int x_last)))) (bk_var 3 (o := (.v (.int x2))) (rk_ixL fun v3 => ⟨_, rfl, ⟨v3, rfl, rfl, ⟨rfl, ⟨rfl, ⟨rfl, trivial⟩⟩⟩⟩⟩) (hv := Or.inl (by kernel_rfl))) (hv := Or.inr (Or.inl (by kernel_rfl)))))), fun x2 => ⟨rfl, ⟨rfl, ⟨rfl, trivial⟩⟩⟩, fun x2 => ⟨rfl, ⟨rfl, ⟨rfl, ⟨rfl, trivial⟩⟩⟩⟩, fun ys4 => (ak_nil (rl_sum as_v ⟨(List.sum ys4), rfl, rfl, ⟨rfl, ⟨rfl, trivial⟩⟩⟩))⟩⟩⟩ (hv := Or.inl (by kernel_rfl)))))))), fun x1 => ⟨rfl, ⟨rfl, trivial⟩⟩, fun x1 => ⟨rfl, ⟨rfl, ⟨rfl, trivial⟩⟩⟩, fun ys5 => ⟨ys5, _, rfl, rfl, ⟨.inl ⟨_, rfl, rfl⟩, ⟨.inl ⟨_, rfl, rfl⟩, trivial⟩⟩⟩⟩⟩⟩⟩)))))))
abbrev s_counts_to : Stmt := top 47
abbrev N_counts_to : List Str := ["rule", "answer", "length", "found", "turn", "own"]
theorem sc_counts_to : FnScope N_counts_to ["rule", "answer", "length"] (defScope s_counts_to) := ⟨rfl, rfl, rfl, by decide +kernel, rfl, by decide +kernel, by decide +kernel⟩
noncomputable def m_counts_to (x_rule : RuleV) (x_answer : Str) (x_length : Int) : Option ((List (List Int))) := ((mapZ (fun (x1 : Str) => (some (if (false ^^ seq x1 x_answer) then (1 : Int) else 0))) x_rule.answers).bind (fun (ys2 : List Int) => ((rangeO 0 x_length).bind fun xs3 => ((forO (fun (s4 : (List (List Int))) (x5 : Int) => ((atO s4 (-(1 : Int))).bind fun v6 => ((m_counts_ahead x_rule v6).bind fun r7 => ((pushO s4 r7).bind fun v8 => (some v8))))) xs3 [ys2]).bind (fun (s4 : (List (List Int))) => (some s4))))))
abbrev ea_counts_to (CR : Addr) : (RuleV × Str × Int) → List O := fun a => [(.v ((eRule CR) a.1)), (.v (.str a.2.1)), (.v (.int a.2.2))]
noncomputable abbrev mf_counts_to : (RuleV × Str × Int) → Option ((List (List Int))) := fun a => m_counts_to a.1 a.2.1 a.2.2
abbrev er_counts_to (CR : Addr) : (RuleV × Str × Int) → ((List (List Int))) → Out := fun a r => .ret (lO (eL D.int) r) [(.v ((eRule CR) a.1)), (.v (.str a.2.1)), (.v (.int a.2.2))]
theorem ok_counts_to {P : Program} {w : World} {K : Fz} {mg : Str → Option Value} {base : Heap} {f : Addr} {CR : Addr} {fd : FuncData} (F : FunD K "counts_to" "counts_to" (defArgs s_counts_to) (defBody s_counts_to) (defScope s_counts_to) [] [] f fd) (C_counts_ahead : Cal P w K mg base 1 "counts_ahead" ["rule", "last"] (bSp (ea_counts_ahead CR) mf_counts_ahead (er_counts_ahead CR))) (b_int : mg "int" = none) (b_range : mg "range" = none) (n_Rule_answers : NoAttr K CR "answers") (c_Rule : Cls K CR) : DFn GG P w K mg base 2 f fd ["rule", "answer", "length"] (bSp (ea_counts_to CR) mf_counts_to (er_counts_to CR)) := by
  obtain ⟨oc, od, dV, kV, doc, pm, an, cdv, ct, osl, e1, e2, e3, _, _⟩ := F.ex
  refine DFn.mkB [] (fun _ _ h => h) ⟨oc, od, dV, kV, doc, pm, an, cdv, ct, osl, e1, e2, e3⟩ sc_counts_to (fun _ => rfl) ?_
  intro cdv A outer s H E hr hg a
  obtain ⟨x_rule, x_answer, x_length⟩ := a
  have sc := sc_counts_to
  have tk : Takes (cxOf (L2.CX P w) P w K mg base N_counts_to "counts_to" (defScope s_counts_to) f cdv A outer s H E) (WB E) := takes_of rfl rfl rfl rfl
  have hp : PassesOwn (model P w) (A.deeper (envOfC "counts_to" (defScope s_counts_to) s.heap.objs.size f cdv)) (cxOf (L2.CX P w) P w K mg base N_counts_to "counts_to" (defScope s_counts_to) f cdv A outer s H E).env (cxOf (L2.CX P w) P w K mg base N_counts_to "counts_to" (defScope s_counts_to) f cdv A outer s H E).xe := passes_of rfl
  have hu := hr.units
  have hu1 := hu_of hr
  exact (lk_cons (sk_set 3 sc.nd (ek_lstM (ak_cons (ek_lcZ (own := [("own", 5)]) [some (.v ((eRule CR) x_rule)), some (.v (.str x_answer)), some (.v (.int x_length))] D.str D.int rfl sc.nd (blkOk_by (by show blkC N_counts_to (defScope s_counts_to) _ _ = true; decide +kernel)) (tg_name (by decide)) (fun _ _ _ _ _ => (pg_name (i := 5) sc.nd rfl (.inl (by kernel_rfl)) (.inr (by kernel_rfl)))) (fun i hi => by simp only [List.map, List.mem_cons, List.not_mem_nil, or_false] at hi; subst hi; rfl) (ik_seq (ek_b (bk_fldV 2 (NS := nRule) c_Rule n_Rule_answers (bk_var 0 (o := (.v ((eRule CR) x_rule))) ⟨_, _, rfl, rfl, rfl, ⟨_, rfl, ⟨_, .inl rfl, ⟨x_rule.answers, (fun (x1 : Str) => (some (if (false ^^ seq x1 x_answer) then (1 : Int) else 0))), (fun (ys2 : List Int) => ((rangeO 0 x_length).bind fun xs3 => ((forO (fun (s4 : (List (List Int))) (x5 : Int) => ((atO s4 (-(1 : Int))).bind fun v6 => ((m_counts_ahead x_rule v6).bind fun r7 => ((pushO s4 r7).bind fun v8 => (some v8))))) xs3 [ys2]).bind (fun (s4 : (List (List Int))) => (some s4))))), (fun (x1 : Str) => [some (.v ((eRule CR) x_rule)), some (.v (.str x_answer)), some (.v (.int x_length)), none, none, some (.v (.str x1))]), rfl, ⟨rfl, ⟨rfl, ⟨rfl, trivial⟩⟩⟩, rfl, fun x1 => (dg_name (i := 5)), fun x1 _ _ _ _ _ => (ek_b (bk_cb (fun _ ha => ej_intc b_int ha (hg := by show _ = _; kernel_rfl)) (bak_cons (bk_op (fun _ _ ha hb => ej_eq hu ha hb) (bk_var 5 (o := (.v (.str x1))) (bk_var 1 (o := (.v (.str x_answer))) (rk_eqS (bak_nil (rl_intB ⟨_, rfl, ⟨(if (false ^^ seq x1 x_answer) then (1 : Int) else 0), rfl, rfl, ⟨rfl, ⟨rfl, ⟨rfl, trivial⟩⟩⟩⟩⟩))) (hv := Or.inr (Or.inl (by kernel_rfl)))) (hv := Or.inl (by kernel_rfl))))))), fun x1 => ⟨rfl, ⟨rfl, ⟨rfl, trivial⟩⟩⟩, fun x1 => ⟨rfl, ⟨rfl, ⟨rfl, ⟨rfl, trivial⟩⟩⟩⟩, fun ys2 => (ak_nil ⟨by show 1 ≤ sizeLine; decide, (lk_cons (sk_forO (fun (s4 : (List (List Int))) => [some (.v ((eRule CR) x_rule)), none, none, some (lO (eL D.int) s4)]) D.int hp rfl (ik_range1 b_range (ak_cons (ek_b (bk_var 2 (o := (.v (.int x_length))) ⟨_, rfl, (ak_nil ⟨_, _, rfl, rfl, fun xs3 => ⟨xs3, [ys2], (fun (s4 : (List (List Int))) (x5 : Int) => ((atO s4 (-(1 : Int))).bind fun v6 => ((m_counts_ahead x_rule v6).bind fun r7 => ((pushO s4 r7).bind fun v8 => (some v8))))), (fun (s4 : (List (List Int))) => (some s4)), rfl, ⟨rfl, ⟨rfl, trivial⟩⟩, rfl, fun s4 x5 => (gk_name 4 sc.nd (lk_one (sk_expr (ek_mA 3 (o0 := (lO (eL D.int) s4)) (fun _ _ ha hb => ej_append ha hb) (rv_slot 3) rfl kl_ok (ak_cons (ek_call C_counts_ahead hr hg tk (ak_cons (ek_b (bk_var 0 (o := (.v ((eRule CR) x_rule))) ⟨_, rfl, (ak_cons (ek_b (bk_op (fun _ _ => ej_ix) (bk_var 3 (o := (lO (eL D.int) s4)) (bk_neg (bk_int ⟨_, rfl, (rk_ixM fun v6 => ⟨_, rfl, (ak_nil ⟨(x_rule, v6), _, rfl, rfl, fun r7 => (ak_nil ⟨[(.lst (List.map D.int r7))], (lO (eL D.int) s4), rfl, rfl, ms_app fun v8 => ⟨_, rfl, ⟨rfl, ⟨rfl, trivial⟩⟩⟩⟩)⟩)⟩)⟩))))))⟩))))))))), fun s4 => (lk_one (sk_ret (ek_mov 3 (o := (lO (eL D.int) s4)) ⟨s4, _, rfl, rfl, ⟨.inl ⟨_, rfl, rfl⟩, ⟨.inl ⟨_, rfl, rfl⟩, ⟨.inl ⟨_, rfl, rfl⟩, trivial⟩⟩⟩⟩)))⟩⟩)⟩))))))⟩)⟩⟩⟩⟩)))))))))
abbrev s_how_many : Stmt := top 48
abbrev N_how_many : List Str := ["rule", "answer", "below", "row", "here", "found", "counts", "place", "digit", "later", "there"]
theorem sc_how_many : FnScope N_how_many ["rule", "answer", "below"] (defScope s_how_many) := ⟨rfl, rfl, rfl, by decide +kernel, rfl, by decide +kernel, by decide +kernel⟩
noncomputable def m_how_many (x_rule : RuleV) (x_answer : Str) (x_below : Int) : Option (Int) := ((m_digits_of x_rule.base x_below).bind fun r1 => ((m_counts_to x_rule x_answer ((r1.length : Nat) : Int)).bind fun r2 => ((forO (fun (s3 : Int × Int) (x4 : (Int × Int)) => ((atO r2 ((((r1.length : Nat) : Int) - x4.1) - (1 : Int))).bind fun v5 => ((atO x_rule.moves s3.1).bind fun v6 => ((mapZ (fun (x7 : Int) => ((atO v5 x7).bind fun v8 => (some v8))) (DL.cutD v6 none (some x4.2))).bind (fun (ys9 : List Int) => ((atO x_rule.moves s3.1).bind fun v10 => ((atO v10 x4.2).bind fun v11 => (some (v11, (s3.2 + (List.sum ys9))))))))))) (enumI r1) ((0 : Int), (0 : Int))).bind (fun (s3 : Int × Int) => (some s3.2)))))
abbrev ea_how_many (CR : Addr) : (RuleV × Str × Int) → List O := fun a => [(.v ((eRule CR) a.1)), (.v (.str a.2.1)), (.v (.int a.2.2))]
noncomputable abbrev mf_how_many : (RuleV × Str × Int) → Option (Int) := fun a => m_how_many a.1 a.2.1 a.2.2
abbrev er_how_many (CR : Addr) : (RuleV × Str × Int) → (Int) → Out := fun a r => .ret (.v (.int r)) [(.v ((eRule CR) a.1)), (.v (.str a.2.1)), (.v (.int a.2.2))]
theorem ok_how_many {P : Program} {w : World} {K : Fz} {mg : Str → Option Value} {base : Heap} {f : Addr} {CR : Addr} {fd : FuncData} (F : FunD K "how_many" "how_many" (defArgs s_how_many) (defBody s_how_many) (defScope s_how_many) [] [] f fd) (C_digits_of : Cal P w K mg base 1 "digits_of" ["base", "number"] (bSp (ea_digits_of) mf_digits_of (er_digits_of))) (C_counts_to : Cal P w K mg base 2 "counts_to" ["rule", "answer", "length"] (bSp (ea_counts_to CR) mf_counts_to (er_counts_to CR))) (b_enumerate : mg "enumerate" = none) (b_sum : mg "sum" = none) (b_len : mg "len" = none) (n_Rule_base : NoAttr K CR "base") (n_Rule_moves : NoAttr K CR "moves") (c_Rule : Cls K CR) : DFn GG P w K mg base 3 f fd ["rule", "answer", "below"] (bSp (ea_how_many CR) mf_how_many (er_how_many CR)) := by
  obtain ⟨oc, od, dV, kV, doc, pm, an, cdv, ct, osl, e1, e2, e3, _, _⟩ := F.ex
  refine DFn.mkB [] (fun _ _ h => h) ⟨oc, od, dV, kV, doc, pm, an, cdv, ct, osl, e1, e2, e3⟩ sc_how_many (fun _ => rfl) ?_
  intro cdv A outer s H E hr hg a
  obtain ⟨x_rule, x_answer, x_below⟩ := a
  have sc := sc_how_many
  have tk : Takes (cxOf (L2.CX P w) P w K mg base N_how_many "how_many" (defScope s_how_many) f cdv A outer s H E) (WB E) := takes_of rfl rfl rfl rfl
  have hp : PassesOwn (model P w) (A.deeper (envOfC "how_many" (defScope s_how_many) s.heap.objs.size f cdv)) (cxOf (L2.CX P w) P w K mg base N_how_many "how_many" (defScope s_how_many) f cdv A outer s H E).env (cxOf (L2.CX P w) P w K mg base N_how_many "how_many" (defScope s_how_many) f cdv A outer s H E).xe := passes_of rfl
  have hu := hr.units
  have hu1 := hu_of hr
  exact (lk_cons (sk_par3 3 4 5 rfl sc.nd (ak_cons (ek_call C_digits_of hr hg tk (ak_cons (ek_b (bk_fldV 0 (NS := nRule) c_Rule n_Rule_base (bk_var 0 (o := (.v ((eRule CR) x_rule))) ⟨_, _, rfl, rfl, rfl, ⟨_, rfl, (ak_cons (ek_b (bk_var 2 (o := (.v (.int x_below))) ⟨_, rfl, (ak_nil ⟨(x_rule.base, x_below), _, rfl, rfl, fun r1 => (ak_cons (ek_b (bk_int ⟨_, rfl, (ak_cons (ek_b (bk_int ⟨_, rfl, (ak_nil ⟨_, _, _, rfl, (lk_cons (sk_set 6 sc.nd (ek_call C_counts_to hr hg tk (ak_cons (ek_b (bk_var 0 (o := (.v ((eRule CR) x_rule))) ⟨_, rfl, (ak_cons (ek_b (bk_var 1 (o := (.v (.str x_answer))) ⟨_, rfl, (ak_cons (ek_b (bk_cb (fun _ ha => ej_len b_len ha) (bak_cons (bk_var 3 (o := (.v (.tup (List.map D.int r1)))) (bak_nil (rl_lenT (by rw [List.length_map]; exact ⟨_, rfl, (ak_nil ⟨(x_rule, x_answer, ((r1.length : Nat) : Int)), _, rfl, rfl, fun r2 => (lk_cons (sk_forO (fun (s3 : Int × Int) => [some (.v ((eRule CR) x_rule)), none, none, some (.v (.tup (List.map D.int r1))), some (.v (.int s3.1)), some (.v (.int s3.2)), some (lO (eL D.int) r2)]) (eP2 D.int D.int) hp rfl (ik_enumT b_enumerate (ek_b (bk_var 3 (o := (.v (.tup (List.map D.int r1)))) ⟨_, rfl, ⟨_, rfl, ⟨(enumI r1), ((0 : Int), (0 : Int)), (fun (s3 : Int × Int) (x4 : (Int × Int)) => ((atO r2 ((((r1.length : Nat) : Int) - x4.1) - (1 : Int))).bind fun v5 => ((atO x_rule.moves s3.1).bind fun v6 => ((mapZ (fun (x7 : Int) => ((atO v5 x7).bind fun v8 => (some v8))) (DL.cutD v6 none (some x4.2))).bind (fun (ys9 : List Int) => ((atO x_rule.moves s3.1).bind fun v10 => ((atO v10 x4.2).bind fun v11 => (some (v11, (s3.2 + (List.sum ys9))))))))))), (fun (s3 : Int × Int) => (some s3.2)), enumI_map, ⟨rfl, ⟨rfl, ⟨rfl, ⟨rfl, ⟨rfl, trivial⟩⟩⟩⟩⟩, rfl, fun s3 x4 => (gk_tup rfl (gsk_cons (gk_name 7 sc.nd (gsk_cons (gk_name 8 sc.nd (gsk_nil (lk_cons (sk_set 9 sc.nd (ek_b (bk_op (fun _ _ => ej_ix) (bk_var 6 (o := (lO (eL D.int) r2)) (bk_op (fun _ _ => ej_sub) (bk_op (fun _ _ => ej_sub) (bk_cb (fun _ ha => ej_len b_len ha) (bak_cons (bk_var 3 (o := (.v (.tup (List.map D.int r1)))) (bak_nil (rl_lenT (by rw [List.length_map]; exact (bk_var 7 (o := (.v (.int x4.1))) (rk_subI (bk_int (rk_subI (rk_ixM fun v5 => ⟨_, rfl, (lk_cons (sk_augI (n := s3.2) 5 sc.nd (ek_cb (fun _ ha => ej_sum rfl b_sum ha) (ak_cons (ek_lcZ (own := [("there", 10)]) [some (.v ((eRule CR) x_rule)), none, none, some (.v (.tup (List.map D.int r1))), some (.v (.int s3.1)), some (.v (.int s3.2)), some (lO (eL D.int) r2), some (.v (.int x4.1)), some (.v (.int x4.2)), some (.v (.lst (List.map D.int v5)))] D.int D.int rfl sc.nd (blkOk_by (by show blkC N_how_many (defScope s_how_many) _ _ = true; decide +kernel)) (tg_name (by decide)) (fun _ _ _ _ _ => (pg_name (i := 10) sc.nd rfl (.inl (by kernel_rfl)) (.inr (by kernel_rfl)))) (fun i hi => by simp only [List.map, List.mem_cons, List.not_mem_nil, or_false] at hi; subst hi; rfl) (ik_seq (ek_b (bk_sl (bk_op (fun _ _ => ej_ix) (bk_fldV 1 (NS := nRule) c_Rule n_Rule_moves (bk_var 0 (o := (.v ((eRule CR) x_rule))) ⟨_, _, rfl, rfl, rfl, (bk_var 4 (o := (.v (.int s3.1))) (rk_ixT fun v6 => (ok_none (ok_some (bk_var 8 (o := (.v (.int x4.2))) ⟨_, rfl, ⟨_, sl_tup, ⟨_, rfl, ⟨_, .inl rfl, ⟨(DL.cutD v6 none (some x4.2)), (fun (x7 : Int) => ((atO v5 x7).bind fun v8 => (some v8))), (fun (ys9 : List Int) => ((atO x_rule.moves s3.1).bind fun v10 => ((atO v10 x4.2).bind fun v11 => (some (v11, (s3.2 + (List.sum ys9))))))), (fun (x7 : Int) => [some (.v ((eRule CR) x_rule)), none, none, some (.v (.tup (List.map D.int r1))), some (.v (.int s3.1)), some (.v (.int s3.2)), some (lO (eL D.int) r2), some (.v (.int x4.1)), some (.v (.int x4.2)), some (.v (.lst (List.map D.int v5))), some (.v (.int x7))]), rfl, ⟨rfl, ⟨rfl, ⟨rfl, ⟨rfl, ⟨rfl, ⟨rfl, ⟨rfl, ⟨rfl, trivial⟩⟩⟩⟩⟩⟩⟩⟩, rfl, fun x7 => (dg_name (i := 10)), fun x7 _ _ _ _ _ => (ek_b (bk_op (fun _ _ => ej_ix) (bk_var 9 (o := (.v (.lst (List.map D.int v5)))) (bk_var 10 (o := (.v (.int x7))) (rk_ixL fun v8 => ⟨_, rfl, ⟨v8, rfl, rfl, ⟨rfl, ⟨rfl, ⟨rfl, ⟨rfl, ⟨rfl, ⟨rfl, ⟨rfl, ⟨rfl, trivial⟩⟩⟩⟩⟩⟩⟩⟩⟩⟩) (hv := Or.inl (by kernel_rfl))) (hv := Or.inr (Or.inl (by kernel_rfl)))))), fun x7 => ⟨rfl, ⟨rfl, ⟨rfl, ⟨rfl, ⟨rfl, ⟨rfl, ⟨rfl, ⟨rfl, trivial⟩⟩⟩⟩⟩⟩⟩⟩, fun x7 => ⟨rfl, ⟨rfl, ⟨rfl, ⟨rfl, ⟨rfl, ⟨rfl, ⟨rfl, ⟨rfl, ⟨rfl, trivial⟩⟩⟩⟩⟩⟩⟩⟩⟩, fun ys9 => (ak_nil (rl_sum as_v ⟨_, rfl, (lk_one (sk_set 4 sc.nd (ek_b (bk_op (fun _ _ => ej_ix) (bk_op (fun _ _ => ej_ix) (bk_fldV 1 (NS := nRule) c_Rule n_Rule_moves (bk_var 0 (o := (.v ((eRule CR) x_rule))) ⟨_, _, rfl, rfl, rfl, (bk_var 4 (o := (.v (.int s3.1))) (rk_ixT fun v10 => (bk_var 8 (o := (.v (.int x4.2))) (rk_ixT fun v11 => ⟨_, rfl, ⟨_, rfl, ⟨rfl, ⟨rfl, ⟨rfl, ⟨rfl, ⟨rfl, trivial⟩⟩⟩⟩⟩⟩⟩))))⟩)))))))⟩))⟩⟩⟩⟩⟩)))))⟩)))))))))))⟩)))))))))))))))) (hx := Or.inr (by kernel_rfl)))))))))), fun s3 => (lk_one (sk_ret (ek_b (bk_var 5 (o := (.v (.int s3.2))) ⟨_, rfl, ⟨s3.2, _, rfl, rfl, ⟨.inl ⟨_, rfl, rfl⟩, ⟨.inl ⟨_, rfl, rfl⟩, ⟨.inl ⟨_, rfl, rfl⟩, trivial⟩⟩⟩⟩⟩))))⟩⟩⟩)))))⟩)⟩))))))))⟩)))⟩))))))⟩)⟩)))⟩)))⟩)⟩)))⟩⟩))))))))
abbrev s__law_plan : Stmt := top 54
abbrev N__law_plan : List Str := ["_law_deck_here", "_law_root", "_law_most", "_law_many", "_law_grid", "_law_k", "_law_marks", "_law_j", "_law_line"]
theorem sc__law_plan : FnScope N__law_plan ["_law_deck_here", "_law_root", "_law_most"] (defScope s__law_plan) := ⟨rfl, rfl, rfl, by decide +kernel, rfl, by decide +kernel, by decide +kernel⟩
noncomputable def m__law_plan (x__law_deck_here : Deck) (x__law_root : Int) (x__law_most : Int) : Option (Plan × Deck) := ((m__law_draw x__law_deck_here x__law_most).bind fun r1 => ((rangeO 0 ((1 : Int) + r1.1)).bind fun xs2 => ((forO (fun (s3 : Deck × (List (List Int))) (x4 : Int) => ((rangeO 0 x__law_root).bind fun xs5 => ((mapSZ (fun (s7 : Deck) (x6 : Int) => ((m__law_draw s7 ((1 : Int) + r1.1)).bind fun r8 => (some (r8.1, r8.2)))) xs5 s3.1).bind (fun (q10 : List Int × (Deck)) => ((pushLL s3.2 q10.1).bind fun v12 => (some (q10.2, v12))))))) xs2 (r1.2, ([] : (List (List Int))))).bind (fun (s3 : Deck × (List (List Int))) => ((set00 s3.2 (0 : Int)).bind fun v13 => ((rangeO 0 ((1 : Int) + r1.1)).bind fun xs15 => ((mapSZ (fun (s17 : Deck) (x16 : Int) => ((m__law_pick_s s17 [("even" : Str), ("odd" : Str), ("even" : Str), ("house" : Str)]).bind fun r18 => (some (r18.1, r18.2)))) xs15 s3.1).bind (fun (q20 : List Str × (Deck)) => ((mapZ (fun (x22 : (List Int)) => (some x22)) v13).bind (fun (ys23 : List (List Int)) => (some ((⟨x__law_root, ys23, q20.1⟩ : Plan), q20.2))))))))))))
abbrev ea__law_plan : (Deck × Int × Int) → List O := fun a => [(odeck a.1), (.v (.int a.2.1)), (.v (.int a.2.2))]
noncomputable abbrev mf__law_plan : (Deck × Int × Int) → Option (Plan × Deck) := fun a => m__law_plan a.1 a.2.1 a.2.2
abbrev er__law_plan : (Deck × Int × Int) → (Plan × Deck) → Out := fun a r => .ret (oplan r.1) [(odeck r.2), (.v (.int a.2.1)), (.v (.int a.2.2))]
theorem ok__law_plan {P : Program} {w : World} {K : Fz} {mg : Str → Option Value} {base : Heap} {f : Addr} {fd : FuncData} (F : FunD K "_law_plan" "_law_plan" (defArgs s__law_plan) (defBody s__law_plan) (defScope s__law_plan) [] [] f fd) (C__law_draw : Cal P w K mg base 1 "_law_draw" ["_law_deck_here", "_law_many"] (bSp (ea__law_draw) mf__law_draw (er__law_draw))) (C__law_pick_s : Cal P w K mg base 2 "_law_pick" ["_law_deck_here", "_law_some"] (bSp (ea__law_pick_s) mf__law_pick_s (er__law_pick_s))) (b_range : mg "range" = none) (b_tuple : mg "tuple" = none) : DFn GG P w K mg base 3 f fd ["_law_deck_here", "_law_root", "_law_most"] (bSp (ea__law_plan) mf__law_plan (er__law_plan)) := by
  obtain ⟨oc, od, dV, kV, doc, pm, an, cdv, ct, osl, e1, e2, e3, _, _⟩ := F.ex
  refine DFn.mkB [0] (fun _ _ h => h) ⟨oc, od, dV, kV, doc, pm, an, cdv, ct, osl, e1, e2, e3⟩ sc__law_plan (fun _ => rfl) ?_
  intro cdv A outer s H E hr hg a
  obtain ⟨x__law_deck_here, x__law_root, x__law_most⟩ := a
  have sc := sc__law_plan
  have tk : Takes (cxOf (L2.CX P w) P w K mg base N__law_plan "_law_plan" (defScope s__law_plan) f cdv A outer s H E) (WB E) := takes_of rfl rfl rfl rfl
  have hp : PassesOwn (model P w) (A.deeper (envOfC "_law_plan" (defScope s__law_plan) s.heap.objs.size f cdv)) (cxOf (L2.CX P w) P w K mg base N__law_plan "_law_plan" (defScope s__law_plan) f cdv A outer s H E).env (cxOf (L2.CX P w) P w K mg base N__law_plan "_law_plan" (defScope s__law_plan) f cdv A outer s H E).xe := passes_of rfl
  have hu := hr.units
  have hu1 := hu_of hr
  exact (lk_cons (sk_set 3 sc.nd (ek_op (fun _ _ => ej_add) (ek_b (bk_int ⟨_, rfl, (ek_call C__law_draw hr hg tk (ak_mov 0 (o := (odeck x__law_deck_here)) (ak_cons (ek_b (bk_var 2 (o := (.v (.int x__law_most))) ⟨_, rfl, (ak_nil ⟨(x__law_deck_here, x__law_most), _, rfl, rfl, fun r1 => (rk_addI (lk_cons (sk_set 4 sc.nd (ek_lstM (ak_nil ⟨by decide, (lk_cons (sk_forO (fun (s3 : Deck × (List (List Int))) => [some (odeck s3.1), some (.v (.int x__law_root)), none, some (.v (.int ((1 : Int) + r1.1))), some (llO D.int s3.2)]) D.int hp rfl (ik_range1 b_range (ak_cons (ek_b (bk_var 3 (o := (.v (.int ((1 : Int) + r1.1)))) ⟨_, rfl, (ak_nil ⟨_, _, rfl, rfl, fun xs2 => ⟨xs2, (r1.2, ([] : (List (List Int)))), (fun (s3 : Deck × (List (List Int))) (x4 : Int) => ((rangeO 0 x__law_root).bind fun xs5 => ((mapSZ (fun (s7 : Deck) (x6 : Int) => ((m__law_draw s7 ((1 : Int) + r1.1)).bind fun r8 => (some (r8.1, r8.2)))) xs5 s3.1).bind (fun (q10 : List Int × (Deck)) => ((pushLL s3.2 q10.1).bind fun v12 => (some (q10.2, v12))))))), (fun (s3 : Deck × (List (List Int))) => ((set00 s3.2 (0 : Int)).bind fun v13 => ((rangeO 0 ((1 : Int) + r1.1)).bind fun xs15 => ((mapSZ (fun (s17 : Deck) (x16 : Int) => ((m__law_pick_s s17 [("even" : Str), ("odd" : Str), ("even" : Str), ("house" : Str)]).bind fun r18 => (some (r18.1, r18.2)))) xs15 s3.1).bind (fun (q20 : List Str × (Deck)) => ((mapZ (fun (x22 : (List Int)) => (some x22)) v13).bind (fun (ys23 : List (List Int)) => (some ((⟨x__law_root, ys23, q20.1⟩ : Plan), q20.2))))))))), rfl, ⟨rfl, ⟨rfl, ⟨rfl, ⟨rfl, trivial⟩⟩⟩⟩, rfl, fun s3 x4 => (gk_name 5 sc.nd (lk_one (sk_expr (ek_appLL 4 D.int (xs0 := s3.2) rfl (fun _ _ ha hb => ej_append ha hb) (rv_slot 4) (ak_cons (ek_lcM (own := [("_law_j", 7)]) (fun (s7 : Deck) => [some (odeck s7), some (.v (.int x__law_root)), none, some (.v (.int ((1 : Int) + r1.1))), some (llO D.int s3.2), some (.v (.int x4))]) D.int D.int rfl sc.nd (blkOk_by (by show blkC N__law_plan (defScope s__law_plan) _ _ = true; decide +kernel)) (tg_name (by decide)) (fun _ _ _ _ _ => (pg_name (i := 7) sc.nd rfl (.inl (by kernel_rfl)) (.inr (by kernel_rfl)))) (fun _ i hi => by simp only [List.map, List.mem_cons, List.not_mem_nil, or_false] at hi; subst hi; rfl) (ik_range1 b_range (ak_cons (ek_b (bk_var 1 (o := (.v (.int x__law_root))) ⟨_, rfl, (ak_nil ⟨_, _, rfl, rfl, fun xs5 => ⟨xs5, s3.1, (fun (s7 : Deck) (x6 : Int) => ((m__law_draw s7 ((1 : Int) + r1.1)).bind fun r8 => (some (r8.1, r8.2)))), (fun (q10 : List Int × (Deck)) => ((pushLL s3.2 q10.1).bind fun v12 => (some (q10.2, v12)))), (fun (s7 : Deck) (x6 : Int) => [some (odeck s7), some (.v (.int x__law_root)), none, some (.v (.int ((1 : Int) + r1.1))), some (llO D.int s3.2), some (.v (.int x4)), none, some (.v (.int x6))]), rfl, ⟨rfl, ⟨rfl, ⟨rfl, ⟨rfl, ⟨rfl, trivial⟩⟩⟩⟩⟩, rfl, fun s7 x6 => (dg_name (i := 7)), fun s7 x6 _ _ _ _ _ => (ek_call C__law_draw hr hg takes00 (ak_mov 0 (o := (odeck s7)) (ak_cons (ek_b (bk_var 3 (o := (.v (.int ((1 : Int) + r1.1)))) ⟨_, rfl, (ak_nil ⟨(s7, ((1 : Int) + r1.1)), _, rfl, rfl, fun r8 => ⟨r8.1, r8.2, rfl, rfl, ⟨rfl, ⟨rfl, ⟨rfl, ⟨rfl, ⟨rfl, trivial⟩⟩⟩⟩⟩⟩⟩)⟩ (hv := Or.inr (Or.inl (by kernel_rfl)))))) (hv := Or.inr (Or.inl (by kernel_rfl)))) (hg := by show _ = _; kernel_rfl)), fun s7 x6 => ⟨rfl, ⟨rfl, ⟨rfl, ⟨rfl, ⟨rfl, trivial⟩⟩⟩⟩⟩, fun s7 x6 => ⟨rfl, ⟨rfl, ⟨rfl, ⟨rfl, ⟨rfl, ⟨rfl, trivial⟩⟩⟩⟩⟩⟩, fun ys9 s11 => (ak_nil ⟨ys9, s3.2, fun v12 => (some (s11, v12)), rfl, rfl, rfl, fun v12 => ⟨_, rfl, ⟨rfl, ⟨rfl, ⟨rfl, ⟨rfl, trivial⟩⟩⟩⟩⟩⟩)⟩⟩)⟩)))))))))), fun s3 => (lk_cons (sk_set00 4 D.int (fun xs14 => [some (odeck s3.1), some (.v (.int x__law_root)), none, some (.v (.int ((1 : Int) + r1.1))), some (llO D.int xs14)]) (xs := s3.2) (0 : Int) (fun v13 => ((rangeO 0 ((1 : Int) + r1.1)).bind fun xs15 => ((mapSZ (fun (s17 : Deck) (x16 : Int) => ((m__law_pick_s s17 [("even" : Str), ("odd" : Str), ("even" : Str), ("house" : Str)]).bind fun r18 => (some (r18.1, r18.2)))) xs15 s3.1).bind (fun (q20 : List Str × (Deck)) => ((mapZ (fun (x22 : (List Int)) => (some x22)) v13).bind (fun (ys23 : List (List Int)) => (some ((⟨x__law_root, ys23, q20.1⟩ : Plan), q20.2)))))))) (fun v13 => (lk_frz2 4 (ed := D.int) (xs := v13) (lk_cons (sk_setJ 6 (jk_lcSZ (own := [("_law_k", 5)]) (fun _ _ _ hi ht he => sj_setLc (own := [("_law_k", 5)]) 6 rfl sc.nd hi (blkOk_by (by show blkC N__law_plan (defScope s__law_plan) _ _ = true; decide +kernel)) (tg_name (by decide)) (fun _ _ _ _ _ => (pg_name (i := 5) sc.nd rfl (.inl (by kernel_rfl)) (.inr (by kernel_rfl)))) ht he (hsw := by rfl)) (fun (s17 : Deck) => [some (odeck s17), some (.v (.int x__law_root)), none, some (.v (.int ((1 : Int) + r1.1))), some (.v (.lst (List.map (eL D.int) v13)))]) D.int D.str rfl sc.nd (blkOk_by (by show blkC N__law_plan (defScope s__law_plan) _ _ = true; decide +kernel)) (tg_name (by decide)) (fun _ _ _ _ _ => (pg_name (i := 5) sc.nd rfl (.inl (by kernel_rfl)) (.inr (by kernel_rfl)))) (fun _ i hi => by simp only [List.map, List.mem_cons, List.not_mem_nil, or_false] at hi; subst hi; rfl) (ik_range1 b_range (ak_cons (ek_b (bk_var 3 (o := (.v (.int ((1 : Int) + r1.1)))) ⟨_, rfl, (ak_nil ⟨_, _, rfl, rfl, fun xs15 => ⟨xs15, s3.1, (fun (s17 : Deck) (x16 : Int) => ((m__law_pick_s s17 [("even" : Str), ("odd" : Str), ("even" : Str), ("house" : Str)]).bind fun r18 => (some (r18.1, r18.2)))), (fun (q20 : List Str × (Deck)) => ((mapZ (fun (x22 : (List Int)) => (some x22)) v13).bind (fun (ys23 : List (List Int)) => (some ((⟨x__law_root, ys23, q20.1⟩ : Plan), q20.2))))), (fun (s17 : Deck) (x16 : Int) => [some (odeck s17), some (.v (.int x__law_root)), none, some (.v (.int ((1 : Int) + r1.1))), some (.v (.lst (List.map (eL D.int) v13))), some (.v (.int x16))]), rfl, ⟨rfl, ⟨rfl, ⟨rfl, ⟨rfl, trivial⟩⟩⟩⟩, rfl, fun s17 x16 => (dg_name (i := 5)), fun s17 x16 _ _ _ _ _ => (ek_call C__law_pick_s hr hg takes00 (ak_mov 0 (o := (odeck s17)) (ak_cons (ek_b (bk_lst (bak_cons (bk_str (bak_cons (bk_str (bak_cons (bk_str (bak_cons (bk_str (bak_nil ⟨[(.str ("even" : Str)), (.str ("odd" : Str)), (.str ("even" : Str)), (.str ("house" : Str))], rfl, (by show 4 ≤ sizeLine; decide), ⟨_, rfl, (ak_nil ⟨(s17, [("even" : Str), ("odd" : Str), ("even" : Str), ("house" : Str)]), _, rfl, rfl, fun r18 => ⟨r18.1, r18.2, rfl, rfl, ⟨rfl, ⟨rfl, ⟨rfl, ⟨rfl, trivial⟩⟩⟩⟩⟩⟩)⟩⟩)))))))))))) (hv := Or.inr (Or.inl (by kernel_rfl)))) (hg := by show _ = _; kernel_rfl)), fun s17 x16 => ⟨rfl, ⟨rfl, ⟨rfl, ⟨rfl, trivial⟩⟩⟩⟩, fun s17 x16 => ⟨rfl, ⟨rfl, ⟨rfl, ⟨rfl, ⟨rfl, trivial⟩⟩⟩⟩⟩, fun ys19 s21 => (lk_one (sk_ret (ek_disp [.inr "root", .inr "grid", .inr "marks"] (bk_str ⟨_, rfl, rfl, (ek_b (bk_var 1 (o := (.v (.int x__law_root))) ⟨_, rfl, (bk_str ⟨_, rfl, rfl, (ek_cb (fun _ ha => ej_tuple b_tuple ha) (ak_cons (ek_lcZ (own := [("_law_line", 8)]) [some (odeck s21), some (.v (.int x__law_root)), none, some (.v (.int ((1 : Int) + r1.1))), some (.v (.lst (List.map (eL D.int) v13))), none, some (.v (.lst (List.map D.str ys19)))] (eL D.int) (eT D.int) rfl sc.nd (blkOk_by (by show blkC N__law_plan (defScope s__law_plan) _ _ = true; decide +kernel)) (tg_name (by decide)) (fun _ _ _ _ _ => (pg_name (i := 8) sc.nd rfl (.inl (by kernel_rfl)) (.inr (by kernel_rfl)))) (fun i hi => by simp only [List.map, List.mem_cons, List.not_mem_nil, or_false] at hi; subst hi; rfl) (ik_seq (ek_b (bk_var 4 (o := (.v (.lst (List.map (eL D.int) v13)))) ⟨_, rfl, ⟨_, .inr (.inl rfl), ⟨v13, (fun (x22 : (List Int)) => (some x22)), (fun (ys23 : List (List Int)) => (some ((⟨x__law_root, ys23, ys19⟩ : Plan), s21))), (fun (x22 : (List Int)) => [some (odeck s21), some (.v (.int x__law_root)), none, some (.v (.int ((1 : Int) + r1.1))), some (.v (.lst (List.map (eL D.int) v13))), none, some (.v (.lst (List.map D.str ys19))), none, some (.v (.lst (List.map D.int x22)))]), rfl, ⟨rfl, ⟨rfl, ⟨rfl, ⟨rfl, ⟨rfl, trivial⟩⟩⟩⟩⟩, rfl, fun x22 => (dg_name (i := 8)), fun x22 _ _ _ _ _ => (ek_b (bk_cb (fun _ ha => ej_tuple b_tuple ha (hg := by show _ = _; kernel_rfl)) (bak_cons (bk_var 8 (o := (.v (.lst (List.map D.int x22)))) (bak_nil (rl_tupL as_v ⟨_, rfl, ⟨x22, rfl, rfl, ⟨rfl, ⟨rfl, ⟨rfl, ⟨rfl, ⟨rfl, trivial⟩⟩⟩⟩⟩⟩⟩)) (hv := Or.inl (by kernel_rfl)))))), fun x22 => ⟨rfl, ⟨rfl, ⟨rfl, ⟨rfl, ⟨rfl, trivial⟩⟩⟩⟩⟩, fun x22 => ⟨rfl, ⟨rfl, ⟨rfl, ⟨rfl, ⟨rfl, ⟨rfl, trivial⟩⟩⟩⟩⟩⟩, fun ys23 => (ak_nil (rl_tupL as_v (bk_str ⟨_, rfl, rfl, (ek_b (bk_cb (fun _ ha => ej_tuple b_tuple ha) (bak_cons (bk_var 6 (o := (.v (.lst (List.map D.str ys19)))) (bak_nil (rl_tupL as_v ⟨_, rfl, ⟨((⟨x__law_root, ys23, ys19⟩ : Plan), s21), _, rfl, rfl, ⟨.inr ⟨by decide, rfl⟩, ⟨.inl ⟨_, rfl, rfl⟩, ⟨.inl ⟨_, rfl, rfl⟩, trivial⟩⟩⟩⟩⟩))))))⟩)))⟩⟩⟩))))))⟩)⟩))⟩))))⟩⟩)⟩ (hv := Or.inr (Or.inl (by kernel_rfl)))))))))))) (h := fun z r m1 k1 hm1 kn1 => sk_lset 4 (some 0) D.int (ek_b (bk_int ⟨_, rfl, (0 : Int), z, rfl, rv_ix 4 0, rfl, bk_int ⟨0, k1, rfl, hm1, kn1⟩⟩)))))⟩⟩)⟩ (hv := Or.inr (Or.inl (by kernel_rfl)))))))))⟩)))))⟩)⟩))) (hv := Or.inr (Or.inl (by kernel_rfl)))))⟩))) (hx := Or.inr (by kernel_rfl))))
abbrev s__law_code : Stmt := top 55
abbrev N__law_code : List Str := ["_law_w"]
theorem sc__law_code : FnScope N__law_code ["_law_w"] (defScope s__law_code) := ⟨rfl, rfl, rfl, by decide +kernel, rfl, by decide +kernel, by decide +kernel⟩
noncomputable def m__law_code (x__law_w : Plan) : Option (RuleV) := ((m_Rule___init__ x__law_w.root x__law_w.grid x__law_w.marks).bind fun r1 => (some r1))
abbrev ea__law_code (CR : Addr) : (Plan) → List O := fun a => [(.v (eplan a))]
noncomputable abbrev mf__law_code : (Plan) → Option (RuleV) := fun a => m__law_code a
abbrev er__law_code (CR : Addr) : (Plan) → (RuleV) → Out := fun a r => .ret (.v ((eRule CR) r)) [(.v (eplan a))]
theorem ok__law_code {P : Program} {w : World} {K : Fz} {mg : Str → Option Value} {base : Heap} {f : Addr} {CR : Addr} {fd : FuncData} (F : FunD K "_law_code" "_law_code" (defArgs s__law_code) (defBody s__law_code) (defScope s__law_code) [] [] f fd) (C_Rule___init__ : CalM P w K mg base 4 "Rule" CR ["self", "base", "moves", "answers"] (bSp (ea_Rule___init__ CR) mf_Rule___init__ (er_Rule___init__ CR))) : DFn GG P w K mg base 6 f fd ["_law_w"] (bSp (ea__law_code CR) mf__law_code (er__law_code CR)) := by
  obtain ⟨oc, od, dV, kV, doc, pm, an, cdv, ct, osl, e1, e2, e3, _, _⟩ := F.ex
  refine DFn.mkB [] (fun _ _ h => h) ⟨oc, od, dV, kV, doc, pm, an, cdv, ct, osl, e1, e2, e3⟩ sc__law_code (fun _ => rfl) ?_
  intro cdv A outer s H E hr hg a
  generalize a = x__law_w
  have sc := sc__law_code
  have tk : Takes (cxOf (L2.CX P w) P w K mg base N__law_code "_law_code" (defScope s__law_code) f cdv A outer s H E) (WB E) := takes_of rfl rfl rfl rfl
  have hp : PassesOwn (model P w) (A.deeper (envOfC "_law_code" (defScope s__law_code) s.heap.objs.size f cdv)) (cxOf (L2.CX P w) P w K mg base N__law_code "_law_code" (defScope s__law_code) f cdv A outer s H E).env (cxOf (L2.CX P w) P w K mg base N__law_code "_law_code" (defScope s__law_code) f cdv A outer s H E).xe := passes_of rfl
  have hu := hr.units
  have hu1 := hu_of hr
  exact (lk_one (sk_ret (ek_make C_Rule___init__ hr hg tk (ak_cons (ek_b (bk_dgetS hu1 (bk_var 0 (o := (.v (eplan x__law_w))) (bk_str ⟨_, (.int x__law_w.root), rfl, li_rz 0, ⟨_, rfl, (ak_cons (ek_b (bk_dgetS hu1 (bk_var 0 (o := (.v (eplan x__law_w))) (bk_str ⟨_, (.tup (List.map (eT D.int) x__law_w.grid)), rfl, li_rz 1, ⟨_, rfl, (ak_cons (ek_b (bk_dgetS hu1 (bk_var 0 (o := (.v (eplan x__law_w))) (bk_str ⟨_, (.tup (List.map D.str x__law_w.marks)), rfl, li_rz 2, ⟨_, rfl, (ak_nil ⟨((), x__law_w.root, x__law_w.grid, x__law_w.marks), _, rfl, rfl, fun r1 => ⟨["base", "moves", "answers"], [(.int r1.base), (.tup (List.map (eT D.int) r1.moves)), (.tup (List.map D.str r1.answers))], _, rfl, rfl, ⟨r1, _, rfl, rfl, ⟨.inl ⟨_, rfl, rfl⟩, trivial⟩⟩⟩⟩)⟩⟩)))))⟩⟩)))))⟩⟩))))))))
abbrev s__law_said : Stmt := top 56
abbrev N__law_said : List Str := ["_law_w", "_law_num", "_law_line", "_law_left", "_law_spot", "_law_sign"]
theorem sc__law_said : FnScope N__law_said ["_law_w", "_law_num"] (defScope s__law_said) := ⟨rfl, rfl, rfl, by decide +kernel, rfl, by decide +kernel, by decide +kernel⟩
noncomputable def m__law_said (x__law_w : Plan) (x__law_num : Int) : Option (Str) := ((whO (fun (s1 : (List Int) × Int) => (some (decide (s1.2 > (0 : Int))))) (fun (s1 : (List Int) × Int) => ((modI s1.2 x__law_w.root).bind fun v2 => ((pushO s1.1 v2).bind fun v3 => ((divI s1.2 x__law_w.root).bind fun v4 => (some (v3, v4)))))) (([] : (List Int)), x__law_num)).bind (fun (s1 : (List Int) × Int) => ((forO (fun (s5 : Int) (x6 : Int) => ((atO x__law_w.grid s5).bind fun v7 => ((atO v7 x6).bind fun v8 => (some v8)))) (List.reverse s1.1) (0 : Int)).bind (fun (s5 : Int) => ((atO x__law_w.marks s5).bind fun v9 => (some v9))))))
abbrev ea__law_said : (Plan × Int) → List O := fun a => [(.v (eplan a.1)), (.v (.int a.2))]
noncomputable abbrev mf__law_said : (Plan × Int) → Option (Str) := fun a => m__law_said a.1 a.2
abbrev er__law_said : (Plan × Int) → (Str) → Out := fun a r => .ret (.v (.str r)) [(.v (eplan a.1)), (.v (.int a.2))]
theorem ok__law_said {P : Program} {w : World} {K : Fz} {mg : Str → Option Value} {base : Heap} {f : Addr} {fd : FuncData} (F : FunD K "_law_said" "_law_said" (defArgs s__law_said) (defBody s__law_said) (defScope s__law_said) [] [] f fd) : DFn GG P w K mg base 1 f fd ["_law_w", "_law_num"] (bSp (ea__law_said) mf__law_said (er__law_said)) := by
  obtain ⟨oc, od, dV, kV, doc, pm, an, cdv, ct, osl, e1, e2, e3, _, _⟩ := F.ex
  refine DFn.mkB [] (fun _ _ h => h) ⟨oc, od, dV, kV, doc, pm, an, cdv, ct, osl, e1, e2, e3⟩ sc__law_said (fun _ => rfl) ?_
  intro cdv A outer s H E hr hg a
  obtain ⟨x__law_w, x__law_num⟩ := a
  have sc := sc__law_said
  have tk : Takes (cxOf (L2.CX P w) P w K mg base N__law_said "_law_said" (defScope s__law_said) f cdv A outer s H E) (WB E) := takes_of rfl rfl rfl rfl
  have hp : PassesOwn (model P w) (A.deeper (envOfC "_law_said" (defScope s__law_said) s.heap.objs.size f cdv)) (cxOf (L2.CX P w) P w K mg base N__law_said "_law_said" (defScope s__law_said) f cdv A outer s H E).env (cxOf (L2.CX P w) P w K mg base N__law_said "_law_said" (defScope s__law_said) f cdv A outer s H E).xe := passes_of rfl
  have hu := hr.units
  have hu1 := hu_of hr
  exact (lk_cons (sk_par3 2 3 4 rfl sc.nd (ak_cons (ek_lstM (ak_nil ⟨by decide, (ak_cons (ek_b (bk_var 1 (o := (.v (.int x__law_num))) ⟨_, rfl, (ak_cons (ek_b (bk_int ⟨_, rfl, (ak_nil ⟨_, _, _, rfl, (lk_cons (sk_whileO (fun (s1 : (List Int) × Int) => [some (.v (eplan x__law_w)), none, some (lO D.int s1.1), some (.v (.int s1.2)), some (.v (.int (0 : Int)))]) (([] : (List Int)), x__law_num) (fun (s1 : (List Int) × Int) => ((modI s1.2 x__law_w.root).bind fun v2 => ((pushO s1.1 v2).bind fun v3 => ((divI s1.2 x__law_w.root).bind fun v4 => (some (v3, v4)))))) (fun (s1 : (List Int) × Int) => (some (decide (s1.2 > (0 : Int))))) (fun (s1 : (List Int) × Int) => ((forO (fun (s5 : Int) (x6 : Int) => ((atO x__law_w.grid s5).bind fun v7 => ((atO v7 x6).bind fun v8 => (some v8)))) (List.reverse s1.1) (0 : Int)).bind (fun (s5 : Int) => ((atO x__law_w.marks s5).bind fun v9 => (some v9))))) hp ⟨rfl, ⟨rfl, ⟨rfl, ⟨rfl, trivial⟩⟩⟩⟩ rfl (fun s1 => (tk_cmpB (fun _ _ ha hb => tj_gt ha hb) (bk_var 3 (o := (.v (.int s1.2))) (bk_int (rk_gtI ⟨_, rfl, ⟨rfl, ⟨rfl, ⟨rfl, ⟨rfl, ⟨rfl, trivial⟩⟩⟩⟩⟩⟩))))) (fun s1 => (lk_cons (sk_expr (ek_mB 2 none (o1 := (lO D.int s1.1)) (fun _ _ ha hb => ej_append ha hb) (rv_slot 2) rfl kl_ok (bak_cons (bk_op (fun _ _ => ej_mod) (bk_var 3 (o := (.v (.int s1.2))) (bk_dgetS hu1 (bk_var 0 (o := (.v (eplan x__law_w))) (bk_str ⟨_, (.int x__law_w.root), rfl, li_rz 0, (rk_modI fun v2 => (bak_nil ⟨[(.int v2)], rfl, ms_app fun v3 => (lk_one (sk_set 3 sc.nd (ek_b (bk_op (fun _ _ => ej_div) (bk_var 3 (o := (.v (.int s1.2))) (bk_dgetS hu1 (bk_var 0 (o := (.v (eplan x__law_w))) (bk_str ⟨_, (.int x__law_w.root), rfl, li_rz 0, (rk_divI fun v4 => ⟨_, rfl, ⟨_, rfl, ⟨rfl, ⟨rfl, ⟨rfl, ⟨rfl, trivial⟩⟩⟩⟩⟩⟩)⟩))))))))⟩))⟩)))))))))) (fun s1 => (lk_cons (sk_forO (fun (s5 : Int) => [some (.v (eplan x__law_w)), none, none, none, some (.v (.int s5))]) D.int hp rfl (ik_seq (ek_b (bk_rev (bk_var 2 (o := (lO D.int s1.1)) ⟨_, as_own, by rw [← List.map_reverse]; exact ⟨_, rfl, ⟨_, .inr (.inl rfl), ⟨(List.reverse s1.1), (0 : Int), (fun (s5 : Int) (x6 : Int) => ((atO x__law_w.grid s5).bind fun v7 => ((atO v7 x6).bind fun v8 => (some v8)))), (fun (s5 : Int) => ((atO x__law_w.marks s5).bind fun v9 => (some v9))), rfl, ⟨rfl, ⟨rfl, trivial⟩⟩, rfl, fun s5 x6 => (gk_name 5 sc.nd (lk_one (sk_set 4 sc.nd (ek_b (bk_op (fun _ _ => ej_ix) (bk_op (fun _ _ => ej_ix) (bk_dgetS hu1 (bk_var 0 (o := (.v (eplan x__law_w))) (bk_str ⟨_, (.tup (List.map (eT D.int) x__law_w.grid)), rfl, li_rz 1, (bk_var 4 (o := (.v (.int s5))) (rk_ixT fun v7 => (bk_var 5 (o := (.v (.int x6))) (rk_ixT fun v8 => ⟨_, rfl, ⟨_, rfl, ⟨rfl, ⟨rfl, trivial⟩⟩⟩⟩))))⟩))))))))), fun s5 => (lk_one (sk_ret (ek_b (bk_op (fun _ _ => ej_ix) (bk_dgetS hu1 (bk_var 0 (o := (.v (eplan x__law_w))) (bk_str ⟨_, (.tup (List.map D.str x__law_w.marks)), rfl, li_rz 2, (bk_var 4 (o := (.v (.int s5))) (rk_ixT fun v9 => ⟨_, rfl, ⟨v9, _, rfl, rfl, ⟨.inl ⟨_, rfl, rfl⟩, ⟨.inl ⟨_, rfl, rfl⟩, trivial⟩⟩⟩⟩))⟩)))))))⟩⟩⟩⟩)))))))))⟩)⟩)))⟩)))⟩)))))
abbrev s__law_right : Stmt := top 58
abbrev N__law_right : List Str := ["_law_deck_here", "_law_w", "_law_code_here", "_law_top", "_law_kept", "_law_heard", "_law_mark", "_law_due", "_law_far", "_law_counts", "_law_count", "_law_num", "_law_it"]
theorem sc__law_right : FnScope N__law_right ["_law_deck_here"] (defScope s__law_right) := ⟨rfl, rfl, rfl, by decide +kernel, rfl, by decide +kernel, by decide +kernel⟩
noncomputable def m__law_right (x__law_deck_here : Deck) : Option (Bool × Deck) := ((m__law_pick x__law_deck_here [(2 : Int), (3 : Int), (10 : Int), (16 : Int), (2 : Int), (5 : Int), (4 : Int), (12 : Int), (7 : Int)]).bind fun r1 => ((m__law_plan r1.2 r1.1 (6 : Int)).bind fun r2 => ((m__law_code r2.1).bind fun r3 => ((m__law_draw r2.2 (400 : Int)).bind fun r4 => ((m_Rule___str__ (r3, r4.1).1).bind fun r5 => ((rangeO 0 (r3, r4.1).2).bind fun xs6 => ((mapZ (fun (x7 : Int) => ((m__law_said r2.1 x7).bind fun r8 => (some r8))) xs6).bind (fun (ys9 : List Str) => (joinE (fun r : Bool × Deck => some r) (forF (fun (s10 : Unit) (x11 : Str) => (((filZ (fun (x12 : Str) => (some (false ^^ seq x12 x11))) (fun (x12 : Str) => (some x12)) ys9).bind (fun (ys13 : List Str) => ((m_how_many (r3, r4.1).1 x11 (r3, r4.1).2).bind fun r14 => ((m_how_many (r3, r4.1).1 x11 (r3, r4.1).2).bind fun r15 => ((reprD (.lst (List.map D.int [r14, r15]))).bind fun v16 => ((reprD (.lst (List.map D.int [((ys13.length : Nat) : Int), ((ys13.length : Nat) : Int)]))).bind fun v17 => (if (true ^^ seq v16 v17) then (some (Fl.rt (false, r4.2))) else ((m_how_many (r3, r4.1).1 x11 (0 : Int)).bind fun r18 => ((if (true ^^ decide (r18 = (0 : Int))) then some (true, ()) else ((m_how_many (r3, r4.1).1 x11 (1 : Int)).bind fun r19 => ((m__law_said r2.1 (0 : Int)).bind fun r20 => (some ((true ^^ decide (r19 = (if (false ^^ seq r20 x11) then (1 : Int) else 0))), ()))))).bind fun z22 => (if z22.1 then (some (Fl.rt (false, r4.2))) else (some (Fl.nx ())))))))))))) : Option (Fl (Unit) (Bool × Deck) (Unit)))) [("even" : Str), ("odd" : Str), ("house" : Str), ("nobody" : Str)] ()) (fun (s10 : Unit) => ((m__law_great r4.2).bind fun r23 => ((powI (10 : Int) (18 : Int)).bind fun v24 => ((powI (10 : Int) (9 : Int)).bind fun v25 => ((m__law_draw r23.2 v25).bind fun r26 => ((powI (10 : Int) (6 : Int)).bind fun v27 => ((m__law_draw r26.2 (1000 : Int)).bind fun r28 => ((m__law_pick r28.2 [r23.1, (v24 + r26.1), (v27 + r28.1)]).bind fun r29 => ((mapZ (fun (x30 : Str) => ((m_how_many (r3, r4.1).1 x30 r29.1).bind fun r31 => (some r31))) [("even" : Str), ("odd" : Str), ("house" : Str), ("nobody" : Str)]).bind (fun (ys32 : List Int) => (if (true ^^ decide ((List.sum ys32) = r29.1)) then (some (false, r29.2)) else (joinE (fun r : Bool × Deck => some r) (forF (fun (s33 : Unit) (x34 : (Str × Int)) => (((m_how_many (r3, r4.1).1 x34.1 (r29.1 + (1 : Int))).bind fun r35 => ((reprD (.int (r35 - x34.2))).bind fun v36 => ((m__law_said r2.1 r29.1).bind fun r37 => ((reprD (.int (if (false ^^ seq r37 x34.1) then (1 : Int) else 0))).bind fun v38 => (if (true ^^ seq v36 v38) then (some (Fl.rt (false, r29.2))) else (some (Fl.nx ()))))))) : Option (Fl (Unit) (Bool × Deck) (Unit)))) (List.zip [("even" : Str), ("odd" : Str), ("house" : Str), ("nobody" : Str)] ys32) ()) (fun (s33 : Unit) => ((m_Rule___str__ (r3, r4.1).1).bind fun r39 => (some ((false ^^ seq r39 r5), r29.2)))))))))))))))))))))))))
abbrev ea__law_right : (Deck) → List O := fun a => [(odeck a)]
noncomputable abbrev mf__law_right : (Deck) → Option (Bool × Deck) := fun a => m__law_right a
abbrev er__law_right : (Deck) → (Bool × Deck) → Out := fun a r => .ret (.v (.bl r.1)) [(odeck r.2)]
theorem ok__law_right {P : Program} {w : World} {K : Fz} {mg : Str → Option Value} {base : Heap} {f : Addr} {CR : Addr} {fd : FuncData} (F : FunD K "_law_right" "_law_right" (defArgs s__law_right) (defBody s__law_right) (defScope s__law_right) [] [] f fd) (C__law_pick : Cal P w K mg base 2 "_law_pick" ["_law_deck_here", "_law_some"] (bSp (ea__law_pick) mf__law_pick (er__law_pick))) (C__law_plan : Cal P w K mg base 3 "_law_plan" ["_law_deck_here", "_law_root", "_law_most"] (bSp (ea__law_plan) mf__law_plan (er__law_plan))) (C__law_code : Cal P w K mg base 6 "_law_code" ["_law_w"] (bSp (ea__law_code CR) mf__law_code (er__law_code CR))) (C__law_draw : Cal P w K mg base 1 "_law_draw" ["_law_deck_here", "_law_many"] (bSp (ea__law_draw) mf__law_draw (er__law_draw))) (C_Rule___str__ : CalO P w K mg base 1 "__str__" CR ["self"] (bSp (ea_Rule___str__ CR) mf_Rule___str__ (er_Rule___str__ CR))) (C__law_said : Cal P w K mg base 1 "_law_said" ["_law_w", "_law_num"] (bSp (ea__law_said) mf__law_said (er__law_said))) (C_how_many : Cal P w K mg base 3 "how_many" ["rule", "answer", "below"] (bSp (ea_how_many CR) mf_how_many (er_how_many CR))) (C__law_great : Cal P w K mg base 2 "_law_great" ["_law_deck_here"] (bSp (ea__law_great) mf__law_great (er__law_great))) (CK0 : CalK P w K mg base 3 "how_many" ["rule", "answer", "below"] 0 ["below", "answer", "rule"] [2, 1, 0] (bSp (ea_how_many CR) mf_how_many (er_how_many CR))) (b_str : mg "str" = none) (b_range : mg "range" = none) (b_int : mg "int" = none) (b_repr : mg "repr" = none) (b_len : mg "len" = none) (b_zip : mg "zip" = none) (b_sum : mg "sum" = none) : DFn GG P w K mg base 7 f fd ["_law_deck_here"] (bSp (ea__law_right) mf__law_right (er__law_right)) := by
  obtain ⟨oc, od, dV, kV, doc, pm, an, cdv, ct, osl, e1, e2, e3, _, _⟩ := F.ex
  refine DFn.mkB [0] (fun _ _ h => h) ⟨oc, od, dV, kV, doc, pm, an, cdv, ct, osl, e1, e2, e3⟩ sc__law_right (fun _ => rfl) ?_
  intro cdv A outer s H E hr hg a
  generalize a = x__law_deck_here
  have sc := sc__law_right
  have tk : Takes (cxOf (L2.CX P w) P w K mg base N__law_right "_law_right" (defScope s__law_right) f cdv A outer s H E) (WB E) := takes_of rfl rfl rfl rfl
  have hp : PassesOwn (model P w) (A.deeper (envOfC "_law_right" (defScope s__law_right) s.heap.objs.size f cdv)) (cxOf (L2.CX P w) P w K mg base N__law_right "_law_right" (defScope s__law_right) f cdv A outer s H E).env (cxOf (L2.CX P w) P w K mg base N__law_right "_law_right" (defScope s__law_right) f cdv A outer s H E).xe := passes_of rfl
  have hu := hr.units
  have hu1 := hu_of hr
  exact (lk_cons (sk_set 1 sc.nd (ek_call C__law_plan hr hg tk (ak_movL 0 (o0 := (odeck x__law_deck_here)) (ak_cons (ek_call C__law_pick hr hg tk (ak_mov 0 (o := (odeck x__law_deck_here)) (ak_cons (ek_b (bk_lst (bak_cons (bk_int (bak_cons (bk_int (bak_cons (bk_int (bak_cons (bk_int (bak_cons (bk_int (bak_cons (bk_int (bak_cons (bk_int (bak_cons (bk_int (bak_cons (bk_int (bak_nil ⟨[(.int (2 : Int)), (.int (3 : Int)), (.int (10 : Int)), (.int (16 : Int)), (.int (2 : Int)), (.int (5 : Int)), (.int (4 : Int)), (.int (12 : Int)), (.int (7 : Int))], rfl, (by show 9 ≤ sizeLine; decide), ⟨_, rfl, (ak_nil ⟨(x__law_deck_here, [(2 : Int), (3 : Int), (10 : Int), (16 : Int), (2 : Int), (5 : Int), (4 : Int), (12 : Int), (7 : Int)]), _, rfl, rfl, fun r1 => (ak_cons (ek_b (bk_int ⟨_, rfl, (ak_nil ⟨(odeck r1.2), rfl, ⟨(r1.2, r1.1, (6 : Int)), _, rfl, rfl, fun r2 => (lk_frz 1 (FrzO.r kplan [(.int r2.1.root), (.tup (List.map (eT D.int) r2.1.grid)), (.tup (List.map D.str r2.1.marks))]) (lk_cons (sk_asg (ek_tup (ak_cons (ek_call C__law_code hr hg tk (ak_cons (ek_b (bk_var 1 (o := (.v (eplan r2.1))) ⟨_, rfl, (ak_nil ⟨r2.1, _, rfl, rfl, fun r3 => (ak_cons (ek_call C__law_draw hr hg tk (ak_mov 0 (o := (odeck r2.2)) (ak_cons (ek_b (bk_int ⟨_, rfl, (ak_nil ⟨(r2.2, (400 : Int)), _, rfl, rfl, fun r4 => (ak_nil ⟨[((eRule CR) r3), (.int r4.1)], rfl, (by show 2 ≤ sizeLine; decide), (gk_tup rfl (gsk_cons (gk_name 2 sc.nd (gsk_cons (gk_name 3 sc.nd (gsk_nil (lk_cons (sk_par2 4 5 rfl sc.nd (ak_cons (ek_strI (fun r => r) C_Rule___str__ hr hg b_str (bk_var 2 (o := (.v ((eRule CR) (r3, r4.1).1))) ⟨_, (r3, r4.1).1, fun r5 => ((rangeO 0 (r3, r4.1).2).bind fun xs6 => ((mapZ (fun (x7 : Int) => ((m__law_said r2.1 x7).bind fun r8 => (some r8))) xs6).bind (fun (ys9 : List Str) => (joinE (fun r : Bool × Deck => some r) (forF (fun (s10 : Unit) (x11 : Str) => (((filZ (fun (x12 : Str) => (some (false ^^ seq x12 x11))) (fun (x12 : Str) => (some x12)) ys9).bind (fun (ys13 : List Str) => ((m_how_many (r3, r4.1).1 x11 (r3, r4.1).2).bind fun r14 => ((m_how_many (r3, r4.1).1 x11 (r3, r4.1).2).bind fun r15 => ((reprD (.lst (List.map D.int [r14, r15]))).bind fun v16 => ((reprD (.lst (List.map D.int [((ys13.length : Nat) : Int), ((ys13.length : Nat) : Int)]))).bind fun v17 => (if (true ^^ seq v16 v17) then (some (Fl.rt (false, r4.2))) else ((m_how_many (r3, r4.1).1 x11 (0 : Int)).bind fun r18 => ((if (true ^^ decide (r18 = (0 : Int))) then some (true, ()) else ((m_how_many (r3, r4.1).1 x11 (1 : Int)).bind fun r19 => ((m__law_said r2.1 (0 : Int)).bind fun r20 => (some ((true ^^ decide (r19 = (if (false ^^ seq r20 x11) then (1 : Int) else 0))), ()))))).bind fun z22 => (if z22.1 then (some (Fl.rt (false, r4.2))) else (some (Fl.nx ())))))))))))) : Option (Fl (Unit) (Bool × Deck) (Unit)))) [("even" : Str), ("odd" : Str), ("house" : Str), ("nobody" : Str)] ()) (fun (s10 : Unit) => ((m__law_great r4.2).bind fun r23 => ((powI (10 : Int) (18 : Int)).bind fun v24 => ((powI (10 : Int) (9 : Int)).bind fun v25 => ((m__law_draw r23.2 v25).bind fun r26 => ((powI (10 : Int) (6 : Int)).bind fun v27 => ((m__law_draw r26.2 (1000 : Int)).bind fun r28 => ((m__law_pick r28.2 [r23.1, (v24 + r26.1), (v27 + r28.1)]).bind fun r29 => ((mapZ (fun (x30 : Str) => ((m_how_many (r3, r4.1).1 x30 r29.1).bind fun r31 => (some r31))) [("even" : Str), ("odd" : Str), ("house" : Str), ("nobody" : Str)]).bind (fun (ys32 : List Int) => (if (true ^^ decide ((List.sum ys32) = r29.1)) then (some (false, r29.2)) else (joinE (fun r : Bool × Deck => some r) (forF (fun (s33 : Unit) (x34 : (Str × Int)) => (((m_how_many (r3, r4.1).1 x34.1 (r29.1 + (1 : Int))).bind fun r35 => ((reprD (.int (r35 - x34.2))).bind fun v36 => ((m__law_said r2.1 r29.1).bind fun r37 => ((reprD (.int (if (false ^^ seq r37 x34.1) then (1 : Int) else 0))).bind fun v38 => (if (true ^^ seq v36 v38) then (some (Fl.rt (false, r29.2))) else (some (Fl.nx ()))))))) : Option (Fl (Unit) (Bool × Deck) (Unit)))) (List.zip [("even" : Str), ("odd" : Str), ("house" : Str), ("nobody" : Str)] ys32) ()) (fun (s33 : Unit) => ((m_Rule___str__ (r3, r4.1).1).bind fun r39 => (some ((false ^^ seq r39 r5), r29.2)))))))))))))))))))), rfl, rfl, rfl, fun r5 => ⟨rfl, (ak_cons (ek_lcZ (own := [("_law_num", 11)]) [some (odeck r4.2), some (.v (eplan r2.1)), some (.v ((eRule CR) (r3, r4.1).1)), some (.v (.int (r3, r4.1).2))] D.int D.str rfl sc.nd (blkOk_by (by show blkC N__law_right (defScope s__law_right) _ _ = true; decide +kernel)) (tg_name (by decide)) (fun _ _ _ _ _ => (pg_name (i := 11) sc.nd rfl (.inl (by kernel_rfl)) (.inr (by kernel_rfl)))) (fun i hi => by simp only [List.map, List.mem_cons, List.not_mem_nil, or_false] at hi; subst hi; rfl) (ik_range1 b_range (ak_cons (ek_b (bk_var 3 (o := (.v (.int (r3, r4.1).2))) ⟨_, rfl, (ak_nil ⟨_, _, rfl, rfl, fun xs6 => ⟨xs6, (fun (x7 : Int) => ((m__law_said r2.1 x7).bind fun r8 => (some r8))), (fun (ys9 : List Str) => (joinE (fun r : Bool × Deck => some r) (forF (fun (s10 : Unit) (x11 : Str) => (((filZ (fun (x12 : Str) => (some (false ^^ seq x12 x11))) (fun (x12 : Str) => (some x12)) ys9).bind (fun (ys13 : List Str) => ((m_how_many (r3, r4.1).1 x11 (r3, r4.1).2).bind fun r14 => ((m_how_many (r3, r4.1).1 x11 (r3, r4.1).2).bind fun r15 => ((reprD (.lst (List.map D.int [r14, r15]))).bind fun v16 => ((reprD (.lst (List.map D.int [((ys13.length : Nat) : Int), ((ys13.length : Nat) : Int)]))).bind fun v17 => (if (true ^^ seq v16 v17) then (some (Fl.rt (false, r4.2))) else ((m_how_many (r3, r4.1).1 x11 (0 : Int)).bind fun r18 => ((if (true ^^ decide (r18 = (0 : Int))) then some (true, ()) else ((m_how_many (r3, r4.1).1 x11 (1 : Int)).bind fun r19 => ((m__law_said r2.1 (0 : Int)).bind fun r20 => (some ((true ^^ decide (r19 = (if (false ^^ seq r20 x11) then (1 : Int) else 0))), ()))))).bind fun z22 => (if z22.1 then (some (Fl.rt (false, r4.2))) else (some (Fl.nx ())))))))))))) : Option (Fl (Unit) (Bool × Deck) (Unit)))) [("even" : Str), ("odd" : Str), ("house" : Str), ("nobody" : Str)] ()) (fun (s10 : Unit) => ((m__law_great r4.2).bind fun r23 => ((powI (10 : Int) (18 : Int)).bind fun v24 => ((powI (10 : Int) (9 : Int)).bind fun v25 => ((m__law_draw r23.2 v25).bind fun r26 => ((powI (10 : Int) (6 : Int)).bind fun v27 => ((m__law_draw r26.2 (1000 : Int)).bind fun r28 => ((m__law_pick r28.2 [r23.1, (v24 + r26.1), (v27 + r28.1)]).bind fun r29 => ((mapZ (fun (x30 : Str) => ((m_how_many (r3, r4.1).1 x30 r29.1).bind fun r31 => (some r31))) [("even" : Str), ("odd" : Str), ("house" : Str), ("nobody" : Str)]).bind (fun (ys32 : List Int) => (if (true ^^ decide ((List.sum ys32) = r29.1)) then (some (false, r29.2)) else (joinE (fun r : Bool × Deck => some r) (forF (fun (s33 : Unit) (x34 : (Str × Int)) => (((m_how_many (r3, r4.1).1 x34.1 (r29.1 + (1 : Int))).bind fun r35 => ((reprD (.int (r35 - x34.2))).bind fun v36 => ((m__law_said r2.1 r29.1).bind fun r37 => ((reprD (.int (if (false ^^ seq r37 x34.1) then (1 : Int) else 0))).bind fun v38 => (if (true ^^ seq v36 v38) then (some (Fl.rt (false, r29.2))) else (some (Fl.nx ()))))))) : Option (Fl (Unit) (Bool × Deck) (Unit)))) (List.zip [("even" : Str), ("odd" : Str), ("house" : Str), ("nobody" : Str)] ys32) ()) (fun (s33 : Unit) => ((m_Rule___str__ (r3, r4.1).1).bind fun r39 => (some ((false ^^ seq r39 r5), r29.2)))))))))))))))))), (fun (x7 : Int) => [some (odeck r4.2), some (.v (eplan r2.1)), some (.v ((eRule CR) (r3, r4.1).1)), some (.v (.int (r3, r4.1).2)), none, none, none, none, none, none, none, some (.v (.int x7))]), rfl, ⟨rfl, ⟨rfl, ⟨rfl, ⟨rfl, trivial⟩⟩⟩⟩, rfl, fun x7 => (dg_name (i := 11)), fun x7 _ _ _ _ _ => (ek_call C__law_said hr hg takes00 (ak_cons (ek_b (bk_var 1 (o := (.v (eplan r2.1))) ⟨_, rfl, (ak_cons (ek_b (bk_var 11 (o := (.v (.int x7))) ⟨_, rfl, (ak_nil ⟨(r2.1, x7), _, rfl, rfl, fun r8 => ⟨r8, rfl, rfl, ⟨rfl, ⟨rfl, ⟨rfl, ⟨rfl, trivial⟩⟩⟩⟩⟩⟩)⟩ (hv := Or.inl (by kernel_rfl)))))⟩ (hv := Or.inr (Or.inl (by kernel_rfl)))))) (hg := by show _ = _; kernel_rfl)), fun x7 => ⟨rfl, ⟨rfl, ⟨rfl, ⟨rfl, trivial⟩⟩⟩⟩, fun x7 => ⟨rfl, ⟨rfl, ⟨rfl, ⟨rfl, ⟨rfl, trivial⟩⟩⟩⟩⟩, fun ys9 => (ak_nil ⟨_, _, rfl, (lk_cons (sk_for (up := (fun r : Bool × Deck => some r)) (fun (s10 : Unit) => [some (odeck r4.2), some (.v (eplan r2.1)), some (.v ((eRule CR) (r3, r4.1).1)), some (.v (.int (r3, r4.1).2)), some (.v (.str r5)), some (.v (.lst (List.map D.str ys9)))]) D.str hp rfl (ik_seq (ek_b (bk_tup (bak_cons (bk_str (bak_cons (bk_str (bak_cons (bk_str (bak_cons (bk_str (bak_nil ⟨[(.str ("even" : Str)), (.str ("odd" : Str)), (.str ("house" : Str)), (.str ("nobody" : Str))], rfl, (by show 4 ≤ sizeLine; decide), ⟨_, rfl, ⟨_, .inl rfl, ⟨[("even" : Str), ("odd" : Str), ("house" : Str), ("nobody" : Str)], (), (fun (s10 : Unit) (x11 : Str) => (((filZ (fun (x12 : Str) => (some (false ^^ seq x12 x11))) (fun (x12 : Str) => (some x12)) ys9).bind (fun (ys13 : List Str) => ((m_how_many (r3, r4.1).1 x11 (r3, r4.1).2).bind fun r14 => ((m_how_many (r3, r4.1).1 x11 (r3, r4.1).2).bind fun r15 => ((reprD (.lst (List.map D.int [r14, r15]))).bind fun v16 => ((reprD (.lst (List.map D.int [((ys13.length : Nat) : Int), ((ys13.length : Nat) : Int)]))).bind fun v17 => (if (true ^^ seq v16 v17) then (some (Fl.rt (false, r4.2))) else ((m_how_many (r3, r4.1).1 x11 (0 : Int)).bind fun r18 => ((if (true ^^ decide (r18 = (0 : Int))) then some (true, ()) else ((m_how_many (r3, r4.1).1 x11 (1 : Int)).bind fun r19 => ((m__law_said r2.1 (0 : Int)).bind fun r20 => (some ((true ^^ decide (r19 = (if (false ^^ seq r20 x11) then (1 : Int) else 0))), ()))))).bind fun z22 => (if z22.1 then (some (Fl.rt (false, r4.2))) else (some (Fl.nx ())))))))))))) : Option (Fl (Unit) (Bool × Deck) (Unit)))), (fun (s10 : Unit) => ((m__law_great r4.2).bind fun r23 => ((powI (10 : Int) (18 : Int)).bind fun v24 => ((powI (10 : Int) (9 : Int)).bind fun v25 => ((m__law_draw r23.2 v25).bind fun r26 => ((powI (10 : Int) (6 : Int)).bind fun v27 => ((m__law_draw r26.2 (1000 : Int)).bind fun r28 => ((m__law_pick r28.2 [r23.1, (v24 + r26.1), (v27 + r28.1)]).bind fun r29 => ((mapZ (fun (x30 : Str) => ((m_how_many (r3, r4.1).1 x30 r29.1).bind fun r31 => (some r31))) [("even" : Str), ("odd" : Str), ("house" : Str), ("nobody" : Str)]).bind (fun (ys32 : List Int) => (if (true ^^ decide ((List.sum ys32) = r29.1)) then (some (false, r29.2)) else (joinE (fun r : Bool × Deck => some r) (forF (fun (s33 : Unit) (x34 : (Str × Int)) => (((m_how_many (r3, r4.1).1 x34.1 (r29.1 + (1 : Int))).bind fun r35 => ((reprD (.int (r35 - x34.2))).bind fun v36 => ((m__law_said r2.1 r29.1).bind fun r37 => ((reprD (.int (if (false ^^ seq r37 x34.1) then (1 : Int) else 0))).bind fun v38 => (if (true ^^ seq v36 v38) then (some (Fl.rt (false, r29.2))) else (some (Fl.nx ()))))))) : Option (Fl (Unit) (Bool × Deck) (Unit)))) (List.zip [("even" : Str), ("odd" : Str), ("house" : Str), ("nobody" : Str)] ys32) ()) (fun (s33 : Unit) => ((m_Rule___str__ (r3, r4.1).1).bind fun r39 => (some ((false ^^ seq r39 r5), r29.2)))))))))))))))), rfl, ⟨rfl, ⟨rfl, ⟨rfl, ⟨rfl, ⟨rfl, ⟨rfl, trivial⟩⟩⟩⟩⟩⟩, rfl, fun s10 x11 => (gk_name 6 sc.nd (lk_cons (sk_set 7 sc.nd (ek_cb (fun _ ha => ej_len b_len ha) (ak_cons (ek_lcF (own := [("_law_it", 12)]) [some (odeck r4.2), some (.v (eplan r2.1)), some (.v ((eRule CR) (r3, r4.1).1)), some (.v (.int (r3, r4.1).2)), some (.v (.str r5)), some (.v (.lst (List.map D.str ys9))), some (.v (.str x11))] D.str D.str rfl sc.nd (blkOk_by (by show blkC N__law_right (defScope s__law_right) _ _ = true; decide +kernel)) (tg_name (by decide)) (fun _ _ _ _ _ => (pg_name (i := 12) sc.nd rfl (.inl (by kernel_rfl)) (.inr (by kernel_rfl)))) (fun i hi => by simp only [List.map, List.mem_cons, List.not_mem_nil, or_false] at hi; subst hi; rfl) (ik_seq (ek_b (bk_var 5 (o := (.v (.lst (List.map D.str ys9)))) ⟨_, rfl, ⟨_, .inr (.inl rfl), ⟨ys9, (fun (x12 : Str) => (some (false ^^ seq x12 x11))), (fun (x12 : Str) => (some x12)), (fun (ys13 : List Str) => ((m_how_many (r3, r4.1).1 x11 (r3, r4.1).2).bind fun r14 => ((m_how_many (r3, r4.1).1 x11 (r3, r4.1).2).bind fun r15 => ((reprD (.lst (List.map D.int [r14, r15]))).bind fun v16 => ((reprD (.lst (List.map D.int [((ys13.length : Nat) : Int), ((ys13.length : Nat) : Int)]))).bind fun v17 => (if (true ^^ seq v16 v17) then (some (Fl.rt (false, r4.2))) else ((m_how_many (r3, r4.1).1 x11 (0 : Int)).bind fun r18 => ((if (true ^^ decide (r18 = (0 : Int))) then some (true, ()) else ((m_how_many (r3, r4.1).1 x11 (1 : Int)).bind fun r19 => ((m__law_said r2.1 (0 : Int)).bind fun r20 => (some ((true ^^ decide (r19 = (if (false ^^ seq r20 x11) then (1 : Int) else 0))), ()))))).bind fun z22 => (if z22.1 then (some (Fl.rt (false, r4.2))) else (some (Fl.nx ()))))))))))), (fun (x12 : Str) => [some (odeck r4.2), some (.v (eplan r2.1)), some (.v ((eRule CR) (r3, r4.1).1)), some (.v (.int (r3, r4.1).2)), some (.v (.str r5)), some (.v (.lst (List.map D.str ys9))), some (.v (.str x11)), none, none, none, none, none, some (.v (.str x12))]), rfl, ⟨rfl, ⟨rfl, ⟨rfl, ⟨rfl, ⟨rfl, ⟨rfl, ⟨rfl, trivial⟩⟩⟩⟩⟩⟩⟩, rfl, fun x12 => (dg_name (i := 12)), fun x12 _ _ _ _ _ => (tk_cmpB (fun _ _ ha hb => tj_eq hu ha hb) (bk_var 12 (o := (.v (.str x12))) (bk_var 6 (o := (.v (.str x11))) (rk_eqS ⟨_, rfl, ⟨rfl, ⟨rfl, ⟨rfl, ⟨rfl, ⟨rfl, ⟨rfl, ⟨rfl, ⟨rfl, ⟨rfl, trivial⟩⟩⟩⟩⟩⟩⟩⟩⟩⟩) (hv := Or.inr (Or.inl (by kernel_rfl)))) (hv := Or.inl (by kernel_rfl)))), fun x12 _ _ _ _ _ => (ek_b (bk_var 12 (o := (.v (.str x12))) ⟨_, rfl, ⟨x12, rfl, rfl, ⟨rfl, ⟨rfl, ⟨rfl, ⟨rfl, ⟨rfl, ⟨rfl, ⟨rfl, trivial⟩⟩⟩⟩⟩⟩⟩⟩⟩ (hv := Or.inl (by kernel_rfl)))), fun x12 => ⟨rfl, ⟨rfl, ⟨rfl, ⟨rfl, ⟨rfl, ⟨rfl, ⟨rfl, trivial⟩⟩⟩⟩⟩⟩⟩, fun ys13 => (ak_nil (rl_lenL as_v (by rw [List.length_map]; exact (lk_cons (sk_if (tk_cmp (fun _ _ ha hb => tj_ne hu ha hb) (ek_cb (fun _ ha => ej_repr hg hu b_repr ha) (ak_cons (ek_lst (ak_cons (ek_call C_how_many hr hg tk (ak_cons (ek_b (bk_var 2 (o := (.v ((eRule CR) (r3, r4.1).1))) ⟨_, rfl, (ak_cons (ek_b (bk_var 6 (o := (.v (.str x11))) ⟨_, rfl, (ak_cons (ek_b (bk_var 3 (o := (.v (.int (r3, r4.1).2))) ⟨_, rfl, (ak_nil ⟨((r3, r4.1).1, x11, (r3, r4.1).2), _, rfl, rfl, fun r14 => (ak_cons (ek_callK0 (ks := ["below", "answer", "rule"]) CK0 hr hg tk (kk_cons (ek_b (bk_var 3 (o := (.v (.int (r3, r4.1).2))) ⟨_, rfl, ⟨_, rfl, (kk_cons (ek_b (bk_var 6 (o := (.v (.str x11))) ⟨_, rfl, ⟨_, rfl, (kk_cons (ek_b (bk_var 2 (o := (.v ((eRule CR) (r3, r4.1).1))) ⟨_, rfl, ⟨_, rfl, (kk_nil ⟨rfl, rfl, ((r3, r4.1).1, x11, (r3, r4.1).2), _, rfl, rfl, fun r15 => (ak_nil ⟨[(.int r14), (.int r15)], rfl, (by show 2 ≤ sizeLine; decide), (ak_nil (rl_repr fun v16 => (ek_b (bk_cb (fun _ ha => ej_repr hg hu b_repr ha) (bak_cons (bk_lst (bak_cons (bk_var 7 (o := (.v (.int ((ys13.length : Nat) : Int)))) (bak_cons (bk_var 7 (o := (.v (.int ((ys13.length : Nat) : Int)))) (bak_nil ⟨[(.int ((ys13.length : Nat) : Int)), (.int ((ys13.length : Nat) : Int))], rfl, (by show 2 ≤ sizeLine; decide), (bak_nil (rl_repr fun v17 => ⟨_, rfl, (rk_eqS ⟨_, rfl, ⟨(some (Fl.rt (false, r4.2))), ((m_how_many (r3, r4.1).1 x11 (0 : Int)).bind fun r18 => ((if (true ^^ decide (r18 = (0 : Int))) then some (true, ()) else ((m_how_many (r3, r4.1).1 x11 (1 : Int)).bind fun r19 => ((m__law_said r2.1 (0 : Int)).bind fun r20 => (some ((true ^^ decide (r19 = (if (false ^^ seq r20 x11) then (1 : Int) else 0))), ()))))).bind fun z22 => (if z22.1 then (some (Fl.rt (false, r4.2))) else (some (Fl.nx ()))))), rfl, fun _ => (lk_one (sk_ret (ek_b (bk_bl ⟨_, rfl, ⟨_, rfl, ⟨(false, r4.2), _, rfl, rfl, ⟨.inr ⟨by decide, rfl⟩, trivial⟩⟩⟩⟩)))), fun _ => (lk_nil (lk_one (sk_if (tk_w (wk_orP (S := Unit) (fun _ => [some (odeck r4.2), some (.v (eplan r2.1)), some (.v ((eRule CR) (r3, r4.1).1)), some (.v (.int (r3, r4.1).2)), some (.v (.str r5)), some (.v (.lst (List.map D.str ys9))), some (.v (.str x11)), some (.v (.int ((ys13.length : Nat) : Int)))]) (tk_cmp (fun _ _ ha hb => tj_ne hu ha hb) (ek_call C_how_many hr hg tk (ak_cons (ek_b (bk_var 2 (o := (.v ((eRule CR) (r3, r4.1).1))) ⟨_, rfl, (ak_cons (ek_b (bk_var 6 (o := (.v (.str x11))) ⟨_, rfl, (ak_cons (ek_b (bk_int ⟨_, rfl, (ak_nil ⟨((r3, r4.1).1, x11, (0 : Int)), _, rfl, rfl, fun r18 => (ek_b (bk_int ⟨_, rfl, (rk_eqI ⟨_, rfl, ⟨_, (), fun z22 => (if z22.1 then (some (Fl.rt (false, r4.2))) else (some (Fl.nx ()))), rfl, ⟨rfl, ⟨rfl, ⟨rfl, ⟨rfl, ⟨rfl, ⟨rfl, ⟨rfl, ⟨rfl, trivial⟩⟩⟩⟩⟩⟩⟩⟩, fun _ => (wk_or1 (tk_cmp (fun _ _ ha hb => tj_ne hu ha hb) (ek_call C_how_many hr hg tk (ak_cons (ek_b (bk_var 2 (o := (.v ((eRule CR) (r3, r4.1).1))) ⟨_, rfl, (ak_cons (ek_b (bk_var 6 (o := (.v (.str x11))) ⟨_, rfl, (ak_cons (ek_b (bk_int ⟨_, rfl, (ak_nil ⟨((r3, r4.1).1, x11, (1 : Int)), _, rfl, rfl, fun r19 => (ek_cb (fun _ ha => ej_intc b_int ha) (ak_cons (ek_op (fun _ _ ha hb => ej_eq hu ha hb) (ek_call C__law_said hr hg tk (ak_cons (ek_b (bk_var 1 (o := (.v (eplan r2.1))) ⟨_, rfl, (ak_cons (ek_b (bk_int ⟨_, rfl, (ak_nil ⟨(r2.1, (0 : Int)), _, rfl, rfl, fun r20 => (ek_b (bk_var 6 (o := (.v (.str x11))) ⟨_, rfl, (rk_eqS (ak_nil (rl_intB (rk_eqI ⟨_, rfl, ⟨(), rfl, ⟨rfl, ⟨rfl, ⟨rfl, ⟨rfl, ⟨rfl, ⟨rfl, ⟨rfl, ⟨rfl, trivial⟩⟩⟩⟩⟩⟩⟩⟩⟩⟩))))⟩ (hv := Or.inr (Or.inl (by kernel_rfl)))))⟩)⟩)))⟩ (hv := Or.inr (Or.inl (by kernel_rfl))))))))))⟩)⟩)))⟩ (hv := Or.inr (Or.inl (by kernel_rfl))))))⟩ (hv := Or.inr (Or.inl (by kernel_rfl))))))))), fun b21 _ => ⟨(some (Fl.rt (false, r4.2))), (some (Fl.nx ())), rfl, fun _ => (lk_one (sk_ret (ek_b (bk_bl ⟨_, rfl, ⟨_, rfl, ⟨(false, r4.2), _, rfl, rfl, ⟨.inr ⟨by decide, rfl⟩, trivial⟩⟩⟩⟩)))), fun _ => (lk_nil ⟨_, rfl, ⟨rfl, ⟨rfl, ⟨rfl, ⟨rfl, ⟨rfl, ⟨rfl, trivial⟩⟩⟩⟩⟩⟩⟩)⟩⟩⟩)⟩))⟩)⟩)))⟩ (hv := Or.inr (Or.inl (by kernel_rfl))))))⟩ (hv := Or.inr (Or.inl (by kernel_rfl)))))))))))))⟩⟩)⟩))⟩)))))))))))⟩)⟩)⟩⟩ (hv := Or.inr (Or.inl (by kernel_rfl))))))⟩⟩ (hv := Or.inr (Or.inl (by kernel_rfl))))))⟩⟩)))))⟩)⟩)))⟩ (hv := Or.inr (Or.inl (by kernel_rfl))))))⟩ (hv := Or.inr (Or.inl (by kernel_rfl)))))))))))))))))⟩⟩⟩)))))))) (hx := Or.inr (by kernel_rfl))), fun s10 => (lk_cons (sk_set 8 sc.nd (ek_call C__law_pick hr hg tk (ak_movL 0 (o0 := (odeck r4.2)) (ak_cons (ek_lst (ak_cons (ek_call C__law_great hr hg tk (ak_mov 0 (o := (odeck r4.2)) (ak_nil ⟨r4.2, _, rfl, rfl, fun r23 => (ak_cons (ek_op (fun _ _ => ej_add) (ek_b (bk_op (fun _ _ => ej_pow) (bk_int (bk_int (rk_powI fun v24 => ⟨_, rfl, (ek_call C__law_draw hr hg tk (ak_mov 0 (o := (odeck r23.2)) (ak_cons (ek_b (bk_op (fun _ _ => ej_pow) (bk_int (bk_int (rk_powI fun v25 => ⟨_, rfl, (ak_nil ⟨(r23.2, v25), _, rfl, rfl, fun r26 => (rk_addI (ak_cons (ek_op (fun _ _ => ej_add) (ek_b (bk_op (fun _ _ => ej_pow) (bk_int (bk_int (rk_powI fun v27 => ⟨_, rfl, (ek_call C__law_draw hr hg tk (ak_mov 0 (o := (odeck r26.2)) (ak_cons (ek_b (bk_int ⟨_, rfl, (ak_nil ⟨(r26.2, (1000 : Int)), _, rfl, rfl, fun r28 => (rk_addI (ak_nil ⟨[(.int r23.1), (.int (v24 + r26.1)), (.int (v27 + r28.1))], rfl, (by show 3 ≤ sizeLine; decide), (ak_nil ⟨(odeck r28.2), rfl, ⟨(r28.2, [r23.1, (v24 + r26.1), (v27 + r28.1)]), _, rfl, rfl, fun r29 => (lk_cons (sk_setJ 9 (jk_lcZ (own := [("_law_mark", 6)]) (fun _ _ _ hi ht he => sj_setLc (own := [("_law_mark", 6)]) 9 rfl sc.nd hi (blkOk_by (by show blkC N__law_right (defScope s__law_right) _ _ = true; decide +kernel)) (tg_name (by decide)) (fun _ _ _ _ _ => (pg_name (i := 6) sc.nd rfl (.inl (by kernel_rfl)) (.inr (by kernel_rfl)))) ht he (hsw := by rfl)) [some (odeck r29.2), some (.v (eplan r2.1)), some (.v ((eRule CR) (r3, r4.1).1)), some (.v (.int (r3, r4.1).2)), some (.v (.str r5)), some (.v (.lst (List.map D.str ys9))), none, none, some (.v (.int r29.1))] D.str D.int rfl sc.nd (blkOk_by (by show blkC N__law_right (defScope s__law_right) _ _ = true; decide +kernel)) (tg_name (by decide)) (fun _ _ _ _ _ => (pg_name (i := 6) sc.nd rfl (.inl (by kernel_rfl)) (.inr (by kernel_rfl)))) (fun i hi => by simp only [List.map, List.mem_cons, List.not_mem_nil, or_false] at hi; subst hi; rfl) (ik_seq (ek_b (bk_tup (bak_cons (bk_str (bak_cons (bk_str (bak_cons (bk_str (bak_cons (bk_str (bak_nil ⟨[(.str ("even" : Str)), (.str ("odd" : Str)), (.str ("house" : Str)), (.str ("nobody" : Str))], rfl, (by show 4 ≤ sizeLine; decide), ⟨_, rfl, ⟨_, .inl rfl, ⟨[("even" : Str), ("odd" : Str), ("house" : Str), ("nobody" : Str)], (fun (x30 : Str) => ((m_how_many (r3, r4.1).1 x30 r29.1).bind fun r31 => (some r31))), (fun (ys32 : List Int) => (if (true ^^ decide ((List.sum ys32) = r29.1)) then (some (false, r29.2)) else (joinE (fun r : Bool × Deck => some r) (forF (fun (s33 : Unit) (x34 : (Str × Int)) => (((m_how_many (r3, r4.1).1 x34.1 (r29.1 + (1 : Int))).bind fun r35 => ((reprD (.int (r35 - x34.2))).bind fun v36 => ((m__law_said r2.1 r29.1).bind fun r37 => ((reprD (.int (if (false ^^ seq r37 x34.1) then (1 : Int) else 0))).bind fun v38 => (if (true ^^ seq v36 v38) then (some (Fl.rt (false, r29.2))) else (some (Fl.nx ()))))))) : Option (Fl (Unit) (Bool × Deck) (Unit)))) (List.zip [("even" : Str), ("odd" : Str), ("house" : Str), ("nobody" : Str)] ys32) ()) (fun (s33 : Unit) => ((m_Rule___str__ (r3, r4.1).1).bind fun r39 => (some ((false ^^ seq r39 r5), r29.2))))))), (fun (x30 : Str) => [some (odeck r29.2), some (.v (eplan r2.1)), some (.v ((eRule CR) (r3, r4.1).1)), some (.v (.int (r3, r4.1).2)), some (.v (.str r5)), some (.v (.lst (List.map D.str ys9))), some (.v (.str x30)), none, some (.v (.int r29.1))]), rfl, ⟨rfl, ⟨rfl, ⟨rfl, ⟨rfl, ⟨rfl, ⟨rfl, ⟨rfl, trivial⟩⟩⟩⟩⟩⟩⟩, rfl, fun x30 => (dg_name (i := 6)), fun x30 _ _ _ _ _ => (ek_call C_how_many hr hg takes00 (ak_cons (ek_b (bk_var 2 (o := (.v ((eRule CR) (r3, r4.1).1))) ⟨_, rfl, (ak_cons (ek_b (bk_var 6 (o := (.v (.str x30))) ⟨_, rfl, (ak_cons (ek_b (bk_var 8 (o := (.v (.int r29.1))) ⟨_, rfl, (ak_nil ⟨((r3, r4.1).1, x30, r29.1), _, rfl, rfl, fun r31 => ⟨r31, rfl, rfl, ⟨rfl, ⟨rfl, ⟨rfl, ⟨rfl, ⟨rfl, ⟨rfl, ⟨rfl, trivial⟩⟩⟩⟩⟩⟩⟩⟩⟩)⟩ (hv := Or.inr (Or.inl (by kernel_rfl))))))⟩ (hv := Or.inl (by kernel_rfl)))))⟩ (hv := Or.inr (Or.inl (by kernel_rfl)))))) (hg := by show _ = _; kernel_rfl)), fun x30 => ⟨rfl, ⟨rfl, ⟨rfl, ⟨rfl, ⟨rfl, ⟨rfl, ⟨rfl, trivial⟩⟩⟩⟩⟩⟩⟩, fun x30 => ⟨rfl, ⟨rfl, ⟨rfl, ⟨rfl, ⟨rfl, ⟨rfl, ⟨rfl, ⟨rfl, trivial⟩⟩⟩⟩⟩⟩⟩⟩, fun ys32 => (lk_cons (sk_if (tk_cmpB (fun _ _ ha hb => tj_ne hu ha hb) (bk_cb (fun _ ha => ej_sum rfl b_sum ha) (bak_cons (bk_var 9 (o := (.v (.lst (List.map D.int ys32)))) (bak_nil (rl_sum as_v (bk_var 8 (o := (.v (.int r29.1))) (rk_eqI ⟨_, rfl, ⟨(some (false, r29.2)), (joinE (fun r : Bool × Deck => some r) (forF (fun (s33 : Unit) (x34 : (Str × Int)) => (((m_how_many (r3, r4.1).1 x34.1 (r29.1 + (1 : Int))).bind fun r35 => ((reprD (.int (r35 - x34.2))).bind fun v36 => ((m__law_said r2.1 r29.1).bind fun r37 => ((reprD (.int (if (false ^^ seq r37 x34.1) then (1 : Int) else 0))).bind fun v38 => (if (true ^^ seq v36 v38) then (some (Fl.rt (false, r29.2))) else (some (Fl.nx ()))))))) : Option (Fl (Unit) (Bool × Deck) (Unit)))) (List.zip [("even" : Str), ("odd" : Str), ("house" : Str), ("nobody" : Str)] ys32) ()) (fun (s33 : Unit) => ((m_Rule___str__ (r3, r4.1).1).bind fun r39 => (some ((false ^^ seq r39 r5), r29.2))))), rfl, fun _ => (lk_one (sk_ret (ek_b (bk_bl ⟨_, rfl, ⟨(false, r29.2), _, rfl, rfl, ⟨.inr ⟨by decide, rfl⟩, trivial⟩⟩⟩)))), fun _ => (lk_nil (lk_cons (sk_for (up := (fun r : Bool × Deck => some r)) (fun (s33 : Unit) => [some (odeck r29.2), some (.v (eplan r2.1)), some (.v ((eRule CR) (r3, r4.1).1)), none, some (.v (.str r5)), none, none, none, some (.v (.int r29.1))]) (eP2 D.str D.int) hp rfl (ik_zipB true false b_zip (ak_cons (ek_b (bk_tup (bak_cons (bk_str (bak_cons (bk_str (bak_cons (bk_str (bak_cons (bk_str (bak_nil ⟨[(.str ("even" : Str)), (.str ("odd" : Str)), (.str ("house" : Str)), (.str ("nobody" : Str))], rfl, (by show 4 ≤ sizeLine; decide), ⟨_, rfl, (ak_cons (ek_b (bk_var 9 (o := (.v (.lst (List.map D.int ys32)))) ⟨_, rfl, (ak_nil ⟨List.map D.str [("even" : Str), ("odd" : Str), ("house" : Str), ("nobody" : Str)], List.map D.int ys32, rfl, ⟨(List.zip [("even" : Str), ("odd" : Str), ("house" : Str), ("nobody" : Str)] ys32), (), (fun (s33 : Unit) (x34 : (Str × Int)) => (((m_how_many (r3, r4.1).1 x34.1 (r29.1 + (1 : Int))).bind fun r35 => ((reprD (.int (r35 - x34.2))).bind fun v36 => ((m__law_said r2.1 r29.1).bind fun r37 => ((reprD (.int (if (false ^^ seq r37 x34.1) then (1 : Int) else 0))).bind fun v38 => (if (true ^^ seq v36 v38) then (some (Fl.rt (false, r29.2))) else (some (Fl.nx ()))))))) : Option (Fl (Unit) (Bool × Deck) (Unit)))), (fun (s33 : Unit) => ((m_Rule___str__ (r3, r4.1).1).bind fun r39 => (some ((false ^^ seq r39 r5), r29.2)))), zip_map, ⟨rfl, ⟨rfl, ⟨rfl, ⟨rfl, ⟨rfl, trivial⟩⟩⟩⟩⟩, rfl, fun s33 x34 => (gk_tup rfl (gsk_cons (gk_name 6 sc.nd (gsk_cons (gk_name 10 sc.nd (gsk_nil (lk_one (sk_if (tk_cmp (fun _ _ ha hb => tj_ne hu ha hb) (ek_cb (fun _ ha => ej_repr hg hu b_repr ha) (ak_cons (ek_op (fun _ _ => ej_sub) (ek_call C_how_many hr hg tk (ak_cons (ek_b (bk_var 2 (o := (.v ((eRule CR) (r3, r4.1).1))) ⟨_, rfl, (ak_cons (ek_b (bk_var 6 (o := (.v (.str x34.1))) ⟨_, rfl, (ak_cons (ek_b (bk_op (fun _ _ => ej_add) (bk_var 8 (o := (.v (.int r29.1))) (bk_int (rk_addI ⟨_, rfl, (ak_nil ⟨((r3, r4.1).1, x34.1, (r29.1 + (1 : Int))), _, rfl, rfl, fun r35 => (ek_b (bk_var 10 (o := (.v (.int x34.2))) ⟨_, rfl, (rk_subI (ak_nil (rl_repr fun v36 => (ek_cb (fun _ ha => ej_repr hg hu b_repr ha) (ak_cons (ek_cb (fun _ ha => ej_intc b_int ha) (ak_cons (ek_op (fun _ _ ha hb => ej_eq hu ha hb) (ek_call C__law_said hr hg tk (ak_cons (ek_b (bk_var 1 (o := (.v (eplan r2.1))) ⟨_, rfl, (ak_cons (ek_b (bk_var 8 (o := (.v (.int r29.1))) ⟨_, rfl, (ak_nil ⟨(r2.1, r29.1), _, rfl, rfl, fun r37 => (ek_b (bk_var 6 (o := (.v (.str x34.1))) ⟨_, rfl, (rk_eqS (ak_nil (rl_intB (ak_nil (rl_repr fun v38 => (rk_eqS ⟨_, rfl, ⟨(some (Fl.rt (false, r29.2))), (some (Fl.nx ())), rfl, fun _ => (lk_one (sk_ret (ek_b (bk_bl ⟨_, rfl, ⟨_, rfl, ⟨(false, r29.2), _, rfl, rfl, ⟨.inr ⟨by decide, rfl⟩, trivial⟩⟩⟩⟩)))), fun _ => (lk_nil ⟨_, rfl, ⟨rfl, ⟨rfl, ⟨rfl, ⟨rfl, ⟨rfl, trivial⟩⟩⟩⟩⟩⟩)⟩⟩))))))⟩ (hv := Or.inr (Or.inl (by kernel_rfl)))))⟩)⟩ (hv := Or.inr (Or.inl (by kernel_rfl))))))⟩ (hv := Or.inr (Or.inl (by kernel_rfl)))))))))))))))⟩))⟩)⟩)) (hv := Or.inr (Or.inl (by kernel_rfl)))))))⟩ (hv := Or.inr (Or.inl (by kernel_rfl))))))⟩ (hv := Or.inr (Or.inl (by kernel_rfl)))))))))))))))) (hx := Or.inr (by kernel_rfl))))), fun s33 => (lk_one (sk_ret (ek_op (fun _ _ ha hb => ej_eq hu ha hb) (ek_strI (fun r => r) C_Rule___str__ hr hg b_str (bk_var 2 (o := (.v ((eRule CR) (r3, r4.1).1))) ⟨_, (r3, r4.1).1, fun r39 => (some ((false ^^ seq r39 r5), r29.2)), rfl, rfl, rfl, fun r39 => ⟨rfl, (ek_b (bk_var 4 (o := (.v (.str r5))) ⟨_, rfl, (rk_eqS ⟨((false ^^ seq r39 r5), r29.2), _, rfl, rfl, ⟨.inr ⟨by decide, rfl⟩, trivial⟩⟩)⟩))⟩⟩ (hv := Or.inr (Or.inl (by kernel_rfl))))))))⟩⟩)⟩)))⟩⟩))))))))))))))))⟩⟩) (hv := Or.inr (Or.inl (by kernel_rfl))))))))))))⟩⟩⟩⟩)))))))))))))))⟩⟩)⟩))⟩)⟩)))))⟩))))))))⟩)⟩))))))))⟩)))))))⟩)))))))) (hx := Or.inr (by kernel_rfl))))⟩⟩⟩⟩))))))))))))))⟩)⟩⟩)⟩))))))⟩⟩ (hv := Or.inr (Or.inl (by kernel_rfl))))))))))) (hx := Or.inr (by kernel_rfl)))))⟩)⟩)⟩))))))⟩)⟩ (hv := Or.inr (Or.inl (by kernel_rfl))))))))))))⟩⟩)⟩)))⟩)⟩⟩))))))))))))))))))))))))))) (hx := Or.inr (by kernel_rfl))))
abbrev s__law_deck : Stmt := top 50
abbrev N__law_deck : List Str := ["_law_script", "_law_cells", "_law_blend", "_law_cell"]
theorem sc__law_deck : FnScope N__law_deck ["_law_script"] (defScope s__law_deck) := ⟨rfl, rfl, rfl, by decide +kernel, rfl, by decide +kernel, by decide +kernel⟩
noncomputable def m__law_deck (x__law_script : (List Int)) : Option (Deck) := ((forO (fun (s1 : Int) (x2 : Int) => ((mulI s1 (48271 : Int)).bind fun v3 => ((modI x2 (2147483629 : Int)).bind fun v4 => ((modI ((v3 + v4) + (47 : Int)) (2147483587 : Int)).bind fun v5 => (some v5))))) (DL.cutD x__law_script none (some (63 : Int))) (88460014 : Int)).bind (fun (s1 : Int) => (some (⟨(List.reverse (DL.cutD x__law_script none (some (63 : Int)))), s1, (0 : Int)⟩ : Deck))))
abbrev ea__law_deck : ((List Int)) → List O := fun a => [(.v (.scr (List.map D.int a)))]
noncomputable abbrev mf__law_deck : ((List Int)) → Option (Deck) := fun a => m__law_deck a
abbrev er__law_deck : ((List Int)) → (Deck) → Out := fun a r => .ret (odeck r) [(.v (.scr (List.map D.int a)))]
theorem ok__law_deck {P : Program} {w : World} {K : Fz} {mg : Str → Option Value} {base : Heap} {f : Addr} {fd : FuncData} (F : FunD K "_law_deck" "_law_deck" (defArgs s__law_deck) (defBody s__law_deck) (defScope s__law_deck) [] [] f fd) (b_int : mg "int" = none) (b_list : mg "list" = none) : DFn GG P w K mg base 1 f fd ["_law_script"] (bSp (ea__law_deck) mf__law_deck (er__law_deck)) := by
  obtain ⟨oc, od, dV, kV, doc, pm, an, cdv, ct, osl, e1, e2, e3, _, _⟩ := F.ex
  refine DFn.mkB [] (fun _ _ h => h) ⟨oc, od, dV, kV, doc, pm, an, cdv, ct, osl, e1, e2, e3⟩ sc__law_deck (fun _ => rfl) ?_
  intro cdv A outer s H E hr hg a
  generalize a = x__law_script
  have sc := sc__law_deck
  have tk : Takes (cxOf (L2.CX P w) P w K mg base N__law_deck "_law_deck" (defScope s__law_deck) f cdv A outer s H E) (WB E) := takes_of rfl rfl rfl rfl
  have hp : PassesOwn (model P w) (A.deeper (envOfC "_law_deck" (defScope s__law_deck) s.heap.objs.size f cdv)) (cxOf (L2.CX P w) P w K mg base N__law_deck "_law_deck" (defScope s__law_deck) f cdv A outer s H E).env (cxOf (L2.CX P w) P w K mg base N__law_deck "_law_deck" (defScope s__law_deck) f cdv A outer s H E).xe := passes_of rfl
  have hu := hr.units
  have hu1 := hu_of hr
  exact (lk_cons (sk_par2 1 2 rfl sc.nd (ak_cons (ek_b (bk_cb (fun _ ha => ej_list b_list ha) (bak_cons (bk_sl (bk_var 0 (o := (.v (.scr (List.map D.int x__law_script)))) (ok_none (ok_some (bk_int ⟨_, rfl, ⟨_, sl_scr, (bak_nil (rl_lstL as_v ⟨_, rfl, (ak_cons (ek_b (bk_int ⟨_, rfl, (ak_nil ⟨_, _, rfl, (lk_cons (sk_forO (fun (s1 : Int) => [none, some (.v (.lst (List.map D.int (DL.cutD x__law_script none (some (63 : Int)))))), some (.v (.int s1))]) D.int hp rfl (ik_seq (ek_b (bk_var 1 (o := (.v (.lst (List.map D.int (DL.cutD x__law_script none (some (63 : Int))))))) ⟨_, rfl, ⟨_, .inr (.inl rfl), ⟨(DL.cutD x__law_script none (some (63 : Int))), (88460014 : Int), (fun (s1 : Int) (x2 : Int) => ((mulI s1 (48271 : Int)).bind fun v3 => ((modI x2 (2147483629 : Int)).bind fun v4 => ((modI ((v3 + v4) + (47 : Int)) (2147483587 : Int)).bind fun v5 => (some v5))))), (fun (s1 : Int) => (some (⟨(List.reverse (DL.cutD x__law_script none (some (63 : Int)))), s1, (0 : Int)⟩ : Deck))), rfl, ⟨rfl, ⟨rfl, trivial⟩⟩, rfl, fun s1 x2 => (gk_name 3 sc.nd (lk_one (sk_set 2 sc.nd (ek_b (bk_op (fun _ _ => ej_mod) (bk_cb (fun _ ha => ej_intc b_int ha) (bak_cons (bk_op (fun _ _ => ej_add) (bk_op (fun _ _ => ej_add) (bk_op (fun _ _ => ej_mul) (bk_var 2 (o := (.v (.int s1))) (bk_int (rk_mulI fun v3 => (bk_op (fun _ _ => ej_mod) (bk_cb (fun _ ha => ej_intc b_int ha) (bak_cons (bk_var 3 (o := (.v (.int x2))) (bak_nil (rl_intI (bk_int (rk_modI fun v4 => (rk_addI (bk_int (rk_addI (bak_nil (rl_intI (bk_int (rk_modI fun v5 => ⟨_, rfl, ⟨_, rfl, ⟨rfl, ⟨rfl, trivial⟩⟩⟩⟩)))))))))))))))))))))))))))), fun s1 => (lk_one (sk_ret (ek_disp [.inr "cells", .inr "blend", .inr "draws"] (bk_str ⟨_, rfl, rfl, (ek_revM D.int (ek_b (bk_var 1 (o := (.v (.lst (List.map D.int (DL.cutD x__law_script none (some (63 : Int))))))) ⟨_, rfl, ⟨_, as_v, (bk_str ⟨_, rfl, rfl, (ek_b (bk_var 2 (o := (.v (.int s1))) ⟨_, rfl, (bk_str ⟨_, rfl, rfl, (ek_b (bk_int ⟨_, rfl, ⟨(⟨(List.reverse (DL.cutD x__law_script none (some (63 : Int)))), s1, (0 : Int)⟩ : Deck), _, rfl, rfl, ⟨.inl ⟨_, rfl, rfl⟩, trivial⟩⟩⟩))⟩)⟩))⟩)⟩⟩)))⟩))))⟩⟩⟩)))))⟩)⟩)))⟩))⟩⟩)))))))))))
abbrev s_law : Stmt := top 59
abbrev N_law : List Str := ["_law_script", "_law_deck_here", "_law_go"]
theorem sc_law : FnScope N_law ["_law_script"] (defScope s_law) := ⟨rfl, rfl, rfl, by decide +kernel, rfl, by decide +kernel, by decide +kernel⟩
noncomputable def m_law (x__law_script : (List Int)) : Option (Bool) := ((m__law_deck x__law_script).bind fun r1 => ((rangeO 0 (4 : Int)).bind fun xs2 => (joinE (fun r : Bool => some r) (forF (fun (s3 : Deck) (x4 : Int) => (((m__law_right s3).bind fun r5 => (if (!r5.1) then (some (Fl.rt false)) else (some (Fl.nx r5.2)))) : Option (Fl (Deck) (Bool) (Deck)))) xs2 r1) (fun (s3 : Deck) => (some true)))))
abbrev ea_law : ((List Int)) → List O := fun a => [(.v (.scr (List.map D.int a)))]
noncomputable abbrev mf_law : ((List Int)) → Option (Bool) := fun a => m_law a
abbrev er_law : ((List Int)) → (Bool) → Out := fun a r => .ret (.v (.bl r)) [(.v (.scr (List.map D.int a)))]
theorem ok_law {P : Program} {w : World} {K : Fz} {mg : Str → Option Value} {base : Heap} {f : Addr} {fd : FuncData} (F : FunD K "law" "law" (defArgs s_law) (defBody s_law) (defScope s_law) [] [] f fd) (C__law_deck : Cal P w K mg base 1 "_law_deck" ["_law_script"] (bSp (ea__law_deck) mf__law_deck (er__law_deck))) (C__law_right : Cal P w K mg base 7 "_law_right" ["_law_deck_here"] (bSp (ea__law_right) mf__law_right (er__law_right))) (b_range : mg "range" = none) : DFn GG P w K mg base 8 f fd ["_law_script"] (bSp (ea_law) mf_law (er_law)) := by
  obtain ⟨oc, od, dV, kV, doc, pm, an, cdv, ct, osl, e1, e2, e3, _, _⟩ := F.ex
  refine DFn.mkB [] (fun _ _ h => h) ⟨oc, od, dV, kV, doc, pm, an, cdv, ct, osl, e1, e2, e3⟩ sc_law (fun _ => rfl) ?_
  intro cdv A outer s H E hr hg a
  generalize a = x__law_script
  have sc := sc_law
  have tk : Takes (cxOf (L2.CX P w) P w K mg base N_law "law" (defScope s_law) f cdv A outer s H E) (WB E) := takes_of rfl rfl rfl rfl
  have hp : PassesOwn (model P w) (A.deeper (envOfC "law" (defScope s_law) s.heap.objs.size f cdv)) (cxOf (L2.CX P w) P w K mg base N_law "law" (defScope s_law) f cdv A outer s H E).env (cxOf (L2.CX P w) P w K mg base N_law "law" (defScope s_law) f cdv A outer s H E).xe := passes_of rfl
  have hu := hr.units
  have hu1 := hu_of hr
  exact (lk_cons (sk_set 1 sc.nd (ek_call C__law_deck hr hg tk (ak_cons (ek_b (bk_var 0 (o := (.v (.scr (List.map D.int x__law_script)))) ⟨_, rfl, (ak_nil ⟨x__law_script, _, rfl, rfl, fun r1 => (lk_cons (sk_for (up := (fun r : Bool => some r)) (fun (s3 : Deck) => [none, some (odeck s3)]) D.int hp rfl (ik_range1 b_range (ak_cons (ek_b (bk_int ⟨_, rfl, (ak_nil ⟨_, _, rfl, rfl, fun xs2 => ⟨xs2, r1, (fun (s3 : Deck) (x4 : Int) => (((m__law_right s3).bind fun r5 => (if (!r5.1) then (some (Fl.rt false)) else (some (Fl.nx r5.2)))) : Option (Fl (Deck) (Bool) (Deck)))), (fun (s3 : Deck) => (some true)), rfl, ⟨rfl, trivial⟩, rfl, fun s3 x4 => (gk_name 2 sc.nd (lk_one (sk_if (tk_not (tk_e (ek_call C__law_right hr hg tk (ak_mov 1 (o := (odeck s3)) (ak_nil ⟨s3, _, rfl, rfl, fun r5 => ⟨_, rfl, ⟨(some (Fl.rt false)), (some (Fl.nx r5.2)), rfl, fun _ => (lk_one (sk_ret (ek_b (bk_bl ⟨_, rfl, ⟨_, rfl, ⟨false, _, rfl, rfl, ⟨.inl ⟨_, rfl, rfl⟩, trivial⟩⟩⟩⟩)))), fun _ => (lk_nil ⟨_, rfl, ⟨rfl, trivial⟩⟩)⟩⟩⟩)))))))), fun s3 => (lk_one (sk_ret (ek_b (bk_bl ⟨_, rfl, ⟨true, _, rfl, rfl, ⟨.inl ⟨_, rfl, rfl⟩, trivial⟩⟩⟩))))⟩⟩)⟩))))))⟩)⟩))))))
end WK

/-! plain facts: numbers, decks -/
namespace WK
open PySem PySem.Spec PyProof.Rows L2 DL B
theorem mulI_r {i j : Int} (h : j.natAbs < 2 ^ 64) : mulI i j = some (i * j) := if_pos (.inr (.inl h))
theorem mulI_l {i j : Int} (h : i.natAbs < 2 ^ 64) : mulI i j = some (i * j) := if_pos (.inl h)
theorem modI_ok {i j : Int} (h : j ≠ 0) : modI i j = some (i.fmod j) := if_neg h
theorem divI_ok {i j : Int} (h : 0 < j) (hl : j.natAbs.log2 < 9000) : divI i j = some (i / j) := if_pos ⟨h, hl⟩
theorem fmod_lt {i j : Int} (h : 0 < j) : i.fmod j < j := Int.fmod_lt_of_pos i h
theorem fmod_nn {i j : Int} (h : 0 < j) : 0 ≤ i.fmod j := Int.fmod_nonneg_of_pos i h
theorem pow1018 : powI (10 : Int) (18 : Int) = some (10 ^ 18) := by decide +kernel
structure DeckOk (n : Nat) (d : Deck) : Prop where
  b0 : 0 ≤ d.blend
  d0 : 0 ≤ d.draws
  dn : d.draws ≤ n
  cl : d.cells.length ≤ 63
/-- the last steps of a draw -/
theorem mixed_ok (dd : Deck) {draws c many : Int} (h0 : 0 ≤ draws) (hn : draws < 2 ^ 60) (h1 : 1 ≤ many) : ∃ r, ((modI c (2147483629 : Int)).bind fun v7 => ((mulI (60167 : Int) draws).bind fun v8 => ((mulI v8 draws).bind fun v9 => ((mulI ((v7 + v9) + (47 : Int)) (40692 : Int)).bind fun v10 => ((modI v10 (2147483647 : Int)).bind fun v11 => ((mulI v11 v11).bind fun v12 => ((mulI (69621 : Int) draws).bind fun v13 => ((modI ((v12 + v13) + (47 : Int)) (2147483587 : Int)).bind fun v14 => ((mulI v14 (39373 : Int)).bind fun v15 => ((modI v15 (2147483563 : Int)).bind fun v16 => ((divI v16 (64 : Int)).bind fun v17 => ((modI v17 many).bind fun v18 => (some (v18, dd)))))))))))))) = some (r, dd) ∧ 0 ≤ r ∧ r < many := by
  have e1 : draws.natAbs < 2 ^ 64 := by omega
  rw [modI_ok (by decide), Option.bind_some, mulI_r e1, Option.bind_some, mulI_r e1, Option.bind_some, mulI_r (by decide), Option.bind_some, modI_ok (by decide), Option.bind_some]
  have e2 : (((c.fmod 2147483629 + 60167 * draws * draws + 47) * 40692).fmod 2147483647).natAbs < 2 ^ 64 := by
    have a := fmod_lt (i := (c.fmod 2147483629 + 60167 * draws * draws + 47) * 40692) (j := 2147483647) (by decide)
    have b := fmod_nn (i := (c.fmod 2147483629 + 60167 * draws * draws + 47) * 40692) (j := 2147483647) (by decide)
    omega
  rw [mulI_r e2, Option.bind_some, mulI_r e1, Option.bind_some, modI_ok (by decide), Option.bind_some, mulI_r (by decide), Option.bind_some, modI_ok (by decide), Option.bind_some, divI_ok (by decide) (by decide), Option.bind_some, modI_ok (by omega), Option.bind_some]
  exact ⟨_, rfl, fmod_nn (by omega), fmod_lt (by omega)⟩
theorem eqD_ints (a b : List Int) : eqD (.lst (a.map D.int)) (.lst (b.map D.int)) = some (decide (a = b)) := by
  unfold eqD
  rw [okB_ok.mpr (okL_ints a), okB_ok.mpr (okL_ints b), eqL_ints]
  rfl
theorem popO_ok {xs : List Int} (h : xs ≠ []) : ∃ x, popO xs = some (x, xs.dropLast) := by
  unfold popO
  have hl : xs.length - 1 < xs.length := by
    have := List.length_pos_iff.mpr h
    omega
  rw [List.getElem?_eq_getElem hl]
  exact ⟨_, rfl⟩
theorem szl : (64 : Nat) < sizeLine := by decide +kernel
theorem draw_ok {n : Nat} {d : Deck} (h : DeckOk n d) (hn : n < 2 ^ 59) {many : Int} (h1 : 1 ≤ many) (h2 : many.natAbs.log2 < 9000) :
    ∃ r d', m__law_draw d many = some (r, d') ∧ 0 ≤ r ∧ r < many ∧ DeckOk (n + 1) d' := by
  obtain ⟨cells, blend, draws⟩ := d
  obtain ⟨b0, d0, dn, cl⟩ := h
  dsimp only at b0 d0 dn cl
  unfold m__law_draw
  dsimp only
  rw [eqD_ints, Option.bind_some]
  have hd0 : 0 ≤ draws + 1 := by omega
  have hd1 : draws + 1 < 2 ^ 60 := by omega
  by_cases hc : cells = []
  · subst hc
    rw [decide_eq_true rfl]
    obtain ⟨r, e, r0, r1⟩ := mixed_ok ⟨[], blend, draws + 1⟩ (draws := draws + 1) (c := blend) hd0 hd1 h1
    exact ⟨r, _, e, r0, r1, b0, hd0, by push_cast; omega, by simp⟩
  · rw [decide_eq_false hc]
    obtain ⟨x, hx⟩ := popO_ok hc
    have hl : cells.dropLast.length ≤ 62 := by
      rw [List.length_dropLast]
      omega
    show ∃ r d', ((popO cells).bind _) = some (r, d') ∧ _
    rw [hx, Option.bind_some, pow1018, Option.bind_some]
    dsimp only
    by_cases hb : x ≥ 10 ^ 18
    · rw [decide_eq_true hb, if_pos rfl, divI_ok (by omega) h2, Option.bind_some]
      have hp : pushO cells.dropLast (x / many) = some (cells.dropLast ++ [x / many]) := if_pos (by have := szl; omega)
      rw [hp, Option.bind_some, modI_ok (by omega), Option.bind_some]
      exact ⟨_, _, rfl, fmod_nn (by omega), fmod_lt (by omega), b0, hd0, by push_cast; omega, by rw [List.length_append]; simp; omega⟩
    · rw [decide_eq_false hb, if_neg Bool.false_ne_true]
      obtain ⟨r, e, r0, r1⟩ := mixed_ok ⟨cells.dropLast, blend, draws + 1⟩ (draws := draws + 1) (c := x + blend) hd0 hd1 h1
      exact ⟨r, _, e, r0, r1, b0, hd0, by push_cast; omega, show cells.dropLast.length ≤ 63 by omega⟩
theorem DeckOk.up {n m : Nat} {d : Deck} (h : DeckOk n d) (hl : n ≤ m) : DeckOk m d := ⟨h.b0, h.d0, by have := h.dn; omega, h.cl⟩
theorem atO_ok {A : Type} {xs : List A} {i : Int} (h0 : 0 ≤ i) (h1 : i < xs.length) : ∃ x, atO xs i = some x ∧ x ∈ xs ∧ xs[i.toNat]? = some x := by
  have hl : i.toNat < xs.length := by omega
  refine ⟨xs[i.toNat], ?_, List.getElem_mem hl, List.getElem?_eq_getElem hl⟩
  unfold atO L2.atI L2.ixN
  rw [if_pos h0, if_pos (by exact_mod_cast h1), Option.bind_some, List.getElem?_eq_getElem hl]
theorem pick_ok {n : Nat} {d : Deck} (h : DeckOk n d) (hn : n < 2 ^ 59) {xs : List Int} (hx : xs ≠ []) (hl : xs.length < 2 ^ 64) : ∃ x d', m__law_pick d xs = some (x, d') ∧ x ∈ xs ∧ DeckOk (n + 1) d' := by
  have hp := List.length_pos_iff.mpr hx
  obtain ⟨r, d', e, r0, r1, k⟩ := draw_ok h hn (many := (xs.length : Int)) (by omega) (by
    rw [Int.natAbs_natCast]
    have := (Nat.log2_lt (by omega : xs.length ≠ 0)).mpr hl
    omega)
  obtain ⟨x, e2, mx, _⟩ := atO_ok r0 r1
  unfold m__law_pick
  rw [e, Option.bind_some, e2]
  exact ⟨x, d', rfl, mx, k⟩
theorem pickS_ok {n : Nat} {d : Deck} (h : DeckOk n d) (hn : n < 2 ^ 59) {xs : List Str} (hx : xs ≠ []) (hl : xs.length < 2 ^ 64) : ∃ x d', m__law_pick_s d xs = some (x, d') ∧ x ∈ xs ∧ DeckOk (n + 1) d' := by
  have hp := List.length_pos_iff.mpr hx
  obtain ⟨r, d', e, r0, r1, k⟩ := draw_ok h hn (many := (xs.length : Int)) (by omega) (by
    rw [Int.natAbs_natCast]
    have := (Nat.log2_lt (by omega : xs.length ≠ 0)).mpr hl
    omega)
  obtain ⟨x, e2, mx, _⟩ := atO_ok r0 r1
  unfold m__law_pick_s
  rw [e, Option.bind_some, e2]
  exact ⟨x, d', rfl, mx, k⟩
/-- a walk over a list that never fails -/
theorem forO_some {S A : Type} (g : S → A → S) {f : S → A → Option S} (h : ∀ s x, f s x = some (g s x)) : ∀ (xs : List A) (s : S), forO f xs s = some (xs.foldl g s)
  | [], _ => rfl
  | x :: xs, s => by
    rw [forO, h, Option.bind_some, forO_some g h xs]
    rfl
theorem rngI_len (lo : Int) (n : Nat) : (rngI lo n).length = n := by simp [rngI]
theorem tens_fold : ∀ (xs : List Int) (s : Int), xs.foldl (fun s _ => s * 10) s = s * 10 ^ xs.length
  | [], s => by simp
  | x :: xs, s => by
    rw [List.foldl_cons, tens_fold xs, List.length_cons, Int.pow_succ, Int.mul_assoc, Int.mul_comm 10]
theorem tens_ok {k : Nat} (hk : k < 2 ^ 60) : m__law_tens (k : Int) = some (10 ^ k) := by
  unfold m__law_tens
  have e : rangeO 0 (k : Int) = some (rngI 0 k) := by
    unfold rangeO
    rw [if_pos (by omega)]
    simp
  rw [e, Option.bind_some, forO_some (fun s _ => s * 10) (fun s x => by rw [mulI_r (by decide)]; rfl), Option.bind_some, tens_fold, rngI_len, Int.one_mul]
theorem pow109 : powI (10 : Int) (9 : Int) = some (10 ^ 9) := by decide +kernel
theorem great_ok {n : Nat} {d : Deck} (h : DeckOk n d) (hn : n + 1 < 2 ^ 59) : ∃ x d', m__law_great d = some (x, d') ∧ 0 ≤ x ∧ x < 10 ^ 300 ∧ DeckOk (n + 2) d' := by
  unfold m__law_great
  have t1 := tens_ok (k := 299) (by decide)
  have t2 := tens_ok (k := 150) (by decide)
  obtain ⟨r, d1, e1, r0, r1, k1⟩ := draw_ok h (by omega) (many := 10 ^ 9) (by decide) (by decide)
  obtain ⟨q, d2, e2, q0, q1, k2⟩ := draw_ok k1 hn (many := 10 ^ 9) (by decide) (by decide)
  rw [show (299 : Int) = ((299 : Nat) : Int) from rfl, t1, Option.bind_some, pow109, Option.bind_some, e1, Option.bind_some, show (150 : Int) = ((150 : Nat) : Int) from rfl, t2, Option.bind_some, mulI_l (by omega), Option.bind_some, Option.bind_some, e2, Option.bind_some]
  refine ⟨_, d2, rfl, ?_, ?_, k2⟩
  · dsimp only
    have : (0 : Int) ≤ r * 10 ^ 150 := Int.mul_nonneg r0 (by decide)
    have h3 : (0 : Int) ≤ 10 ^ 299 := by decide
    omega
  · dsimp only
    have : r * 10 ^ 150 ≤ 10 ^ 9 * 10 ^ 150 := Int.mul_le_mul_of_nonneg_right (by omega) (by decide)
    have h4 : (10 : Int) ^ 299 + 10 ^ 9 * 10 ^ 150 + 10 ^ 9 < 10 ^ 300 := by decide +kernel
    omega
end WK

/-! plain facts: loops, the deck, plans -/
namespace WK
open PySem PySem.Spec PyProof.Rows L2 DL B
theorem forO_inv {S A : Type} {f : S → A → Option S} (I : Nat → S → Prop) : ∀ (xs : List A) (i : Nat) (s : S), I i s → (∀ j s x, x ∈ xs → j < i + xs.length → I j s → ∃ s', f s x = some s' ∧ I (j + 1) s') → ∃ s', forO f xs s = some s' ∧ I (i + xs.length) s'
  | [], i, s, h, _ => ⟨s, rfl, h⟩
  | x :: xs, i, s, h, k => by
    obtain ⟨s1, e1, h1⟩ := k i s x List.mem_cons_self (by simp) h
    obtain ⟨s2, e2, h2⟩ := forO_inv I xs (i + 1) s1 h1 fun j s y m hj => k j s y (List.mem_cons_of_mem _ m) (by rw [List.length_cons]; omega)
    refine ⟨s2, by rw [forO, e1, Option.bind_some]; exact e2, ?_⟩
    rw [List.length_cons, show i + (xs.length + 1) = i + 1 + xs.length by omega]
    exact h2
theorem mapS_inv {S A β : Type} {f : S → A → Option (β × S)} (I : Nat → S → Prop) (P : β → Prop) : ∀ (xs : List A) (i : Nat) (s : S), I i s → (∀ j s x, x ∈ xs → j < i + xs.length → I j s → ∃ y s', f s x = some (y, s') ∧ P y ∧ I (j + 1) s') →
    ∃ ys s', mapS f xs s = some (ys, s') ∧ ys.length = xs.length ∧ (∀ y ∈ ys, P y) ∧ I (i + xs.length) s'
  | [], i, s, h, _ => ⟨[], s, rfl, rfl, (fun _ m => by cases m), h⟩
  | x :: xs, i, s, h, k => by
    obtain ⟨y, s1, e1, p1, h1⟩ := k i s x List.mem_cons_self (by simp) h
    obtain ⟨ys, s2, e2, l2, p2, h2⟩ := mapS_inv I P xs (i + 1) s1 h1 fun j s y m hj => k j s y (List.mem_cons_of_mem _ m) (by rw [List.length_cons]; omega)
    refine ⟨y :: ys, s2, by rw [mapS, e1, Option.bind_some, e2]; rfl, by simp [l2], fun z m => ?_, ?_⟩
    · rcases List.mem_cons.mp m with rfl | m
      · exact p1
      · exact p2 z m
    · rw [List.length_cons, show i + (xs.length + 1) = i + 1 + xs.length by omega]
      exact h2
theorem mapSZ_inv {S A β : Type} {f : S → A → Option (β × S)} (I : Nat → S → Prop) (P : β → Prop) (xs : List A) (hl : xs.length ≤ sizeLine) (s : S) (h : I 0 s) (k : ∀ j s x, x ∈ xs → j < xs.length → I j s → ∃ y s', f s x = some (y, s') ∧ P y ∧ I (j + 1) s') :
    ∃ ys s', mapSZ f xs s = some (ys, s') ∧ ys.length = xs.length ∧ (∀ y ∈ ys, P y) ∧ I xs.length s' := by
  obtain ⟨ys, s', e, a, b, c⟩ := mapS_inv I P xs 0 s h fun j s x m hj => k j s x m (by omega)
  refine ⟨ys, s', ?_, a, b, by rw [Nat.zero_add] at c; exact c⟩
  unfold mapSZ
  rw [if_pos hl]
  exact e
theorem mapO_inv {A β : Type} {f : A → Option β} (g : A → β) : ∀ (xs : List A), (∀ x ∈ xs, f x = some (g x)) → mapO f xs = some (xs.map g)
  | [], _ => rfl
  | x :: xs, h => by
    rw [mapO, h x List.mem_cons_self, Option.bind_some, mapO_inv g xs fun y m => h y (List.mem_cons_of_mem _ m)]
    rfl
theorem mapZ_inv {A β : Type} {f : A → Option β} (g : A → β) {xs : List A} (hl : xs.length ≤ sizeLine) (h : ∀ x ∈ xs, f x = some (g x)) : mapZ f xs = some (xs.map g) := by
  unfold mapZ
  rw [if_pos hl, mapO_inv g xs h]
theorem range_ok {k : Nat} (hk : k < 2 ^ 60) : rangeO 0 (k : Int) = some (rngI 0 k) := by
  unfold rangeO
  rw [if_pos (by omega)]
  simp
theorem rng_mem {k : Nat} {x : Int} : x ∈ rngI 0 k ↔ 0 ≤ x ∧ x < k := by
  unfold rngI
  rw [List.mem_map]
  constructor
  · rintro ⟨i, hi, rfl⟩
    rw [List.mem_range] at hi
    omega
  · rintro ⟨h0, h1⟩
    exact ⟨x.toNat, List.mem_range.mpr (by omega), by omega⟩
theorem deck_ok (ns : List Int) (h : ns.length ≤ 63) : ∃ d, m__law_deck ns = some d ∧ DeckOk 0 d := by
  unfold m__law_deck
  obtain ⟨s, e, hs⟩ := forO_inv (f := fun (s1 : Int) (x2 : Int) => ((mulI s1 (48271 : Int)).bind fun v3 => ((modI x2 (2147483629 : Int)).bind fun v4 => ((modI ((v3 + v4) + (47 : Int)) (2147483587 : Int)).bind fun v5 => (some v5))))) (fun _ s => 0 ≤ s) (DL.cutD ns none (some (63 : Int))) 0 88460014 (by decide) fun j s x _ _ hs => by
    rw [mulI_r (by decide), Option.bind_some, modI_ok (by decide), Option.bind_some, modI_ok (by decide), Option.bind_some]
    exact ⟨_, rfl, fmod_nn (by decide)⟩
  rw [e, Option.bind_some]
  refine ⟨_, rfl, hs, Int.le_refl _, Int.le_refl _, ?_⟩
  show ((DL.cutD ns none (some 63)).reverse).length ≤ 63
  rw [List.length_reverse]
  unfold DL.cutD
  rw [List.length_take, List.length_drop]
  omega
structure PlanOk (w : Plan) : Prop where
  n1 : 1 ≤ w.grid.length
  n6 : w.grid.length ≤ 6
  ml : w.marks.length = w.grid.length
  rl : ∀ row ∈ w.grid, (row.length : Int) = w.root
  rv : ∀ row ∈ w.grid, ∀ x ∈ row, 0 ≤ x ∧ x < w.grid.length
  z0 : ∃ r rest, w.grid = (0 :: r) :: rest
  mks : ∀ m ∈ w.marks, m = ("even" : Str) ∨ m = ("odd" : Str) ∨ m = ("house" : Str)
theorem szl2 : 1000 < sizeLine := by decide +kernel
theorem plan_ok {n : Nat} {d : Deck} (h : DeckOk n d) (hn : n < 2 ^ 50) {b : Nat} (b1 : 1 ≤ b) (b2 : b ≤ 16) : ∃ w d', m__law_plan d (b : Int) 6 = some (w, d') ∧ PlanOk w ∧ w.root = b ∧ DeckOk (n + 200) d' := by
  have sz := szl2
  unfold m__law_plan
  obtain ⟨r, d1, e1, r0, r1, k1⟩ := draw_ok h (by omega) (many := 6) (by decide) (by decide)
  rw [e1, Option.bind_some]
  dsimp only
  obtain ⟨m, rfl⟩ : ∃ m : Nat, r = m := ⟨r.toNat, by omega⟩
  have hm : (1 : Int) + (m : Int) = ((m + 1 : Nat) : Int) := by omega
  rw [hm, range_ok (by omega), Option.bind_some]
  -- rows
  obtain ⟨⟨d2, g⟩, e2, hd2, hg1, hg2⟩ := forO_inv (fun i (s : Deck × List (List Int)) => DeckOk (n + 1 + i * 16) s.1 ∧ s.2.length = i ∧ (i ≤ m + 1 → i ≤ 6) ∧ ∀ row ∈ s.2, row.length = b ∧ ∀ x ∈ row, 0 ≤ x ∧ x < ((m + 1 : Nat) : Int))
    (f := fun (s3 : Deck × (List (List Int))) (x4 : Int) => ((rangeO 0 (b : Int)).bind fun xs5 => ((mapSZ (fun (s7 : Deck) (x6 : Int) => ((m__law_draw s7 ((m + 1 : Nat) : Int)).bind fun r8 => (some (r8.1, r8.2)))) xs5 s3.1).bind (fun (q10 : List Int × (Deck)) => ((pushLL s3.2 q10.1).bind fun v12 => (some (q10.2, v12))))))) (rngI 0 (m + 1)) 0 (d1, []) ⟨k1.up (by omega), rfl, fun _ => by omega, fun _ z => by cases z⟩ (fun j s x _ hj ⟨hd, hl, h6, hrow⟩ => by
      rw [rngI_len, Nat.zero_add] at hj
      rw [range_ok (by omega), Option.bind_some]
      obtain ⟨ys, s', e, ly, py, hs'⟩ := mapSZ_inv (f := fun (s7 : Deck) (x6 : Int) => ((m__law_draw s7 ((m + 1 : Nat) : Int)).bind fun r8 => (some (r8.1, r8.2)))) (fun i s => DeckOk (n + 1 + j * 16 + i) s) (fun y => 0 ≤ y ∧ y < ((m + 1 : Nat) : Int)) (rngI 0 b) (by rw [rngI_len]; omega) s.1 hd fun i s x _ hi hs => by
        rw [rngI_len] at hi
        obtain ⟨r, d', e, r0, r1, k⟩ := draw_ok hs (by omega) (many := ((m + 1 : Nat) : Int)) (by omega) (by
          rw [Int.natAbs_natCast]
          have := (Nat.log2_lt (by omega : m + 1 ≠ 0)).mpr (show m + 1 < 2 ^ 4 by omega)
          omega)
        rw [e, Option.bind_some]
        exact ⟨r, d', rfl, ⟨r0, r1⟩, k⟩
      rw [e, Option.bind_some]
      have hp : pushLL s.2 ys = some (s.2 ++ [ys]) := if_pos (by omega)
      rw [hp, Option.bind_some]
      rw [rngI_len] at ly hs'
      refine ⟨_, rfl, hs'.up (by omega), by simp [hl], fun _ => by omega, fun row hr => ?_⟩
      rcases List.mem_append.mp hr with hr | hr
      · exact hrow row hr
      · rw [List.mem_singleton.mp hr]
        exact ⟨ly, py⟩)
  obtain ⟨hg6, hg2⟩ := hg2
  rw [rngI_len, Nat.zero_add] at hd2 hg1 hg6
  rw [e2, Option.bind_some]
  dsimp only at hd2 hg1 hg2 ⊢
  -- the first row's first
  obtain ⟨row, rest, rfl⟩ : ∃ row rest, g = row :: rest := by
    cases g with
    | nil => simp at hg1
    | cons a t => exact ⟨a, t, rfl⟩
  obtain ⟨hr1, hr2⟩ := hg2 row List.mem_cons_self
  obtain ⟨x0, rr, rfl⟩ : ∃ x0 rr, row = x0 :: rr := by
    cases row with
    | nil => simp at hr1; omega
    | cons a t => exact ⟨a, t, rfl⟩
  have e3 : set00 ((x0 :: rr) :: rest) (0 : Int) = some ((0 :: rr) :: rest) := by
    have e : B.setL (x0 :: rr) 0 (0 : Int) = some (0 :: rr) := by
      unfold B.setL L2.ixN
      rw [if_pos (Int.le_refl 0), if_pos (by simp)]
      rfl
    show (B.setL (x0 :: rr) 0 (0 : Int)).map (· :: rest) = _
    rw [e]
    rfl
  rw [e3, Option.bind_some, Option.bind_some]
  obtain ⟨ys, d3, e4, ly, py, hd3⟩ := mapSZ_inv (f := fun (s17 : Deck) (x16 : Int) => ((m__law_pick_s s17 [("even" : Str), ("odd" : Str), ("even" : Str), ("house" : Str)]).bind fun r18 => (some (r18.1, r18.2)))) (fun i s => DeckOk (n + 1 + (m + 1) * 16 + i) s ∧ i ≤ 1000000) (fun y => y = ("even" : Str) ∨ y = ("odd" : Str) ∨ y = ("house" : Str)) (rngI 0 (m + 1)) (by rw [rngI_len]; omega) d2 ⟨hd2, by omega⟩ (fun i s x _ hi ⟨hs, _⟩ => by
      rw [rngI_len] at hi
      obtain ⟨y, d', e, my, k⟩ := pickS_ok hs (by omega) (xs := [("even" : Str), ("odd" : Str), ("even" : Str), ("house" : Str)]) (by simp) (by simp)
      rw [e, Option.bind_some]
      refine ⟨y, d', rfl, ?_, k, by omega⟩
      simp only [List.mem_cons, List.not_mem_nil, or_false] at my
      rcases my with h | h | h | h
      · exact .inl h
      · exact .inr (.inl h)
      · exact .inl h
      · exact .inr (.inr h))
  rw [e4, Option.bind_some, mapZ_inv (fun x => x) (by simp at hg1 ⊢; omega) (fun _ _ => rfl), Option.bind_some, List.map_id']
  rw [rngI_len] at ly hd3
  refine ⟨_, _, rfl, ⟨?_, ?_, ?_, ?_, ?_, ⟨rr, rest, rfl⟩, py⟩, rfl, hd3.1.up (by omega)⟩
  · simp
  · simp at hg1 ⊢; omega
  · simp at hg1 ⊢; omega
  · intro row hrow
    rcases List.mem_cons.mp hrow with rfl | hrow
    · simp at hr1 ⊢; omega
    · exact congrArg (fun k : Nat => (k : Int)) (hg2 row (List.mem_cons_of_mem _ hrow)).1
  · intro row hrow x hx
    have hlen : (((0 :: rr) :: rest).length : Int) = ((m + 1 : Nat) : Int) := by simp at hg1 ⊢; omega
    dsimp only
    rw [hlen]
    rcases List.mem_cons.mp hrow with rfl | hrow
    · rcases List.mem_cons.mp hx with rfl | hx
      · omega
      · exact hr2 x (List.mem_cons_of_mem _ hx)
    · exact (hg2 row (List.mem_cons_of_mem _ hrow)).2 x hx
end WK

/-! plain facts: digits -/
namespace WK
open PySem PySem.Spec PyProof.Rows L2 DL B
theorem whO_go {S : Type} {c : S → Option Bool} {f : S → Option S} {s s' : S} (h : c s = some true) (e : f s = some s') : whO c f s = whO c f s' := by
  rw [whO_eq, h, Option.bind_some, if_pos rfl, e, Option.bind_some]
theorem whO_end {S : Type} {c : S → Option Bool} {f : S → Option S} {s : S} (h : c s = some false) : whO c f s = some s := by
  rw [whO_eq, h, Option.bind_some, if_neg Bool.false_ne_true]
/-- the digits of a number, the least place first -/
def rdigs (b : Nat) (n : Nat) : List Int := if h : n = 0 ∨ b < 2 then [] else ((n % b : Nat) : Int) :: rdigs b (n / b)
termination_by n
decreasing_by exact Nat.div_lt_self (by omega) (by omega)
theorem rdigs_zero (b : Nat) : rdigs b 0 = [] := by
  rw [rdigs, dif_pos (.inl rfl)]
theorem rdigs_pos {b n : Nat} (hb : 2 ≤ b) (hn : n ≠ 0) : rdigs b n = ((n % b : Nat) : Int) :: rdigs b (n / b) := by
  rw [rdigs, dif_neg (by omega)]
theorem rdigs_len {b : Nat} (hb : 2 ≤ b) : ∀ (k n : Nat), n < 2 ^ k → (rdigs b n).length ≤ k
  | 0, n, h => by
    have : n = 0 := by simpa using h
    subst this
    rw [rdigs_zero]
    exact Nat.le_refl _
  | k + 1, n, h => by
    by_cases hn : n = 0
    · subst hn
      rw [rdigs_zero]
      exact Nat.zero_le _
    · rw [rdigs_pos hb hn, List.length_cons]
      have h2 : n / b < 2 ^ k := by
        have : n / b ≤ n / 2 := Nat.div_le_div_left hb (by omega)
        rw [Nat.pow_succ] at h
        omega
      exact Nat.succ_le_succ (rdigs_len hb k (n / b) h2)
theorem rdigs_mem {b : Nat} (hb : 2 ≤ b) : ∀ (n : Nat), ∀ x ∈ rdigs b n, 0 ≤ x ∧ x < b := by
  intro n
  induction n using Nat.strongRecOn with
  | ind n ih =>
    intro x hx
    by_cases hn : n = 0
    · subst hn
      rw [rdigs_zero] at hx
      cases hx
    · rw [rdigs_pos hb hn] at hx
      rcases List.mem_cons.mp hx with rfl | hx
      · have := Nat.mod_lt n (show b > 0 by omega)
        omega
      · exact ih (n / b) (Nat.div_lt_self (by omega) (by omega)) x hx
/-- the loop that takes digits off a number -/
theorem off_ok {b : Nat} (hb : 2 ≤ b) (hb2 : b < 2 ^ 64) : ∀ (n : Nat) (acc : List Int), acc.length + (rdigs b n).length ≤ sizeLine →
    whO (fun (s1 : (List Int) × Int) => (some (decide (s1.2 > (0 : Int))))) (fun (s1 : (List Int) × Int) => ((modI s1.2 (b : Int)).bind fun v2 => ((pushO s1.1 v2).bind fun v3 => ((divI s1.2 (b : Int)).bind fun v4 => (some (v3, v4)))))) (acc, (n : Int)) = some (acc ++ rdigs b n, 0) := by
  intro n
  induction n using Nat.strongRecOn with
  | ind n ih =>
    intro acc hl
    by_cases hn : n = 0
    · subst hn
      rw [whO_end (by simp), rdigs_zero, List.append_nil]
      rfl
    · rw [rdigs_pos hb hn] at hl ⊢
      rw [List.length_cons] at hl
      have e1 : modI (n : Int) (b : Int) = some ((n % b : Nat) : Int) := by
        rw [modI_ok (by omega)]
        rw [Int.fmod_eq_emod_of_nonneg _ (by omega)]
        rfl
      have e2 : divI (n : Int) (b : Int) = some ((n / b : Nat) : Int) := by
        rw [divI_ok (by omega) (by
          rw [Int.natAbs_natCast]
          have := (Nat.log2_lt (by omega : b ≠ 0)).mpr hb2
          omega)]
        rfl
      have e3 : pushO acc ((n % b : Nat) : Int) = some (acc ++ [((n % b : Nat) : Int)]) := if_pos (by omega)
      rw [whO_go (s' := (acc ++ [((n % b : Nat) : Int)], ((n / b : Nat) : Int))) (by simp; omega) (by
        dsimp only
        rw [e1, Option.bind_some, e3, Option.bind_some, e2, Option.bind_some])]
      rw [ih (n / b) (Nat.div_lt_self (by omega) (by omega)) _ (by rw [List.length_append]; simp only [List.length_cons, List.length_nil]; omega), List.append_assoc]
      rfl
theorem digits_ok {b n : Nat} (hb : 2 ≤ b) (hb2 : b < 2 ^ 64) (hl : (rdigs b n).length ≤ sizeLine) : m_digits_of (b : Int) (n : Int) = some (rdigs b n).reverse := by
  unfold m_digits_of
  rw [off_ok hb hb2 n [] (by simpa using hl), Option.bind_some, List.nil_append]
end WK

/-! plain facts: machines and where rows lead -/
namespace WK
open PySem PySem.Spec PyProof.Rows L2 DL B
structure Mach (b N : Nat) (g : List (List Int)) : Prop where
  len : g.length = N
  row : ∀ r ∈ g, r.length = b ∧ ∀ x ∈ r, 0 ≤ x ∧ x < N
def step (g : List (List Int)) (s x : Int) : Int := (((g[s.toNat]?).getD [])[x.toNat]?).getD 0
def walk (g : List (List Int)) (s : Int) (ds : List Int) : Int := ds.foldl (step g) s
theorem step_ok {b N : Nat} {g : List (List Int)} (h : Mach b N g) {s x : Int} (s0 : 0 ≤ s) (s1 : s < N) (x0 : 0 ≤ x) (x1 : x < b) :
    ∃ r, atO g s = some r ∧ atO r x = some (step g s x) ∧ 0 ≤ step g s x ∧ step g s x < N := by
  obtain ⟨r, e1, m1, g1⟩ := atO_ok (xs := g) s0 (by rw [h.len]; exact s1)
  obtain ⟨l, v⟩ := h.row r m1
  obtain ⟨y, e2, m2, g2⟩ := atO_ok (xs := r) x0 (by rw [l]; exact x1)
  have e3 : step g s x = y := by
    unfold step
    rw [g1, Option.getD_some, g2, Option.getD_some]
  rw [e3]
  exact ⟨r, e1, e2, v y m2⟩
theorem walk_ok {b N : Nat} {g : List (List Int)} (h : Mach b N g) : ∀ (ds : List Int) (s : Int), 0 ≤ s → s < N → (∀ x ∈ ds, 0 ≤ x ∧ x < b) → 0 ≤ walk g s ds ∧ walk g s ds < N
  | [], s, s0, s1, _ => ⟨s0, s1⟩
  | x :: ds, s, s0, s1, hx => by
    obtain ⟨h0, h1⟩ := hx x List.mem_cons_self
    obtain ⟨r, _, _, a, c⟩ := step_ok h s0 s1 h0 h1
    exact walk_ok h ds (step g s x) a c fun y m => hx y (List.mem_cons_of_mem _ m)
theorem walkO_ok {b N : Nat} {g : List (List Int)} (h : Mach b N g) : ∀ (ds : List Int) (s : Int), 0 ≤ s → s < N → (∀ x ∈ ds, 0 ≤ x ∧ x < b) →
    forO (fun (s5 : Int) (x6 : Int) => ((atO g s5).bind fun v7 => ((atO v7 x6).bind fun v8 => (some v8)))) ds s = some (walk g s ds)
  | [], s, _, _, _ => rfl
  | x :: ds, s, s0, s1, hx => by
    obtain ⟨h0, h1⟩ := hx x List.mem_cons_self
    obtain ⟨r, e1, e2, a, c⟩ := step_ok h s0 s1 h0 h1
    rw [forO, e1, Option.bind_some, e2, Option.bind_some, Option.bind_some]
    exact walkO_ok h ds _ a c fun y m => hx y (List.mem_cons_of_mem _ m)
theorem PlanOk.mach {w : Plan} (h : PlanOk w) {b : Nat} (e : w.root = b) : Mach b w.grid.length w.grid := ⟨rfl, fun r m => ⟨by have := h.rl r m; rw [e] at this; exact_mod_cast this, h.rv r m⟩⟩
/-- the answer of a number -/
def ansN (b : Nat) (g : List (List Int)) (a : List Str) (n : Nat) : Str := (a[(walk g 0 (rdigs b n).reverse).toNat]?).getD ""
theorem ans_at {b N : Nat} {g : List (List Int)} (h : Mach b N g) (hb : 2 ≤ b) (h1 : 1 ≤ N) {a : List Str} (hl : a.length = N) (n : Nat) : atO a (walk g 0 (rdigs b n).reverse) = some (ansN b g a n) ∧ ansN b g a n ∈ a := by
  obtain ⟨w0, w1⟩ := walk_ok h (rdigs b n).reverse 0 (Int.le_refl _) (by omega) fun x m => rdigs_mem hb n x (List.mem_reverse.mp m)
  obtain ⟨y, e, m, g1⟩ := atO_ok (xs := a) w0 (by rw [hl]; exact w1)
  have : ansN b g a n = y := by
    unfold ansN
    rw [g1, Option.getD_some]
  rw [this]
  exact ⟨e, m⟩
theorem said_ok {w : Plan} (h : PlanOk w) {b : Nat} (e : w.root = b) (hb : 2 ≤ b) (hb2 : b < 2 ^ 64) {n : Nat} (hl : (rdigs b n).length ≤ sizeLine) : m__law_said w (n : Int) = some (ansN b w.grid w.marks n) := by
  have hM := h.mach e
  unfold m__law_said
  rw [e, off_ok hb hb2 n [] (by simpa using hl), Option.bind_some, List.nil_append]
  dsimp only
  rw [walkO_ok hM _ 0 (Int.le_refl _) (by have := h.n1; omega) fun x m => rdigs_mem hb n x (List.mem_reverse.mp m), Option.bind_some, (ans_at hM hb h.n1 h.ml n).1]
  rfl
end WK

/-! plain facts: counts by digits -/
namespace WK
open PySem PySem.Spec PyProof.Rows L2 DL B
/-- how many rows of k digits lead from a state to an answer -/
def cnt (g : List (List Int)) (a : List Str) (m : Str) : Nat → Int → Int
  | 0, s => if (a[s.toNat]?).getD "" = m then 1 else 0
  | k + 1, s => (((g[s.toNat]?).getD []).map (cnt g a m k)).sum
def cv (g : List (List Int)) (a : List Str) (m : Str) (k : Nat) : List Int := (List.range g.length).map fun s : Nat => cnt g a m k s
theorem cv_at {g : List (List Int)} {a : List Str} {m : Str} {k : Nat} {x : Int} (h0 : 0 ≤ x) (h1 : x < g.length) : atO (cv g a m k) x = some (cnt g a m k x) := by
  have hl : (cv g a m k).length = g.length := by simp [cv]
  obtain ⟨y, e, _, e2⟩ := atO_ok (xs := cv g a m k) h0 (by rw [hl]; exact h1)
  rw [e]
  have hx : x.toNat < g.length := by omega
  unfold cv at e2
  rw [List.getElem?_map, List.getElem?_range hx] at e2
  have : y = cnt g a m k ((x.toNat : Nat) : Int) := (Option.some.inj e2).symm
  rw [this, Int.toNat_of_nonneg h0]
theorem map_range_get {A B : Type} (xs : List A) (d : A) (f : A → B) : (List.range xs.length).map (fun i => f ((xs[i]?).getD d)) = xs.map f := by
  apply List.ext_getElem
  · simp
  · intro i h1 h2
    simp at h1 h2 ⊢
    rw [List.getElem?_eq_getElem h2, Option.getD_some]
structure RuleOk (b : Nat) (r : RuleV) : Prop where
  rb : r.base = b
  n1 : 1 ≤ r.moves.length
  sz : r.moves.length ≤ 1000
  b2 : 2 ≤ b
  b16 : b ≤ 16
  mm : Mach b r.moves.length r.moves
  al : r.answers.length = r.moves.length
  z0 : step r.moves 0 0 = 0
theorem ahead_ok {b : Nat} {r : RuleV} (h : RuleOk b r) (m : Str) (k : Nat) : m_counts_ahead r (cv r.moves r.answers m k) = some (cv r.moves r.answers m (k + 1)) := by
  have sz := szl2
  unfold m_counts_ahead
  rw [mapZ_inv (fun row => (row.map (cnt r.moves r.answers m k)).sum) (by have := h.sz; omega) (fun row hrow => by
    obtain ⟨l, v⟩ := h.mm.row row hrow
    rw [mapZ_inv (cnt r.moves r.answers m k) (by have := h.b16; omega) (fun x hx => by rw [cv_at (v x hx).1 (v x hx).2]; rfl), Option.bind_some]), Option.bind_some]
  congr 1
  unfold cv
  rw [← map_range_get r.moves []]
  rfl
theorem cv_zero {b : Nat} {r : RuleV} (h : RuleOk b r) (m : Str) : (mapZ (fun (x1 : Str) => (some (if (false ^^ seq x1 m) then (1 : Int) else 0))) r.answers) = some (cv r.moves r.answers m 0) := by
  have sz := szl2
  rw [mapZ_inv (fun x1 => if (false ^^ seq x1 m) then (1 : Int) else 0) (by have := h.sz; have := h.al; omega) (fun _ _ => rfl)]
  congr 1
  unfold cv
  rw [← h.al, ← map_range_get r.answers ""]
  apply List.map_congr_left
  intro i _
  rw [Bool.false_xor, seq_eq]
  show _ = cnt r.moves r.answers m 0 (i : Int)
  unfold cnt
  rw [Int.toNat_natCast]
  by_cases hh : (r.answers[i]?).getD "" = m
  · rw [if_pos (by simp [hh]), if_pos hh]
  · rw [if_neg (by simp [hh]), if_neg hh]
theorem counts_ok {b : Nat} {r : RuleV} (h : RuleOk b r) (m : Str) {k : Nat} (hk : k + 2 ≤ sizeLine) (hk2 : k < 2 ^ 60) : m_counts_to r m (k : Int) = some ((List.range (k + 1)).map (cv r.moves r.answers m)) := by
  unfold m_counts_to
  rw [cv_zero h m, Option.bind_some, range_ok hk2, Option.bind_some]
  obtain ⟨s, e, hs⟩ := forO_inv (fun j (s : List (List Int)) => s = (List.range (j + 1)).map (cv r.moves r.answers m)) (f := fun (s4 : (List (List Int))) (x5 : Int) => ((atO s4 (-(1 : Int))).bind fun v6 => ((m_counts_ahead r v6).bind fun r7 => ((pushO s4 r7).bind fun v8 => (some v8))))) (rngI 0 k) 0 [cv r.moves r.answers m 0] rfl fun j s x _ hj hs => by
    subst hs
    rw [rngI_len] at hj
    have e1 : atO ((List.range (j + 1)).map (cv r.moves r.answers m)) (-(1 : Int)) = some (cv r.moves r.answers m j) := by
      unfold atO L2.atI L2.ixN
      rw [if_neg (by decide), if_pos (by simp; omega), Option.bind_some]
      have : (-(1 : Int) + (((List.range (j + 1)).map (cv r.moves r.answers m)).length : Nat)).toNat = j := by simp; omega
      rw [this, List.getElem?_map, List.getElem?_range (by omega)]
      rfl
    rw [e1, Option.bind_some, ahead_ok h, Option.bind_some]
    refine ⟨(List.range (j + 2)).map (cv r.moves r.answers m), ?_, rfl⟩
    have e2 : pushO ((List.range (j + 1)).map (cv r.moves r.answers m)) (cv r.moves r.answers m (j + 1)) = some ((List.range (j + 1)).map (cv r.moves r.answers m) ++ [cv r.moves r.answers m (j + 1)]) := if_pos (by simp; omega)
    rw [e2, Option.bind_some, List.range_succ (n := j + 1), List.map_append]
    rfl
  rw [e, Option.bind_some, hs, rngI_len, Nat.zero_add]
/-- numbers with less digits than these, row by row -/
def hm (g : List (List Int)) (a : List Str) (m : Str) : List Int → Int → Int
  | [], _ => 0
  | d :: ds, s => ((((g[s.toNat]?).getD []).take d.toNat).map (cnt g a m ds.length)).sum + hm g a m ds (step g s d)
theorem cut_take {A : Type} {xs : List A} {d : Int} (h : 0 ≤ d) : DL.cutD xs none (some d) = xs.take d.toNat := by
  obtain ⟨v, rfl⟩ : ∃ v : Nat, d = v := ⟨d.toNat, by omega⟩
  unfold DL.cutD
  show (xs.drop 0).take (min v xs.length - 0) = xs.take v
  rw [List.drop_zero, Nat.sub_zero]
  by_cases hv : v ≤ xs.length
  · rw [Nat.min_eq_left hv]
  · rw [Nat.min_eq_right (by omega), List.take_length, List.take_of_length_le (by omega)]
theorem walk_loop {b : Nat} {r : RuleV} (h : RuleOk b r) (m : Str) (L : Nat) : ∀ (ds : List Int) (i : Nat) (s found : Int), i + ds.length = L → 0 ≤ s → s < r.moves.length → (∀ x ∈ ds, 0 ≤ x ∧ x < b) →
    forO (fun (s3 : Int × Int) (x4 : (Int × Int)) => ((atO ((List.range (L + 1)).map (cv r.moves r.answers m)) ((((L : Nat) : Int) - x4.1) - (1 : Int))).bind fun v5 => ((atO r.moves s3.1).bind fun v6 => ((mapZ (fun (x7 : Int) => ((atO v5 x7).bind fun v8 => (some v8))) (DL.cutD v6 none (some x4.2))).bind (fun (ys9 : List Int) => ((atO r.moves s3.1).bind fun v10 => ((atO v10 x4.2).bind fun v11 => (some (v11, (s3.2 + (List.sum ys9))))))))))) ((ds.zipIdx i).map fun p => ((p.2 : Int), p.1)) (s, found) =
      some (walk r.moves s ds, found + hm r.moves r.answers m ds s)
  | [], i, s, found, _, _, _, _ => by
    show some (s, found) = some (s, found + 0)
    rw [Int.add_zero]
  | d :: ds, i, s, found, hi, s0, s1, hx => by
    have sz := szl2
    obtain ⟨h0, h1⟩ := hx d List.mem_cons_self
    obtain ⟨row, e1, e2, a, c⟩ := step_ok h.mm s0 s1 h0 h1
    obtain ⟨row', e1', m1, g1⟩ := atO_ok (xs := r.moves) s0 s1
    rw [e1] at e1'
    cases e1'
    obtain ⟨lr, vr⟩ := h.mm.row row m1
    rw [List.length_cons] at hi
    have e3 : atO ((List.range (L + 1)).map (cv r.moves r.answers m)) (((L : Nat) : Int) - (i : Int) - 1) = some (cv r.moves r.answers m ds.length) := by
      have hk : ((L : Nat) : Int) - (i : Int) - 1 = (ds.length : Int) := by omega
      rw [hk]
      obtain ⟨y, q1, _, q2⟩ := atO_ok (xs := (List.range (L + 1)).map (cv r.moves r.answers m)) (i := (ds.length : Int)) (by omega) (by simp; omega)
      rw [q1]
      rw [Int.toNat_natCast, List.getElem?_map, List.getElem?_range (by omega)] at q2
      exact q2.symm
    rw [List.zipIdx_cons, List.map_cons, forO]
    dsimp only
    rw [e3, Option.bind_some, e1, Option.bind_some, cut_take h0, mapZ_inv (cnt r.moves r.answers m ds.length) (by rw [List.length_take]; have := h.b16; omega) (fun x hxm => by
      have hxr := List.mem_of_mem_take hxm
      rw [cv_at (vr x hxr).1 (vr x hxr).2]; rfl), Option.bind_some, Option.bind_some, e2, Option.bind_some, Option.bind_some]
    rw [walk_loop h m L ds (i + 1) (step r.moves s d) _ (by omega) a c fun y hy => hx y (List.mem_cons_of_mem _ hy)]
    have e4 : hm r.moves r.answers m (d :: ds) s = ((row.take d.toNat).map (cnt r.moves r.answers m ds.length)).sum + hm r.moves r.answers m ds (step r.moves s d) := by
      rw [hm, g1, Option.getD_some]
    rw [e4, Int.add_assoc]
    rfl
theorem how_ok {b : Nat} {r : RuleV} (h : RuleOk b r) (m : Str) {n : Nat} (hl : (rdigs b n).length + 2 ≤ sizeLine) (hl2 : (rdigs b n).length < 2 ^ 60) : m_how_many r m (n : Int) = some (hm r.moves r.answers m (rdigs b n).reverse 0) := by
  have b16 := h.b16
  unfold m_how_many
  rw [h.rb, digits_ok h.b2 (by omega) (by omega), Option.bind_some, counts_ok h m (by rw [List.length_reverse]; omega) (by rw [List.length_reverse]; omega), Option.bind_some]
  have e := walk_loop h m (rdigs b n).reverse.length (rdigs b n).reverse 0 0 0 (by omega) (Int.le_refl _) (by have := h.n1; omega) fun x hx => rdigs_mem h.b2 n x (List.mem_reverse.mp hx)
  unfold enumI
  rw [e, Option.bind_some, Int.zero_add]
end WK

/-! plain facts: the count by digits is the count one by one -/
namespace WK
open PySem PySem.Spec PyProof.Rows L2 DL B
def sm (f : Nat → Int) : Nat → Int
  | 0 => 0
  | n + 1 => sm f n + f n
theorem sm_congr {f g : Nat → Int} : ∀ {n : Nat}, (∀ i, i < n → f i = g i) → sm f n = sm g n
  | 0, _ => rfl
  | n + 1, h => by
    rw [sm, sm, sm_congr fun i hi => h i (Nat.lt_succ_of_lt hi), h n (Nat.lt_succ_self n)]
theorem sm_add (f : Nat → Int) (p : Nat) : ∀ q, sm f (p + q) = sm f p + sm (fun y => f (p + y)) q
  | 0 => by simp [sm]
  | q + 1 => by
    rw [← Nat.add_assoc, sm, sm_add f p q, sm, Int.add_assoc]
theorem sm_mul (f : Nat → Int) (B : Nat) : ∀ D, sm f (D * B) = sm (fun d => sm (fun y => f (d * B + y)) B) D
  | 0 => by simp [sm]
  | D + 1 => by
    rw [Nat.succ_mul, sm_add, sm_mul f B D, sm]
theorem sum_take (h : Int → Int) : ∀ (row : List Int) (d : Nat), d ≤ row.length → ((row.take d).map h).sum = sm (fun i => h ((row[i]?).getD 0)) d
  | row, 0, _ => by simp [sm]
  | row, d + 1, hd => by
    rw [sm, ← sum_take h row d (by omega), List.take_succ, List.map_append, List.sum_append]
    rw [List.getElem?_eq_getElem (by omega)]
    simp
/-- the digits of a number in k places, the greatest first -/
def dk (b : Nat) : Nat → Nat → List Int
  | 0, _ => []
  | k + 1, n => ((n / b ^ k : Nat) : Int) :: dk b k (n % b ^ k)
theorem dk_len (b : Nat) : ∀ k n, (dk b k n).length = k
  | 0, _ => rfl
  | k + 1, n => congrArg (· + 1) (dk_len b k _)
theorem dk_mem {b : Nat} (hb : 0 < b) : ∀ (k n : Nat), n < b ^ k → ∀ x ∈ dk b k n, 0 ≤ x ∧ x < b
  | 0, _, _, x, hx => by cases hx
  | k + 1, n, hn, x, hx => by
    have hp : 0 < b ^ k := Nat.pow_pos hb
    rcases List.mem_cons.mp hx with rfl | hx
    · have : n / b ^ k < b := by
        rw [Nat.div_lt_iff_lt_mul hp, Nat.mul_comm, ← Nat.pow_succ]
        exact hn
      exact ⟨Int.natCast_nonneg _, Int.ofNat_lt.mpr this⟩
    · exact dk_mem hb k _ (Nat.mod_lt _ hp) x hx
/-- does a row lead from a state to an answer -/
def hit (g : List (List Int)) (a : List Str) (m : Str) (s : Int) (ds : List Int) : Int := if (a[(walk g s ds).toNat]?).getD "" = m then 1 else 0
theorem step_nat {b N : Nat} {g : List (List Int)} (h : Mach b N g) {s : Int} (s0 : 0 ≤ s) (s1 : s < N) : ∃ row, g[s.toNat]? = some row ∧ row.length = b ∧ ∀ d : Nat, step g s d = (row[d]?).getD 0 := by
  obtain ⟨row, _, m1, g1⟩ := atO_ok (xs := g) s0 (by rw [h.len]; exact s1)
  refine ⟨row, g1, (h.row row m1).1, fun d => ?_⟩
  unfold step
  rw [g1, Option.getD_some, Int.toNat_natCast]
theorem cnt_sm {b N : Nat} {g : List (List Int)} (h : Mach b N g) (hb : 0 < b) (a : List Str) (m : Str) : ∀ (k : Nat) (s : Int), 0 ≤ s → s < N → cnt g a m k s = sm (fun x => hit g a m s (dk b k x)) (b ^ k)
  | 0, s, s0, s1 => by
    show _ = (0 : Int) + hit g a m s []
    rw [Int.zero_add]
    rfl
  | k + 1, s, s0, s1 => by
    obtain ⟨row, g1, l1, st⟩ := step_nat h s0 s1
    have hp : 0 < b ^ k := Nat.pow_pos hb
    rw [Nat.pow_succ, Nat.mul_comm, sm_mul, cnt, g1, Option.getD_some]
    have e := sum_take (cnt g a m k) row row.length (Nat.le_refl _)
    rw [List.take_length] at e
    rw [e, l1]
    refine sm_congr fun d hd => ?_
    have hs := st d
    obtain ⟨_, _, _, a0, a1⟩ := step_ok h s0 s1 (x := (d : Int)) (by omega) (by omega)
    rw [← hs, cnt_sm h hb a m k _ a0 a1]
    refine sm_congr fun y hy => ?_
    show hit g a m (step g s d) (dk b k y) = hit g a m s (dk b (k + 1) (d * b ^ k + y))
    have e1 : (d * b ^ k + y) / b ^ k = d := by
      rw [Nat.mul_comm, Nat.mul_add_div hp, Nat.div_eq_of_lt hy, Nat.add_zero]
    have e2 : (d * b ^ k + y) % b ^ k = y := by
      rw [Nat.mul_comm, Nat.mul_add_mod, Nat.mod_eq_of_lt hy]
    rw [dk, e1, e2]
    rfl
theorem hm_sm {b N : Nat} {g : List (List Int)} (h : Mach b N g) (hb : 0 < b) (a : List Str) (m : Str) : ∀ (k n : Nat) (s : Int), 0 ≤ s → s < N → n < b ^ k → hm g a m (dk b k n) s = sm (fun x => hit g a m s (dk b k x)) n
  | 0, n, s, s0, s1, hn => by
    have : n = 0 := by simpa using hn
    subst this
    rfl
  | k + 1, n, s, s0, s1, hn => by
    obtain ⟨row, g1, l1, st⟩ := step_nat h s0 s1
    have hp : 0 < b ^ k := Nat.pow_pos hb
    have hd : n / b ^ k < b := by
      rw [Nat.div_lt_iff_lt_mul hp, Nat.mul_comm, ← Nat.pow_succ]
      exact hn
    obtain ⟨_, _, _, a0, a1⟩ := step_ok h s0 s1 (x := ((n / b ^ k : Nat) : Int)) (Int.natCast_nonneg _) (Int.ofNat_lt.mpr hd)
    rw [dk, hm, g1, Option.getD_some, Int.toNat_natCast, dk_len, sum_take _ _ _ (by omega), hm_sm h hb a m k _ _ a0 a1 (Nat.mod_lt _ hp)]
    have en : n = n / b ^ k * b ^ k + n % b ^ k := by
      have := Nat.div_add_mod n (b ^ k)
      rw [Nat.mul_comm] at this
      exact this.symm
    conv => rhs; rw [en]
    rw [sm_add, sm_mul]
    congr 1
    · refine sm_congr fun d hd' => ?_
      have hs := st d
      obtain ⟨_, _, _, b0, b1⟩ := step_ok h s0 s1 (x := (d : Int)) (by omega) (by omega)
      rw [← hs, cnt_sm h hb a m k _ b0 b1]
      refine sm_congr fun y hy => ?_
      have e1 : (d * b ^ k + y) / b ^ k = d := by
        rw [Nat.mul_comm, Nat.mul_add_div hp, Nat.div_eq_of_lt hy, Nat.add_zero]
      have e2 : (d * b ^ k + y) % b ^ k = y := by
        rw [Nat.mul_comm, Nat.mul_add_mod, Nat.mod_eq_of_lt hy]
      rw [dk, e1, e2]
      rfl
    · refine sm_congr fun y hy => ?_
      have hy2 : y < b ^ k := Nat.lt_trans hy (Nat.mod_lt _ hp)
      have e1 : (n / b ^ k * b ^ k + y) / b ^ k = n / b ^ k := by
        rw [Nat.mul_comm, Nat.mul_add_div hp, Nat.div_eq_of_lt hy2, Nat.add_zero]
      have e2 : (n / b ^ k * b ^ k + y) % b ^ k = y := by
        rw [Nat.mul_comm, Nat.mul_add_mod, Nat.mod_eq_of_lt hy2]
      rw [dk, e1, e2]
      rfl
end WK

/-! plain facts: how_many is the count one by one -/
namespace WK
open PySem PySem.Spec PyProof.Rows L2 DL B
theorem dk_snoc {b : Nat} (hb : 0 < b) : ∀ (k n : Nat), n < b ^ (k + 1) → dk b (k + 1) n = dk b k (n / b) ++ [((n % b : Nat) : Int)]
  | 0, n, hn => by
    have hn' : n < b := by simpa using hn
    show [((n / b ^ 0 : Nat) : Int)] = [((n % b : Nat) : Int)]
    rw [Nat.pow_zero, Nat.div_one, Nat.mod_eq_of_lt hn']
  | k + 1, n, hn => by
    have hp : 0 < b ^ (k + 1) := Nat.pow_pos hb
    rw [dk, dk_snoc hb k (n % b ^ (k + 1)) (Nat.mod_lt _ hp), dk, List.cons_append]
    have e1 : n / b / b ^ k = n / b ^ (k + 1) := by rw [Nat.div_div_eq_div_mul, Nat.pow_succ, Nat.mul_comm]
    have e2 : n % b ^ (k + 1) / b = n / b % b ^ k := by rw [Nat.pow_succ, Nat.mul_comm, Nat.mod_mul_right_div_self]
    have e3 : n % b ^ (k + 1) % b = n % b := by rw [Nat.pow_succ]; exact Nat.mod_mul_left_mod n (b ^ k) b
    rw [e1, e2, e3]
theorem rdigs_lt {b : Nat} (hb : 2 ≤ b) : ∀ (n : Nat), n < b ^ (rdigs b n).length := by
  intro n
  induction n using Nat.strongRecOn with
  | ind n ih =>
    by_cases hn : n = 0
    · subst hn
      rw [rdigs_zero]
      exact Nat.one_pos
    · rw [rdigs_pos hb hn, List.length_cons, Nat.pow_succ]
      have h := ih (n / b) (Nat.div_lt_self (by omega) (by omega))
      exact (Nat.div_lt_iff_lt_mul (by omega)).mp h
theorem rdigs_dk {b : Nat} (hb : 2 ≤ b) : ∀ (n : Nat), (rdigs b n).reverse = dk b (rdigs b n).length n := by
  intro n
  induction n using Nat.strongRecOn with
  | ind n ih =>
    by_cases hn : n = 0
    · subst hn
      rw [rdigs_zero]
      rfl
    · have hl := rdigs_lt hb n
      rw [rdigs_pos hb hn, List.length_cons] at hl ⊢
      rw [dk_snoc (by omega) _ _ hl, List.reverse_cons, ih (n / b) (Nat.div_lt_self (by omega) (by omega))]
theorem walk_app (g : List (List Int)) (s : Int) (xs ys : List Int) : walk g s (xs ++ ys) = walk g (walk g s xs) ys := List.foldl_append
theorem walk_dk {b : Nat} (hb : 2 ≤ b) {g : List (List Int)} (z : step g 0 0 = 0) : ∀ (k n : Nat), n < b ^ k → walk g 0 (dk b k n) = walk g 0 (rdigs b n).reverse
  | 0, n, hn => by
    have : n = 0 := by simpa using hn
    subst this
    rw [rdigs_zero]
    rfl
  | k + 1, n, hn => by
    rw [dk_snoc (by omega) k n hn, walk_app, walk_dk hb z k (n / b) (by
      rw [Nat.div_lt_iff_lt_mul (by omega), ← Nat.pow_succ]
      exact hn)]
    by_cases h0 : n = 0
    · subst h0
      rw [Nat.zero_div, rdigs_zero, Nat.zero_mod]
      exact z
    · rw [rdigs_pos hb h0, List.reverse_cons, walk_app]
/-- how many numbers below one have an answer -/
def many (b : Nat) (g : List (List Int)) (a : List Str) (m : Str) (n : Nat) : Int := sm (fun x => if ansN b g a x = m then 1 else 0) n
theorem how_many_ok {b : Nat} {r : RuleV} (h : RuleOk b r) (m : Str) {n : Nat} (hl : (rdigs b n).length + 2 ≤ sizeLine) (hl2 : (rdigs b n).length < 2 ^ 60) : m_how_many r m (n : Int) = some (many b r.moves r.answers m n) := by
  rw [how_ok h m hl hl2, rdigs_dk h.b2, hm_sm h.mm (by have := h.b2; omega) r.answers m _ n 0 (Int.le_refl _) (by have := h.n1; omega) (rdigs_lt h.b2 n)]
  congr 1
  refine sm_congr fun x hx => ?_
  unfold hit ansN
  rw [walk_dk h.b2 h.z0 _ x (Nat.lt_trans hx (rdigs_lt h.b2 n))]
/-- two machines with the same answers count alike -/
theorem many_congr {b : Nat} {g g' : List (List Int)} {a a' : List Str} (h : ∀ n, ansN b g a n = ansN b g' a' n) (m : Str) (n : Nat) : many b g a m n = many b g' a' m n := sm_congr fun x _ => by rw [h x]
theorem many_succ (b : Nat) (g : List (List Int)) (a : List Str) (m : Str) (n : Nat) : many b g a m (n + 1) = many b g a m n + if ansN b g a n = m then 1 else 0 := rfl
end WK

/-! plain facts: numbers for signs -/
namespace WK
open PySem PySem.Spec PyProof.Rows L2 DL B
section
variable {A : Type} [DecidableEq A]
/-- where something first stands -/
def at? : List A → A → Option Nat
  | [], _ => none
  | c :: r, x => if c = x then some 0 else (at? r x).map (· + 1)
def addK (ks : List A) (x : A) : List A := if x ∈ ks then ks else ks ++ [x]
def dOf (ks : List A) : List (A × Int) := ks.zipIdx.map fun p => (p.1, (p.2 : Int))
theorem at_none : ∀ {ks : List A} {x : A}, at? ks x = none ↔ x ∉ ks
  | [], x => by simp [at?]
  | c :: r, x => by
    unfold at?
    by_cases h : c = x
    · rw [if_pos h]
      simp [h]
    · rw [if_neg h]
      simp only [Option.map_eq_none_iff, at_none, List.mem_cons, not_or]
      constructor
      · intro z
        exact ⟨fun e => h e.symm, z⟩
      · exact fun z => z.2
theorem at_lt : ∀ {ks : List A} {x : A} {i : Nat}, at? ks x = some i → i < ks.length ∧ ks[i]? = some x
  | [], x, i, h => by cases h
  | c :: r, x, i, h => by
    unfold at? at h
    by_cases hc : c = x
    · rw [if_pos hc] at h
      cases h
      exact ⟨by simp, by simp [hc]⟩
    · rw [if_neg hc] at h
      cases hr : at? r x with
      | none => rw [hr] at h; cases h
      | some j =>
        rw [hr] at h
        cases h
        obtain ⟨a, b⟩ := at_lt hr
        exact ⟨by simp only [List.length_cons]; omega, by simpa using b⟩
theorem at_app : ∀ {ks : List A} {x y : A} {i : Nat}, at? ks x = some i → at? (ks ++ [y]) x = some i
  | [], x, y, i, h => by cases h
  | c :: r, x, y, i, h => by
    unfold at? at h
    rw [List.cons_append, at?]
    by_cases hc : c = x
    · rw [if_pos hc] at h ⊢
      exact h
    · rw [if_neg hc] at h ⊢
      cases hr : at? r x with
      | none => rw [hr] at h; cases h
      | some j =>
        rw [hr] at h
        rw [at_app hr]
        exact h
theorem at_new : ∀ {ks : List A} {x : A}, x ∉ ks → at? (ks ++ [x]) x = some ks.length
  | [], x, _ => by simp [at?]
  | c :: r, x, h => by
    rw [List.cons_append, at?, if_neg (fun e => h (by simp [e])), at_new (fun z => h (List.mem_cons_of_mem _ z))]
    rfl
theorem at_inj {ks : List A} {x y : A} {i : Nat} (h : at? ks x = some i) (h' : at? ks y = some i) : x = y := by
  have a := (at_lt h).2
  have b := (at_lt h').2
  rw [a] at b
  exact Option.some.inj b
theorem lkg_cons {V : Type} (c : A) (v : V) (r : List (A × V)) (x : A) : lkg ((c, v) :: r) x = if c = x then some v else lkg r x := by
  unfold lkg
  rw [List.find?_cons]
  by_cases h : c = x
  · simp [h]
  · simp [h]
theorem lkg_zipIdx : ∀ (ks : List A) (x : A) (n : Nat), lkg ((ks.zipIdx n).map fun p => (p.1, (p.2 : Int))) x = (at? ks x).map fun i => ((i + n : Nat) : Int)
  | [], x, n => rfl
  | c :: r, x, n => by
    rw [List.zipIdx_cons, List.map_cons, at?, lkg_cons]
    by_cases h : c = x
    · rw [if_pos h, if_pos h]
      simp
    · rw [if_neg h, if_neg h, lkg_zipIdx r x (n + 1)]
      cases at? r x with
      | none => rfl
      | some j =>
        simp only [Option.map_some]
        congr 2
        omega
theorem lkg_dOf (ks : List A) (x : A) : lkg (dOf ks) x = (at? ks x).map fun (i : Nat) => ((i : Nat) : Int) := by
  unfold dOf
  rw [lkg_zipIdx]
  rfl
theorem dOf_len (ks : List A) : (dOf ks).length = ks.length := by simp [dOf]
theorem insg_dOf {ks : List A} {x : A} (h : x ∉ ks) : insg (dOf ks) x (((dOf ks).length : Nat) : Int) = dOf (ks ++ [x]) := by
  unfold insg
  have ha : ((dOf ks).any fun kv => decide (kv.1 = x)) = false := by
    rw [List.any_eq_false]
    intro kv hkv
    unfold dOf at hkv
    obtain ⟨p, hp, rfl⟩ := List.mem_map.mp hkv
    have hm := List.fst_mem_of_mem_zipIdx hp
    simp only [decide_eq_true_eq]
    exact fun e => h (e ▸ hm)
  rw [if_neg (by rw [ha]; exact Bool.false_ne_true), dOf_len]
  unfold dOf
  rw [List.zipIdx_append, List.map_append]
  simp
/-- the numbers of some signs -/
def numF (ks : List A) (x : A) : Int := (((at? ks x).getD 0 : Nat) : Int)
def addAll (ks xs : List A) : List A := xs.foldl addK ks
theorem addK_at {ks : List A} {x y : A} {i : Nat} (h : at? ks y = some i) : at? (addK ks x) y = some i := by
  unfold addK
  split
  · exact h
  · exact at_app h
theorem addAll_at : ∀ {xs ks : List A} {y : A} {i : Nat}, at? ks y = some i → at? (addAll ks xs) y = some i
  | [], _, _, _, h => h
  | x :: xs, ks, y, i, h => addAll_at (xs := xs) (ks := addK ks x) (addK_at h)
theorem addK_self (ks : List A) (x : A) : ∃ i, at? (addK ks x) x = some i := by
  unfold addK
  split
  · rename_i h
    cases q : at? ks x with
    | none => exact absurd h (at_none.mp q)
    | some i => exact ⟨i, rfl⟩
  · rename_i h
    exact ⟨_, at_new h⟩
theorem addK_len (ks : List A) (x : A) : (addK ks x).length ≤ ks.length + 1 := by
  unfold addK
  split <;> simp
theorem num_loop : ∀ (xs ks : List A) (F : List Int), ks.length + xs.length ≤ 100000 → F.length + xs.length ≤ 100000 →
    forO (fun (s1 : (List (A × Int)) × (List Int)) (x2 : A) => ((if (true ^^ (Option.isSome (lkg s1.1 x2))) then ((putO s1.1 x2 ((s1.1.length : Nat) : Int)).bind fun v3 => (some v3)) else (some s1.1)).bind fun (s4 : (List (A × Int))) => ((lkg s4 x2).bind fun v5 => ((pushO s1.2 v5).bind fun v6 => (some (s4, v6)))))) xs (dOf ks, F) =
      some (dOf (addAll ks xs), F ++ xs.map (numF (addAll ks xs)))
  | [], ks, F, _, _ => by
    rw [forO, List.map_nil, List.append_nil]
    rfl
  | x :: xs, ks, F, h1, h2 => by
    have sz : 200000 < sizeLine := by decide +kernel
    rw [List.length_cons] at h1 h2
    have hd : (if (true ^^ (Option.isSome (lkg (dOf ks) x))) then ((putO (dOf ks) x (((dOf ks).length : Nat) : Int)).bind fun v3 => (some v3)) else (some (dOf ks))) = some (dOf (addK ks x)) := by
      rw [lkg_dOf]
      by_cases hx : x ∈ ks
      · cases q : at? ks x with
        | none => exact absurd hx (at_none.mp q)
        | some i =>
          rw [if_neg (by simp)]
          unfold addK
          rw [if_pos hx]
      · rw [at_none.mpr hx, if_pos (by simp)]
        unfold putO
        rw [if_pos (by rw [dOf_len]; omega), Option.bind_some, insg_dOf hx]
        unfold addK
        rw [if_neg hx]
    obtain ⟨i, hi⟩ := addK_self ks x
    rw [forO]
    dsimp only
    rw [hd, Option.bind_some, lkg_dOf, hi, Option.map_some, Option.bind_some]
    have hp : pushO F (i : Int) = some (F ++ [(i : Int)]) := if_pos (by omega)
    rw [hp, Option.bind_some, Option.bind_some, num_loop xs (addK ks x) (F ++ [(i : Int)]) (by have := addK_len ks x; omega) (by rw [List.length_append, List.length_singleton]; omega)]
    have e : numF (addAll (addK ks x) xs) x = (i : Int) := by
      unfold numF
      rw [addAll_at hi]
      rfl
    rw [List.map_cons, List.append_assoc]
    show some (dOf (addAll (addK ks x) xs), F ++ ((i : Int) :: _)) = some (dOf (addAll (addK ks x) xs), F ++ (numF (addAll (addK ks x) xs) x :: _))
    rw [e]
    rfl
end
theorem numbered_ok {xs : List Str} (h : xs.length ≤ 100000) : m_numbered xs = some (xs.map (numF (addAll [] xs))) := by
  unfold m_numbered
  have e := num_loop xs [] [] (by simpa using h) (by simpa using h)
  rw [show ([] : List (Str × Int)) = dOf ([] : List Str) from rfl, e, Option.bind_some, List.nil_append]
theorem numberedT_ok {xs : List (List Int)} (h : xs.length ≤ 100000) : m_numbered_t xs = some (xs.map (numF (addAll [] xs))) := by
  unfold m_numbered_t
  have e := num_loop xs [] [] (by simpa using h) (by simpa using h)
  rw [show ([] : List (List Int × Int)) = dOf ([] : List (List Int)) from rfl, e, Option.bind_some, List.nil_append]
end WK

/-! plain facts: what is checked of a machine -/
namespace WK
open PySem PySem.Spec PyProof.Rows L2 DL B
theorem isT_int (x : Int) : isT "int" (.int x) = some true := by
  unfold isT
  rfl
theorem isT_bool (x : Int) : isT "bool" (.int x) = some false := by
  unfold isT
  rfl
theorem isT_tup (xs : List D) : isT "tuple" (.tup xs) = some true := by
  unfold isT
  rfl
theorem isT_str (z : Str) : isT "str" (.str z) = some true := by
  unfold isT
  rfl
theorem is_number_ok {x : Int} (h : 0 ≤ x) : m_is_number x = some true := by
  unfold m_is_number
  rw [isT_int, Option.bind_some, if_pos rfl, isT_bool, Option.bind_some]
  simp [h]
theorem is_base_ok {b : Nat} (h1 : 2 ≤ b) (h2 : b ≤ 16) : m_is_base (b : Int) = some true := by
  unfold m_is_base
  rw [is_number_ok (by omega), Option.bind_some]
  have a : (2 : Int) ≤ (b : Int) := by omega
  have c : (b : Int) ≤ 16 := by omega
  simp [a, c]
theorem are_states_ok {N : Nat} {row : List Int} (hl : row.length ≤ 1000) (h : ∀ x ∈ row, 0 ≤ x ∧ x < N) : m_are_states (N : Int) row = some true := by
  have sz := szl2
  unfold m_are_states
  rw [isT_tup, Option.bind_some, if_pos rfl, mapZ_inv (fun _ => true) (by omega) (fun x hx => by
    obtain ⟨h0, h1⟩ := h x hx
    rw [is_number_ok h0]
    simp [h1])]
  simp
theorem answer_even : m_is_answer ("even" : Str) = some true := by decide +kernel
theorem answer_odd : m_is_answer ("odd" : Str) = some true := by decide +kernel
theorem answer_house : m_is_answer ("house" : Str) = some true := by decide +kernel
theorem check_answers_ok {a : List Str} {N : Nat} (hl : a.length = N) (h1 : N ≤ 1000) (h : ∀ m ∈ a, m_is_answer m = some true) : m_check_answers (N : Int) a = some () := by
  have sz := szl2
  unfold m_check_answers
  rw [isT_tup, Option.bind_some, if_neg (by simp), if_neg (by simp [hl]), mapZ_inv (fun _ => true) (by omega) (fun m hm => by rw [h m hm]; rfl)]
  simp
theorem fits_all : ∀ {ds : List D}, (∀ d ∈ ds, fit d = true) → fits ds = true
  | [], _ => by simp [fits]
  | d :: ds, h => by
    simp only [fits, Bool.and_eq_true]
    exact ⟨h d List.mem_cons_self, fits_all fun x m => h x (List.mem_cons_of_mem _ m)⟩
theorem deps_all {k : Nat} : ∀ {ds : List D}, (∀ d ∈ ds, dep d ≤ k) → deps ds ≤ k
  | [], _ => by simp [deps]
  | d :: ds, h => by
    have a := h d List.mem_cons_self
    have b := deps_all (k := k) (ds := ds) fun x m => h x (List.mem_cons_of_mem _ m)
    simp only [deps]
    omega
theorem rows_okB {g : List (List Int)} (h : ∀ r ∈ g, ∀ x ∈ r, x.natAbs < 10 ^ 12) : okB (.tup (g.map (eT D.int))) = true := by
  rw [okB_ok]
  refine okD_of ?_ ?_
  · simp only [fit]
    refine fits_all fun d hd => ?_
    obtain ⟨r, hr, rfl⟩ := List.mem_map.mp hd
    simp only [eT, fit]
    exact fits_ints (h r hr)
  · have : deps (g.map (eT D.int)) ≤ 10 := deps_all fun d hd => by
      obtain ⟨r, hr, rfl⟩ := List.mem_map.mp hd
      have : deps (r.map D.int) ≤ 5 := deps_all fun d hd => by
        obtain ⟨x, _, rfl⟩ := List.mem_map.mp hd
        simp [dep]
      simp only [eT, dep]
      omega
    simp only [dep]
    omega
theorem check_moves_ok {b N : Nat} {g : List (List Int)} (hM : Mach b N g) (h1 : 1 ≤ N) (hN : N ≤ 1000) (hb : b ≤ 16) : m_check_moves (b : Int) g = some () := by
  have sz := szl2
  unfold m_check_moves
  have e1 : eqD (.tup (g.map (eT D.int))) (.tup (List.map D.int [])) = some false := by
    unfold eqD
    rw [rows_okB (fun r hr x hx => by have := (hM.row r hr).2 x hx; omega), okB_ok.mpr (okT_ints [])]
    cases g with
    | nil => have := hM.len; simp at this; omega
    | cons r rs => rfl
  rw [isT_tup, Option.bind_some, if_neg (by simp), e1, Option.bind_some, Option.bind_some]
  obtain ⟨s, e, _⟩ := forO_inv (fun _ (_ : Unit) => True) (f := fun (s4 : Unit) (x5 : (List Int)) => ((m_are_states ((g.length : Nat) : Int) x5).bind fun r6 => ((if (!r6) then some (true, ()) else (some ((true ^^ decide (((x5.length : Nat) : Int) = (b : Int))), ()))).bind fun z8 => (if z8.1 then (none) else (some ()))))) g 0 () trivial fun j s r hr _ _ => by
    obtain ⟨l, v⟩ := hM.row r hr
    rw [are_states_ok (by omega) (by rw [hM.len]; exact v)]
    exact ⟨(), by simp [l], trivial⟩
  rw [if_neg (by simp), e]
  rfl
end WK

/-! plain facts: all answers together; a rule is made -/
namespace WK
open PySem PySem.Spec PyProof.Rows L2 DL B
theorem many_sum {b : Nat} {g : List (List Int)} {a : List Str} (h : ∀ n, ansN b g a n = ("even" : Str) ∨ ansN b g a n = ("odd" : Str) ∨ ansN b g a n = ("house" : Str)) : ∀ n : Nat,
    many b g a ("even" : Str) n + many b g a ("odd" : Str) n + many b g a ("house" : Str) n + many b g a ("nobody" : Str) n = n
  | 0 => rfl
  | n + 1 => by
    have ih := many_sum h n
    rw [many_succ, many_succ, many_succ, many_succ]
    have d1 : ("even" : Str) ≠ ("odd" : Str) := by decide
    have d2 : ("even" : Str) ≠ ("house" : Str) := by decide
    have d3 : ("even" : Str) ≠ ("nobody" : Str) := by decide
    have d4 : ("odd" : Str) ≠ ("house" : Str) := by decide
    have d5 : ("odd" : Str) ≠ ("nobody" : Str) := by decide
    have d6 : ("house" : Str) ≠ ("nobody" : Str) := by decide
    rcases h n with e | e | e <;> rw [e]
    · rw [if_pos rfl, if_neg d1, if_neg d2, if_neg d3]; omega
    · rw [if_neg d1.symm, if_pos rfl, if_neg d4, if_neg d5]; omega
    · rw [if_neg d2.symm, if_neg d4.symm, if_pos rfl, if_neg d6]; omega
/-- what is due of least_parts (OPEN) -/
def LeastDue : Prop := ∀ (b N : Nat) (g : List (List Int)) (a : List Str), Mach b N g → 1 ≤ N → N ≤ 1000 → 2 ≤ b → b ≤ 16 → a.length = N → step g 0 0 = 0 →
  ∃ g' a', m_least_parts g a = some (g', a') ∧ 1 ≤ g'.length ∧ g'.length ≤ N ∧ Mach b g'.length g' ∧ a'.length = g'.length ∧ step g' 0 0 = 0 ∧ (∀ n, ansN b g' a' n = ansN b g a n) ∧ ∀ m ∈ a', m ∈ a
theorem init_ok (L : LeastDue) {b N : Nat} {g : List (List Int)} {a : List Str} (hM : Mach b N g) (h1 : 1 ≤ N) (hN : N ≤ 1000) (b2 : 2 ≤ b) (b16 : b ≤ 16) (ha : a.length = N) (z : step g 0 0 = 0) (hw : ∀ m ∈ a, m_is_answer m = some true) :
    ∃ r, m_Rule___init__ (b : Int) g a = some r ∧ RuleOk b r ∧ (∀ n, ansN b r.moves r.answers n = ansN b g a n) ∧ ∀ m ∈ r.answers, m ∈ a := by
  obtain ⟨g', a', e, p1, p2, p3, p4, p5, p6, p7⟩ := L b N g a hM h1 hN b2 b16 ha z
  obtain ⟨row, e1, e2, _, _⟩ := step_ok hM (s := 0) (x := 0) (Int.le_refl _) (by omega) (Int.le_refl _) (by omega)
  unfold m_Rule___init__
  rw [is_base_ok b2 b16, Option.bind_some, if_neg (by simp), check_moves_ok hM h1 hN b16, Option.bind_some, e1, Option.bind_some, e2, Option.bind_some, z, if_neg (by simp), hM.len, check_answers_ok ha hN hw, Option.bind_some, e, Option.bind_some]
  exact ⟨⟨b, g', a'⟩, rfl, ⟨rfl, p1, by dsimp only; omega, b2, b16, p3, p4, p5⟩, p6, p7⟩
theorem code_ok (L : LeastDue) {w : Plan} (h : PlanOk w) {b : Nat} (e : w.root = b) (b2 : 2 ≤ b) (b16 : b ≤ 16) : ∃ r, m__law_code w = some r ∧ RuleOk b r ∧ (∀ n, ansN b r.moves r.answers n = ansN b w.grid w.marks n) ∧ ∀ m ∈ r.answers, m ∈ w.marks := by
  have hM := h.mach e
  obtain ⟨rr, rest, hz⟩ := h.z0
  obtain ⟨r, q1, q2, q3, q4⟩ := init_ok L hM h.n1 (by have := h.n6; omega) b2 b16 h.ml (by rw [hz]; rfl) (fun m hm => by
    rcases h.mks m hm with rfl | rfl | rfl
    · exact answer_even
    · exact answer_odd
    · exact answer_house)
  unfold m__law_code
  rw [e, q1]
  exact ⟨r, rfl, q2, q3, q4⟩
end WK

/-! plain facts: a rule's text is there -/
namespace WK
open PySem PySem.Spec PyProof.Rows L2 DL B
def shortN (n : Nat) : Bool := match strI (n : Int) with
  | some z => decide (z.length ≤ 4)
  | none => false
theorem short_all : (List.range 1000).all shortN = true := by decide +kernel
theorem strI_small {x : Int} (h0 : 0 ≤ x) (h1 : x < 1000) : ∃ z, strI x = some z ∧ z.length ≤ 4 := by
  have h := List.all_eq_true.mp short_all x.toNat (List.mem_range.mpr (by omega))
  unfold shortN at h
  rw [Int.toNat_of_nonneg h0] at h
  cases q : strI x with
  | none => rw [q] at h; cases h
  | some z =>
    rw [q] at h
    exact ⟨z, rfl, by simpa using h⟩
end WK

/-! plain facts: states that are reached; a machine made smaller -/
namespace WK
open PySem PySem.Spec PyProof.Rows L2 DL B
section
variable {A : Type} [DecidableEq A]
theorem nodup_le : ∀ {xs ys : List A}, xs.Nodup → (∀ x ∈ xs, x ∈ ys) → xs.length ≤ ys.length
  | [], ys, _, _ => Nat.zero_le _
  | x :: xs, ys, hn, h => by
    rw [List.nodup_cons] at hn
    have hx := h x List.mem_cons_self
    have h1 := nodup_le (xs := xs) (ys := ys.erase x) hn.2 fun y hy => (List.mem_erase_of_ne (fun e => hn.1 (by rw [← e]; exact hy))).mpr (h y (List.mem_cons_of_mem _ hy))
    rw [List.length_erase_of_mem hx] at h1
    have h2 := List.length_pos_of_mem hx
    rw [List.length_cons]
    omega
theorem mem_addK {ks : List A} {x y : A} : y ∈ addK ks x ↔ y ∈ ks ∨ y = x := by
  unfold addK
  split
  · rename_i h
    constructor
    · exact .inl
    · rintro (h1 | rfl)
      · exact h1
      · exact h
  · simp
theorem mem_addAll : ∀ {xs ks : List A} {y : A}, y ∈ addAll ks xs ↔ y ∈ ks ∨ y ∈ xs
  | [], ks, y => by simp [addAll]
  | x :: xs, ks, y => by
    have h := mem_addAll (xs := xs) (ks := addK ks x) (y := y)
    show y ∈ addAll (addK ks x) xs ↔ _
    rw [h, mem_addK, List.mem_cons, or_assoc]
theorem nodup_snoc {ks : List A} {x : A} (h : ks.Nodup) (hx : x ∉ ks) : (ks ++ [x]).Nodup := by
  rw [List.nodup_append]
  refine ⟨h, by simp, ?_⟩
  intro a ha b hb e
  rw [List.mem_singleton] at hb
  subst hb
  subst e
  exact hx ha
theorem nodup_addK {ks : List A} {x : A} (h : ks.Nodup) : (addK ks x).Nodup := by
  unfold addK
  split
  · exact h
  · rename_i hx
    exact nodup_snoc h hx
theorem nodup_addAll : ∀ {xs ks : List A}, ks.Nodup → (addAll ks xs).Nodup
  | [], _, h => h
  | x :: xs, ks, h => nodup_addAll (xs := xs) (ks := addK ks x) (nodup_addK h)
theorem addK_get {ks : List A} {x y : A} {i : Nat} (h : ks[i]? = some y) : (addK ks x)[i]? = some y := by
  unfold addK
  split
  · exact h
  · obtain ⟨hl, _⟩ := List.getElem?_eq_some_iff.mp h
    rw [List.getElem?_append_left hl]
    exact h
theorem addAll_get : ∀ {xs ks : List A} {y : A} {i : Nat}, ks[i]? = some y → (addAll ks xs)[i]? = some y
  | [], _, _, _, h => h
  | x :: xs, ks, y, i, h => addAll_get (xs := xs) (ks := addK ks x) (addK_get h)
theorem at_get {ks : List A} {x : A} {i : Nat} (hn : ks.Nodup) (h : ks[i]? = some x) : at? ks x = some i := by
  obtain ⟨hl, hx⟩ := List.getElem?_eq_some_iff.mp h
  cases q : at? ks x with
  | none => exact absurd (List.mem_of_getElem? h) (at_none.mp q)
  | some j =>
    obtain ⟨jl, hj⟩ := at_lt q
    rw [(List.getElem?_inj jl hn).mp (hj.trans h.symm)]
theorem lkg_none {V : Type} : ∀ {F : List (A × V)} {k : A}, lkg F k = none ↔ k ∉ F.map (·.1)
  | [], k => by simp [lkg]
  | (c, v) :: r, k => by
    rw [lkg_cons]
    by_cases h : c = k
    · rw [if_pos h]; simp [h]
    · rw [if_neg h, lkg_none]
      simp only [List.map_cons, List.mem_cons, not_or]
      exact ⟨fun z => ⟨fun e => h e.symm, z⟩, fun z => z.2⟩
theorem lkg_mem {V : Type} : ∀ {F : List (A × V)} {k : A} {v : V}, lkg F k = some v → (k, v) ∈ F
  | [], k, v, h => by simp [lkg] at h
  | (c, w) :: r, k, v, h => by
    rw [lkg_cons] at h
    by_cases hc : c = k
    · rw [if_pos hc] at h
      cases h
      subst hc
      exact List.mem_cons_self
    · rw [if_neg hc] at h
      exact List.mem_cons_of_mem _ (lkg_mem h)
theorem insg_new {V : Type} {F : List (A × V)} {k : A} {v : V} (h : k ∉ F.map (·.1)) : insg F k v = F ++ [(k, v)] := by
  unfold insg
  have ha : (F.any fun kv => decide (kv.1 = k)) = false := by
    rw [List.any_eq_false]
    intro kv hkv
    simp only [decide_eq_true_eq]
    exact fun e => h (List.mem_map.mpr ⟨kv, hkv, e⟩)
  rw [if_neg (by rw [ha]; exact Bool.false_ne_true)]
end
def sOf (ks : List Int) : List (Int × Bool) := ks.map fun k => (k, true)
theorem sOf_keys (ks : List Int) : (sOf ks).map (·.1) = ks := by
  unfold sOf
  rw [List.map_map]
  exact List.map_id' ks
theorem sOf_len (ks : List Int) : (sOf ks).length = ks.length := by simp [sOf]
theorem reach_row : ∀ (xs ks : List Int), ks.length + xs.length ≤ 100000 →
    forO (fun (s4 : (List (Int × Bool)) × (List Int)) (x5 : Int) => ((if (true ^^ (Option.isSome (lkg s4.1 x5))) then ((putO s4.1 x5 true).bind fun v6 => ((pushO s4.2 x5).bind fun v7 => (some (v6, v7)))) else (some (s4.1, s4.2))).bind fun (s8 : (List (Int × Bool)) × (List Int)) => (some (s8.1, s8.2)))) xs (sOf ks, ks) =
      some (sOf (addAll ks xs), addAll ks xs)
  | [], ks, _ => rfl
  | x :: xs, ks, h => by
    have sz : 200000 < sizeLine := by decide +kernel
    rw [List.length_cons] at h
    have hk := addK_len ks x
    rw [forO]
    dsimp only
    have e : (if (true ^^ (Option.isSome (lkg (sOf ks) x))) then ((putO (sOf ks) x true).bind fun v6 => ((pushO ks x).bind fun v7 => (some (v6, v7)))) else (some (sOf ks, ks))) = some (sOf (addK ks x), addK ks x) := by
      by_cases hx : x ∈ ks
      · cases q : lkg (sOf ks) x with
        | none => exact absurd (by rw [sOf_keys]; exact hx) (lkg_none.mp q)
        | some v =>
          rw [if_neg (by simp)]
          unfold addK
          rw [if_pos hx]
      · rw [lkg_none.mpr (by rw [sOf_keys]; exact hx), if_pos (by simp)]
        unfold putO pushO addK
        rw [if_pos (by rw [sOf_len]; omega), Option.bind_some, if_pos (by omega), Option.bind_some, insg_new (by rw [sOf_keys]; exact hx), if_neg hx]
        simp [sOf]
    rw [e, Option.bind_some, Option.bind_some]
    exact reach_row xs (addK ks x) (by omega)
/-- states found so far: those ahead of i have been looked at -/
structure Reach (g : List (List Int)) (N : Nat) (ks : List Int) (i : Nat) : Prop where
  nd : ks.Nodup
  bd : ∀ x ∈ ks, 0 ≤ x ∧ x < N
  z : ks[0]? = some 0
  il : i ≤ ks.length
  cl : ∀ j s, j < i → ks[j]? = some s → ∀ x ∈ (g[s.toNat]?).getD [], x ∈ ks
theorem Reach.len {g : List (List Int)} {N : Nat} {ks : List Int} {i : Nat} (h : Reach g N ks i) : ks.length ≤ N := by
  have := nodup_le (ys := rngI 0 N) h.nd fun x hx => rng_mem.mpr (h.bd x hx)
  rw [rngI_len] at this
  exact this
theorem reach_go {b N : Nat} {g : List (List Int)} (hM : Mach b N g) (hN : N ≤ 1000) (hb : b ≤ 16) : ∀ (k i : Nat) (ks : List Int), Reach g N ks i → N - i ≤ k →
    ∃ ord, whO (fun (s1 : (List (Int × Bool)) × (List Int) × Int) => (some (decide (s1.2.2 < ((s1.2.1.length : Nat) : Int))))) (fun (s1 : (List (Int × Bool)) × (List Int) × Int) => ((atO s1.2.1 s1.2.2).bind fun v2 => ((atO g v2).bind fun v3 => ((forO (fun (s4 : (List (Int × Bool)) × (List Int)) (x5 : Int) => ((if (true ^^ (Option.isSome (lkg s4.1 x5))) then ((putO s4.1 x5 true).bind fun v6 => ((pushO s4.2 x5).bind fun v7 => (some (v6, v7)))) else (some (s4.1, s4.2))).bind fun (s8 : (List (Int × Bool)) × (List Int)) => (some (s8.1, s8.2)))) v3 (s1.1, s1.2.1)).bind (fun (s4 : (List (Int × Bool)) × (List Int)) => (some (s4.1, s4.2, (s1.2.2 + (1 : Int))))))))) (sOf ks, ks, (i : Int)) = some (sOf ord, ord, (ord.length : Int)) ∧ Reach g N ord ord.length := by
  intro k
  induction k with
  | zero =>
    intro i ks h hk
    have hl := h.len
    have hi := h.il
    have e : i = ks.length := by omega
    subst e
    exact ⟨ks, whO_end (by simp), h⟩
  | succ k ih =>
    intro i ks h hk
    have hl := h.len
    have hi := h.il
    by_cases e : i = ks.length
    · subst e
      exact ⟨ks, whO_end (by simp), h⟩
    · have hlt : i < ks.length := by omega
      obtain ⟨s, e1, m1, g1⟩ := atO_ok (xs := ks) (i := (i : Int)) (by omega) (by omega)
      rw [Int.toNat_natCast] at g1
      obtain ⟨s0, s1⟩ := h.bd s m1
      obtain ⟨row, e2, m2, g2⟩ := atO_ok (xs := g) (i := s) s0 (by rw [hM.len]; exact s1)
      obtain ⟨rl, rv⟩ := hM.row row m2
      obtain ⟨ord, q1, q2⟩ := ih (i + 1) (addAll ks row) ⟨nodup_addAll h.nd, fun x hx => by
          rcases mem_addAll.mp hx with hx | hx
          · exact h.bd x hx
          · exact rv x hx, addAll_get h.z, by
          obtain ⟨hl2, _⟩ := List.getElem?_eq_some_iff.mp (addAll_get (xs := row) g1)
          omega, fun j t hj hjt x hx => by
          by_cases hji : j = i
          · subst hji
            have := addAll_get (xs := row) g1
            rw [this] at hjt
            cases hjt
            rw [g2, Option.getD_some] at hx
            exact mem_addAll.mpr (.inr hx)
          · have hj2 : j < ks.length := by omega
            have := addAll_get (xs := row) (List.getElem?_eq_getElem hj2)
            rw [this] at hjt
            exact mem_addAll.mpr (.inl (h.cl j t (by omega) (by rw [← hjt]; exact List.getElem?_eq_getElem hj2) x hx))⟩ (by omega)
      refine ⟨ord, ?_, q2⟩
      rw [whO_go (s' := (sOf (addAll ks row), addAll ks row, ((i + 1 : Nat) : Int))) (by simp; omega) (by
        dsimp only
        rw [e1, Option.bind_some, e2, Option.bind_some, reach_row row ks (by omega)]
        rfl)]
      exact q1
structure OrdOk (g : List (List Int)) (N : Nat) (ord : List Int) : Prop where
  nd : ord.Nodup
  bd : ∀ x ∈ ord, 0 ≤ x ∧ x < N
  z : ord[0]? = some 0
  len : ord.length ≤ N
  cl : ∀ s ∈ ord, ∀ x ∈ (g[s.toNat]?).getD [], x ∈ ord
theorem states_ok {b N : Nat} {g : List (List Int)} (hM : Mach b N g) (h1 : 1 ≤ N) (hN : N ≤ 1000) (hb : b ≤ 16) : ∃ ord, m_states_reached g = some ord ∧ OrdOk g N ord := by
  obtain ⟨ord, e, h⟩ := reach_go hM hN hb N 0 [0] ⟨by simp, by
    intro x hx
    rw [List.mem_singleton] at hx
    subst hx
    exact ⟨Int.le_refl _, by omega⟩, rfl, Nat.zero_le _, fun j s hj => by omega⟩ (by omega)
  refine ⟨ord, ?_, h.nd, h.bd, h.z, h.len, fun s hs x hx => ?_⟩
  · unfold m_states_reached
    have e0 : (([(0, true)], [(0 : Int)], (0 : Int)) : (List (Int × Bool)) × (List Int) × Int) = (sOf [0], [0], ((0 : Nat) : Int)) := rfl
    rw [e0, e, Option.bind_some]
  · obtain ⟨j, hj⟩ := List.mem_iff_getElem?.mp hs
    obtain ⟨hl, _⟩ := List.getElem?_eq_some_iff.mp hj
    exact h.cl j s hl hj x hx
/-- places of what stands in a row without repeats -/
theorem dct_go : ∀ (xs acc : List Int), (acc ++ xs).Nodup → dctF (fun (x2 : (Int × Int)) => (some (x2.2, x2.1))) ((xs.zipIdx acc.length).map fun p => ((p.2 : Int), p.1)) (dOf acc) = some (dOf (acc ++ xs))
  | [], acc, _ => by rw [List.append_nil]; rfl
  | x :: xs, acc, h => by
    have hx : x ∉ acc := by
      intro hm
      rw [List.nodup_append] at h
      exact h.2.2 x hm x List.mem_cons_self rfl
    have e : acc ++ x :: xs = (acc ++ [x]) ++ xs := by simp
    rw [e] at h
    have := dct_go xs (acc ++ [x]) h
    rw [List.zipIdx_cons, List.map_cons, dctF, Option.bind_some]
    dsimp only
    have hi := insg_dOf hx
    rw [dOf_len] at hi
    rw [hi, e]
    rw [List.length_append, List.length_singleton] at this
    exact this
theorem dct_ok {xs : List Int} (h : xs.Nodup) (hl : xs.length ≤ 1000) : dctZ (fun (x2 : (Int × Int)) => (some (x2.2, x2.1))) (enumI xs) = some (dOf xs) := by
  have sz := szl2
  unfold dctZ enumI
  rw [if_pos (by simp; omega)]
  exact dct_go xs [] (by simpa using h)
/-- the row of a state -/
theorem row_mem {b N : Nat} {g : List (List Int)} (h : Mach b N g) {s : Int} (s0 : 0 ≤ s) (s1 : s < N) : ∃ row, atO g s = some row ∧ g[s.toNat]? = some row ∧ row.length = b ∧ ∀ y ∈ row, ∃ x : Int, 0 ≤ x ∧ x < b ∧ y = step g s x := by
  obtain ⟨row, e1, m1, g1⟩ := atO_ok (xs := g) s0 (by rw [h.len]; exact s1)
  have l := (h.row row m1).1
  refine ⟨row, e1, g1, l, fun y hy => ?_⟩
  obtain ⟨j, hj⟩ := List.mem_iff_getElem?.mp hy
  obtain ⟨hl, _⟩ := List.getElem?_eq_some_iff.mp hj
  refine ⟨(j : Int), by omega, by omega, ?_⟩
  unfold step
  rw [g1, Option.getD_some, Int.toNat_natCast, hj, Option.getD_some]
/-- a machine of which some states stand for all -/
theorem quot_ok {b N : Nat} {g : List (List Int)} {a : List Str} (hM : Mach b N g) (h2 : 2 ≤ b) {sel : List Int} {h : Int → Int} {S : Int → Prop}
    (hS : ∀ s, S s → 0 ≤ s ∧ s < N) (S0 : S 0) (cl : ∀ s, S s → ∀ x : Int, 0 ≤ x → x < b → S (step g s x)) (z : step g 0 0 = 0) (h0 : h 0 = 0) (ss : ∀ t ∈ sel, S t)
    (hh : ∀ s, S s → 0 ≤ h s ∧ h s < sel.length ∧ ∀ t, sel[(h s).toNat]? = some t → a[t.toNat]? = a[s.toNat]? ∧ ∀ x : Int, 0 ≤ x → x < b → h (step g t x) = h (step g s x)) :
    Mach b sel.length (sel.map fun t => ((g[t.toNat]?).getD []).map h) ∧ step (sel.map fun t => ((g[t.toNat]?).getD []).map h) 0 0 = 0 ∧
      ∀ n, ansN b (sel.map fun t => ((g[t.toNat]?).getD []).map h) (sel.map fun t => (a[t.toNat]?).getD "") n = ansN b g a n := by
  have hst : ∀ s, S s → ∀ x : Int, 0 ≤ x → x < b → step (sel.map fun t => ((g[t.toNat]?).getD []).map h) (h s) x = h (step g s x) := by
    intro s hs x x0 x1
    obtain ⟨q0, q1, q2⟩ := hh s hs
    obtain ⟨t, _, mt, gt⟩ := atO_ok (xs := sel) q0 q1
    obtain ⟨p1, p2⟩ := q2 t gt
    obtain ⟨t0, t1⟩ := hS t (ss t mt)
    obtain ⟨row, _, grow, lrow, _⟩ := row_mem hM t0 t1
    rw [← p2 x x0 x1]
    unfold step
    rw [List.getElem?_map, gt, Option.map_some, Option.getD_some, grow, Option.getD_some, List.getElem?_map, List.getElem?_eq_getElem (by omega)]
    rfl
  have hw : ∀ (ds : List Int) (s : Int), S s → (∀ x ∈ ds, 0 ≤ x ∧ x < b) → S (walk g s ds) ∧ walk (sel.map fun t => ((g[t.toNat]?).getD []).map h) (h s) ds = h (walk g s ds) := by
    intro ds
    induction ds with
    | nil => exact fun s hs _ => ⟨hs, rfl⟩
    | cons x ds ih =>
      intro s hs hd
      obtain ⟨x0, x1⟩ := hd x List.mem_cons_self
      obtain ⟨i1, i2⟩ := ih (step g s x) (cl s hs x x0 x1) fun y hy => hd y (List.mem_cons_of_mem _ hy)
      refine ⟨i1, ?_⟩
      show walk _ (step _ (h s) x) ds = h (walk g (step g s x) ds)
      rw [hst s hs x x0 x1]
      exact i2
  refine ⟨⟨by simp, fun r hr => ?_⟩, ?_, fun n => ?_⟩
  · obtain ⟨t, mt, rfl⟩ := List.mem_map.mp hr
    obtain ⟨t0, t1⟩ := hS t (ss t mt)
    obtain ⟨row, _, grow, lrow, mrow⟩ := row_mem hM t0 t1
    rw [grow, Option.getD_some]
    refine ⟨by simp [lrow], fun y hy => ?_⟩
    obtain ⟨v, mv, rfl⟩ := List.mem_map.mp hy
    obtain ⟨x, x0, x1, rfl⟩ := mrow v mv
    obtain ⟨q0, q1, _⟩ := hh _ (cl t (ss t mt) x x0 x1)
    exact ⟨q0, q1⟩
  · have := hst 0 S0 0 (Int.le_refl _) (by omega)
    rw [h0, z, h0] at this
    exact this
  · obtain ⟨w1, w2⟩ := hw (rdigs b n).reverse 0 S0 fun x m => rdigs_mem h2 n x (List.mem_reverse.mp m)
    rw [h0] at w2
    unfold ansN
    rw [w2]
    obtain ⟨q0, q1, q2⟩ := hh _ w1
    obtain ⟨t, _, mt, gt⟩ := atO_ok (xs := sel) q0 q1
    rw [List.getElem?_map, gt, Option.map_some, Option.getD_some, (q2 t gt).1]
end WK

/-! plain facts: classes of states -/
namespace WK
open PySem PySem.Spec PyProof.Rows L2 DL B
def On (K : List Int) (c : Nat) : Prop := ∀ v : Int, v ∈ K ↔ 0 ≤ v ∧ v < c
section
variable {A : Type} [DecidableEq A]
structure Nums (xs : List A) (K : List Int) (c : Nat) : Prop where
  len : K.length = xs.length
  eq : ∀ i j : Nat, i < xs.length → j < xs.length → (K[i]? = K[j]? ↔ xs[i]? = xs[j]?)
  on : On K c
  ks : ∃ ks : List A, ks.Nodup ∧ (∀ x, x ∈ ks ↔ x ∈ xs) ∧ ks.length = c
  z : 1 ≤ xs.length → K[0]? = some 0
theorem at_some {ks : List A} {x : A} (h : x ∈ ks) : ∃ i, at? ks x = some i := by
  cases q : at? ks x with
  | none => exact absurd h (at_none.mp q)
  | some i => exact ⟨i, rfl⟩
theorem nums_ok (xs : List A) : Nums xs (xs.map (numF (addAll [] xs))) (addAll [] xs).length := by
  have hm : ∀ x, x ∈ addAll [] xs ↔ x ∈ xs := fun x => by rw [mem_addAll]; simp
  have hn : (addAll ([] : List A) xs).Nodup := nodup_addAll (by simp)
  refine ⟨by simp, fun i j hi hj => ?_, fun v => ?_, ⟨_, hn, hm, rfl⟩, fun h1 => ?_⟩
  · rw [List.getElem?_map, List.getElem?_map, List.getElem?_eq_getElem hi, List.getElem?_eq_getElem hj]
    simp only [Option.map_some, Option.some.injEq]
    constructor
    · intro h
      obtain ⟨p, hp⟩ := at_some ((hm _).mpr (List.getElem_mem hi))
      obtain ⟨q, hq⟩ := at_some ((hm _).mpr (List.getElem_mem hj))
      unfold numF at h
      rw [hp, hq] at h
      have h' : (p : Int) = (q : Int) := h
      have : p = q := by omega
      subst this
      exact at_inj hp hq
    · intro h
      rw [h]
  · constructor
    · intro h
      obtain ⟨x, hx, rfl⟩ := List.mem_map.mp h
      obtain ⟨p, hp⟩ := at_some ((hm _).mpr hx)
      have := (at_lt hp).1
      unfold numF
      rw [hp, Option.getD_some]
      omega
    · rintro ⟨v0, v1⟩
      have hv : v.toNat < (addAll ([] : List A) xs).length := by omega
      have hg := List.getElem?_eq_getElem hv
      refine List.mem_map.mpr ⟨_, (hm _).mp (List.getElem_mem hv), ?_⟩
      unfold numF
      rw [at_get hn hg, Option.getD_some]
      omega
  · cases xs with
    | nil => simp at h1
    | cons x r =>
      rw [List.map_cons, List.getElem?_cons_zero]
      have e : at? (addAll ([] : List A) (x :: r)) x = some 0 := by
        show at? (addAll (addK [] x) r) x = some 0
        exact addAll_at (by simp [addK, at?])
      unfold numF
      rw [e]
      rfl
end
theorem On.pos {K : List Int} {c : Nat} (h : On K c) (hk : 1 ≤ K.length) : 1 ≤ c := by
  have hm := (h _).mp (List.getElem_mem (show 0 < K.length by omega))
  omega
theorem On.le {K : List Int} {c : Nat} (h : On K c) : c ≤ K.length := by
  have := nodup_le (xs := rngI 0 c) (ys := K) (by
    unfold rngI
    rw [List.Nodup, List.pairwise_map]
    exact List.nodup_range.imp fun h e => h (by omega)) fun x hx => (h x).mpr (rng_mem.mp hx)
  rw [rngI_len] at this
  exact this
theorem max_on {K : List Int} {c : Nat} (h : On K c) (hk : 1 ≤ K.length) : maxL K = some ((c : Int) - 1) := by
  have hc := h.pos hk
  cases K with
  | nil => simp at hk
  | cons x r =>
    obtain ⟨h1, h2, h3⟩ := foldl_max r x
    have a1 : r.foldl max x ∈ x :: r := by
      rcases h3 with h3 | h3
      · rw [h3]; exact List.mem_cons_self
      · exact List.mem_cons_of_mem _ h3
    have a2 := (h _).mp a1
    have a3 := (h ((c : Int) - 1)).mpr ⟨by omega, by omega⟩
    have a4 : (c : Int) - 1 ≤ r.foldl max x := by
      rcases List.mem_cons.mp a3 with e | e
      · rw [e]; exact h1
      · exact h2 _ e
    show some (r.foldl max x) = _
    congr 1
    omega
def kf (K : List Int) (i : Int) : Int := (K[i.toNat]?).getD 0
def sgnT (K : List Int) (p : Int × List Int) : List Int := kf K p.1 :: p.2.map (kf K)
def signs (g : List (List Int)) (K : List Int) : List (List Int) := (enumI g).map (sgnT K)
theorem at_kf {K : List Int} {i : Int} (h0 : 0 ≤ i) (h1 : i < K.length) : atO K i = some (kf K i) := by
  obtain ⟨x, e, _, gx⟩ := atO_ok h0 h1
  rw [e]
  unfold kf
  rw [gx, Option.getD_some]
theorem kf_get {K : List Int} {i : Int} (h0 : 0 ≤ i) (h1 : i < K.length) : K[i.toNat]? = some (kf K i) := by
  obtain ⟨x, e, _, gx⟩ := atO_ok h0 h1
  unfold kf
  rw [gx, Option.getD_some]
theorem kf_mem {K : List Int} {i : Int} (h0 : 0 ≤ i) (h1 : i < K.length) : kf K i ∈ K := List.mem_of_getElem? (kf_get h0 h1)
theorem enumI_mem {A : Type} {xs : List A} {p : Int × A} (h : p ∈ enumI xs) : ∃ i : Nat, p.1 = i ∧ xs[i]? = some p.2 := by
  unfold enumI at h
  obtain ⟨q, hq, rfl⟩ := List.mem_map.mp h
  exact ⟨q.2, rfl, List.mem_zipIdx_iff_getElem?.mp hq⟩
theorem enumI_get {A : Type} (xs : List A) (i : Nat) : (enumI xs)[i]? = (xs[i]?).map fun x => ((i : Int), x) := by
  unfold enumI
  rw [List.getElem?_map, List.getElem?_zipIdx]
  cases xs[i]? with
  | none => rfl
  | some x => simp
theorem enumI_len {A : Type} (xs : List A) : (enumI xs).length = xs.length := by simp [enumI]
theorem signs_len (g : List (List Int)) (K : List Int) : (signs g K).length = g.length := by simp [signs, enumI_len]
theorem signs_get {g : List (List Int)} {K : List Int} {i : Nat} {row : List Int} (h : g[i]? = some row) : (signs g K)[i]? = some (kf K i :: row.map (kf K)) := by
  unfold signs
  rw [List.getElem?_map, enumI_get, h]
  rfl
theorem signs_ok {b M : Nat} {g : List (List Int)} (hM : Mach b M g) (hm : M ≤ 1000) (hb : b ≤ 16) {K : List Int} (hK : K.length = M) :
    mapZ (fun (x5 : (Int × (List Int))) => ((atO K x5.1).bind fun v6 => ((mapZ (fun (x7 : Int) => ((atO K x7).bind fun v8 => (some v8))) x5.2).bind (fun (ys9 : List Int) => ((addL [v6] ys9).bind fun v10 => (some v10)))))) (enumI g) = some (signs g K) := by
  have sz := szl2
  rw [mapZ_inv (sgnT K) (by rw [enumI_len, hM.len]; omega) fun p hp => by
    obtain ⟨i, e, gi⟩ := enumI_mem hp
    obtain ⟨hl, _⟩ := List.getElem?_eq_some_iff.mp gi
    rw [hM.len] at hl
    obtain ⟨rl, rv⟩ := hM.row p.2 (List.mem_of_getElem? gi)
    rw [at_kf (K := K) (i := p.1) (by omega) (by omega), Option.bind_some, mapZ_inv (kf K) (by omega) fun x hx => by
      have := rv x hx
      rw [at_kf (K := K) (i := x) (by omega) (by omega)]
      rfl]
    have : addL [kf K p.1] (p.2.map (kf K)) = some ([kf K p.1] ++ p.2.map (kf K)) := if_pos (by simp; omega)
    rw [Option.bind_some, this]
    rfl]
  rfl
/-- states with the same number have the same number in the next round, if there are no more numbers -/
theorem stable {b M : Nat} {g : List (List Int)} (hM : Mach b M g) {P K : List Int} {had c : Nat} (hP : P.length = M) (oP : On P had) (hK : Nums (signs g P) K c) (hc : c ≤ had) :
    ∀ i j : Nat, i < M → j < M → P[i]? = P[j]? → K[i]? = K[j]? := by
  intro i j hi hj hp
  have hlen : (signs g P).length = M := by rw [signs_len, hM.len]
  rw [hK.eq i j (by omega) (by omega)]
  obtain ⟨ks, k1, k2, k3⟩ := hK.ks
  have row : ∀ m, m < M → ∃ r, g[m]? = some r := fun m hm => ⟨_, List.getElem?_eq_getElem (by rw [hM.len]; exact hm)⟩
  obtain ⟨ri, gi⟩ := row i hi
  obtain ⟨rj, gj⟩ := row j hj
  have si := signs_get (K := P) gi
  have sj := signs_get (K := P) gj
  rw [si, sj]
  by_cases hne : kf P i :: ri.map (kf P) = kf P j :: rj.map (kf P)
  · rw [hne]
  · exfalso
    have mi := (k2 _).mpr (List.mem_of_getElem? si)
    have mj := (k2 _).mpr (List.mem_of_getElem? sj)
    have hij : kf P (i : Int) = kf P (j : Int) := by
      unfold kf
      rw [Int.toNat_natCast, Int.toNat_natCast, hp]
    have h1 := nodup_le (xs := rngI 0 had) (ys := (ks.erase (kf P j :: rj.map (kf P))).map fun l => l.headD 0) (by
      unfold rngI
      rw [List.Nodup, List.pairwise_map]
      exact List.nodup_range.imp fun h e => h (by omega)) fun v hv => by
        obtain ⟨m, hm⟩ := List.mem_iff_getElem?.mp ((oP v).mpr (rng_mem.mp hv))
        obtain ⟨ml, _⟩ := List.getElem?_eq_some_iff.mp hm
        obtain ⟨rm, gm⟩ := row m (by omega)
        have sm := signs_get (K := P) gm
        have mm := (k2 _).mpr (List.mem_of_getElem? sm)
        have hv : kf P (m : Int) = v := by
          unfold kf
          rw [Int.toNat_natCast, hm, Option.getD_some]
        rw [List.mem_map]
        by_cases hmj : kf P m :: rm.map (kf P) = kf P j :: rj.map (kf P)
        · refine ⟨_, (List.mem_erase_of_ne hne).mpr mi, ?_⟩
          show kf P (i : Int) = v
          rw [hij, ← hv]
          injection hmj with e _
          exact e.symm
        · exact ⟨_, (List.mem_erase_of_ne hmj).mpr mm, hv⟩
    rw [rngI_len, List.length_map, List.length_erase_of_mem mj] at h1
    have := List.length_pos_of_mem mj
    omega
structure LInv (b M : Nat) (g : List (List Int)) (a : List Str) (K : List Int) (had : Nat) : Prop where
  len : K.length = M
  c : ∃ c, On K c ∧ (had = 0 ∨ ∃ P : List Int, P.length = M ∧ On P had ∧ Nums (signs g P) K c)
  ans : ∀ i j : Nat, i < M → j < M → K[i]? = K[j]? → a[i]? = a[j]?
  z : K[0]? = some 0
/-- classes of states -/
structure Parts (b M : Nat) (g : List (List Int)) (a : List Str) (K : List Int) (c : Nat) : Prop where
  len : K.length = M
  on : On K c
  ans : ∀ i j : Nat, i < M → j < M → K[i]? = K[j]? → a[i]? = a[j]?
  st : ∀ i j : Nat, i < M → j < M → K[i]? = K[j]? → ∀ x : Int, 0 ≤ x → x < b → kf K (step g i x) = kf K (step g j x)
  z : K[0]? = some 0
theorem step_sign {b M : Nat} {g : List (List Int)} (hM : Mach b M g) {P : List Int} {i j : Nat} (hi : i < M) (hj : j < M) (h : (signs g P)[i]? = (signs g P)[j]?) : kf P (i : Int) = kf P (j : Int) ∧ ∀ x : Int, 0 ≤ x → x < b → kf P (step g i x) = kf P (step g j x) := by
  have gi := List.getElem?_eq_getElem (show i < g.length by rw [hM.len]; exact hi)
  have gj := List.getElem?_eq_getElem (show j < g.length by rw [hM.len]; exact hj)
  rw [signs_get gi, signs_get gj] at h
  injection h with h
  injection h with h1 h2
  refine ⟨h1, fun x x0 x1 => ?_⟩
  have li := (hM.row _ (List.mem_of_getElem? gi)).1
  have lj := (hM.row _ (List.mem_of_getElem? gj)).1
  have e := congrArg (fun l : List Int => l[x.toNat]?) h2
  simp only [List.getElem?_map] at e
  unfold step
  rw [Int.toNat_natCast, Int.toNat_natCast, gi, gj, Option.getD_some, Option.getD_some]
  rw [List.getElem?_eq_getElem (by omega), List.getElem?_eq_getElem (by omega)] at e ⊢
  simpa using e
theorem parts_of {b M : Nat} {g : List (List Int)} (hM : Mach b M g) {a : List Str} {K : List Int} {had c : Nat} (h : LInv b M g a K had) (o : On K c) (hc : c ≤ had) (h1 : 1 ≤ M) : Parts b M g a K c := by
  have hpos := o.pos (by rw [h.len]; exact h1)
  refine ⟨h.len, o, h.ans, fun i j hi hj hk x x0 x1 => ?_, h.z⟩
  obtain ⟨c', o', hP⟩ := h.c
  have hcc : c' = c := by
    have a1 := (o' ((c : Int) - 1)).mp ((o _).mpr ⟨by omega, by omega⟩)
    have h' := o'.pos (by rw [h.len]; exact h1)
    have a2 := (o ((c' : Int) - 1)).mp ((o' _).mpr ⟨by omega, by omega⟩)
    omega
  subst hcc
  rcases hP with rfl | ⟨P, lP, oP, nP⟩
  · omega
  · have hl : (signs g P).length = M := by rw [signs_len, hM.len]
    obtain ⟨_, e⟩ := step_sign hM hi hj ((nP.eq i j (by omega) (by omega)).mp hk)
    obtain ⟨_, _, _, p0, p1⟩ := step_ok hM (s := (i : Int)) (by omega) (by omega) x0 x1
    obtain ⟨_, _, _, q0, q1⟩ := step_ok hM (s := (j : Int)) (by omega) (by omega) x0 x1
    have e1 := e x x0 x1
    have e2 := stable hM lP oP nP hc (step g i x).toNat (step g j x).toNat (by omega) (by omega) (by
      rw [kf_get p0 (by omega), kf_get q0 (by omega), e1])
    unfold kf
    rw [e2]
theorem classes_go {b M : Nat} {g : List (List Int)} (hM : Mach b M g) (h1 : 1 ≤ M) (hm : M ≤ 1000) (hb : b ≤ 16) {a : List Str} : ∀ (k : Nat) (K : List Int) (had : Nat), LInv b M g a K had → M - had ≤ k →
    ∃ K' c, ((whO (fun (s2 : (List Int) × Int) => ((maxL s2.1).bind fun v3 => (some (decide ((v3 + (1 : Int)) > s2.2))))) (fun (s2 : (List Int) × Int) => ((maxL s2.1).bind fun v4 => ((mapZ (fun (x5 : (Int × (List Int))) => ((atO s2.1 x5.1).bind fun v6 => ((mapZ (fun (x7 : Int) => ((atO s2.1 x7).bind fun v8 => (some v8))) x5.2).bind (fun (ys9 : List Int) => ((addL [v6] ys9).bind fun v10 => (some v10)))))) (enumI g)).bind (fun (ys11 : List (List Int)) => ((m_numbered_t ys11).bind fun r12 => (some (r12, (v4 + (1 : Int))))))))) (K, (had : Int))).bind (fun (s2 : (List Int) × Int) => (some s2.1))) = some K' ∧ Parts b M g a K' c := by
  intro k
  induction k with
  | zero =>
    intro K had h hk
    obtain ⟨c, o, _⟩ := h.c
    have hc := o.le
    rw [h.len] at hc
    have hx := max_on o (by rw [h.len]; exact h1)
    refine ⟨K, c, ?_, parts_of hM h o (by omega) h1⟩
    rw [whO_end (by
      dsimp only
      rw [hx, Option.bind_some]
      congr 1
      simp
      omega)]
    rfl
  | succ k ih =>
    intro K had h hk
    obtain ⟨c, o, _⟩ := h.c
    have hc := o.le
    rw [h.len] at hc
    have hx := max_on o (by rw [h.len]; exact h1)
    by_cases hlt : had < c
    · have hn := nums_ok (signs g K)
      have hl : (signs g K).length = M := by rw [signs_len, hM.len]
      obtain ⟨K', c', e, p⟩ := ih _ c ⟨by rw [hn.len, hl], ⟨_, hn.on, .inr ⟨K, h.len, o, hn⟩⟩, fun i j hi hj hk => by
        obtain ⟨e1, _⟩ := step_sign hM hi hj ((hn.eq i j (by omega) (by omega)).mp hk)
        have g1 := kf_get (K := K) (i := (i : Int)) (by omega) (by rw [h.len]; omega)
        have g2 := kf_get (K := K) (i := (j : Int)) (by omega) (by rw [h.len]; omega)
        rw [Int.toNat_natCast] at g1 g2
        exact h.ans i j hi hj (by rw [g1, g2, e1]), hn.z (by omega)⟩ (by omega)
      refine ⟨K', c', ?_, p⟩
      rw [whO_go (s' := ((signs g K).map (numF (addAll [] (signs g K))), (c : Int))) (by
        dsimp only
        rw [hx, Option.bind_some]
        congr 1
        simp
        omega) (by
        dsimp only
        rw [hx, Option.bind_some, signs_ok hM hm hb h.len, Option.bind_some, numberedT_ok (by omega), Option.bind_some]
        congr 2
        omega)]
      exact e
    · refine ⟨K, c, ?_, parts_of hM h o (by omega) h1⟩
      rw [whO_end (by
        dsimp only
        rw [hx, Option.bind_some]
        congr 1
        simp
        omega)]
      rfl
theorem classes_ok {b M : Nat} {g : List (List Int)} (hM : Mach b M g) (h1 : 1 ≤ M) (hm : M ≤ 1000) (hb : b ≤ 16) {a : List Str} (ha : a.length = M) : ∃ K c, m_classes_of g a = some K ∧ Parts b M g a K c := by
  unfold m_classes_of
  have hn := nums_ok a
  rw [numbered_ok (by omega), Option.bind_some]
  exact classes_go hM h1 hm hb M _ 0 ⟨by rw [hn.len, ha], ⟨_, hn.on, .inl rfl⟩, fun i j hi hj hk => (hn.eq i j (by omega) (by omega)).mp hk, hn.z (by omega)⟩ (by omega)
/-- the first one of each class -/
theorem firsts_go {K : List Int} : ∀ (xs : List (Int × Int)) (F : List (Int × Int)), F.length + xs.length ≤ 100000 → (F.map (·.1)).Nodup → (∀ p ∈ F, 0 ≤ p.2 ∧ p.2 < K.length ∧ kf K p.2 = p.1) → (∀ p ∈ xs, 0 ≤ p.1 ∧ p.1 < K.length ∧ kf K p.1 = p.2) →
    ∃ F', forO (fun (s14 : (List (Int × Int))) (x15 : (Int × Int)) => ((if (true ^^ (Option.isSome (lkg s14 x15.2))) then ((putO s14 x15.2 x15.1).bind fun v16 => (some v16)) else (some s14)).bind fun (s17 : (List (Int × Int))) => (some s17))) xs F = some F' ∧ (F'.map (·.1)).Nodup ∧ (∀ p ∈ F', 0 ≤ p.2 ∧ p.2 < K.length ∧ kf K p.2 = p.1) ∧ ∀ k, k ∈ F'.map (·.1) ↔ k ∈ F.map (·.1) ∨ k ∈ xs.map (·.2)
  | [], F, _, h1, h2, _ => ⟨F, rfl, h1, h2, fun k => by simp⟩
  | x :: xs, F, hl, h1, h2, h3 => by
    have sz : 200000 < sizeLine := by decide +kernel
    rw [List.length_cons] at hl
    rw [forO]
    have h3' := fun p hp => h3 p (List.mem_cons_of_mem _ hp)
    cases q : lkg F x.2 with
    | some v =>
      rw [if_neg (by simp), Option.bind_some, Option.bind_some]
      obtain ⟨F', e, a1, a2, a3⟩ := firsts_go xs F (by omega) h1 h2 h3'
      refine ⟨F', e, a1, a2, fun k => ?_⟩
      rw [a3, List.map_cons, List.mem_cons]
      have : x.2 ∈ F.map (·.1) := List.mem_map.mpr ⟨_, lkg_mem q, rfl⟩
      constructor
      · rintro (h | h)
        · exact .inl h
        · exact .inr (.inr h)
      · rintro (h | rfl | h)
        · exact .inl h
        · exact .inl this
        · exact .inr h
    | none =>
      have hx := lkg_none.mp q
      rw [if_pos (by simp)]
      have hp : putO F x.2 x.1 = some (F ++ [(x.2, x.1)]) := by
        unfold putO
        rw [if_pos (by omega), insg_new hx]
      rw [hp, Option.bind_some, Option.bind_some, Option.bind_some]
      obtain ⟨F', e, a1, a2, a3⟩ := firsts_go xs (F ++ [(x.2, x.1)]) (by rw [List.length_append, List.length_singleton]; omega) (by
        rw [List.map_append]
        exact nodup_snoc h1 hx) (fun p hp => by
        rcases List.mem_append.mp hp with hp | hp
        · exact h2 p hp
        · rw [List.mem_singleton.mp hp]
          exact h3 x List.mem_cons_self) h3'
      refine ⟨F', e, a1, a2, fun k => ?_⟩
      rw [a3, List.map_append, List.mem_append, List.map_cons, List.map_nil, List.mem_singleton, List.map_cons, List.mem_cons, or_assoc]
theorem firsts_ok {K : List Int} {c : Nat} (o : On K c) (hl : K.length ≤ 1000) : ∃ F : List (Int × Int), forO (fun (s14 : (List (Int × Int))) (x15 : (Int × Int)) => ((if (true ^^ (Option.isSome (lkg s14 x15.2))) then ((putO s14 x15.2 x15.1).bind fun v16 => (some v16)) else (some s14)).bind fun (s17 : (List (Int × Int))) => (some s17))) (enumI K) ([] : (List (Int × Int))) = some F ∧ F.length = c ∧
    ∀ k : Int, 0 ≤ k → k < c → ∃ v, lkg F k = some v ∧ 0 ≤ v ∧ v < K.length ∧ kf K v = k := by
  obtain ⟨F, e, a1, a2, a3⟩ := firsts_go (K := K) (enumI K) [] (by rw [enumI_len]; simp; omega) (by simp) (fun p hp => by cases hp) (fun p hp => by
    obtain ⟨i, ei, gi⟩ := enumI_mem hp
    obtain ⟨il, _⟩ := List.getElem?_eq_some_iff.mp gi
    refine ⟨by omega, by omega, ?_⟩
    unfold kf
    rw [ei, Int.toNat_natCast, gi, Option.getD_some])
  have hk : ∀ k : Int, k ∈ F.map (·.1) ↔ 0 ≤ k ∧ k < c := by
    intro k
    rw [a3, ← o k]
    have : (enumI K).map (·.2) = K := by
      apply List.ext_getElem?
      intro i
      rw [List.getElem?_map, enumI_get]
      cases K[i]? <;> rfl
    rw [this]
    simp
  refine ⟨F, e, ?_, fun k k0 k1 => ?_⟩
  · have l1 := nodup_le (ys := rngI 0 c) a1 fun x hx => rng_mem.mpr ((hk x).mp hx)
    have l2 := On.le (K := F.map fun x : Int × Int => x.1) (c := c) (fun v => hk v)
    rw [rngI_len, List.length_map] at l1
    rw [List.length_map] at l2
    omega
  · cases q : lkg F k with
    | none => exact absurd ((hk k).mpr ⟨k0, k1⟩) (lkg_none.mp q)
    | some v => exact ⟨v, rfl, a2 _ (lkg_mem q)⟩
end WK

/-! plain facts: the least machine answers alike -/
namespace WK
open PySem PySem.Spec PyProof.Rows L2 DL B
theorem numF_get {ks : List Int} {x : Int} (h : x ∈ ks) : ∃ i : Nat, numF ks x = i ∧ i < ks.length ∧ ks[i]? = some x ∧ lkg (dOf ks) x = some (numF ks x) := by
  obtain ⟨i, hi⟩ := at_some h
  obtain ⟨l, g⟩ := at_lt hi
  have e : numF ks x = i := by
    unfold numF
    rw [hi]
    rfl
  exact ⟨i, e, l, g, by rw [lkg_dOf, hi, e]; rfl⟩
theorem getD_mem {a : List Str} {i : Nat} (h : i < a.length) : (a[i]?).getD ("" : Str) ∈ a := by
  rw [List.getElem?_eq_getElem h, Option.getD_some]
  exact List.getElem_mem h
theorem rows_ok {b N : Nat} {g : List (List Int)} (hM : Mach b N g) (hb : b ≤ 16) {sel : List Int} (hl : sel.length ≤ 1000) (hs : ∀ t ∈ sel, 0 ≤ t ∧ t < N) {f : Int → Option Int} (h : Int → Int)
    (hf : ∀ t ∈ sel, ∀ y ∈ (g[t.toNat]?).getD [], f y = some (h y)) :
    mapZ (fun (x4 : Int) => ((atO g x4).bind fun v5 => ((mapZ f v5).bind (fun (ys8 : List Int) => (some ys8))))) sel = some (sel.map fun t => ((g[t.toNat]?).getD []).map h) := by
  have sz := szl2
  rw [mapZ_inv (fun t => ((g[t.toNat]?).getD []).map h) (by omega) fun t ht => by
    obtain ⟨t0, t1⟩ := hs t ht
    obtain ⟨row, e, gr, l, _⟩ := row_mem hM t0 t1
    have hfy := hf t ht
    rw [gr, Option.getD_some] at hfy
    rw [e, Option.bind_some, mapZ_inv h (by omega) hfy, gr]
    rfl]
theorem anss_ok {a : List Str} {sel : List Int} (hl : sel.length ≤ 1000) (hs : ∀ t ∈ sel, 0 ≤ t ∧ t < a.length) :
    mapZ (fun (x10 : Int) => ((atO a x10).bind fun v11 => (some v11))) sel = some (sel.map fun t => (a[t.toNat]?).getD ("" : Str)) := by
  have sz := szl2
  rw [mapZ_inv (fun t => (a[t.toNat]?).getD ("" : Str)) (by omega) fun t ht => by
    obtain ⟨t0, t1⟩ := hs t ht
    obtain ⟨y, e, _, gy⟩ := atO_ok t0 t1
    rw [e, gy]
    rfl]
theorem least_due : LeastDue := by
  intro b N g a hM h1 hN h2 hb ha z
  obtain ⟨ord, e1, O⟩ := states_ok hM h1 hN hb
  have hz := List.mem_of_getElem? O.z
  have hord : 1 ≤ ord.length := List.length_pos_of_mem hz
  -- the states that are reached
  have hcl : ∀ s ∈ ord, ∀ x : Int, 0 ≤ x → x < b → step g s x ∈ ord := by
    intro s hs x x0 x1
    obtain ⟨s0, s1⟩ := O.bd s hs
    obtain ⟨row, r1, r2, _, _⟩ := step_ok hM s0 s1 x0 x1
    obtain ⟨row', r1', gr, l, _⟩ := row_mem hM s0 s1
    rw [r1] at r1'
    cases r1'
    refine O.cl s hs _ ?_
    rw [gr, Option.getD_some]
    obtain ⟨y, q, my, _⟩ := atO_ok (xs := row) x0 (by omega)
    rw [r2] at q
    cases q
    exact my
  have n0 : numF ord 0 = 0 := by
    unfold numF
    rw [at_get O.nd O.z]
    rfl
  obtain ⟨A1, A2, A3⟩ := quot_ok (a := a) (sel := ord) (h := numF ord) (S := (· ∈ ord)) hM h2 O.bd hz hcl z n0 (fun t ht => ht) (fun s hs => by
    obtain ⟨i, ei, il, gi, _⟩ := numF_get hs
    refine ⟨by omega, by omega, fun t ht => ?_⟩
    rw [ei, Int.toNat_natCast, gi] at ht
    cases ht
    exact ⟨rfl, fun x _ _ => rfl⟩)
  have la1 : (ord.map fun t => (a[t.toNat]?).getD ("" : Str)).length = ord.length := by simp
  have A4 := rows_ok (f := fun x6 => ((lkg (dOf ord) x6).bind fun v7 => (some v7))) hM hb (sel := ord) (by have := O.len; omega) O.bd (numF ord) (fun t ht y hy => by
    obtain ⟨_, _, _, _, e⟩ := numF_get (O.cl t ht y hy)
    show (lkg (dOf ord) y).bind _ = _
    rw [e]
    rfl)
  have A5 := anss_ok (a := a) (sel := ord) (by have := O.len; omega) (fun t ht => by rw [ha]; exact O.bd t ht)
  revert A1 A2 A3 A4 A5 la1
  generalize hg1 : (ord.map fun t => ((g[t.toNat]?).getD []).map (numF ord)) = g1
  generalize ha1 : (ord.map fun t => (a[t.toNat]?).getD ("" : Str)) = a1
  intro A1 A2 A3 la1 A4 A5
  -- classes
  have hM1 : ord.length ≤ 1000 := by have := O.len; omega
  obtain ⟨K, c, e2, C⟩ := classes_ok A1 hord hM1 hb la1
  obtain ⟨F, e3, lF, hF⟩ := firsts_ok C.on (by rw [C.len]; exact hM1)
  have hc1 := C.on.pos (by rw [C.len]; exact hord)
  have hcl1 := C.on.le
  rw [C.len] at hcl1
  let sel : List Int := (rngI 0 c).map fun k => (lkg F k).getD 0
  have lsel : sel.length = c := by simp [sel, rngI_len]
  have hsel : ∀ t ∈ sel, 0 ≤ t ∧ t < ord.length := by
    intro t ht
    obtain ⟨k, hk, rfl⟩ := List.mem_map.mp ht
    obtain ⟨k0, k1⟩ := rng_mem.mp hk
    obtain ⟨v, ev, v0, v1, _⟩ := hF k k0 k1
    rw [ev, Option.getD_some]
    rw [C.len] at v1
    exact ⟨v0, v1⟩
  have hgsel : ∀ k : Int, 0 ≤ k → k < c → ∀ t, sel[k.toNat]? = some t → kf K t = k := by
    intro k k0 k1 t ht
    obtain ⟨v, ev, v0, v1, hv⟩ := hF k k0 k1
    simp only [sel, rngI, List.getElem?_map, List.getElem?_range (show k.toNat < c by omega), Option.map_some, Option.some.injEq] at ht
    rw [show (0 : Int) + ((k.toNat : Nat) : Int) = k by omega, ev, Option.getD_some] at ht
    rw [← ht]
    exact hv
  obtain ⟨B1, B2, B3⟩ := quot_ok (a := a1) (sel := sel) (h := kf K) (S := fun s => 0 ≤ s ∧ s < ord.length) A1 h2 (fun s hs => hs) ⟨Int.le_refl _, by omega⟩ (fun s hs x x0 x1 => by
      obtain ⟨_, _, _, p0, p1⟩ := step_ok A1 hs.1 hs.2 x0 x1
      exact ⟨p0, p1⟩) A2 (by
      unfold kf
      rw [show ((0 : Int).toNat) = 0 from rfl, C.z]
      rfl) hsel (fun s hs => by
      obtain ⟨q0, q1⟩ := (C.on _).mp (kf_mem (K := K) hs.1 (by rw [C.len]; exact hs.2))
      refine ⟨q0, by omega, fun t ht => ?_⟩
      have ht2 := hgsel _ q0 q1 t ht
      obtain ⟨t0, t1⟩ := hsel t (List.mem_of_getElem? ht)
      obtain ⟨s0, s1⟩ := hs
      have hK : K[t.toNat]? = K[s.toNat]? := by
        rw [kf_get t0 (by rw [C.len]; exact t1), kf_get s0 (by rw [C.len]; exact s1), ht2]
      refine ⟨C.ans _ _ (by omega) (by omega) hK, fun x x0 x1 => ?_⟩
      have := C.st t.toNat s.toNat (by omega) (by omega) hK x x0 x1
      rw [Int.toNat_of_nonneg t0, Int.toNat_of_nonneg s0] at this
      exact this)
  have B4 := rows_ok (f := fun x24 => ((atO K x24).bind fun v25 => (some v25))) A1 hb (sel := sel) (by omega) hsel (kf K) (fun t ht y hy => by
    obtain ⟨t0, t1⟩ := hsel t ht
    obtain ⟨row, _, gr, _, _⟩ := row_mem A1 t0 t1
    rw [gr, Option.getD_some] at hy
    obtain ⟨y0, y1⟩ := (A1.row row (List.mem_of_getElem? gr)).2 y hy
    show (atO K y).bind _ = _
    rw [at_kf y0 (by rw [C.len]; exact y1)]
    rfl)
  have B5 := anss_ok (a := a1) (sel := sel) (by omega) (fun t ht => by rw [la1]; exact hsel t ht)
  refine ⟨_, _, ?_, ?_, ?_, by rw [List.length_map]; exact B1, ?_, B2, fun n => (B3 n).trans (A3 n), ?_⟩
  · unfold m_least_parts
    have sz := szl2
    rw [e1, Option.bind_some, dct_ok O.nd hM1, Option.bind_some, A4, Option.bind_some, A5, Option.bind_some, e2, Option.bind_some, e3, Option.bind_some, lF, range_ok (by omega), Option.bind_some]
    rw [mapZ_inv (fun k => (lkg F k).getD 0) (by rw [rngI_len]; omega) fun k hk => by
      obtain ⟨k0, k1⟩ := rng_mem.mp hk
      obtain ⟨v, ev, _⟩ := hF k k0 k1
      rw [ev]
      rfl]
    show ((mapZ _ sel).bind _) = _
    rw [B4, Option.bind_some, B5, Option.bind_some]
  · rw [List.length_map, lsel]
    exact hc1
  · rw [List.length_map, lsel]
    have := O.len
    omega
  · simp
  · intro m hm
    obtain ⟨t, ht, rfl⟩ := List.mem_map.mp hm
    obtain ⟨t0, t1⟩ := hsel t ht
    have := getD_mem (a := a1) (i := t.toNat) (by omega)
    rw [← ha1] at this
    obtain ⟨u, hu, e⟩ := List.mem_map.mp this
    rw [← ha1, ← e]
    have := O.bd u hu
    exact getD_mem (by omega)
end WK

/-! plain facts: a rule's text is there; what is shown is there -/
namespace WK
open PySem PySem.Spec PyProof.Rows L2 DL B
theorem strLen_app (x y : Str) : (x ++ y).length = x.length + y.length := by
  show (x.cps ++ y.cps).size = x.cps.size + y.cps.size
  exact Array.size_append
theorem glue_size (gl : Str) : ∀ (ps : List Str) (acc : Str), (⟨ps.foldl (fun acc p => acc ++ gl.cps ++ p.cps) acc.cps⟩ : Str).length = acc.length + ps.length * gl.length + (ps.map (·.length)).sum
  | [], acc => by simp [Str.length]
  | p :: ps, acc => by
    have := glue_size gl ps ⟨acc.cps ++ gl.cps ++ p.cps⟩
    rw [List.foldl_cons, this]
    simp only [Str.length, List.length_cons, List.map_cons, List.sum_cons, Array.size_append, Nat.succ_mul]
    omega
theorem join_len (sp : Str) (ts : List Str) : (Txt.join sp ts).length ≤ ts.length * sp.length + (ts.map (·.length)).sum := by
  unfold Txt.join PySem.Builtin.Str.glued
  cases ts with
  | nil => simp [Str.length, Str.empty]
  | cons t r =>
    have := glue_size sp r t
    simp only [List.drop_succ_cons, List.drop_zero, List.headD_cons]
    rw [this]
    simp only [List.length_cons, List.map_cons, List.sum_cons, Nat.succ_mul]
    omega
theorem sum_le {K : Nat} : ∀ {xs : List Str}, (∀ x ∈ xs, x.length ≤ K) → (xs.map (·.length)).sum ≤ xs.length * K
  | [], _ => by simp
  | x :: xs, h => by
    have a := h x List.mem_cons_self
    have b := sum_le (K := K) (xs := xs) fun y m => h y (List.mem_cons_of_mem _ m)
    rw [List.map_cons, List.sum_cons, List.length_cons, Nat.succ_mul]
    omega
theorem joinS_ok {sp : Str} {ts : List Str} {K : Nat} (h : ∀ x ∈ ts, x.length ≤ K) (hs : sp.length ≤ 1) (hl : ts.length * (K + 1) ≤ 16777216) : ∃ z, joinS sp ts = some z ∧ z.length ≤ ts.length * (K + 1) := by
  have a := sum_le h
  have b := join_len sp ts
  have c : ts.length * sp.length ≤ ts.length * 1 := Nat.mul_le_mul_left _ hs
  rw [Nat.mul_add] at hl ⊢
  unfold joinS
  rw [if_pos (by omega)]
  exact ⟨_, rfl, by omega⟩
theorem mapO_some' {A β : Type} {f : A → Option β} {Q : β → Prop} : ∀ {xs : List A}, (∀ x ∈ xs, ∃ y, f x = some y ∧ Q y) → ∃ ys, mapO f xs = some ys ∧ ys.length = xs.length ∧ ∀ y ∈ ys, Q y
  | [], _ => ⟨[], rfl, rfl, fun _ m => by cases m⟩
  | x :: xs, h => by
    obtain ⟨y, e, q⟩ := h x List.mem_cons_self
    obtain ⟨ys, e2, l2, q2⟩ := mapO_some' (f := f) (Q := Q) (xs := xs) fun z m => h z (List.mem_cons_of_mem _ m)
    refine ⟨y :: ys, by rw [mapO, e, Option.bind_some, e2]; rfl, by simp [l2], fun z m => ?_⟩
    rcases List.mem_cons.mp m with rfl | m
    · exact q
    · exact q2 z m
theorem szl3 : 200000 < sizeLine := by decide +kernel
theorem str_ok {b : Nat} {r : RuleV} (h : RuleOk b r) (ha : ∀ m ∈ r.answers, m.length ≤ 8) : ∃ z, m_Rule___str__ r = some z := by
  have sz := szl3
  unfold m_Rule___str__
  have l1 : ("base" : Str).length = 4 := by decide +kernel
  have l2 : (" " : Str).length = 1 := by decide +kernel
  have l3 : ("\n" : Str).length = 1 := by decide +kernel
  have e1 : addS ("base" : Str) (" " : Str) = some (("base" : Str) ++ (" " : Str)) := if_pos (by omega)
  obtain ⟨zb, eb, lb⟩ := strI_small (x := r.base) (by rw [h.rb]; omega) (by rw [h.rb]; have := h.b16; omega)
  have e2 : addS (("base" : Str) ++ (" " : Str)) zb = some ((("base" : Str) ++ (" " : Str)) ++ zb) := if_pos (by rw [strLen_app]; omega)
  have l4 : ((("base" : Str) ++ (" " : Str)) ++ zb).length ≤ 200 := by rw [strLen_app, strLen_app]; omega
  rw [e1, Option.bind_some, eb, Option.bind_some, e2, Option.bind_some]
  obtain ⟨s, e3, hs1, hs2⟩ := forO_inv (fun j (s : List Str) => s.length = j + 1 ∧ ∀ x ∈ s, x.length ≤ 200) (f := fun (s4 : (List Str)) (x5 : ((List Int) × Str)) => ((mapZ (fun (x6 : Int) => ((strI x6).bind fun v7 => (some v7))) x5.1).bind (fun (ys8 : List Str) => ((addL [x5.2] ys8).bind fun v9 => ((joinS (" " : Str) v9).bind fun v10 => ((pushO s4 v10).bind fun v11 => (some v11)))))))
    (List.zip r.moves r.answers) 0 [((("base" : Str) ++ (" " : Str)) ++ zb)] ⟨rfl, by
      intro x hx
      rw [List.mem_singleton.mp hx]
      exact l4⟩ (fun j s p hp hj ⟨h1, h2⟩ => by
      rw [List.length_zip, h.al, Nat.min_self] at hj
      have hsz := h.sz
      obtain ⟨m1, m2⟩ := List.of_mem_zip hp
      obtain ⟨rl, rv⟩ := h.mm.row p.1 m1
      have b16 := h.b16
      obtain ⟨ys, ey, ly, qy⟩ := mapO_some' (f := fun (x6 : Int) => ((strI x6).bind fun v7 => (some v7))) (Q := fun z => z.length ≤ 8) (xs := p.1) (fun x hx => by
        obtain ⟨x0, x1⟩ := rv x hx
        have hN := h.sz
        by_cases h1000 : x < 1000
        · obtain ⟨z, ez, lz⟩ := strI_small x0 h1000
          exact ⟨z, by rw [ez]; rfl, by omega⟩
        · omega)
      have e5 : mapZ (fun (x6 : Int) => ((strI x6).bind fun v7 => (some v7))) p.1 = some ys := by
        unfold mapZ
        rw [if_pos (by omega)]
        exact ey
      have e6 : addL [p.2] ys = some ([p.2] ++ ys) := if_pos (by simp; omega)
      obtain ⟨z, ez, lz⟩ := joinS_ok (sp := (" " : Str)) (ts := [p.2] ++ ys) (K := 8) (fun x hx => by
        rcases List.mem_append.mp hx with hx | hx
        · rw [List.mem_singleton.mp hx]
          exact ha _ m2
        · exact qy x hx) (by omega) (by simp; omega)
      have e7 : pushO s z = some (s ++ [z]) := if_pos (by omega)
      rw [e5, Option.bind_some, e6, Option.bind_some, ez, Option.bind_some, e7, Option.bind_some]
      refine ⟨_, rfl, by simp [h1], fun x hx => ?_⟩
      rcases List.mem_append.mp hx with hx | hx
      · exact h2 x hx
      · rw [List.mem_singleton.mp hx]
        simp at lz
        omega)
  rw [List.length_zip, h.al, Nat.min_self, Nat.zero_add] at hs1
  rw [e3, Option.bind_some]
  obtain ⟨z, ez, _⟩ := joinS_ok (sp := ("\n" : Str)) (ts := s) hs2 (by omega) (by have := h.sz; omega)
  rw [ez]
  exact ⟨z, rfl⟩
theorem repr_int {i : Int} (h : i.natAbs < 10 ^ 12) : ∃ z, reprD (.int i) = some z := by
  unfold reprD
  rw [if_pos (okR_of (by simp [fit, h]) (by unfold wgt; split <;> omega) (by simp [dep]))]
  exact ⟨_, rfl⟩
theorem repr_two {i j : Int} (h : i.natAbs < 10 ^ 12) (h2 : j.natAbs < 10 ^ 12) : ∃ z, reprD (.lst (List.map D.int [i, j])) = some z := by
  unfold reprD
  rw [if_pos (okR_of (by simp [fit, fits, h, h2]) (by simp only [wgt, wgts, List.map]; split <;> split <;> omega) (by simp [dep, deps]))]
  exact ⟨_, rfl⟩
theorem sm_bound {f : Nat → Int} (h : ∀ x, 0 ≤ f x ∧ f x ≤ 1) : ∀ n : Nat, 0 ≤ sm f n ∧ sm f n ≤ n
  | 0 => by simp [sm]
  | n + 1 => by
    have := sm_bound h n
    have := h n
    rw [sm]
    omega
theorem many_bound (b : Nat) (g : List (List Int)) (a : List Str) (m : Str) (n : Nat) : 0 ≤ many b g a m n ∧ many b g a m n ≤ n := sm_bound (fun x => by split <;> decide) n
theorem rngI_succ (T : Nat) : rngI 0 (T + 1) = rngI 0 T ++ [(T : Int)] := by
  unfold rngI
  rw [List.range_succ, List.map_append]
  simp
theorem fil_many (F : Nat → Str) (m : Str) : ∀ T : Nat, ((((rngI 0 T).map fun x => F x.toNat).filter fun x => (false ^^ seq x m)).length : Int) = sm (fun x => if F x = m then 1 else 0) T
  | 0 => rfl
  | T + 1 => by
    rw [rngI_succ, List.map_append, List.filter_append, List.length_append, sm, ← fil_many F m T, List.map_cons, List.map_nil, Int.toNat_natCast, List.filter_cons, Bool.false_xor, seq_eq]
    by_cases h : F T = m
    · rw [if_pos (by simp [h]), if_pos h]
      simp
    · rw [if_neg (by simp [h]), if_neg h]
      simp
theorem forF_nx {A R : Type} {f : Unit → A → Option (Fl Unit R Unit)} : ∀ {xs : List A}, (∀ x ∈ xs, f () x = some (.nx ())) → forF f xs () = some (.nx ())
  | [], _ => rfl
  | x :: xs, h => by
    rw [forF, h x List.mem_cons_self]
    exact forF_nx fun y m => h y (List.mem_cons_of_mem _ m)
theorem filZ_ok {A : Type} {c : A → Bool} {xs : List A} (h : xs.length ≤ sizeLine) : filZ (fun x => some (c x)) (fun x => some x) xs = some (xs.filter c) := by
  unfold filZ
  rw [if_pos h, filO_some c (fun x => x), List.map_id']
end WK

/-! the plain law -/
namespace WK
open PySem PySem.Spec PyProof.Rows L2 DL B
theorem pow106 : powI (10 : Int) (6 : Int) = some (10 ^ 6) := by decide +kernel
theorem lg {m k : Nat} (h0 : m ≠ 0) (h : m < 2 ^ k) (hk : k ≤ 9000) : (m : Int).natAbs.log2 < 9000 := by
  rw [Int.natAbs_natCast]
  have := (Nat.log2_lt h0).mpr h
  omega
theorem short_marks {m : Str} (h : m = ("even" : Str) ∨ m = ("odd" : Str) ∨ m = ("house" : Str)) : m.length ≤ 8 := by
  rcases h with rfl | rfl | rfl <;> decide +kernel
theorem right_ok {n : Nat} {d : Deck} (h : DeckOk n d) (hn : n < 100000) : ∃ d', m__law_right d = some (true, d') ∧ DeckOk (n + 1000) d' := by
  have sz := szl3
  unfold m__law_right
  obtain ⟨x, d1, e1, mx, k1⟩ := pick_ok h (by omega) (xs := [(2 : Int), (3 : Int), (10 : Int), (16 : Int), (2 : Int), (5 : Int), (4 : Int), (12 : Int), (7 : Int)]) (by simp) (by simp)
  obtain ⟨b, rfl, b2, b16⟩ : ∃ b : Nat, x = b ∧ 2 ≤ b ∧ b ≤ 16 := by
    simp only [List.mem_cons, List.not_mem_nil, or_false] at mx
    exact ⟨x.toNat, by omega, by omega, by omega⟩
  rw [e1, Option.bind_some]
  dsimp only
  obtain ⟨w, d2, e2, hw, hr, k2⟩ := plan_ok k1 (by omega) (b := b) (by omega) b16
  rw [e2, Option.bind_some]
  dsimp only
  obtain ⟨r, e3, hR, hA, hS⟩ := code_ok least_due hw hr b2 b16
  rw [e3, Option.bind_some]
  obtain ⟨top, d3, e4, t0, t1, k3⟩ := draw_ok k2 (by omega) (many := 400) (by decide) (by decide)
  obtain ⟨T, rfl⟩ : ∃ T : Nat, top = T := ⟨top.toNat, by omega⟩
  rw [e4, Option.bind_some]
  dsimp only
  obtain ⟨z, e5⟩ := str_ok hR fun m hm => short_marks (hw.mks m (hS m hm))
  rw [e5, Option.bind_some, range_ok (by omega), Option.bind_some]
  have dl : ∀ {k m : Nat}, m < 2 ^ k → k ≤ 1000 → (rdigs b m).length + 2 ≤ sizeLine ∧ (rdigs b m).length < 2 ^ 60 := fun {k m} hm hk => by
    have := rdigs_len b2 k m hm
    omega
  have said : ∀ {k m : Nat}, m < 2 ^ k → k ≤ 1000 → m__law_said w (m : Int) = some (ansN b w.grid w.marks m) := fun hm hk => said_ok hw hr b2 (by omega) (by have := dl hm hk; omega)
  have how : ∀ {k m : Nat} (s : Str), m < 2 ^ k → k ≤ 1000 → m_how_many r s (m : Int) = some (many b w.grid w.marks s m) := fun {k m} s hm hk => by
    rw [how_many_ok hR s (dl hm hk).1 (dl hm hk).2, many_congr hA]
  rw [mapZ_inv (fun x : Int => ansN b w.grid w.marks x.toNat) (by rw [rngI_len]; omega) fun x hx => by
    obtain ⟨x0, x1⟩ := rng_mem.mp hx
    obtain ⟨m, rfl⟩ : ∃ m : Nat, x = m := ⟨x.toNat, by omega⟩
    rw [said (k := 10) (m := m) (by omega) (by omega), Int.toNat_natCast]
    rfl]
  rw [Option.bind_some]
  -- each answer
  rw [forF_nx (xs := [("even" : Str), ("odd" : Str), ("house" : Str), ("nobody" : Str)]) (fun m _ => by
    rw [filZ_ok (by rw [List.length_map, rngI_len]; omega), Option.bind_some, how (k := 10) m (by omega) (by omega), Option.bind_some, Option.bind_some]
    have hl := fil_many (fun n => ansN b w.grid w.marks n) m T
    have hb := many_bound b w.grid w.marks m T
    obtain ⟨zz, ez⟩ := repr_two (i := many b w.grid w.marks m T) (j := many b w.grid w.marks m T) (by omega) (by omega)
    rw [ez, Option.bind_some]
    have hl2 : (((((rngI 0 T).map fun x : Int => ansN b w.grid w.marks x.toNat).filter fun x12 => (false ^^ seq x12 m)).length : Nat) : Int) = many b w.grid w.marks m T := hl
    rw [hl2, ez, Option.bind_some]
    have hseq : seq zz zz = true := by rw [seq_eq]; simp
    rw [hseq, if_neg (by simp)]
    have h0 := how (k := 1) (m := 0) m (by decide) (by decide)
    have h1 := how (k := 1) (m := 1) m (by decide) (by decide)
    have s0 := said (k := 1) (m := 0) (by decide) (by decide)
    rw [Int.natCast_zero] at h0 s0
    rw [Int.natCast_one] at h1
    rw [h0, Option.bind_some, h1, s0]
    have m0 : many b w.grid w.marks m 0 = 0 := rfl
    have m1 : many b w.grid w.marks m 1 = if (false ^^ seq (ansN b w.grid w.marks 0) m) then (1 : Int) else 0 := by
      rw [many_succ, m0, Int.zero_add, Bool.false_xor, seq_eq]
      by_cases hh : ansN b w.grid w.marks 0 = m <;> simp [hh]
    rw [m0, if_neg (by simp), Option.bind_some, Option.bind_some, Option.bind_some, ← m1]
    simp)]
  show ∃ d', ((m__law_great d3).bind _) = some (true, d') ∧ DeckOk (n + 1000) d'
  obtain ⟨g1, d4, e6, g10, g11, k4⟩ := great_ok k3 (by omega)
  obtain ⟨g2, d5, e7, g20, g21, k5⟩ := draw_ok k4 (by omega) (many := 10 ^ 9) (by decide) (by decide)
  obtain ⟨g3, d6, e8, g30, g31, k6⟩ := draw_ok k5 (by omega) (many := 1000) (by decide) (by decide)
  rw [e6, Option.bind_some, pow1018, Option.bind_some, pow109, Option.bind_some]
  dsimp only
  rw [e7, Option.bind_some, pow106, Option.bind_some]
  dsimp only
  rw [e8, Option.bind_some]
  dsimp only
  obtain ⟨far, d7, e9, mf, k7⟩ := pick_ok k6 (by omega) (xs := [g1, (10 : Int) ^ 18 + g2, (10 : Int) ^ 6 + g3]) (by simp) (by simp)
  rw [e9, Option.bind_some]
  dsimp only
  have hp : (10 : Int) ^ 300 < 2 ^ 998 := by decide +kernel
  have hq : (10 : Int) ^ 18 + 10 ^ 18 < 2 ^ 998 := by decide +kernel
  have hfar : 0 ≤ far ∧ far < 2 ^ 998 := by
    simp only [List.mem_cons, List.not_mem_nil, or_false] at mf
    rcases mf with rfl | rfl | rfl <;> omega
  obtain ⟨N, rfl⟩ : ∃ N : Nat, far = N := ⟨far.toNat, by omega⟩
  have hN : N < 2 ^ 998 := by
    have := hfar.2
    exact_mod_cast this
  have hN1 : N + 1 < 2 ^ 999 := by
    rw [Nat.pow_succ]
    omega
  rw [mapZ_inv (fun m : Str => many b w.grid w.marks m N) (by simp; omega) (fun m _ => by rw [how m hN (by decide)]; rfl), Option.bind_some]
  have hans : ∀ n, ansN b w.grid w.marks n = ("even" : Str) ∨ ansN b w.grid w.marks n = ("odd" : Str) ∨ ansN b w.grid w.marks n = ("house" : Str) := fun n => hw.mks _ (ans_at (hw.mach hr) b2 hw.n1 hw.ml n).2
  have hsum : ([("even" : Str), ("odd" : Str), ("house" : Str), ("nobody" : Str)].map fun m : Str => many b w.grid w.marks m N).sum = (N : Int) := by
    have := many_sum hans N
    simp only [List.map_cons, List.map_nil, List.sum_cons, List.sum_nil]
    omega
  rw [hsum, if_neg (by simp)]
  rw [forF_nx (xs := List.zip [("even" : Str), ("odd" : Str), ("house" : Str), ("nobody" : Str)] ([("even" : Str), ("odd" : Str), ("house" : Str), ("nobody" : Str)].map fun m : Str => many b w.grid w.marks m N)) (fun p hp => by
    have hp2 : p.2 = many b w.grid w.marks p.1 N := by
      simp only [List.map_cons, List.map_nil, List.zip_cons_cons, List.zip_nil_right, List.mem_cons, List.not_mem_nil, or_false] at hp
      rcases hp with rfl | rfl | rfl | rfl <;> rfl
    have hh := how p.1 hN1 (by decide)
    rw [show ((N + 1 : Nat) : Int) = (N : Int) + 1 by omega] at hh
    have hd : many b w.grid w.marks p.1 (N + 1) - p.2 = if (false ^^ seq (ansN b w.grid w.marks N) p.1) then (1 : Int) else 0 := by
      rw [hp2, many_succ, Bool.false_xor, seq_eq]
      by_cases hq : ansN b w.grid w.marks N = p.1 <;> simp [hq] <;> omega
    rw [hh, Option.bind_some, hd]
    obtain ⟨zz, ez⟩ := repr_int (i := if (false ^^ seq (ansN b w.grid w.marks N) p.1) then (1 : Int) else 0) (by split <;> decide)
    rw [ez, Option.bind_some, said hN (by decide), Option.bind_some, ez, Option.bind_some]
    have hseq : seq zz zz = true := by rw [seq_eq]; simp
    rw [hseq, if_neg (by simp)])]
  show ∃ d', some ((false ^^ seq z z), d7) = some (true, d') ∧ DeckOk (n + 1000) d'
  have hseq : seq z z = true := by rw [seq_eq]; simp
  rw [hseq]
  exact ⟨_, rfl, k7.up (by omega)⟩
theorem forF_true {f : Deck → Int → Option (Fl Deck Bool Deck)} (hf : ∀ (n : Nat) (d : Deck) x, DeckOk n d → n < 100000 → ∃ d', f d x = some (.nx d') ∧ DeckOk (n + 1000) d') : ∀ (xs : List Int) (n : Nat) (d : Deck), DeckOk n d → n + 1000 * xs.length < 100000 → ∃ d', forF f xs d = some (.nx d')
  | [], n, d, _, _ => ⟨d, rfl⟩
  | x :: xs, n, d, h, hl => by
    rw [List.length_cons] at hl
    obtain ⟨d', e, k⟩ := hf n d x h (by omega)
    rw [forF, e]
    exact forF_true hf xs (n + 1000) d' k (by omega)
theorem law_true (ns : List Int) (h : ns.length ≤ 63) : m_law ns = some true := by
  unfold m_law
  obtain ⟨d, e1, k⟩ := deck_ok ns h
  rw [e1, Option.bind_some]
  have hr := range_ok (k := 4) (by decide)
  rw [show (4 : Int) = ((4 : Nat) : Int) from rfl, hr, Option.bind_some]
  obtain ⟨d', e2⟩ := forF_true (f := fun (s3 : Deck) (x4 : Int) => (((m__law_right s3).bind fun r5 => (if (!r5.1) then (some (Fl.rt false)) else (some (Fl.nx r5.2)))) : Option (Fl (Deck) (Bool) (Deck)))) (fun n d x h hn => by
    obtain ⟨d', e, k⟩ := right_ok h hn
    refine ⟨d', ?_, k⟩
    show ((m__law_right d).bind _) = _
    rw [e]
    rfl) (rngI 0 4) 0 d k (by rw [rngI_len]; decide)
  rw [e2]
  rfl
end WK

/-! k14: the plain law -/
namespace WK
open PySem PySem.Spec PyProof.Rows L2 DL B
section
variable {P : Program} {w : World} {K : Fz} {mg : Str → Option Value} {base : Heap} {k : Nat} {x qual : Str} {params : Arguments} {body : List Stmt} {scope : Scope} {kws : List (Str × V)} {f C : Addr} {fd : FuncData} {ps : List Str} {sp : DSp} {m : Str}
theorem CalM.mk' (F : FunD K m qual params body scope [] kws f fd) (h : DFn GG P w K mg base k f fd ps sp) (M : Mk K C f) (g : mg x = some (.ref C))
    (b : ∀ (kV doc pm : Value) (an : Option Addr) (cdv ct : Value) (us : List Value), us.length = ps.length → bindArgs (PySem.W.fnOf m qual params body scope .none kV doc pm an cdv ct) ⟨us, []⟩ = pure (ps.zip us)) : CalM P w K mg base k x C ps sp :=
  ⟨f, fd, M, h, g, F.bindsN b⟩
theorem CalO.mk' (F : FunD K m qual params body scope [] kws f fd) (h : DFn GG P w K mg base k f fd ps sp) (M : Meth K C m f) (c : Cls K C)
    (b : ∀ (kV doc pm : Value) (an : Option Addr) (cdv ct : Value) (us : List Value), us.length = ps.length → bindArgs (PySem.W.fnOf m qual params body scope .none kV doc pm an cdv ct) ⟨us, []⟩ = pure (ps.zip us)) : CalO P w K mg base k m C ps sp :=
  ⟨f, fd, M, h, F.bindsN b, c⟩
end
theorem law_start : ∀ (ns : List Int), ns.length ≤ 63 → bSp ea_law mf_law er_law [.scr (ns.map D.int)] (fun _ => none) (fun v _ => v = .bl true) XF := fun ns h =>
  ⟨ns, true, [] ++ [], .cons (.v _) .nil Dis.nil, law_true ns h, fun d M' F' ho _ => by
    cases ho with
    | cons h1 h2 h3 =>
      cases h1
      rfl⟩
end WK

namespace HD
open PySem PySem.Spec PyProof.Rows L2 DL B WK
def fn : List He.DefD := [⟨("digits_of", none), "digits_of", "digits_of", defArgs (top 32), defBody (top 32), defScope (top 32), [], []⟩,
  ⟨("_law_tens", none), "_law_tens", "_law_tens", defArgs (top 53), defBody (top 53), defScope (top 53), [], []⟩,
  ⟨("_law_draw", none), "_law_draw", "_law_draw", defArgs (top 51), defBody (top 51), defScope (top 51), [], []⟩,
  ⟨("_law_pick", none), "_law_pick", "_law_pick", defArgs (top 52), defBody (top 52), defScope (top 52), [], []⟩,
  ⟨("_law_great", none), "_law_great", "_law_great", defArgs (top 57), defBody (top 57), defScope (top 57), [], []⟩,
  ⟨("is_number", none), "is_number", "is_number", defArgs (top 23), defBody (top 23), defScope (top 23), [], []⟩,
  ⟨("is_base", none), "is_base", "is_base", defArgs (top 24), defBody (top 24), defScope (top 24), [], []⟩,
  ⟨("is_word", none), "is_word", "is_word", defArgs (top 25), defBody (top 25), defScope (top 25), [], []⟩,
  ⟨("is_answer", none), "is_answer", "is_answer", defArgs (top 26), defBody (top 26), defScope (top 26), [], []⟩,
  ⟨("are_states", none), "are_states", "are_states", defArgs (top 27), defBody (top 27), defScope (top 27), [], []⟩,
  ⟨("check_moves", none), "check_moves", "check_moves", defArgs (top 33), defBody (top 33), defScope (top 33), [], []⟩,
  ⟨("check_answers", none), "check_answers", "check_answers", defArgs (top 34), defBody (top 34), defScope (top 34), [], []⟩,
  ⟨("states_reached", none), "states_reached", "states_reached", defArgs (top 10), defBody (top 10), defScope (top 10), [], []⟩,
  ⟨("numbered", none), "numbered", "numbered", defArgs (top 11), defBody (top 11), defScope (top 11), [], []⟩,
  ⟨("classes_of", none), "classes_of", "classes_of", defArgs (top 12), defBody (top 12), defScope (top 12), [], []⟩,
  ⟨("least_parts", none), "least_parts", "least_parts", defArgs (top 13), defBody (top 13), defScope (top 13), [], []⟩,
  ⟨("Rule", some "__init__"), "__init__", "Rule.__init__", defArgs (mth 35 0), defBody (mth 35 0), defScope (mth 35 0), [], []⟩,
  ⟨("Rule", some "__str__"), "__str__", "Rule.__str__", defArgs (mth 35 5), defBody (mth 35 5), defScope (mth 35 5), [], []⟩,
  ⟨("counts_ahead", none), "counts_ahead", "counts_ahead", defArgs (top 46), defBody (top 46), defScope (top 46), [], []⟩,
  ⟨("counts_to", none), "counts_to", "counts_to", defArgs (top 47), defBody (top 47), defScope (top 47), [], []⟩,
  ⟨("how_many", none), "how_many", "how_many", defArgs (top 48), defBody (top 48), defScope (top 48), [], []⟩,
  ⟨("_law_plan", none), "_law_plan", "_law_plan", defArgs (top 54), defBody (top 54), defScope (top 54), [], []⟩,
  ⟨("_law_code", none), "_law_code", "_law_code", defArgs (top 55), defBody (top 55), defScope (top 55), [], []⟩,
  ⟨("_law_said", none), "_law_said", "_law_said", defArgs (top 56), defBody (top 56), defScope (top 56), [], []⟩,
  ⟨("_law_right", none), "_law_right", "_law_right", defArgs (top 58), defBody (top 58), defScope (top 58), [], []⟩,
  ⟨("_law_deck", none), "_law_deck", "_law_deck", defArgs (top 50), defBody (top 50), defScope (top 50), [], []⟩,
  ⟨("law", none), "law", "law", defArgs (top 59), defBody (top 59), defScope (top 59), [], []⟩]
def fa : List He.Fa := [.glo "digits_of", .glo "_law_tens", .glo "_law_draw", .glo "_law_pick", .glo "_law_great", .glo "is_number", .glo "is_base", .glo "is_word", .glo "is_answer", .glo "are_states", .glo "check_moves", .glo "check_answers", .glo "states_reached", .glo "numbered", .glo "classes_of", .glo "least_parts", .glo "counts_ahead", .glo "counts_to", .glo "how_many", .glo "_law_plan", .glo "_law_code", .glo "_law_said", .glo "_law_right", .glo "_law_deck", .glo "law", .free "tuple", .free "range", .free "int", .free "len", .free "isinstance", .free "bool", .free "str", .free "all", .free "max", .free "enumerate", .free "zip", .free "sum", .free "repr", .free "list", .int "GREATEST_BASE" 16, .int "LEAST_BASE" 2, .int "LONGEST_ANSWER" 8, .str "LETTERS" "abcdefghijklmnopqrstuvwxyz", .str "BARRED_ANSWER" "self", .str "BASE_WORD" "base", .glo "Rule", .cls "Rule", .noat "Rule" "answers", .noat "Rule" "base", .noat "Rule" "moves", .meth "Rule" "__str__", .mkr "Rule"]
abbrev R : PySem.W.OpenRow := PySem.W.OpenLaw.row PySem.Challenge.rw_anybase_k14_how_many
abbrev hk : PySem.W.Hook := He.hookD 4 fa fn
def ob (s : PySem.W.SharedT) : He.AlD := He.obsDG 4 fa fn (HandSHeadRun.getT s)
theorem ob_eq (s : PySem.W.SharedT) : ob s = hk.obs s.abs := He.obsDG_eq (HandSHeadRun.getT_eq s)
theorem run (w : World) : HandSHeadRun.RunEq R (PySem.W.view R.prog [59]) hk ob 6000 [("_wall" : PySem.Str), ("BaseFault" : PySem.Str), ("BadRule" : PySem.Str), ("BadNumber" : PySem.Str), ("BadText" : PySem.Str), ("OtherBase" : PySem.Str), ("NotYesNo" : PySem.Str), ("UnknownAnswer" : PySem.Str), ("states_reached" : PySem.Str), ("numbered" : PySem.Str), ("classes_of" : PySem.Str), ("least_parts" : PySem.Str), ("both_read" : PySem.Str), ("LETTERS" : PySem.Str), ("LEAST_BASE" : PySem.Str), ("GREATEST_BASE" : PySem.Str), ("LONGEST_ANSWER" : PySem.Str), ("BARRED_ANSWER" : PySem.Str), ("YES" : PySem.Str), ("NO" : PySem.Str), ("is_number" : PySem.Str), ("is_base" : PySem.Str), ("is_word" : PySem.Str), ("is_answer" : PySem.Str), ("are_states" : PySem.Str), ("BASE_WORD" : PySem.Str), ("MOST_FIGURES" : PySem.Str), ("FIGURES" : PySem.Str), ("digits_of" : PySem.Str), ("check_moves" : PySem.Str), ("check_answers" : PySem.Str), ("Rule" : PySem.Str), ("yes_or_no" : PySem.Str), ("check_yes_no" : PySem.Str), ("check_both" : PySem.Str), ("both_parts" : PySem.Str), ("led_by" : PySem.Str), ("figures_in" : PySem.Str), ("base_in" : PySem.Str), ("state_in" : PySem.Str), ("parts_in" : PySem.Str), ("counts_ahead" : PySem.Str), ("counts_to" : PySem.Str), ("how_many" : PySem.Str), ("_law_deck" : PySem.Str), ("_law_draw" : PySem.Str), ("_law_pick" : PySem.Str), ("_law_tens" : PySem.Str), ("_law_plan" : PySem.Str), ("_law_code" : PySem.Str), ("_law_said" : PySem.Str), ("_law_great" : PySem.Str), ("_law_right" : PySem.Str)] w := by
  intro os
  kernel_rfl
theorem k_bool (K : Fz) : KnowsT K "bool" := by
  intro T h
  simp only [List.mem_cons, List.not_mem_nil, or_false] at h
  rcases h with rfl | rfl | rfl | rfl | rfl | rfl | rfl <;> first | rfl | decide +kernel
theorem k_int (K : Fz) : KnowsT K "int" := by
  intro T h
  simp only [List.mem_cons, List.not_mem_nil, or_false] at h
  rcases h with rfl | rfl | rfl | rfl | rfl | rfl | rfl <;> first | rfl | decide +kernel
theorem k_str (K : Fz) : KnowsT K "str" := by
  intro T h
  simp only [List.mem_cons, List.not_mem_nil, or_false] at h
  rcases h with rfl | rfl | rfl | rfl | rfl | rfl | rfl <;> first | rfl | decide +kernel
theorem k_tuple (K : Fz) : KnowsT K "tuple" := by
  intro T h
  simp only [List.mem_cons, List.not_mem_nil, or_false] at h
  rcases h with rfl | rfl | rfl | rfl | rfl | rfl | rfl <;> first | rfl | decide +kernel
theorem facts {P : Program} {w : World} {K : PySem.W.Frag} {h : Heap} {mg : Str → Option Value} {f : Addr} (X : K.In h) (G : h.Ns mainGlobals mg) (hfa : mg ("law" : Str) = some (.ref f)) (c : He.SaysD fa fn K) :
    ∃ fd : FuncData, (∀ (s : Shared) (v : Value), BindsTo s fd ⟨[v], []⟩ [("_law_script", v)]) ∧ ∀ base : Heap, K.In base → base.Ns mainGlobals mg → DFn GG P w K mg base 8 f fd ["_law_script"] (bSp (ea_law) mf_law (er_law)) := by
  obtain ⟨fd0, F0⟩ := c.def_ 0 (d := fn[0]) rfl
  obtain ⟨fd1, F1⟩ := c.def_ 1 (d := fn[1]) rfl
  obtain ⟨fd2, F2⟩ := c.def_ 2 (d := fn[2]) rfl
  obtain ⟨fd3, F3⟩ := c.def_ 3 (d := fn[3]) rfl
  obtain ⟨fd4, F4⟩ := c.def_ 4 (d := fn[4]) rfl
  obtain ⟨fd5, F5⟩ := c.def_ 5 (d := fn[5]) rfl
  obtain ⟨fd6, F6⟩ := c.def_ 6 (d := fn[6]) rfl
  obtain ⟨fd7, F7⟩ := c.def_ 7 (d := fn[7]) rfl
  obtain ⟨fd8, F8⟩ := c.def_ 8 (d := fn[8]) rfl
  obtain ⟨fd9, F9⟩ := c.def_ 9 (d := fn[9]) rfl
  obtain ⟨fd10, F10⟩ := c.def_ 10 (d := fn[10]) rfl
  obtain ⟨fd11, F11⟩ := c.def_ 11 (d := fn[11]) rfl
  obtain ⟨fd12, F12⟩ := c.def_ 12 (d := fn[12]) rfl
  obtain ⟨fd13, F13⟩ := c.def_ 13 (d := fn[13]) rfl
  obtain ⟨fd14, F14⟩ := c.def_ 14 (d := fn[14]) rfl
  obtain ⟨fd15, F15⟩ := c.def_ 15 (d := fn[15]) rfl
  obtain ⟨fd16, F16⟩ := c.def_ 16 (d := fn[16]) rfl
  obtain ⟨fd17, F17⟩ := c.def_ 17 (d := fn[17]) rfl
  obtain ⟨fd18, F18⟩ := c.def_ 18 (d := fn[18]) rfl
  obtain ⟨fd19, F19⟩ := c.def_ 19 (d := fn[19]) rfl
  obtain ⟨fd20, F20⟩ := c.def_ 20 (d := fn[20]) rfl
  obtain ⟨fd21, F21⟩ := c.def_ 21 (d := fn[21]) rfl
  obtain ⟨fd22, F22⟩ := c.def_ 22 (d := fn[22]) rfl
  obtain ⟨fd23, F23⟩ := c.def_ 23 (d := fn[23]) rfl
  obtain ⟨fd24, F24⟩ := c.def_ 24 (d := fn[24]) rfl
  obtain ⟨fd25, F25⟩ := c.def_ 25 (d := fn[25]) rfl
  obtain ⟨fd26, F26⟩ := c.def_ 26 (d := fn[26]) rfl
  have e := hfa.symm.trans (He.glo_ok X G (c.fact 24 (f := .glo "law") rfl))
  cases e
  have b := FunD.bindsA (ps := ["_law_script"]) F26 fun _ _ _ _ _ _ us hl => match us, hl with | [_], _ => rfl
  have b_tuple := He.free_ok X G (c.fact 25 (f := .free "tuple") rfl)
  have b_range := He.free_ok X G (c.fact 26 (f := .free "range") rfl)
  have b_int := He.free_ok X G (c.fact 27 (f := .free "int") rfl)
  have b_len := He.free_ok X G (c.fact 28 (f := .free "len") rfl)
  have b_isinstance := He.free_ok X G (c.fact 29 (f := .free "isinstance") rfl)
  have b_bool := He.free_ok X G (c.fact 30 (f := .free "bool") rfl)
  have b_str := He.free_ok X G (c.fact 31 (f := .free "str") rfl)
  have b_all := He.free_ok X G (c.fact 32 (f := .free "all") rfl)
  have b_max := He.free_ok X G (c.fact 33 (f := .free "max") rfl)
  have b_enumerate := He.free_ok X G (c.fact 34 (f := .free "enumerate") rfl)
  have b_zip := He.free_ok X G (c.fact 35 (f := .free "zip") rfl)
  have b_sum := He.free_ok X G (c.fact 36 (f := .free "sum") rfl)
  have b_repr := He.free_ok X G (c.fact 37 (f := .free "repr") rfl)
  have b_list := He.free_ok X G (c.fact 38 (f := .free "list") rfl)
  have h_GREATEST_BASE := He.int_ok X G (c.fact 39 (f := .int "GREATEST_BASE" 16) rfl)
  have h_LEAST_BASE := He.int_ok X G (c.fact 40 (f := .int "LEAST_BASE" 2) rfl)
  have h_LONGEST_ANSWER := He.int_ok X G (c.fact 41 (f := .int "LONGEST_ANSWER" 8) rfl)
  have h_LETTERS := He.str_ok X G (c.fact 42 (f := .str "LETTERS" "abcdefghijklmnopqrstuvwxyz") rfl)
  have h_BARRED_ANSWER := He.str_ok X G (c.fact 43 (f := .str "BARRED_ANSWER" "self") rfl)
  have h_BASE_WORD := He.str_ok X G (c.fact 44 (f := .str "BASE_WORD" "base") rfl)
  have g_Rule := He.glo_ok X G (c.fact 45 (f := .glo "Rule") rfl)
  have c_Rule := He.cls_ok (c.fact 46 (f := .cls "Rule") rfl)
  have n_Rule_answers := He.noat_ok (c.fact 47 (f := .noat "Rule" "answers") rfl)
  have n_Rule_base := He.noat_ok (c.fact 48 (f := .noat "Rule" "base") rfl)
  have n_Rule_moves := He.noat_ok (c.fact 49 (f := .noat "Rule" "moves") rfl)
  have m_Rule___str__ := He.meth_ok (c.fact 50 (f := .meth "Rule" "__str__") rfl)
  have mk_Rule := He.mkr_ok (c.fact 51 (f := .mkr "Rule") rfl)
  refine ⟨fd26, fun s v => b s [v] rfl, fun base _ _ => ?_⟩
  have D_digits_of : DFn GG P w K mg base 1 _ fd0 ["base", "number"] (bSp (ea_digits_of) mf_digits_of (er_digits_of)) := ok_digits_of F0 b_tuple
  have C_digits_of := Cal.mk' F0 D_digits_of (He.glo_ok X G (c.fact 0 (f := .glo "digits_of") rfl)) fun _ _ _ _ _ _ us hl => match us, hl with | [_, _], _ => rfl
  have D__law_tens : DFn GG P w K mg base 1 _ fd1 ["_law_many"] (bSp (ea__law_tens) mf__law_tens (er__law_tens)) := ok__law_tens F1 b_range
  have C__law_tens := Cal.mk' F1 D__law_tens (He.glo_ok X G (c.fact 1 (f := .glo "_law_tens") rfl)) fun _ _ _ _ _ _ us hl => match us, hl with | [_], _ => rfl
  have D__law_draw : DFn GG P w K mg base 1 _ fd2 ["_law_deck_here", "_law_many"] (bSp (ea__law_draw) mf__law_draw (er__law_draw)) := ok__law_draw F2 b_int
  have C__law_draw := Cal.mk' F2 D__law_draw (He.glo_ok X G (c.fact 2 (f := .glo "_law_draw") rfl)) fun _ _ _ _ _ _ us hl => match us, hl with | [_, _], _ => rfl
  have D__law_pick : DFn GG P w K mg base 2 _ fd3 ["_law_deck_here", "_law_some"] (bSp (ea__law_pick) mf__law_pick (er__law_pick)) := ok__law_pick F3 C__law_draw b_len
  have C__law_pick := Cal.mk' F3 D__law_pick (He.glo_ok X G (c.fact 3 (f := .glo "_law_pick") rfl)) fun _ _ _ _ _ _ us hl => match us, hl with | [_, _], _ => rfl
  have D__law_pick_s : DFn GG P w K mg base 2 _ fd3 ["_law_deck_here", "_law_some"] (bSp (ea__law_pick_s) mf__law_pick_s (er__law_pick_s)) := ok__law_pick_s F3 C__law_draw b_len
  have C__law_pick_s := Cal.mk' F3 D__law_pick_s (He.glo_ok X G (c.fact 3 (f := .glo "_law_pick") rfl)) fun _ _ _ _ _ _ us hl => match us, hl with | [_, _], _ => rfl
  have D__law_great : DFn GG P w K mg base 2 _ fd4 ["_law_deck_here"] (bSp (ea__law_great) mf__law_great (er__law_great)) := ok__law_great F4 C__law_tens C__law_draw
  have C__law_great := Cal.mk' F4 D__law_great (He.glo_ok X G (c.fact 4 (f := .glo "_law_great") rfl)) fun _ _ _ _ _ _ us hl => match us, hl with | [_], _ => rfl
  have D_is_number : DFn GG P w K mg base 1 _ fd5 ["thing"] (bSp (ea_is_number) mf_is_number (er_is_number)) := ok_is_number F5 b_isinstance b_int b_bool (k_bool K) (k_int K)
  have C_is_number := Cal.mk' F5 D_is_number (He.glo_ok X G (c.fact 5 (f := .glo "is_number") rfl)) fun _ _ _ _ _ _ us hl => match us, hl with | [_], _ => rfl
  have D_is_base : DFn GG P w K mg base 2 _ fd6 ["thing"] (bSp (ea_is_base) mf_is_base (er_is_base)) := ok_is_base F6 C_is_number h_GREATEST_BASE h_LEAST_BASE
  have C_is_base := Cal.mk' F6 D_is_base (He.glo_ok X G (c.fact 6 (f := .glo "is_base") rfl)) fun _ _ _ _ _ _ us hl => match us, hl with | [_], _ => rfl
  have D_is_word : DFn GG P w K mg base 1 _ fd7 ["thing"] (bSp (ea_is_word) mf_is_word (er_is_word)) := ok_is_word F7 b_isinstance b_str b_len b_all (k_str K) h_LONGEST_ANSWER h_LETTERS
  have C_is_word := Cal.mk' F7 D_is_word (He.glo_ok X G (c.fact 7 (f := .glo "is_word") rfl)) fun _ _ _ _ _ _ us hl => match us, hl with | [_], _ => rfl
  have D_is_answer : DFn GG P w K mg base 2 _ fd8 ["thing"] (bSp (ea_is_answer) mf_is_answer (er_is_answer)) := ok_is_answer F8 C_is_word h_BARRED_ANSWER
  have C_is_answer := Cal.mk' F8 D_is_answer (He.glo_ok X G (c.fact 8 (f := .glo "is_answer") rfl)) fun _ _ _ _ _ _ us hl => match us, hl with | [_], _ => rfl
  have D_are_states : DFn GG P w K mg base 2 _ fd9 ["many", "thing"] (bSp (ea_are_states) mf_are_states (er_are_states)) := ok_are_states F9 C_is_number b_isinstance b_tuple b_all (k_tuple K)
  have C_are_states := Cal.mk' F9 D_are_states (He.glo_ok X G (c.fact 9 (f := .glo "are_states") rfl)) fun _ _ _ _ _ _ us hl => match us, hl with | [_, _], _ => rfl
  have D_check_moves : DFn GG P w K mg base 3 _ fd10 ["base", "moves"] (bSp (ea_check_moves) mf_check_moves (er_check_moves)) := ok_check_moves F10 C_are_states b_isinstance b_tuple b_len (k_tuple K)
  have C_check_moves := Cal.mk' F10 D_check_moves (He.glo_ok X G (c.fact 10 (f := .glo "check_moves") rfl)) fun _ _ _ _ _ _ us hl => match us, hl with | [_, _], _ => rfl
  have D_check_answers : DFn GG P w K mg base 3 _ fd11 ["many", "answers"] (bSp (ea_check_answers) mf_check_answers (er_check_answers)) := ok_check_answers F11 C_is_answer b_isinstance b_tuple b_all b_len (k_tuple K)
  have C_check_answers := Cal.mk' F11 D_check_answers (He.glo_ok X G (c.fact 11 (f := .glo "check_answers") rfl)) fun _ _ _ _ _ _ us hl => match us, hl with | [_, _], _ => rfl
  have D_states_reached : DFn GG P w K mg base 1 _ fd12 ["moves"] (bSp (ea_states_reached) mf_states_reached (er_states_reached)) := ok_states_reached F12 b_len
  have C_states_reached := Cal.mk' F12 D_states_reached (He.glo_ok X G (c.fact 12 (f := .glo "states_reached") rfl)) fun _ _ _ _ _ _ us hl => match us, hl with | [_], _ => rfl
  have D_numbered : DFn GG P w K mg base 1 _ fd13 ["signs"] (bSp (ea_numbered) mf_numbered (er_numbered)) := ok_numbered F13 b_len
  have C_numbered := Cal.mk' F13 D_numbered (He.glo_ok X G (c.fact 13 (f := .glo "numbered") rfl)) fun _ _ _ _ _ _ us hl => match us, hl with | [_], _ => rfl
  have D_numbered_t : DFn GG P w K mg base 1 _ fd13 ["signs"] (bSp (ea_numbered_t) mf_numbered_t (er_numbered_t)) := ok_numbered_t F13 b_len
  have C_numbered_t := Cal.mk' F13 D_numbered_t (He.glo_ok X G (c.fact 13 (f := .glo "numbered") rfl)) fun _ _ _ _ _ _ us hl => match us, hl with | [_], _ => rfl
  have D_classes_of : DFn GG P w K mg base 2 _ fd14 ["rows", "answers"] (bSp (ea_classes_of) mf_classes_of (er_classes_of)) := ok_classes_of F14 C_numbered C_numbered_t b_max b_enumerate
  have C_classes_of := Cal.mk' F14 D_classes_of (He.glo_ok X G (c.fact 14 (f := .glo "classes_of") rfl)) fun _ _ _ _ _ _ us hl => match us, hl with | [_, _], _ => rfl
  have D_least_parts : DFn GG P w K mg base 3 _ fd15 ["moves", "answers"] (bSp (ea_least_parts) mf_least_parts (er_least_parts)) := ok_least_parts F15 C_states_reached C_classes_of b_enumerate b_range b_tuple b_len
  have C_least_parts := Cal.mk' F15 D_least_parts (He.glo_ok X G (c.fact 15 (f := .glo "least_parts") rfl)) fun _ _ _ _ _ _ us hl => match us, hl with | [_, _], _ => rfl
  have D_Rule___init__ : DFn GG P w K mg base 4 _ fd16 ["self", "base", "moves", "answers"] (bSp (ea_Rule___init__ (He.ga K "Rule")) mf_Rule___init__ (er_Rule___init__ (He.ga K "Rule"))) := ok_Rule___init__ F16 C_is_base C_check_moves C_check_answers C_least_parts b_len n_Rule_answers n_Rule_base n_Rule_moves c_Rule
  have C_Rule___init__ := CalM.mk' (x := "Rule") F16 D_Rule___init__ mk_Rule g_Rule fun _ _ _ _ _ _ us hl => match us, hl with | [_, _, _, _], _ => rfl
  have D_Rule___str__ : DFn GG P w K mg base 1 _ fd17 ["self"] (bSp (ea_Rule___str__ (He.ga K "Rule")) mf_Rule___str__ (er_Rule___str__ (He.ga K "Rule"))) := ok_Rule___str__ F17 b_zip b_str n_Rule_answers n_Rule_base n_Rule_moves c_Rule h_BASE_WORD
  have C_Rule___str__ := CalO.mk' F17 D_Rule___str__ m_Rule___str__ c_Rule fun _ _ _ _ _ _ us hl => match us, hl with | [_], _ => rfl
  have D_counts_ahead : DFn GG P w K mg base 1 _ fd18 ["rule", "last"] (bSp (ea_counts_ahead (He.ga K "Rule")) mf_counts_ahead (er_counts_ahead (He.ga K "Rule"))) := ok_counts_ahead F18 b_sum n_Rule_moves c_Rule
  have C_counts_ahead := Cal.mk' F18 D_counts_ahead (He.glo_ok X G (c.fact 16 (f := .glo "counts_ahead") rfl)) fun _ _ _ _ _ _ us hl => match us, hl with | [_, _], _ => rfl
  have D_counts_to : DFn GG P w K mg base 2 _ fd19 ["rule", "answer", "length"] (bSp (ea_counts_to (He.ga K "Rule")) mf_counts_to (er_counts_to (He.ga K "Rule"))) := ok_counts_to F19 C_counts_ahead b_int b_range n_Rule_answers c_Rule
  have C_counts_to := Cal.mk' F19 D_counts_to (He.glo_ok X G (c.fact 17 (f := .glo "counts_to") rfl)) fun _ _ _ _ _ _ us hl => match us, hl with | [_, _, _], _ => rfl
  have D_how_many : DFn GG P w K mg base 3 _ fd20 ["rule", "answer", "below"] (bSp (ea_how_many (He.ga K "Rule")) mf_how_many (er_how_many (He.ga K "Rule"))) := ok_how_many F20 C_digits_of C_counts_to b_enumerate b_sum b_len n_Rule_base n_Rule_moves c_Rule
  have C_how_many := Cal.mk' F20 D_how_many (He.glo_ok X G (c.fact 18 (f := .glo "how_many") rfl)) fun _ _ _ _ _ _ us hl => match us, hl with | [_, _, _], _ => rfl
  have CK0 : CalK P w K mg base 3 "how_many" ["rule", "answer", "below"] 0 ["below", "answer", "rule"] [2, 1, 0] (bSp (ea_how_many (He.ga K "Rule")) mf_how_many (er_how_many (He.ga K "Rule"))) := CalK.mk' F20 D_how_many (He.glo_ok X G (c.fact 18 (f := .glo "how_many") rfl)) fun _ _ _ _ _ _ us ws h1 h2 => match us, ws, h1, h2 with | [], [_, _, _], _, _ => rfl
  have D__law_plan : DFn GG P w K mg base 3 _ fd21 ["_law_deck_here", "_law_root", "_law_most"] (bSp (ea__law_plan) mf__law_plan (er__law_plan)) := ok__law_plan F21 C__law_draw C__law_pick_s b_range b_tuple
  have C__law_plan := Cal.mk' F21 D__law_plan (He.glo_ok X G (c.fact 19 (f := .glo "_law_plan") rfl)) fun _ _ _ _ _ _ us hl => match us, hl with | [_, _, _], _ => rfl
  have D__law_code : DFn GG P w K mg base 6 _ fd22 ["_law_w"] (bSp (ea__law_code (He.ga K "Rule")) mf__law_code (er__law_code (He.ga K "Rule"))) := ok__law_code F22 C_Rule___init__
  have C__law_code := Cal.mk' F22 D__law_code (He.glo_ok X G (c.fact 20 (f := .glo "_law_code") rfl)) fun _ _ _ _ _ _ us hl => match us, hl with | [_], _ => rfl
  have D__law_said : DFn GG P w K mg base 1 _ fd23 ["_law_w", "_law_num"] (bSp (ea__law_said) mf__law_said (er__law_said)) := ok__law_said F23 
  have C__law_said := Cal.mk' F23 D__law_said (He.glo_ok X G (c.fact 21 (f := .glo "_law_said") rfl)) fun _ _ _ _ _ _ us hl => match us, hl with | [_, _], _ => rfl
  have D__law_right : DFn GG P w K mg base 7 _ fd24 ["_law_deck_here"] (bSp (ea__law_right) mf__law_right (er__law_right)) := ok__law_right F24 C__law_pick C__law_plan C__law_code C__law_draw C_Rule___str__ C__law_said C_how_many C__law_great CK0 b_str b_range b_int b_repr b_len b_zip b_sum
  have C__law_right := Cal.mk' F24 D__law_right (He.glo_ok X G (c.fact 22 (f := .glo "_law_right") rfl)) fun _ _ _ _ _ _ us hl => match us, hl with | [_], _ => rfl
  have D__law_deck : DFn GG P w K mg base 1 _ fd25 ["_law_script"] (bSp (ea__law_deck) mf__law_deck (er__law_deck)) := ok__law_deck F25 b_int b_list
  have C__law_deck := Cal.mk' F25 D__law_deck (He.glo_ok X G (c.fact 23 (f := .glo "_law_deck") rfl)) fun _ _ _ _ _ _ us hl => match us, hl with | [_], _ => rfl
  have D_law : DFn GG P w K mg base 8 _ fd26 ["_law_script"] (bSp (ea_law) mf_law (er_law)) := ok_law F26 C__law_deck C__law_right b_range
  exact D_law
end HD
open PySem PySem.W PySem.Calls PyProof.Rows
theorem PySem.Challenge.cw_anybase_k14_how_many_holds : PySem.Challenge.rw_anybase_k14_how_many.Holds := by
  w_on; o_law
  refine HandSHeadRun.head_any (r := OpenLaw.row PySem.Challenge.rw_anybase_k14_how_many) (q := view (OpenLaw.row PySem.Challenge.rw_anybase_k14_how_many).prog [59]) (H := HD.hk) (ob := HD.ob) (M := 6000) (loose := [("_wall" : PySem.Str), ("BaseFault" : PySem.Str), ("BadRule" : PySem.Str), ("BadNumber" : PySem.Str), ("BadText" : PySem.Str), ("OtherBase" : PySem.Str), ("NotYesNo" : PySem.Str), ("UnknownAnswer" : PySem.Str), ("states_reached" : PySem.Str), ("numbered" : PySem.Str), ("classes_of" : PySem.Str), ("least_parts" : PySem.Str), ("both_read" : PySem.Str), ("LETTERS" : PySem.Str), ("LEAST_BASE" : PySem.Str), ("GREATEST_BASE" : PySem.Str), ("LONGEST_ANSWER" : PySem.Str), ("BARRED_ANSWER" : PySem.Str), ("YES" : PySem.Str), ("NO" : PySem.Str), ("is_number" : PySem.Str), ("is_base" : PySem.Str), ("is_word" : PySem.Str), ("is_answer" : PySem.Str), ("are_states" : PySem.Str), ("BASE_WORD" : PySem.Str), ("MOST_FIGURES" : PySem.Str), ("FIGURES" : PySem.Str), ("digits_of" : PySem.Str), ("check_moves" : PySem.Str), ("check_answers" : PySem.Str), ("Rule" : PySem.Str), ("yes_or_no" : PySem.Str), ("check_yes_no" : PySem.Str), ("check_both" : PySem.Str), ("both_parts" : PySem.Str), ("led_by" : PySem.Str), ("figures_in" : PySem.Str), ("base_in" : PySem.Str), ("state_in" : PySem.Str), ("parts_in" : PySem.Str), ("counts_ahead" : PySem.Str), ("counts_to" : PySem.Str), ("how_many" : PySem.Str), ("_law_deck" : PySem.Str), ("_law_draw" : PySem.Str), ("_law_pick" : PySem.Str), ("_law_tens" : PySem.Str), ("_law_plan" : PySem.Str), ("_law_code" : PySem.Str), ("_law_said" : PySem.Str), ("_law_great" : PySem.Str), ("_law_right" : PySem.Str)]) (d := HandSHeadRun.topDef (OpenLaw.row PySem.Challenge.rw_anybase_k14_how_many).prog 59) (kwd := []) HD.ob_eq
    (by kernel_rfl) (fun s => by kernel_rfl) HD.run (by kernel_rfl) (by kernel_rfl) (by kernel_rfl) (by rfl) (by first | assumption | decide +kernel) (by decide +kernel) ⟨rfl, rfl, rfl, rfl, rfl, by decide +kernel⟩ ?hw ?hc
  case hw => w_witness2
  case hc =>
    refine DL.walk_ofG (l := PySem.Challenge.rw_anybase_k14_how_many) (n := 63) (k := 8) (x := "_law_script") rfl (by decide) (by kernel_rfl) ⟨rfl, by decide, by decide⟩ ?F
    intro w mg fa h Y G hmg0
    obtain ⟨K, KX, c⟩ := Y
    have hmg : mg ("law" : PySem.Str) = some (.ref fa) := by
      have e : (HandSHeadRun.topDef (OpenLaw.row PySem.Challenge.rw_anybase_k14_how_many).prog 59).name = ("law" : PySem.Str) := by kernel_rfl
      rw [← e]
      exact hmg0
    obtain ⟨fd, hb, hF⟩ := HD.facts (P := (PySem.Challenge.rw_anybase_k14_how_many).prog) (w := w) KX G hmg c
    exact ⟨K, fd, _, KX, hb, WK.law_start, hF⟩


