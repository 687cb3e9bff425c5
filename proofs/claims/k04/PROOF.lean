import PyProof.Rows.All
import Wide.All
import OpenK.AllK
import Wide.FinOn
import HandS.ForMost
import HandS.Exc
import HandS.TryOnly
import HandS.ExcOwn
import HandS.WordsExc
import HandS.Conv
import HandS.IsInst
import HandS.TupAny
import HandS.TupMul
import HandS.SortInts
import HandS.SetFor
import HandS.Zip
import HandS.Strs
import HandS.ExcIs
import HandS.ExcCtx
import HandS.HotCalls
import HandS.Comp
import HandS.Dict
import HandS.Deep
import HandS.Text
import HandS.Steps
import PySem.Challenge.RW_rainparcels_k04_parcels_written
set_option Elab.async false
set_option linter.all false
set_option maxRecDepth 100000
set_option maxHeartbeats 4000000
/-! GL: a layer of one's own: what a def reckons is told over plain data, the heap kept out of sight. -/
namespace GL
open PySem PySem.Spec L2

/-- the second heap holds all of the first -/
abbrev Sub (H H' : Hp) : Prop := ∀ a o, H a = some o → H' a = some o
theorem Sub.rfl' {H : Hp} : Sub H H := fun _ _ h => h
theorem Sub.tr {H H1 H2 : Hp} (p : Sub H H1) (q : Sub H1 H2) : Sub H H2 := fun a o h => q a o (p a o h)
theorem sub_rd {H H' : Hp} {a : Addr} {u : HO} (e : Sub H H') (h : Rd H a u) : Rd H' a u := h.elim (fun z => .inl (e a _ z)) fun ⟨o, z⟩ => .inr ⟨o, e a _ z⟩
theorem sub_l {K : PySem.W.Frag} {H H' : Hp} {a : Addr} {xs : List V} (e : Sub H H') (h : SqL K H a xs) : SqL K H' a xs := h.elim (fun z => .inl (sub_rd e z)) .inr
theorem sub_t {K : PySem.W.Frag} {H H' : Hp} {a : Addr} {xs : List V} (e : Sub H H') (h : SqT K H a xs) : SqT K H' a xs := h.elim (fun z => .inl (sub_rd e z)) .inr
theorem sub_free {H H' : Hp} {p : Addr} (e : Sub H H') (h : H' p = none) : H p = none := by
  cases q : H p with
  | none => rfl
  | some o => rw [e p o q] at h; cases h
theorem sub_new {H : Hp} {p : Addr} {o : HO} (h : H p = none) : Sub H (upd H p o) := fun a u e => by
  rw [upd_ne (ne_of_none e h)]; exact e
theorem sub_upd {B H : Hp} {p : Addr} {o : HO} (e : Sub B H) (h : B p = none) : Sub B (upd H p o) := fun a u z => by
  rw [upd_ne (ne_of_none z h)]; exact e a u z
theorem sub_upd2 {B H : Hp} {p : Addr} {o : HO} (e : Sub B H) (h : H p = none) : Sub (upd B p o) (upd H p o) := fun a u z => by
  by_cases q : a = p
  · subst q; rw [upd_same] at z ⊢; exact z
  · rw [upd_ne q] at z ⊢; exact e a u z

mutual
/-- the value v is the data d: its lists and tuples stand in H -/
inductive Dq (H : Hp) : V → PyData → Prop
  | non : Dq H .non .none
  | bl (b : Bool) : Dq H (.bl b) (.bool b)
  | int (i : Int) : Dq H (.int i) (.int i)
  | str (x : Str) : Dq H (.str x) (.str x)
  | lst {p : Addr} {vs : List V} {ds : List PyData} : H p = some (.lst vs) → Dqs H vs ds → Dq H (.ref p) (.list ds)
  | tup {p : Addr} {vs : List V} {ds : List PyData} : H p = some (.tup vs) → Dqs H vs ds → Dq H (.ref p) (.tuple ds)
inductive Dqs (H : Hp) : List V → List PyData → Prop
  | nil : Dqs H [] []
  | cons {v : V} {vs : List V} {d : PyData} {ds : List PyData} : Dq H v d → Dqs H vs ds → Dqs H (v :: vs) (d :: ds)
end
mutual
theorem dq_sub {H H' : Hp} (e : Sub H H') : ∀ (d : PyData) (v : V), Dq H v d → Dq H' v d
  | .none, _, h => by cases h; exact .non
  | .bool b, _, h => by cases h; exact .bl b
  | .int i, _, h => by cases h; exact .int i
  | .str x, _, h => by cases h; exact .str x
  | .list ds, _, h => by
    cases h with
    | lst hs ha => exact .lst (e _ _ hs) (dqs_sub e ds _ ha)
  | .tuple ds, _, h => by
    cases h with
    | tup hs ha => exact .tup (e _ _ hs) (dqs_sub e ds _ ha)
  | .dict _, _, h => by cases h
theorem dqs_sub {H H' : Hp} (e : Sub H H') : ∀ (ds : List PyData) (vs : List V), Dqs H vs ds → Dqs H' vs ds
  | [], _, h => by cases h; exact .nil
  | d :: ds, _, h => by
    cases h with
    | cons h1 h2 => exact .cons (dq_sub e d _ h1) (dqs_sub e ds _ h2)
end
mutual
theorem dq_dp {K : PySem.W.Frag} {H : Hp} : ∀ (d : PyData) (v : V), Dq H v d → Dp K H v d
  | .none, _, h => by cases h; exact .non
  | .bool b, _, h => by cases h; exact .bl b
  | .int i, _, h => by cases h; exact .int i
  | .str x, _, h => by cases h; exact .str x
  | .list ds, _, h => by
    cases h with
    | lst hs ha => exact .lst (.inl (.inl hs)) (dqs_dps ds _ ha)
  | .tuple ds, _, h => by
    cases h with
    | tup hs ha => exact .tup (.inl (.inl hs)) (dqs_dps ds _ ha)
  | .dict _, _, h => by cases h
theorem dqs_dps {K : PySem.W.Frag} {H : Hp} : ∀ (ds : List PyData) (vs : List V), Dqs H vs ds → DpAll K H vs ds
  | [], _, h => by cases h; exact .nil
  | d :: ds, _, h => by
    cases h with
    | cons h1 h2 => exact .cons (dq_dp d _ h1) (dqs_dps ds _ h2)
end

/-- what is known of an object's field: data for good; a list of its own; a dict of its own, ints for keys, each True -/
inductive Fd where
  | d (x : PyData)
  | o (xs : List PyData)
  | g (ks : List Int)
def Fd.own : Fd → Bool
  | .d _ => false
  | _ => true
def gK (ks : List Int) : List (L2.Key × V) := ks.map fun k => (Sum.inl k, V.bl true)
/-- what is known of a value: data for good, the value itself, data for now, a list of one's own, the script, a list that is read, such a list at a place that is known, an object of one's own, one that is read, a dict that is read -/
inductive A where
  | d (x : PyData)
  | v (x : V)
  | t (x : PyData)
  | o (xs : List PyData)
  | s (ns : List Int)
  | r (xs : List PyData)
  | op (p : Addr) (xs : List PyData)
  | ob (p C : Addr) (fs : List (Str × Fd))
  | rb (C : Addr) (fs : List (Str × Fd))
  | rg (ks : List Int)
  | nf (t : Bool) (fs : List Fd)
  | np (t : Bool) (p : Addr) (vs : List V) (fs : List Fd)
  | nd (N : Addr → Prop) (t : Bool) (x : PyData)
def owns : A → Bool
  | .o _ => true
  | .op _ _ => true
  | .ob _ _ _ => true
  | .nf _ _ => true
  | .np _ _ _ _ => true
  | _ => false
/-- items without names; a list or a tuple of them -/
def nm {α : Type} (l : List α) : List (Str × α) := l.map fun x => ("", x)
def seqO (t : Bool) (vs : List V) : HO := if t then .tup vs else .lst vs
/-- read only for now -/
def reads : A → Bool
  | .t _ => true
  | .r _ => true
  | .rb _ _ => true
  | .rg _ => true
  | _ => false
def FdR (B H : Hp) (v : V) : Fd → Prop
  | .d x => Dq B v x
  | .o xs => ∃ q vs, v = .ref q ∧ B q = none ∧ H q = some (.lst vs) ∧ Dqs B vs xs
  | .g ks => ∃ q, v = .ref q ∧ B q = none ∧ H q = some (.dK (gK ks))
inductive FdW (B H : Hp) : List (Str × V) → List (Str × Fd) → Prop
  | nil : FdW B H [] []
  | cons {n : Str} {v : V} {f : Fd} {gs : List (Str × V)} {fs : List (Str × Fd)} : FdR B H v f → FdW B H gs fs → FdW B H ((n, v) :: gs) ((n, f) :: fs)
def FdRv (B H : Hp) (v : V) : Fd → Prop
  | .d x => Dq B v x
  | .o xs => ∃ q vs, v = .ref q ∧ H q = some (.lst vs) ∧ Dqs B vs xs
  | .g ks => ∃ q, v = .ref q ∧ H q = some (.dK (gK ks))
/-- .. of an object that is read only -/
inductive FdV (B H : Hp) : List (Str × V) → List (Str × Fd) → Prop
  | nil : FdV B H [] []
  | cons {n : Str} {v : V} {f : Fd} {gs : List (Str × V)} {fs : List (Str × Fd)} : FdRv B H v f → FdV B H gs fs → FdV B H ((n, v) :: gs) ((n, f) :: fs)
theorem fdv_sub {B H B' H' : Hp} (b : Sub B B') (h : Sub H H') : ∀ {gs : List (Str × V)} {fs : List (Str × Fd)}, FdV B H gs fs → FdV B' H' gs fs
  | _, _, .nil => .nil
  | _, _, @FdV.cons _ _ _ _ f _ _ r t => .cons (by
    cases f with
    | d x => exact dq_sub b _ _ r
    | o xs => obtain ⟨q, vs, e, hq, hd⟩ := r; exact ⟨q, vs, e, h _ _ hq, dqs_sub b _ _ hd⟩
    | g ks => obtain ⟨q, e, hq⟩ := r; exact ⟨q, e, h _ _ hq⟩) (fdv_sub b h t)
theorem fdv_of {B H : Hp} : ∀ {gs : List (Str × V)} {fs : List (Str × Fd)}, FdW B H gs fs → FdV B H gs fs
  | _, _, .nil => .nil
  | _, _, @FdW.cons _ _ _ _ f _ _ r t => .cons (by
    cases f with
    | d x => exact r
    | o xs => obtain ⟨q, vs, e, _, hq, hd⟩ := r; exact ⟨q, vs, e, hq, hd⟩
    | g ks => obtain ⟨q, e, _, hq⟩ := r; exact ⟨q, e, hq⟩) (fdv_of t)
/-- q is a thing of its own that one of the fields holds -/
def FdP (gs : List (Str × V)) (fs : List (Str × Fd)) (i : Nat) (q : Addr) : Prop := ∃ n f, gs[i]? = some (n, .ref q) ∧ fs[i]? = some (n, f) ∧ f.own = true
def Sep (gs : List (Str × V)) (fs : List (Str × Fd)) : Prop := ∀ i j q, FdP gs fs i q → FdP gs fs j q → i = j

/-- data of which the list (t: the third item of a tuple) stands at none of the places N -/
def NdR (N : Addr → Prop) (t : Bool) (B : Hp) (v : V) : Prop := if t then ∃ p vs q, v = .ref p ∧ B p = some (.tup vs) ∧ vs[2]? = some (.ref q) ∧ ¬ N q else ∃ q, v = .ref q ∧ ¬ N q
theorem ndr_sub {N : Addr → Prop} {t : Bool} {B B' : Hp} {v : V} (b : Sub B B') (h : NdR N t B v) : NdR N t B' v := by
  unfold NdR at h ⊢
  cases t with
  | true => obtain ⟨p, vs, q, e, h1, h2⟩ := h; exact ⟨p, vs, q, e, b _ _ h1, h2⟩
  | false => exact h
def RA (K : PySem.W.Frag) (B H : Hp) (v : V) : A → Prop
  | .d x => Dq B v x
  | .v x => v = x
  | .t x => Dq H v x
  | .o xs => ∃ p vs, v = .ref p ∧ B p = none ∧ H p = some (.lst vs) ∧ Dqs B vs xs
  | .s ns => ∃ p, v = .ref p ∧ SqL K B p (ns.map V.int)
  | .r xs => ∃ p vs, v = .ref p ∧ H p = some (.lst vs) ∧ Dqs B vs xs
  | .op p xs => v = .ref p ∧ B p = none ∧ ∃ vs, H p = some (.lst vs) ∧ Dqs B vs xs
  | .ob p C fs => v = .ref p ∧ B p = none ∧ ∃ dx gs, H p = some (.ins C dx gs) ∧ FdW B H gs fs ∧ Sep gs fs
  | .rb C fs => ∃ p dx gs, v = .ref p ∧ H p = some (.ins C dx gs) ∧ FdV B H gs fs
  | .rg ks => ∃ q, v = .ref q ∧ H q = some (.dK (gK ks))
  | .nf t fs => ∃ p vs, v = .ref p ∧ B p = none ∧ H p = some (seqO t vs) ∧ FdW B H (nm vs) (nm fs) ∧ Sep (nm vs) (nm fs) ∧ ∀ i q, FdP (nm vs) (nm fs) i q → q ≠ p
  | .np t p vs fs => v = .ref p ∧ B p = none ∧ H p = some (seqO t vs) ∧ FdW B H (nm vs) (nm fs) ∧ Sep (nm vs) (nm fs) ∧ ∀ i q, FdP (nm vs) (nm fs) i q → q ≠ p
  | .nd N t x => Dq B v x ∧ NdR N t B v
/-- the addresses of one's own things -/
def Fp (H : Hp) (v : V) : A → Addr → Prop
  | .o _, q => v = .ref q
  | .op _ _, q => v = .ref q
  | .ob _ _ fs, q => v = .ref q ∨ ∃ p C dx gs i, v = .ref p ∧ H p = some (.ins C dx gs) ∧ FdP gs fs i q
  | .nf t fs, q => v = .ref q ∨ ∃ p vs i, v = .ref p ∧ H p = some (seqO t vs) ∧ FdP (nm vs) (nm fs) i q
  | .np _ _ vs fs, q => v = .ref q ∨ ∃ i, FdP (nm vs) (nm fs) i q
  | _, _ => False
theorem fp_owns {H : Hp} {v : V} {a : A} {q : Addr} (h : Fp H v a q) : owns a = true := by cases a <;> first | rfl | exact h.elim

/-- from (B, H) to (B', H'): both have grown, what H had beside B stays beside B' -/
structure Ext (B H B' H' : Hp) : Prop where
  b : Sub B B'
  h : Sub H H'
  s : Sub B' H'
  n : ∀ a, H a ≠ none → B' a = B a
theorem Ext.rfl' {B H : Hp} (s : Sub B H) : Ext B H B H := ⟨Sub.rfl', Sub.rfl', s, fun _ _ => rfl⟩
theorem Ext.tr {B H B1 H1 B2 H2 : Hp} (p : Ext B H B1 H1) (q : Ext B1 H1 B2 H2) : Ext B H B2 H2 := ⟨p.b.tr q.b, p.h.tr q.h, q.s, fun a h => by
  have h1 : H1 a ≠ none := fun z => h (sub_free p.h z)
  rw [q.n a h1, p.n a h]⟩
/-- a new object, in both -/
theorem Ext.both {B H : Hp} {p : Addr} {o : HO} (s : Sub B H) (h : H p = none) : Ext B H (upd B p o) (upd H p o) :=
  ⟨sub_new (sub_free s h), sub_new h, sub_upd2 s h, fun a z => upd_ne fun q => z (by rw [q]; exact h)⟩
/-- a new object, beside -/
theorem Ext.own {B H : Hp} {p : Addr} {o : HO} (s : Sub B H) (h : H p = none) : Ext B H B (upd H p o) :=
  ⟨Sub.rfl', sub_new h, sub_upd s (sub_free s h), fun _ _ => rfl⟩

/-- fields: from one pair of heaps to another where their own things stand as they were -/
theorem fdr_to {B H B' H' : Hp} {v : V} {f : Fd} (b : Sub B B') (h : ∀ q u, v = .ref q → f.own = true → B q = none → H q = some u → B' q = none ∧ H' q = some u) (r : FdR B H v f) : FdR B' H' v f := by
  cases f with
  | d x => exact dq_sub b _ _ r
  | o xs =>
    obtain ⟨q, vs, e, hb, hq, hd⟩ := r
    obtain ⟨h1, h2⟩ := h q _ e rfl hb hq
    exact ⟨q, vs, e, h1, h2, dqs_sub b _ _ hd⟩
  | g ks =>
    obtain ⟨q, e, hb, hq⟩ := r
    obtain ⟨h1, h2⟩ := h q _ e rfl hb hq
    exact ⟨q, e, h1, h2⟩
theorem fdw_to {B H B' H' : Hp} (b : Sub B B') : ∀ {gs : List (Str × V)} {fs : List (Str × Fd)}, (∀ i q u, FdP gs fs i q → B q = none → H q = some u → B' q = none ∧ H' q = some u) → FdW B H gs fs → FdW B' H' gs fs
  | _, _, _, .nil => .nil
  | _, _, h, .cons r t => .cons (fdr_to b (fun q u e o => h 0 q u ⟨_, _, by rw [e]; rfl, rfl, o⟩) r) (fdw_to b (fun i q u ⟨n, f, h1, h2, h3⟩ => h (i + 1) q u ⟨n, f, h1, h2, h3⟩) t)
theorem fdw_at {B H : Hp} : ∀ {gs : List (Str × V)} {fs : List (Str × Fd)} {i : Nat} {q : Addr}, FdW B H gs fs → FdP gs fs i q → B q = none ∧ H q ≠ none
  | _, _, i, q, .nil, ⟨n, f, h1, _, _⟩ => by simp at h1
  | _, _, 0, q, @FdW.cons _ _ _ v' ff _ _ r t, ⟨n, f, h1, h2, h3⟩ => by
    have e1 := (Prod.mk.inj (Option.some.inj h1)).2
    have e2 := (Prod.mk.inj (Option.some.inj h2)).2
    rw [← e2] at h3
    rw [e1] at r
    cases ff with
    | d x => cases h3
    | o xs =>
      obtain ⟨p, vs, e, hb, hq, _⟩ := r
      cases e
      exact ⟨hb, by rw [hq]; exact fun z => nomatch z⟩
    | g ks =>
      obtain ⟨p, e, hb, hq⟩ := r
      cases e
      exact ⟨hb, by rw [hq]; exact fun z => nomatch z⟩
  | _, _, i + 1, q, .cons r t, ⟨n, f, h1, h2, h3⟩ => fdw_at t ⟨n, f, h1, h2, h3⟩
theorem seqO_inj {t : Bool} {vs ws : List V} (h : seqO t vs = seqO t ws) : vs = ws := by
  unfold seqO at h
  cases t
  · cases h; rfl
  · cases h; rfl
/-- one's own things stand beside the data -/
theorem fp_at {K : PySem.W.Frag} {B H : Hp} {v : V} {a : A} {q : Addr} (r : RA K B H v a) (f : Fp H v a q) : B q = none ∧ H q ≠ none := by
  cases a with
  | o xs =>
    obtain ⟨p, vs, e, hb, hp, _⟩ := r
    have f : v = .ref q := f
    rw [e] at f
    cases f
    exact ⟨hb, by rw [hp]; exact fun z => nomatch z⟩
  | op p xs =>
    obtain ⟨e, hb, vs, hp, _⟩ := r
    have f : v = .ref q := f
    rw [e] at f
    cases f
    exact ⟨hb, by rw [hp]; exact fun z => nomatch z⟩
  | ob p C fs =>
    obtain ⟨e, hb, dx, gs, hp, hw, _⟩ := r
    rcases f with f | ⟨p', C', dx', gs', i, f1, f2, f3⟩
    · rw [e] at f
      cases f
      exact ⟨hb, by rw [hp]; exact fun z => nomatch z⟩
    · rw [e] at f1
      cases f1
      rw [hp] at f2
      cases f2
      exact fdw_at hw f3
  | d x => exact f.elim
  | v x => exact f.elim
  | t x => exact f.elim
  | s x => exact f.elim
  | r x => exact f.elim
  | rb C fs => exact f.elim
  | rg ks => exact f.elim
  | nd N t x => exact f.elim
  | nf t fs =>
    obtain ⟨p, vs, e, hb, hp, hw, _⟩ := r
    rcases f with f | ⟨p', vs', i, f1, f2, f3⟩
    · rw [e] at f
      cases f
      exact ⟨hb, by rw [hp]; exact fun z => nomatch z⟩
    · rw [e] at f1
      cases f1
      rw [hp] at f2
      have e2 := seqO_inj (Option.some.inj f2)
      subst e2
      exact fdw_at hw f3
  | np t p vs fs =>
    obtain ⟨e, hb, hp, hw, _⟩ := r
    rcases f with f | ⟨i, f3⟩
    · rw [e] at f
      cases f
      exact ⟨hb, by rw [hp]; exact fun z => nomatch z⟩
    · exact fdw_at hw f3
/-- a value's footprint is told by the heap at its footprint -/
theorem fp_back {K : PySem.W.Frag} {B H H' : Hp} {v : V} {a : A} {q : Addr} (r : RA K B H v a) (h : ∀ p u, Fp H v a p → H p = some u → H' p = some u) (f : Fp H' v a q) : Fp H v a q := by
  cases a with
  | o xs => exact f
  | op p xs => exact f
  | ob p C fs =>
    obtain ⟨e, hb, dx, gs, hp, hw, _⟩ := r
    rcases f with f | ⟨p', C', dx', gs', i, f1, f2, f3⟩
    · exact .inl f
    · have g := h p _ (.inl e) hp
      rw [e] at f1
      cases f1
      rw [g] at f2
      cases f2
      exact .inr ⟨p, C, dx, gs, i, e, hp, f3⟩
  | d x => exact f.elim
  | v x => exact f.elim
  | t x => exact f.elim
  | s x => exact f.elim
  | r x => exact f.elim
  | rb C fs => exact f.elim
  | rg ks => exact f.elim
  | nd N t x => exact f.elim
  | nf t fs =>
    obtain ⟨p, vs, e, hb, hp, hw, _⟩ := r
    rcases f with f | ⟨p', vs', i, f1, f2, f3⟩
    · exact .inl f
    · have g := h p _ (.inl e) hp
      rw [e] at f1
      cases f1
      rw [g] at f2
      have e2 := seqO_inj (Option.some.inj f2)
      subst e2
      exact .inr ⟨p, vs, i, e, hp, f3⟩
  | np t p vs fs => exact f
/-- from one pair of heaps to another where its own things stand as they were -/
theorem ra_to {K : PySem.W.Frag} {B H B' H' : Hp} {v : V} {a : A} (b : Sub B B') (h : ∀ q u, Fp H v a q → H q = some u → B' q = none ∧ H' q = some u) (no : reads a = false) (r : RA K B H v a) : RA K B' H' v a := by
  cases a with
  | d x => exact dq_sub b _ _ r
  | v x => exact r
  | t x => cases no
  | o xs =>
    obtain ⟨p, vs, e, hb, hp, hd⟩ := r
    obtain ⟨h1, h2⟩ := h p _ e hp
    exact ⟨p, vs, e, h1, h2, dqs_sub b _ _ hd⟩
  | s ns =>
    obtain ⟨p, e, h⟩ := r
    exact ⟨p, e, sub_l b h⟩
  | r xs => cases no
  | op p xs =>
    obtain ⟨e, hb, vs, hp, hd⟩ := r
    obtain ⟨h1, h2⟩ := h p _ e hp
    exact ⟨e, h1, vs, h2, dqs_sub b _ _ hd⟩
  | ob p C fs =>
    obtain ⟨e, hb, dx, gs, hp, hw, hs⟩ := r
    obtain ⟨h1, h2⟩ := h p _ (.inl e) hp
    exact ⟨e, h1, dx, gs, h2, fdw_to b (fun i q u f _ hq => h q u (.inr ⟨p, C, dx, gs, i, e, hp, f⟩) hq) hw, hs⟩
  | nf t fs =>
    obtain ⟨p, vs, e, hb, hp, hw, hs, hn⟩ := r
    obtain ⟨h1, h2⟩ := h p _ (.inl e) hp
    exact ⟨p, vs, e, h1, h2, fdw_to b (fun i q u f _ hq => h q u (.inr ⟨p, vs, i, e, hp, f⟩) hq) hw, hs, hn⟩
  | np t p vs fs =>
    obtain ⟨e, hb, hp, hw, hs, hn⟩ := r
    obtain ⟨h1, h2⟩ := h p _ (.inl e) hp
    exact ⟨e, h1, h2, fdw_to b (fun i q u f _ hq => h q u (.inr ⟨i, f⟩) hq) hw, hs, hn⟩
  | rb C fs => cases no
  | rg ks => cases no
  | nd N t x => exact ⟨dq_sub b _ _ r.1, ndr_sub b r.2⟩
theorem RA.mono {K : PySem.W.Frag} {B H B' H' : Hp} {v : V} {a : A} (e : Ext B H B' H') (r : RA K B H v a) : RA K B' H' v a := by
  cases hr : reads a with
  | false =>
    refine ra_to e.b (fun q u f hq => ⟨?_, e.h _ _ hq⟩) hr r
    obtain ⟨h1, h2⟩ := fp_at r f
    rw [e.n q h2]
    exact h1
  | true =>
    cases a with
    | t x => exact dq_sub e.h _ _ r
    | r xs =>
      obtain ⟨p, vs, h1, hp, hd⟩ := r
      exact ⟨p, vs, h1, e.h _ _ hp, dqs_sub e.b _ _ hd⟩
    | rb C fs =>
      obtain ⟨p, dx, gs, h1, hp, hw⟩ := r
      exact ⟨p, dx, gs, h1, e.h _ _ hp, fdv_sub e.b e.h hw⟩
    | rg ks =>
      obtain ⟨q, h1, hq⟩ := r
      exact ⟨q, h1, e.h _ _ hq⟩
    | d x => cases hr
    | v x => cases hr
    | o x => cases hr
    | s x => cases hr
    | op p x => cases hr
    | ob p C fs => cases hr
    | nf t fs => cases hr
    | np t p vs fs => cases hr
    | nd N t x => cases hr
/-- what is read only, in heaps that have grown -/
theorem ra_reads {K : PySem.W.Frag} {B H B' H' : Hp} {v : V} {a : A} (hr : reads a = true) (b : Sub B B') (h : Sub H H') (r : RA K B H v a) : RA K B' H' v a := by
  cases a with
  | t x => exact dq_sub h _ _ r
  | r xs =>
    obtain ⟨p, vs, h1, hp, hd⟩ := r
    exact ⟨p, vs, h1, h _ _ hp, dqs_sub b _ _ hd⟩
  | rb C fs =>
    obtain ⟨p, dx, gs, h1, hp, hw⟩ := r
    exact ⟨p, dx, gs, h1, h _ _ hp, fdv_sub b h hw⟩
  | rg ks =>
    obtain ⟨q, h1, hq⟩ := r
    exact ⟨q, h1, h _ _ hq⟩
  | _ => cases hr
/-- data grows, what is one's own stays -/
theorem ra_grow {K : PySem.W.Frag} {B H B' : Hp} {v : V} {a : A} (b : Sub B B') (h : ∀ q, Fp H v a q → B' q = none) (r : RA K B H v a) : RA K B' H v a := by
  cases hr : reads a with
  | false => exact ra_to b (fun q u f hq => ⟨h q f, hq⟩) hr r
  | true =>
    cases a with
    | t x => exact r
    | r xs =>
      obtain ⟨p, vs, h1, hp, hd⟩ := r
      exact ⟨p, vs, h1, hp, dqs_sub b _ _ hd⟩
    | rb C fs =>
      obtain ⟨p, dx, gs, h1, hp, hw⟩ := r
      exact ⟨p, dx, gs, h1, hp, fdv_sub b Sub.rfl' hw⟩
    | rg ks => exact r
    | d x => cases hr
    | v x => cases hr
    | o x => cases hr
    | s x => cases hr
    | op p x => cases hr
    | ob p C fs => cases hr
    | nf t fs => cases hr
    | np t p vs fs => cases hr
    | nd N t x => cases hr
theorem Fp.back {K : PySem.W.Frag} {B H B' H' : Hp} {v : V} {a : A} {q : Addr} (e : Ext B H B' H') (r : RA K B H v a) (f : Fp H' v a q) : Fp H v a q := fp_back r (fun _ _ _ h => e.h _ _ h) f

/-- the slots -/
structure SD (K : PySem.W.Frag) (H0 B H : Hp) (σ : L2.St) (δ : List (Option A)) : Prop where
  s : Sub B H
  len : σ.length = δ.length
  rel : ∀ (i : Nat) (a : A), δ[i]? = some (some a) → ∃ v, σ[i]? = some (some v) ∧ RA K B H v a
  dis : ∀ (i j : Nat) (a b : A) (v u : V) (q : Addr), δ[i]? = some (some a) → δ[j]? = some (some b) → σ[i]? = some (some v) → σ[j]? = some (some u) → Fp H v a q → Fp H u b q → i = j
  fr : ∀ (i : Nat) (a : A) (v : V) (q : Addr), δ[i]? = some (some a) → σ[i]? = some (some v) → Fp H v a q → H0 q = none
  rd : ∀ (i : Nat) (a : A) (v : V), δ[i]? = some (some a) → reads a = true → σ[i]? = some (some v) → ∃ Bz, Sub Bz B ∧ RA K Bz H0 v a
theorem SD.rel' {K : PySem.W.Frag} {H0 B H : Hp} {σ : L2.St} {δ : List (Option A)} (S : SD K H0 B H σ δ) {i : Nat} {a : A} {v : V} (h : δ[i]? = some (some a)) (hv : σ[i]? = some (some v)) : RA K B H v a := by
  obtain ⟨u, h1, h2⟩ := S.rel i a h
  rw [hv] at h1
  cases h1
  exact h2
theorem SD.mono {K : PySem.W.Frag} {H0 B H B' H' : Hp} {σ : L2.St} {δ : List (Option A)} (e : Ext B H B' H') (S : SD K H0 B H σ δ) : SD K H0 B' H' σ δ :=
  ⟨e.s, S.len, fun i a h => let ⟨v, h1, h2⟩ := S.rel i a h; ⟨v, h1, h2.mono e⟩,
   fun i j a b v u q h1 h2 h3 h4 f1 f2 => S.dis i j a b v u q h1 h2 h3 h4 (f1.back e (S.rel' h1 h3)) (f2.back e (S.rel' h2 h4)),
   fun i a v q h1 h2 f => S.fr i a v q h1 h2 (f.back e (S.rel' h1 h2)),
   fun i a v h1 h2 h3 => let ⟨Bz, s, r⟩ := S.rd i a v h1 h2 h3; ⟨Bz, s.tr e.b, r⟩⟩
theorem SD.get {K : PySem.W.Frag} {H0 B H : Hp} {σ : L2.St} {δ : List (Option A)} (S : SD K H0 B H σ δ) {i : Nat} {a : A} (h : δ[i]? = some (some a)) : ∃ v, σ[i]? = some (some v) ∧ RA K B H v a := S.rel i a h
theorem set_get {α : Type} {l : List (Option α)} {i j : Nat} {a b : α} (h : (l.set i (some a))[j]? = some (some b)) : (i = j ∧ a = b ∧ i < l.length) ∨ (i ≠ j ∧ l[j]? = some (some b)) := by
  by_cases q : i = j
  · subst q
    by_cases hi : i < l.length
    · rw [List.getElem?_set_self hi] at h
      cases h
      exact .inl ⟨rfl, rfl, hi⟩
    · rw [List.getElem?_eq_none (by simpa using hi)] at h; cases h
  · rw [List.getElem?_set_ne q] at h
    exact .inr ⟨q, h⟩
/-- a slot gets a value whose own things are new to the others -/
theorem SD.setA {K : PySem.W.Frag} {H0 B H : Hp} {σ : L2.St} {δ : List (Option A)} (S : SD K H0 B H σ δ) {i : Nat} {a : A} {v : V} (h : RA K B H v a)
    (hn : ∀ q, Fp H v a q → H0 q = none ∧ ∀ (j : Nat) (b : A) (u : V), j ≠ i → δ[j]? = some (some b) → σ[j]? = some (some u) → ¬ Fp H u b q) (nr : reads a = false) : SD K H0 B H (σ.set i (some v)) (δ.set i (some a)) := by
  refine ⟨S.s, by rw [List.length_set, List.length_set, S.len], fun j b hb => ?_, fun j k b c u w q h1 h2 h3 h4 f1 f2 => ?_, fun j b u q h1 h2 f => ?_, fun j b u h1 h2 h3 => ?_⟩
  · rcases set_get hb with ⟨e, e2, hi⟩ | ⟨ne, hb⟩
    · subst e e2
      exact ⟨v, by rw [List.getElem?_set_self (by rw [S.len]; exact hi)], h⟩
    · rw [List.getElem?_set_ne ne]
      exact S.rel j b hb
  · rcases set_get h1 with ⟨e, e2, hi⟩ | ⟨ne, h1⟩
    · subst e e2
      rw [List.getElem?_set_self (by rw [S.len]; exact hi)] at h3
      cases h3
      rcases set_get h2 with ⟨e, _, _⟩ | ⟨ne, h2⟩
      · exact e
      · rw [List.getElem?_set_ne ne] at h4
        exact absurd f2 ((hn q f1).2 k c w (Ne.symm ne) h2 h4)
    · rw [List.getElem?_set_ne ne] at h3
      rcases set_get h2 with ⟨e, e2, hi⟩ | ⟨ne2, h2⟩
      · subst e e2
        rw [List.getElem?_set_self (by rw [S.len]; exact hi)] at h4
        cases h4
        exact absurd f1 ((hn q f2).2 j b u (Ne.symm ne) h1 h3)
      · rw [List.getElem?_set_ne ne2] at h4
        exact S.dis j k b c u w q h1 h2 h3 h4 f1 f2
  · rcases set_get h1 with ⟨e, e2, hi⟩ | ⟨ne, h1⟩
    · subst e e2
      rw [List.getElem?_set_self (by rw [S.len]; exact hi)] at h2
      cases h2
      exact (hn q f).1
    · rw [List.getElem?_set_ne ne] at h2
      exact S.fr j b u q h1 h2 f
  · rcases set_get h1 with ⟨e, e2, hi⟩ | ⟨ne, h1⟩
    · subst e2
      rw [h2] at nr
      cases nr
    · rw [List.getElem?_set_ne ne] at h3
      exact S.rd j b u h1 h2 h3
/-- a slot gets what owns nothing -/
theorem SD.set {K : PySem.W.Frag} {H0 B H : Hp} {σ : L2.St} {δ : List (Option A)} (S : SD K H0 B H σ δ) {i : Nat} {a : A} {v : V} (h : RA K B H v a) (hn : owns a = false) (nr : reads a = false := by rfl) : SD K H0 B H (σ.set i (some v)) (δ.set i (some a)) :=
  S.setA h (fun q f => by
    rw [fp_owns f] at hn
    cases hn) nr
/-- a slot gets a new thing of one's own: all that it owns stood not yet in the heap H1 -/
theorem SD.setN {K : PySem.W.Frag} {H0 B1 H1 B H : Hp} {σ : L2.St} {δ : List (Option A)} (S : SD K H0 B1 H1 σ δ) (l : Sub H0 H1) (E : Ext B1 H1 B H) {i : Nat} {a : A} {v : V} (h : RA K B H v a) (hn : ∀ q, Fp H v a q → H1 q = none) (nr : reads a = false := by rfl) : SD K H0 B H (σ.set i (some v)) (δ.set i (some a)) :=
  (S.mono E).setA h (fun q f => ⟨sub_free l (hn q f), fun j b u _ h1 h2 g => (fp_at (S.rel' h1 h2) (g.back E (S.rel' h1 h2))).2 (hn q f)⟩) nr
/-- what is new stands apart from what the slots own -/
theorem SD.apart {K : PySem.W.Frag} {H0 B H B' H' : Hp} {σ : L2.St} {δ : List (Option A)} (S : SD K H0 B H σ δ) (l : Sub H0 H) (E : Ext B H B' H') {q : Addr} (hq : H q = none) : H0 q = none ∧ ∀ (j : Nat) (b : A) (u : V), δ[j]? = some (some b) → σ[j]? = some (some u) → ¬ Fp H' u b q :=
  ⟨sub_free l hq, fun j b u h1 h2 f => (fp_at (S.rel' h1 h2) (f.back E (S.rel' h1 h2))).2 hq⟩
/-- what one slot owns is changed in place, the data may grow; what it owns behind it owned, or it is new -/
theorem SD.putB {K : PySem.W.Frag} {H0 B H B' H' : Hp} {σ : L2.St} {δ : List (Option A)} (S : SD K H0 B H σ δ) (l : Sub H0 H) (b : Sub B B') {i : Nat} {a a' : A} {v : V} (hδ : δ[i]? = some (some a)) (hσ : σ[i]? = some (some v))
    (hk : ∀ q u, ¬ Fp H v a q → H q = some u → H' q = some u ∧ B' q = B q) (hs : Sub B' H') (hr : RA K B' H' v a') (hf : ∀ q, Fp H' v a' q → Fp H v a q ∨ (H0 q = none ∧ ∀ (j : Nat) (b : A) (u : V), δ[j]? = some (some b) → σ[j]? = some (some u) → ¬ Fp H u b q)) (nr : reads a' = false) : SD K H0 B' H' σ (δ.set i (some a')) := by
  have up : Sub H0 H' := fun q u hq => (hk q u (fun f => by rw [S.fr i a v q hδ hσ f] at hq; cases hq) (l q u hq)).1
  have other : ∀ (j : Nat) (b : A) (u : V), i ≠ j → δ[j]? = some (some b) → σ[j]? = some (some u) → RA K B' H' u b ∧ ∀ q, Fp H' u b q → Fp H u b q := fun j c u ne h1 h2 => by
    have r := S.rel' h1 h2
    have k : ∀ q w, Fp H u c q → H q = some w → H' q = some w ∧ B' q = B q := fun q w f hq => hk q w (fun g => ne (S.dis i j a c v u q hδ h1 hσ h2 g f)) hq
    refine ⟨?_, fun q f => fp_back r (fun p w g h => (k p w g h).1) f⟩
    cases hr : reads c with
    | false => exact ra_to b (fun q w f hq => ⟨by rw [(k q w f hq).2]; exact (fp_at r f).1, (k q w f hq).1⟩) hr r
    | true =>
      obtain ⟨Bz, sz, rz⟩ := S.rd j c u h1 hr h2
      exact ra_reads hr (sz.tr b) up rz
  refine ⟨hs, by rw [List.length_set]; exact S.len, fun j b hb => ?_, fun j k b c u w q h1 h2 h3 h4 f1 f2 => ?_, fun j b u q h1 h2 f => ?_, fun j c u h1 h2 h3 => ?_⟩
  · rcases set_get hb with ⟨e, e2, hi⟩ | ⟨ne, hb⟩
    · subst e e2
      exact ⟨v, hσ, hr⟩
    · obtain ⟨u, h1, h2⟩ := S.rel j b hb
      exact ⟨u, h1, (other j b u ne hb h1).1⟩
  · have meet : ∀ (j : Nat) (b : A) (u : V), i ≠ j → δ[j]? = some (some b) → σ[j]? = some (some u) → Fp H' v a' q → Fp H' u b q → False := fun j b u ne g1 g2 e1 e2 => by
      have e2 := (other j b u ne g1 g2).2 q e2
      rcases hf q e1 with e1 | e1
      · exact ne (S.dis i j a b v u q hδ g1 hσ g2 e1 e2)
      · exact e1.2 j b u g1 g2 e2
    rcases set_get h1 with ⟨e, e2, hi⟩ | ⟨ne, h1⟩
    · subst e e2
      rw [hσ] at h3
      cases h3
      rcases set_get h2 with ⟨e, _, _⟩ | ⟨ne, h2⟩
      · exact e
      · exact (meet k c w ne h2 h4 f1 f2).elim
    · rcases set_get h2 with ⟨e, e2, hi⟩ | ⟨ne2, h2⟩
      · subst e e2
        rw [hσ] at h4
        cases h4
        exact (meet j b u ne h1 h3 f2 f1).elim
      · exact S.dis j k b c u w q h1 h2 h3 h4 ((other j b u ne h1 h3).2 q f1) ((other k c w ne2 h2 h4).2 q f2)
  · rcases set_get h1 with ⟨e, e2, hi⟩ | ⟨ne, h1⟩
    · subst e e2
      rw [hσ] at h2
      cases h2
      rcases hf q f with f | f
      · exact S.fr i a v q hδ hσ f
      · exact f.1
    · exact S.fr j b u q h1 h2 ((other j b u ne h1 h2).2 q f)
  · rcases set_get h1 with ⟨e, e2, hi⟩ | ⟨ne, h1⟩
    · subst e2
      rw [h2] at nr
      cases nr
    · obtain ⟨Bz, sz, rz⟩ := S.rd j c u h1 h2 h3
      exact ⟨Bz, sz.tr b, rz⟩
theorem SD.put {K : PySem.W.Frag} {H0 B H H' : Hp} {σ : L2.St} {δ : List (Option A)} (S : SD K H0 B H σ δ) (l : Sub H0 H) {i : Nat} {a a' : A} {v : V} (hδ : δ[i]? = some (some a)) (hσ : σ[i]? = some (some v))
    (hk : ∀ q u, ¬ Fp H v a q → H q = some u → H' q = some u) (hs : Sub B H') (hr : RA K B H' v a') (hf : ∀ q, Fp H' v a' q → Fp H v a q ∨ (H0 q = none ∧ ∀ (j : Nat) (b : A) (u : V), δ[j]? = some (some b) → σ[j]? = some (some u) → ¬ Fp H u b q)) (nr : reads a' = false) : SD K H0 B H' σ (δ.set i (some a')) :=
  S.putB l Sub.rfl' hδ hσ (fun q u n h => ⟨hk q u n h, rfl⟩) hs hr hf nr

/-! ### expressions -/
def tPe (K : PySem.W.Frag) (B0 H0 : Hp) (δ : List (Option A)) (a : A) : TE := fun σ H Q => ∃ B, Ext B0 H0 B H ∧ SD K H0 B H σ δ ∧ ∀ v B' H', Ext B H B' H' → RA K B' H' v a → Q v H'
def tPt (K : PySem.W.Frag) (B0 H0 : Hp) (δ : List (Option A)) (b : Bool) : TT := fun σ H Q => ∃ B, Ext B0 H0 B H ∧ SD K H0 B H σ δ ∧ ∀ B' H', Ext B H B' H' → Q b H'
def RAs (K : PySem.W.Frag) (B H : Hp) : List V → List A → Prop := Paired (RA K B H)
def tPa (K : PySem.W.Frag) (B0 H0 : Hp) (δ : List (Option A)) (as : List A) : TA := fun σ H Q => ∃ B, Ext B0 H0 B H ∧ SD K H0 B H σ δ ∧ ∀ vs B' H', Ext B H B' H' → RAs K B' H' vs as → Q vs H'
/-- a new list -/
def tPn (K : PySem.W.Frag) (B0 H0 : Hp) (δ : List (Option A)) (xs : List PyData) : TE := fun σ H Q => ∃ B, Ext B0 H0 B H ∧ SD K H0 B H σ δ ∧
  ∀ p vs B' H', Ext B H B' H' → H p = none → B' p = none → H' p = some (.lst vs) → Dqs B' vs xs → Q (.ref p) H'

theorem RAs.mono {K : PySem.W.Frag} {B H B' H' : Hp} (e : Ext B H B' H') : ∀ {vs : List V} {as : List A}, RAs K B H vs as → RAs K B' H' vs as
  | _, _, .nil => .nil
  | _, _, .cons r t => .cons (r.mono e) (RAs.mono e t)

section
variable {X : Cx} {B0 H0 : Hp} {δ : List (Option A)} {e e1 e2 e3 : Expr} {es : List Expr} {a a1 a2 a3 : A} {as : List A} {b c : Bool} {xs ys : List PyData} {pos : Pos}

def Pe (X : Cx) (B0 H0 : Hp) (δ : List (Option A)) (e : Expr) (a : A) : Prop := PE X e (tPe X.K B0 H0 δ a)
def Pt (X : Cx) (B0 H0 : Hp) (δ : List (Option A)) (e : Expr) (b : Bool) : Prop := PT X e (tPt X.K B0 H0 δ b)
def Pw (X : Cx) (B0 H0 : Hp) (δ : List (Option A)) (e : Expr) (b : Bool) : Prop := PW X e (tPt X.K B0 H0 δ b)
def Pa (X : Cx) (B0 H0 : Hp) (δ : List (Option A)) (es : List Expr) (as : List A) : Prop := PA X es (tPa X.K B0 H0 δ as)
def Pn (X : Cx) (B0 H0 : Hp) (δ : List (Option A)) (e : Expr) (xs : List PyData) : Prop := PE X e (tPn X.K B0 H0 δ xs)

theorem pe_to {t t' : TE} (h : PE X e t) (m : ∀ σ H Q, t' σ H Q → t σ H Q) : PE X e t' := ⟨fun pins s σ H Q J q => h.run pins s σ H Q J (m _ _ _ q)⟩
theorem pt_to {t t' : TT} (h : PT X e t) (m : ∀ σ H Q, t' σ H Q → t σ H Q) : PT X e t' := ⟨fun pins s σ H Q J q => h.run pins s σ H Q J (m _ _ _ q)⟩
theorem pw_to {t t' : TT} (h : PW X e t) (m : ∀ σ H Q, t' σ H Q → t σ H Q) : PW X e t' := ⟨fun wh pins s σ H Q J q => h.run wh pins s σ H Q J (m _ _ _ q)⟩
theorem pa_to {t t' : TA} (h : PA X es t) (m : ∀ σ H Q, t' σ H Q → t σ H Q) : PA X es t' := ⟨fun po pins s σ H Q J q => h.run po pins s σ H Q J (m _ _ _ q)⟩

theorem Pe.is {a' : A} (h : Pe X B0 H0 δ e a) (q : a = a') : Pe X B0 H0 δ e a' := q ▸ h
theorem Pt.is {b' : Bool} (h : Pt X B0 H0 δ e b) (q : b = b') : Pt X B0 H0 δ e b' := q ▸ h
theorem Pn.is {ys : List PyData} (h : Pn X B0 H0 δ e xs) (q : xs = ys) : Pn X B0 H0 δ e ys := q ▸ h
/-- the value known a little less -/
theorem Pe.imp {a' : A} (h : Pe X B0 H0 δ e a) (q : ∀ B H v, Sub B H → RA X.K B H v a → RA X.K B H v a') : Pe X B0 H0 δ e a' := pe_to h fun σ H Q ⟨B, E0, S, k⟩ => ⟨B, E0, S, fun v B' H' E r => k v B' H' E (q _ _ _ E.s r)⟩

/-- a new list, let go -/
theorem Pn.dat (h : Pn X B0 H0 δ e xs) : Pe X B0 H0 δ e (.d (.list xs)) := pe_to h fun σ H Q ⟨B, E0, S, k⟩ => ⟨B, E0, S, fun p vs B' H' E hp hb hl hd =>
  k (.ref p) (upd B' p (.lst vs)) H' ⟨E.b.tr (sub_new hb), E.h, fun x u z => by
    by_cases q : x = p
    · subst q; rw [upd_same] at z; cases z; exact hl
    · rw [upd_ne q] at z; exact E.s x u z, fun x z => by
    have q : x ≠ p := fun q => z (by rw [q]; exact hp)
    rw [upd_ne q]; exact E.n x z⟩ (.lst upd_same (dqs_sub (sub_new hb) _ _ hd))⟩

theorem p_var (i : Nat) {x : Str} (hd : δ[i]? = some (some a)) (hN : X.N[i]? = some x := by rfl) (hv : Vis X.env.scope x := by first | exact .inl rfl | exact .inr (.inl rfl) | exact .inr (.inr rfl)) (h1 : (x == ("__debug__" : Str)) = false := by decide) (h2 : (x == ("__classdict__" : Str)) = false := by decide) : Pe X B0 H0 δ (.Name x pos) a :=
  pe_to (pe_var (i := i) hN hv h1 h2) fun σ H Q ⟨B, E0, S, k⟩ => let ⟨v, hv, r⟩ := S.get hd; ⟨v, hv, k v B H (.rfl' S.s) r⟩
/-- a list of one's own, read for now -/
theorem p_varO (i : Nat) {x : Str} (hd : δ[i]? = some (some (.o xs))) (hN : X.N[i]? = some x := by rfl) (hv : Vis X.env.scope x := by first | exact .inl rfl | exact .inr (.inl rfl) | exact .inr (.inr rfl)) (h1 : (x == ("__debug__" : Str)) = false := by decide) (h2 : (x == ("__classdict__" : Str)) = false := by decide) : Pe X B0 H0 δ (.Name x pos) (.t (.list xs)) :=
  Pe.imp (p_var i hd hN hv h1 h2) fun B H v s ⟨p, vs, e, _, hp, hd⟩ => by
    subst e
    exact .lst hp (dqs_sub s _ _ hd)
/-- a list of one's own, handed to another def that leaves it as it is -/
theorem p_varR (i : Nat) {x : Str} (hd : δ[i]? = some (some (.o xs))) (hN : X.N[i]? = some x := by rfl) (hv : Vis X.env.scope x := by first | exact .inl rfl | exact .inr (.inl rfl) | exact .inr (.inr rfl)) (h1 : (x == ("__debug__" : Str)) = false := by decide) (h2 : (x == ("__classdict__" : Str)) = false := by decide) : Pe X B0 H0 δ (.Name x pos) (.r xs) :=
  Pe.imp (p_var i hd hN hv h1 h2) fun B H v s ⟨p, vs, e, _, hp, hd⟩ => ⟨p, vs, e, hp, hd⟩
theorem p_c {v : V} (h : PE X e (tC v)) (r : ∀ B H, RA X.K B H v a) : Pe X B0 H0 δ e a := pe_to h fun σ H Q ⟨B, E0, S, k⟩ => k v B H (.rfl' S.s) (r B H)
theorem p_int {i : Int} {j} : Pe X B0 H0 δ (.Constant (.int i) j pos) (.d (.int i)) := p_c pe_int fun _ _ => .int i
theorem p_bl {i : Bool} {j} : Pe X B0 H0 δ (.Constant (.bool i) j pos) (.d (.bool i)) := p_c pe_bl fun _ _ => .bl i
theorem p_non {j} : Pe X B0 H0 δ (.Constant .none j pos) (.d .none) := p_c pe_non fun _ _ => .non
theorem p_str {x : Str} {j} : Pe X B0 H0 δ (.Constant (.str x) j pos) (.d (.str x)) := p_c pe_str fun _ _ => .str x
theorem p_glob {x : Str} {v : V} {u : Value} (hm : X.mg x = some u) (r : RelV v u) (hg : Gl X x := by rfl) (hd : (x == ("__debug__" : Str)) = false := by decide) : Pe X B0 H0 δ (.Name x pos) (.v v) := p_c (pe_glob hg hm r hd) fun _ _ => rfl
theorem p_gint {x : Str} {i : Int} {t : Tok} (hm : X.mg x = some (.int i t)) (hg : Gl X x := by rfl) (hd : (x == ("__debug__" : Str)) = false := by decide) : Pe X B0 H0 δ (.Name x pos) (.d (.int i)) := p_c (pe_glob (v := .int i) hg hm ⟨t, rfl⟩ hd) fun _ _ => .int i

/-- an operator of two values -/
theorem p_bin {op : Operator} {r : R2} (ho : OpR X (binaryOp op) r) (ha : Pe X B0 H0 δ e1 a1) (hb : Pe X B0 H0 δ e2 a2)
    (h : ∀ B H x y Q, Sub B H → RA X.K B H x a1 → RA X.K B H y a2 → (∀ v B' H', Ext B H B' H' → RA X.K B' H' v a → Q v H') → r x y H Q) : Pe X B0 H0 δ (.BinOp e1 op e2 pos) a :=
  pe_to (pe_op ho ha hb) fun σ H Q ⟨B, E0, S, k⟩ => ⟨B, E0, S, fun x B1 H1 E1 r1 => ⟨B1, E0.tr E1, S.mono E1, fun y B2 H2 E2 r2 => h B2 H2 x y Q E2.s (r1.mono E2) r2 fun v B3 H3 E3 r3 => k v B3 H3 ((E1.tr E2).tr E3) r3⟩⟩
theorem p_cmp {op : CmpOp} {r : R2} (ho : OpR X (compareOp op) r) (ha : Pe X B0 H0 δ e1 a1) (hb : Pe X B0 H0 δ e2 a2) (hm : behindInMarks op e2 = false)
    (h : ∀ B H x y Q, Sub B H → RA X.K B H x a1 → RA X.K B H y a2 → (∀ v B' H', Ext B H B' H' → RA X.K B' H' v a → Q v H') → r x y H Q) : Pe X B0 H0 δ (.Compare e1 [op] [e2] pos) a :=
  pe_to (pe_cmpR ho ha hb hm) fun σ H Q ⟨B, E0, S, k⟩ => ⟨B, E0, S, fun x B1 H1 E1 r1 => ⟨B1, E0.tr E1, S.mono E1, fun y B2 H2 E2 r2 => h B2 H2 x y Q E2.s (r1.mono E2) r2 fun v B3 H3 E3 r3 => k v B3 H3 ((E1.tr E2).tr E3) r3⟩⟩
theorem p_ix {r : R2} (hr : IxR X r) (ha : Pe X B0 H0 δ e1 a1) (hb : Pe X B0 H0 δ e2 a2) (hs : PlainIx e2)
    (h : ∀ B H x y Q, Sub B H → RA X.K B H x a1 → RA X.K B H y a2 → (∀ v B' H', Ext B H B' H' → RA X.K B' H' v a → Q v H') → r x y H Q) : Pe X B0 H0 δ (.Subscript e1 e2 pos) a :=
  pe_to (pe_ix hr ha hb hs) fun σ H Q ⟨B, E0, S, k⟩ => ⟨B, E0, S, fun x B1 H1 E1 r1 => ⟨B1, E0.tr E1, S.mono E1, fun y B2 H2 E2 r2 => h B2 H2 x y Q E2.s (r1.mono E2) r2 fun v B3 H3 E3 r3 => k v B3 H3 ((E1.tr E2).tr E3) r3⟩⟩
theorem p_un {op : UnaryOp} {r : V → Hp → VK → Prop} (ho : UnR X (unaryOp op) r) (ha : Pe X B0 H0 δ e1 a1)
    (h : ∀ B H x Q, Sub B H → RA X.K B H x a1 → (∀ v B' H', Ext B H B' H' → RA X.K B' H' v a → Q v H') → r x H Q) : Pe X B0 H0 δ (.UnaryOp op e1 pos) a :=
  pe_to (pe_un ho ha) fun σ H Q ⟨B, E0, S, k⟩ => ⟨B, E0, S, fun x B1 H1 E1 r1 => h B1 H1 x Q E1.s r1 fun v B3 H3 E3 r3 => k v B3 H3 (E1.tr E3) r3⟩

theorem ra_int {K : PySem.W.Frag} {B H : Hp} {v : V} {i : Int} (h : RA K B H v (.d (.int i))) : v = .int i := by cases h; rfl
theorem ra_bl {K : PySem.W.Frag} {B H : Hp} {v : V} {i : Bool} (h : RA K B H v (.d (.bool i))) : v = .bl i := by cases h; rfl
theorem ra_str {K : PySem.W.Frag} {B H : Hp} {v : V} {i : Str} (h : RA K B H v (.d (.str i))) : v = .str i := by cases h; rfl
theorem ra_non {K : PySem.W.Frag} {B H : Hp} {v : V} (h : RA K B H v (.d .none)) : v = .non := by cases h; rfl

theorem p_add {i j : Int} (ha : Pe X B0 H0 δ e1 (.d (.int i))) (hb : Pe X B0 H0 δ e2 (.d (.int j))) : Pe X B0 H0 δ (.BinOp e1 .Add e2 pos) (.d (.int (i + j))) :=
  p_bin op_add ha hb fun B H x y Q s r1 r2 k => ⟨i, j, ra_int r1, ra_int r2, k _ B H (.rfl' s) (.int _)⟩
theorem p_sub {i j : Int} (ha : Pe X B0 H0 δ e1 (.d (.int i))) (hb : Pe X B0 H0 δ e2 (.d (.int j))) : Pe X B0 H0 δ (.BinOp e1 .Sub e2 pos) (.d (.int (i - j))) :=
  p_bin op_sub ha hb fun B H x y Q s r1 r2 k => ⟨i, j, ra_int r1, ra_int r2, k _ B H (.rfl' s) (.int _)⟩
theorem p_mul {i j : Int} (ha : Pe X B0 H0 δ e1 (.d (.int i))) (hb : Pe X B0 H0 δ e2 (.d (.int j))) (hc : CMul i j) : Pe X B0 H0 δ (.BinOp e1 .Mult e2 pos) (.d (.int (i * j))) :=
  p_bin op_mul ha hb fun B H x y Q s r1 r2 k => ⟨i, j, ra_int r1, ra_int r2, hc, k _ B H (.rfl' s) (.int _)⟩
theorem p_mod {i j : Int} (ha : Pe X B0 H0 δ e1 (.d (.int i))) (hb : Pe X B0 H0 δ e2 (.d (.int j))) (hc : 0 < j) : Pe X B0 H0 δ (.BinOp e1 .Mod e2 pos) (.d (.int (i % j))) :=
  p_bin op_mod ha hb fun B H x y Q s r1 r2 k => ⟨i, j, ra_int r1, ra_int r2, hc, k _ B H (.rfl' s) (.int _)⟩
theorem p_fdiv {i j : Int} (ha : Pe X B0 H0 δ e1 (.d (.int i))) (hb : Pe X B0 H0 δ e2 (.d (.int j))) (hc : CDiv i j) : Pe X B0 H0 δ (.BinOp e1 .FloorDiv e2 pos) (.d (.int (i / j))) :=
  p_bin op_fdiv ha hb fun B H x y Q s r1 r2 k => ⟨i, j, ra_int r1, ra_int r2, hc, k _ B H (.rfl' s) (.int _)⟩
theorem p_pow {i j : Int} (ha : Pe X B0 H0 δ e1 (.d (.int i))) (hb : Pe X B0 H0 δ e2 (.d (.int j))) (hc : CPow i j) : Pe X B0 H0 δ (.BinOp e1 .Pow e2 pos) (.d (.int (i ^ j.toNat))) :=
  p_bin op_pow ha hb fun B H x y Q s r1 r2 k => ⟨i, j, ra_int r1, ra_int r2, hc, k _ B H (.rfl' s) (.int _)⟩
theorem p_neg {i : Int} (ha : Pe X B0 H0 δ e1 (.d (.int i))) : Pe X B0 H0 δ (.UnaryOp .USub e1 pos) (.d (.int (-i))) :=
  p_un un_neg ha fun B H x Q s r1 k => ⟨i, ra_int r1, k _ B H (.rfl' s) (.int _)⟩
/-- a comparison whose answer is b -/
def Pc (X : Cx) (B0 H0 : Hp) (δ : List (Option A)) (e1 : Expr) (op : CmpOp) (e2 : Expr) (b : Bool) : Prop :=
  ∃ (a1 a2 : A) (r : R2), OpR X (compareOp op) r ∧ Pe X B0 H0 δ e1 a1 ∧ Pe X B0 H0 δ e2 a2 ∧ behindInMarks op e2 = false ∧ ∀ B H x y Q, Sub B H → RA X.K B H x a1 → RA X.K B H y a2 → Q (.bl b) H → r x y H Q
theorem p_cm {op : CmpOp} (h : Pc X B0 H0 δ e1 op e2 b) : Pe X B0 H0 δ (.Compare e1 [op] [e2] pos) (.d (.bool b)) := by
  obtain ⟨a1, a2, r, ho, ha, hb, hm, hr⟩ := h
  exact p_cmp ho ha hb hm fun B H x y Q s r1 r2 k => hr B H x y Q s r1 r2 (k _ B H (.rfl' s) (.bl b))
theorem t_cm {op : CmpOp} (h : Pc X B0 H0 δ e1 op e2 b) : Pt X B0 H0 δ (.Compare e1 [op] [e2] pos) b := by
  obtain ⟨a1, a2, r, ho, ha, hb, hm, hr⟩ := h
  exact pt_to (pt_cmpR ho ha hb hm) fun σ H Q ⟨B, E0, S, k⟩ => ⟨B, E0, S, fun x B1 H1 E1 r1 => ⟨B1, E0.tr E1, S.mono E1, fun y B2 H2 E2 r2 => hr B2 H2 x y _ E2.s (r1.mono E2) r2 ⟨b, rfl, k B2 H2 (E1.tr E2)⟩⟩⟩
theorem Pc.is {op : CmpOp} {b' : Bool} (h : Pc X B0 H0 δ e1 op e2 b) (q : b = b') : Pc X B0 H0 δ e1 op e2 b' := q ▸ h
theorem c_lt {i j : Int} (ha : Pe X B0 H0 δ e1 (.d (.int i))) (hb : Pe X B0 H0 δ e2 (.d (.int j))) : Pc X B0 H0 δ e1 .Lt e2 (decide (i < j)) :=
  ⟨_, _, _, op_lt, ha, hb, nomark _, fun B H x y Q s r1 r2 k => ⟨i, j, ra_int r1, ra_int r2, k⟩⟩
theorem c_le {i j : Int} (ha : Pe X B0 H0 δ e1 (.d (.int i))) (hb : Pe X B0 H0 δ e2 (.d (.int j))) : Pc X B0 H0 δ e1 .LtE e2 (decide (i ≤ j)) :=
  ⟨_, _, _, op_le, ha, hb, nomark _, fun B H x y Q s r1 r2 k => ⟨i, j, ra_int r1, ra_int r2, k⟩⟩
theorem c_gt {i j : Int} (ha : Pe X B0 H0 δ e1 (.d (.int i))) (hb : Pe X B0 H0 δ e2 (.d (.int j))) : Pc X B0 H0 δ e1 .Gt e2 (decide (j < i)) :=
  ⟨_, _, _, op_gt, ha, hb, nomark _, fun B H x y Q s r1 r2 k => ⟨i, j, ra_int r1, ra_int r2, k⟩⟩
theorem c_ge {i j : Int} (ha : Pe X B0 H0 δ e1 (.d (.int i))) (hb : Pe X B0 H0 δ e2 (.d (.int j))) : Pc X B0 H0 δ e1 .GtE e2 (decide (j ≤ i)) :=
  ⟨_, _, _, op_ge, ha, hb, nomark _, fun B H x y Q s r1 r2 k => ⟨i, j, ra_int r1, ra_int r2, k⟩⟩

end
end GL

set_option Elab.async false
set_option linter.all false
set_option maxRecDepth 100000
set_option maxHeartbeats 4000000
namespace GL
open PySem PySem.Spec L2

/-! ### lists of data -/
theorem dqs_len {H : Hp} : ∀ {vs : List V} {xs : List PyData}, Dqs H vs xs → vs.length = xs.length
  | _, _, .nil => rfl
  | _, _, .cons _ t => congrArg (· + 1) (dqs_len t)
theorem dqs_get {H : Hp} : ∀ {vs : List V} {xs : List PyData}, Dqs H vs xs → ∀ (i : Nat) (x : PyData), xs[i]? = some x → ∃ u, vs[i]? = some u ∧ Dq H u x
  | _, _, .nil, _, _, h => by simp at h
  | _, _, .cons r t, 0, x, h => by
    have e := Option.some.inj h
    subst e
    exact ⟨_, rfl, r⟩
  | _, _, .cons r t, i + 1, x, h => dqs_get t i x (by simpa using h)
theorem dqs_app {H : Hp} : ∀ {vs ws : List V} {xs ys : List PyData}, Dqs H vs xs → Dqs H ws ys → Dqs H (vs ++ ws) (xs ++ ys)
  | _, _, _, _, .nil, s => s
  | _, _, _, _, .cons r t, s => .cons r (dqs_app t s)
theorem dqs_take {H : Hp} : ∀ (n : Nat) {vs : List V} {xs : List PyData}, Dqs H vs xs → Dqs H (vs.take n) (xs.take n)
  | 0, _, _, _ => .nil
  | _ + 1, _, _, .nil => .nil
  | n + 1, _, _, .cons r t => .cons r (dqs_take n t)
theorem dqs_drop {H : Hp} : ∀ (n : Nat) {vs : List V} {xs : List PyData}, Dqs H vs xs → Dqs H (vs.drop n) (xs.drop n)
  | 0, _, _, r => r
  | _ + 1, _, _, .nil => .nil
  | n + 1, _, _, .cons _ t => dqs_drop n t
theorem dqs_set {H : Hp} : ∀ {vs : List V} {xs : List PyData} (i : Nat) {v : V} {x : PyData}, Dqs H vs xs → Dq H v x → Dqs H (vs.set i v) (xs.set i x)
  | _, _, _, _, _, .nil, _ => .nil
  | _, _, 0, _, _, .cons _ t, q => .cons q t
  | _, _, i + 1, _, _, .cons r t, q => .cons r (dqs_set i t q)
theorem dqs_rep {H : Hp} {v : V} {x : PyData} (h : Dq H v x) : ∀ n : Nat, Dqs H (List.replicate n v) (List.replicate n x)
  | 0 => .nil
  | n + 1 => .cons h (dqs_rep h n)
theorem dqs_flat {H : Hp} {vs : List V} {xs : List PyData} (h : Dqs H vs xs) : ∀ n : Nat, Dqs H (List.replicate n vs).flatten (List.replicate n xs).flatten
  | 0 => .nil
  | n + 1 => by
    rw [List.replicate_succ, List.replicate_succ, List.flatten_cons, List.flatten_cons]
    exact dqs_app h (dqs_flat h n)
theorem dqs_ints {H : Hp} : ∀ {vs : List V} (ns : List Int), Dqs H vs (ns.map PyData.int) → vs = ns.map V.int
  | _, [], .nil => rfl
  | _, n :: ns, .cons r t => by
    cases r
    rw [dqs_ints ns t]
    rfl
theorem dqs_bls {H : Hp} : ∀ {vs : List V} (ns : List Bool), Dqs H vs (ns.map PyData.bool) → vs = ns.map V.bl
  | _, [], .nil => rfl
  | _, n :: ns, .cons r t => by
    cases r
    rw [dqs_bls ns t]
    rfl
theorem dqs_strs {H : Hp} : ∀ {vs : List V} (ns : List Str), Dqs H vs (ns.map PyData.str) → vs = ns.map V.str
  | _, [], .nil => rfl
  | _, n :: ns, .cons r t => by
    cases r
    rw [dqs_strs ns t]
    rfl
theorem ints_dqs {H : Hp} : ∀ ns : List Int, Dqs H (ns.map V.int) (ns.map PyData.int)
  | [] => .nil
  | _ :: ns => .cons (.int _) (ints_dqs ns)

/-- a is a list or tuple of xs; w: what is known of its items -/
class inductive Sq : A → outParam (List PyData) → outParam (PyData → A) → Prop
  | dl {xs} : Sq (.d (.list xs)) xs .d
  | dt {xs} : Sq (.d (.tuple xs)) xs .d
  | tl {xs} : Sq (.t (.list xs)) xs .t
  | tt {xs} : Sq (.t (.tuple xs)) xs .t
  | ol {xs} : Sq (.o xs) xs .d
  | sl {ns} : Sq (.s ns) (ns.map .int) .d
  | rl {xs} : Sq (.r xs) xs .d
  | pl {p xs} : Sq (.op p xs) xs .d
instance sq_dl {xs} : Sq (.d (.list xs)) xs .d := .dl
instance sq_dt {xs} : Sq (.d (.tuple xs)) xs .d := .dt
instance sq_tl {xs} : Sq (.t (.list xs)) xs .t := .tl
instance sq_tt {xs} : Sq (.t (.tuple xs)) xs .t := .tt
instance sq_ol {xs} : Sq (.o xs) xs .d := .ol
instance sq_rl {xs} : Sq (.r xs) xs .d := .rl
instance sq_pl {p xs} : Sq (.op p xs) xs .d := .pl
instance sq_sl {ns} : Sq (.s ns) (ns.map .int) .d := .sl
/-- .. whose items stay -/
class inductive Sk : A → outParam (List PyData) → Prop
  | dl {xs} : Sk (.d (.list xs)) xs
  | dt {xs} : Sk (.d (.tuple xs)) xs
  | ol {xs} : Sk (.o xs) xs
  | sl {ns} : Sk (.s ns) (ns.map .int)
  | rl {xs} : Sk (.r xs) xs
  | pl {p xs} : Sk (.op p xs) xs
instance sk_dl {xs} : Sk (.d (.list xs)) xs := .dl
instance sk_dt {xs} : Sk (.d (.tuple xs)) xs := .dt
instance sk_ol {xs} : Sk (.o xs) xs := .ol
instance sk_rl {xs} : Sk (.r xs) xs := .rl
instance sk_pl {p xs} : Sk (.op p xs) xs := .pl
instance sk_sl {ns} : Sk (.s ns) (ns.map .int) := .sl
theorem Sk.at {K : PySem.W.Frag} {B H : Hp} {v : V} {a : A} {xs : List PyData} (h : Sk a xs) (s : Sub B H) (r : RA K B H v a) : ∃ p vs, v = .ref p ∧ (SqL K H p vs ∨ SqT K H p vs) ∧ Dqs B vs xs := by
  cases h with
  | dl =>
    cases r with
    | lst q k => exact ⟨_, _, rfl, .inl (.inl (.inl (s _ _ q))), k⟩
  | dt =>
    cases r with
    | tup q k => exact ⟨_, _, rfl, .inr (.inl (.inl (s _ _ q))), k⟩
  | ol =>
    obtain ⟨p, vs, rfl, _, hp, k⟩ := r
    exact ⟨p, vs, rfl, .inl (.inl (.inl hp)), k⟩
  | @sl ns =>
    obtain ⟨p, rfl, h⟩ := r
    exact ⟨p, _, rfl, .inl (sub_l s h), ints_dqs ns⟩
  | rl =>
    obtain ⟨p, vs, rfl, hp, k⟩ := r
    exact ⟨p, vs, rfl, .inl (.inl (.inl hp)), k⟩
  | @pl p =>
    obtain ⟨rfl, _, vs, hp, k⟩ := r
    exact ⟨p, vs, rfl, .inl (.inl (.inl hp)), k⟩
theorem Sq.at {K : PySem.W.Frag} {B H : Hp} {v : V} {a : A} {xs : List PyData} {w : PyData → A} (h : Sq a xs w) (s : Sub B H) (r : RA K B H v a) :
    ∃ p vs, v = .ref p ∧ (SqL K H p vs ∨ SqT K H p vs) ∧ Dqs H vs xs ∧ ∀ (i : Nat) (x : PyData), xs[i]? = some x → ∃ u, vs[i]? = some u ∧ RA K B H u (w x) := by
  cases h with
  | tl =>
    cases r with
    | lst q k => exact ⟨_, _, rfl, .inl (.inl (.inl q)), k, fun i x e => dqs_get k i x e⟩
  | tt =>
    cases r with
    | tup q k => exact ⟨_, _, rfl, .inr (.inl (.inl q)), k, fun i x e => dqs_get k i x e⟩
  | dl => obtain ⟨p, vs, e, q, k⟩ := Sk.at sk_dl s r; exact ⟨p, vs, e, q, dqs_sub s _ _ k, fun i x e => dqs_get k i x e⟩
  | dt => obtain ⟨p, vs, e, q, k⟩ := Sk.at sk_dt s r; exact ⟨p, vs, e, q, dqs_sub s _ _ k, fun i x e => dqs_get k i x e⟩
  | ol => obtain ⟨p, vs, e, q, k⟩ := Sk.at sk_ol s r; exact ⟨p, vs, e, q, dqs_sub s _ _ k, fun i x e => dqs_get k i x e⟩
  | sl => obtain ⟨p, vs, e, q, k⟩ := Sk.at sk_sl s r; exact ⟨p, vs, e, q, dqs_sub s _ _ k, fun i x e => dqs_get k i x e⟩
  | rl => obtain ⟨p, vs, e, q, k⟩ := Sk.at sk_rl s r; exact ⟨p, vs, e, q, dqs_sub s _ _ k, fun i x e => dqs_get k i x e⟩
  | pl => obtain ⟨p, vs, e, q, k⟩ := Sk.at sk_pl s r; exact ⟨p, vs, e, q, dqs_sub s _ _ k, fun i x e => dqs_get k i x e⟩
theorem atI_dqs {H : Hp} {R : V → PyData → Prop} {vs : List V} {xs : List PyData} (h : Dqs H vs xs) (g : ∀ (i : Nat) (x : PyData), xs[i]? = some x → ∃ u, vs[i]? = some u ∧ R u x) {i : Int} {x : PyData} (e : atI xs i = some x) : ∃ u, atI vs i = some u ∧ R u x := by
  unfold atI at e ⊢
  rw [dqs_len h]
  cases q : ixN xs.length i with
  | none => rw [q] at e; cases e
  | some j => rw [q] at e; exact g j x e
/-- a list whose items stay -/
class inductive Ls : A → outParam (List PyData) → Prop
  | dl {xs} : Ls (.d (.list xs)) xs
  | ol {xs} : Ls (.o xs) xs
  | rl {xs} : Ls (.r xs) xs
  | pl {p xs} : Ls (.op p xs) xs
instance ls_dl {xs} : Ls (.d (.list xs)) xs := .dl
instance ls_rl {xs} : Ls (.r xs) xs := .rl
instance ls_pl {p xs} : Ls (.op p xs) xs := .pl
instance ls_ol {xs} : Ls (.o xs) xs := .ol
theorem Ls.at {K : PySem.W.Frag} {B H : Hp} {v : V} {a : A} {xs : List PyData} (h : Ls a xs) (s : Sub B H) (r : RA K B H v a) : ∃ p vs, v = .ref p ∧ H p = some (.lst vs) ∧ Dqs B vs xs := by
  cases h with
  | dl =>
    cases r with
    | lst q k => exact ⟨_, _, rfl, s _ _ q, k⟩
  | ol =>
    obtain ⟨p, vs, rfl, _, hp, k⟩ := r
    exact ⟨p, vs, rfl, hp, k⟩
  | rl =>
    obtain ⟨p, vs, rfl, hp, k⟩ := r
    exact ⟨p, vs, rfl, hp, k⟩
  | @pl p =>
    obtain ⟨rfl, _, vs, hp, k⟩ := r
    exact ⟨p, vs, rfl, hp, k⟩

/-! ### wishes -/
/-- what is wanted behind: a value of which a holds; a new list -/
def We (K : PySem.W.Frag) (a : A) (B H : Hp) (Q : VK) : Prop := ∀ v B' H', Ext B H B' H' → RA K B' H' v a → Q v H'
def Wn (xs : List PyData) (B H : Hp) (Q : VK) : Prop := ∀ p vs B' H', Ext B H B' H' → H p = none → B' p = none → H' p = some (.lst vs) → Dqs B' vs xs → Q (.ref p) H'
def Mono (C : Hp → Hp → VK → Prop) : Prop := ∀ B H B' H' Q, C B H Q → Ext B H B' H' → C B' H' Q
theorem we_mono {K : PySem.W.Frag} {a : A} : Mono (We K a) := fun B H B' H' Q k e v B2 H2 e2 r => k v B2 H2 (e.tr e2) r
theorem wn_mono {xs : List PyData} : Mono (Wn xs) := fun B H B' H' Q k e p vs B2 H2 e2 h1 h2 h3 h4 => k p vs B2 H2 (e.tr e2) (sub_free e.h h1) h2 h3 h4
def tG (K : PySem.W.Frag) (B0 H0 : Hp) (δ : List (Option A)) (C : Hp → Hp → VK → Prop) : TE := fun σ H Q => ∃ B, Ext B0 H0 B H ∧ SD K H0 B H σ δ ∧ C B H Q
theorem We.now {K : PySem.W.Frag} {a : A} {B H : Hp} {Q : VK} (k : We K a B H Q) {v : V} (s : Sub B H) (r : RA K B H v a) : Q v H := k v B H (.rfl' s) r
/-- a new object of data -/
theorem We.tup {K : PySem.W.Frag} {xs : List PyData} {B H : Hp} {Q : VK} (k : We K (.d (.tuple xs)) B H Q) {vs : List V} {p : Addr} (s : Sub B H) (h : H p = none) (r : Dqs B vs xs) : Q (.ref p) (upd H p (.tup vs)) :=
  k _ (upd B p (.tup vs)) _ (.both s h) (.tup upd_same (dqs_sub (sub_new (sub_free s h)) _ _ r))
theorem Wn.lst {xs : List PyData} {B H : Hp} {Q : VK} (k : Wn xs B H Q) {vs : List V} {p : Addr} (s : Sub B H) (h : H p = none) (r : Dqs B vs xs) : Q (.ref p) (upd H p (.lst vs)) :=
  k p vs B _ (.own s h) h (sub_free s h) upd_same r

/-! ### a tuple times an int from 1 on -/
section
open PyProof.Rows
theorem tuple_once (l : Addr) (its : Array Value) (n : Nat) (sl : Array (Option Value)) (dd : Option Addr) (u : Tok) (he : its.isEmpty = false) :
    Meets (Builtin.«tuple.__mul__» ⟨[.ref l, .int 1 u], []⟩) (fun _ R s => s.heap.get? l = some { cls := .type "tuple", dict := dd, data := .seq its n, slots := sl } ∧ R (.ok (.ret (Value.ref l))) s) :=
  .of_wp fun prog w A R s h => by
    obtain ⟨hp, g, d, tk, os⟩ := s
    obtain ⟨hl, h⟩ := h
    have f1 := AutoSeq1.idx_int
    wp_walk using wpAny_loadPart' hl
    exact ⟨_, rfl, h⟩
def rRep1 (K : PySem.W.Frag) : R2 := fun x y H Q => ∃ l k xs, x = .ref l ∧ y = .int k ∧ SqT K H l xs ∧ xs ≠ [] ∧ 1 ≤ k ∧ k ≤ 1000 ∧ xs.length ≤ 1000 ∧ (k = 1 → Q x H) ∧ (2 ≤ k → ∀ p, H p = none → Q (.ref p) (upd H p (.tup (List.replicate k.toNat xs).flatten)))
theorem op_rep1 {X : Cx} : OpR X (binaryOp .Mult) (rRep1 X.K) := by
  intro pins s σ H x y v u Q J rx ry ⟨l, k, xs, ex, ey, hT, hne, h1, h2, hz, q1, q2⟩
  by_cases h : 2 ≤ k
  · exact op_repT pins s σ H x y v u Q J rx ry ⟨l, k, xs, ex, ey, hT, hne, h, h2, hz, q2 h⟩
  · have hk : k = 1 := by omega
    subst ex ey hk
    cases rx
    obtain ⟨t, rfl⟩ := ry
    obtain ⟨its, r, ⟨⟨cls, dd, data, sl⟩, ho, hc, n, hd⟩, hs⟩ := J.tuple hT
    simp only at hc hd
    subst hc hd
    have hi : its.toArray.isEmpty = false := by
      cases its with
      | nil => exact absurd (List.eq_nil_of_length_eq_zero r.length) hne
      | cons p q => rfl
    exact wpAny_binaryOp_repeat_ref (T := "tuple") (U := "int") (by decide) ⟨_, ho, rfl⟩ (fun s' => typeIs_int s' 1 t) noFill_tuple_mul F.fills_int_mul F.slot_int_rmul repeat_tuple F.slot_int_index.lookup
      (call_meets F.slot_int_rmul (typeIs_int s 1 t) F.entry_int_rmul (F.args_int_rmul_2 _ _) (int_rmul_tuple 1 t l its.toArray n dd sl)
        ⟨ho, rfl, ⟨_, ho, rfl⟩, call_meets F.slot_tuple_mul ⟨_, ho, rfl⟩ F.entry_tuple_mul (F.args_tuple_mul_2 _ _) (tuple_once l its.toArray n sl dd t hi) ⟨ho, ⟨.ref l, H, J, rfl, q1 rfl⟩⟩⟩)
end

section
variable {X : Cx} {B0 H0 : Hp} {δ : List (Option A)} {e e1 e2 e3 : Expr} {es : List Expr} {a a1 a2 a3 : A} {as : List A} {b c : Bool} {xs ys : List PyData} {x y : PyData} {pos p1 p2 : Pos} {w : PyData → A} {C : Hp → Hp → VK → Prop}

theorem g_bin {op : Operator} {r : R2} (hC : Mono C) (ho : OpR X (binaryOp op) r) (ha : Pe X B0 H0 δ e1 a1) (hb : Pe X B0 H0 δ e2 a2) (h : ∀ B H x y Q, Sub B H → RA X.K B H x a1 → RA X.K B H y a2 → C B H Q → r x y H Q) : PE X (.BinOp e1 op e2 pos) (tG X.K B0 H0 δ C) :=
  pe_to (pe_op ho ha hb) fun σ H Q ⟨B, E0, S, k⟩ => ⟨B, E0, S, fun x B1 H1 E1 r1 => ⟨B1, E0.tr E1, S.mono E1, fun y B2 H2 E2 r2 => h B2 H2 x y Q E2.s (r1.mono E2) r2 (hC _ _ _ _ _ k (E1.tr E2))⟩⟩
theorem pas_nil : Pa X B0 H0 δ [] [] := pa_to pa_nil fun σ H Q ⟨B, E0, S, k⟩ => k [] B H (.rfl' S.s) .nil
theorem pas_cons (ha : Pe X B0 H0 δ e a) (hr : Pa X B0 H0 δ es as) (hs : starEach (e :: es) X.env = (false, eval e X.env) :: starEach es X.env := by rfl) : Pa X B0 H0 δ (e :: es) (a :: as) :=
  pa_to (pa_cons ha hr hs) fun σ H Q ⟨B, E0, S, k⟩ => ⟨B, E0, S, fun x B1 H1 E1 r1 => ⟨B1, E0.tr E1, S.mono E1, fun xs B2 H2 E2 r2 => k (x :: xs) B2 H2 (E1.tr E2) (.cons (r1.mono E2) r2)⟩⟩
/-- a list of data -/
theorem pds_nil : Pa X B0 H0 δ [] (([] : List PyData).map .d) := pas_nil
theorem pds_cons (ha : Pe X B0 H0 δ e (.d x)) (hr : Pa X B0 H0 δ es (xs.map .d)) (hs : starEach (e :: es) X.env = (false, eval e X.env) :: starEach es X.env := by rfl) : Pa X B0 H0 δ (e :: es) ((x :: xs).map .d) := pas_cons ha hr hs
theorem ras_d {K : PySem.W.Frag} {B H : Hp} : ∀ {vs : List V} {xs : List PyData}, RAs K B H vs (xs.map .d) → Dqs B vs xs
  | _, [], .nil => .nil
  | _, _ :: _, .cons r t => .cons r (ras_d t)
theorem p_tuple {k : Nat} (h : Pa X B0 H0 δ es (xs.map .d)) (hz : xs.length ≤ 1000 := by decide) : Pe X B0 H0 δ (.Tuple es k pos) (.d (.tuple xs)) :=
  pe_to (pe_tup h) fun σ H Q ⟨B, E0, S, k⟩ => ⟨B, E0, S, fun vs B1 H1 E1 r => ⟨Nat.le_of_lt (small1000 (by rw [dqs_len (ras_d r)]; exact hz)), fun p hp => (We.tup (K := X.K) (we_mono _ _ _ _ _ k E1) E1.s hp (ras_d r))⟩⟩
theorem n_list (h : Pa X B0 H0 δ es (xs.map .d)) (hz : xs.length ≤ 1000 := by decide) : Pn X B0 H0 δ (.List es pos) xs :=
  pe_to (pe_lst h) fun σ H Q ⟨B, E0, S, k⟩ => ⟨B, E0, S, fun vs B1 H1 E1 r => ⟨Nat.le_of_lt (small1000 (by rw [dqs_len (ras_d r)]; exact hz)), fun p hp => (Wn.lst (wn_mono _ _ _ _ _ k E1) E1.s hp (ras_d r))⟩⟩
theorem p_list (h : Pa X B0 H0 δ es (xs.map .d)) (hz : xs.length ≤ 1000 := by decide) : Pe X B0 H0 δ (.List es pos) (.d (.list xs)) := (n_list h hz).dat

/-- a[i] -/
theorem p_at {i : Int} (ha : Pe X B0 H0 δ e1 a1) (hb : Pe X B0 H0 δ e2 (.d (.int i))) [hs : Sq a1 xs w] (hi : atI xs i = some x) (hp : PlainIx e2 := by intro _ _; rfl) : Pe X B0 H0 δ (.Subscript e1 e2 pos) (w x) :=
  p_ix ix_seq ha hb hp fun B H v u Q s r1 r2 k => by
    obtain ⟨p, vs, rfl, hq, hd, g⟩ := hs.at s r1
    obtain ⟨z, e, r⟩ := atI_dqs (R := fun u x => RA X.K B H u (w x)) hd g hi
    have ei := ra_int r2
    rcases hq with hq | hq
    · exact .inl ⟨p, vs, i, z, rfl, ei, hq, e, k z B H (.rfl' s) r⟩
    · exact .inr (.inl ⟨p, vs, i, z, rfl, ei, hq, e, k z B H (.rfl' s) r⟩)
/-- list + list -/
theorem n_cat (ha : Pe X B0 H0 δ e1 a1) (hb : Pe X B0 H0 δ e2 a2) [la : Ls a1 xs] [lb : Ls a2 ys] (hz : xs.length + ys.length ≤ 1000) : Pn X B0 H0 δ (.BinOp e1 .Add e2 pos) (xs ++ ys) :=
  g_bin wn_mono op_cat ha hb fun B H u v Q s r1 r2 k => by
    obtain ⟨p, vs, rfl, hp, d1⟩ := la.at s r1
    obtain ⟨q, ws, rfl, hq, d2⟩ := lb.at s r2
    exact ⟨p, q, vs, ws, rfl, rfl, hp, hq, Nat.le_of_lt (small1000 (by rw [dqs_len d1, dqs_len d2]; exact hz)), fun r hr => Wn.lst k s hr (dqs_app d1 d2)⟩
/-- tuple + tuple -/
theorem p_catT (ha : Pe X B0 H0 δ e1 (.d (.tuple xs))) (hb : Pe X B0 H0 δ e2 (.d (.tuple ys))) (hz : xs.length + ys.length ≤ 1000) : Pe X B0 H0 δ (.BinOp e1 .Add e2 pos) (.d (.tuple (xs ++ ys))) :=
  g_bin we_mono op_catA ha hb fun B H u v Q s r1 r2 k => by
    have r1' : Dq B u (.tuple xs) := r1
    have r2' : Dq B v (.tuple ys) := r2
    cases r1 with
    | @tup p vs _ hp d1 =>
      cases r2 with
      | @tup q ws _ hq d2 =>
        have l1 := dqs_len d1
        have l2 := dqs_len d2
        refine ⟨p, q, vs, ws, rfl, rfl, .inl (.inl (s _ _ hp)), .inl (.inl (s _ _ hq)), Nat.le_of_lt (small1000 (by omega)), fun z => ?_, fun _ z => ?_, fun _ _ r hr => We.tup k s hr (dqs_app d1 d2)⟩
        · have : xs = [] := List.eq_nil_of_length_eq_zero (by rw [← l1, z]; rfl)
          rw [this] at k
          exact We.now k s r2'
        · have : ys = [] := List.eq_nil_of_length_eq_zero (by rw [← l2, z]; rfl)
          rw [this, List.append_nil] at k
          exact We.now k s r1'
/-- (x,) * n -/
theorem p_repT {n : Int} (ha : Pe X B0 H0 δ e1 (.d (.tuple xs))) (hb : Pe X B0 H0 δ e2 (.d (.int n))) (hn : 1 ≤ n ∧ n ≤ 1000) (hx : xs ≠ []) (hz : xs.length ≤ 1000) : Pe X B0 H0 δ (.BinOp e1 .Mult e2 pos) (.d (.tuple (List.replicate n.toNat xs).flatten)) :=
  g_bin we_mono op_rep1 ha hb fun B H u v Q s r1 r2 k => by
    have ei := ra_int r2
    have r1' : Dq B u (.tuple xs) := r1
    cases r1 with
    | @tup p vs _ hp d1 =>
      have l1 := dqs_len d1
      refine ⟨p, n, vs, rfl, ei, .inl (.inl (s _ _ hp)), fun z => hx (List.eq_nil_of_length_eq_zero (by rw [← l1, z]; rfl)), hn.1, hn.2, by omega, fun e1 => ?_, fun _ q hq => We.tup k s hq (dqs_flat d1 _)⟩
      subst e1
      have e : (List.replicate (1 : Int).toNat xs).flatten = xs := by
        show (List.replicate 1 xs).flatten = xs
        rw [List.replicate_one, List.flatten_singleton]
      rw [e] at k
      exact We.now k s r1'

/-! ### calls of the built-in ones -/
theorem g_callB {id : String} {r : List V → Hp → VK → Prop} {x : Str} (hC : Mono C) (hc : CallR X (.builtin id) r) (ha : Pa X B0 H0 δ (e :: es) as)
    (h : ∀ B H vs Q, Sub B H → RAs X.K B H vs as → C B H Q → r vs H Q) (hg : Gl X x) (hm : X.mg x = none) (hv : bootBuiltins x = some (.builtin id)) (hn : x ≠ "__name__" := by decide) (hdb : (x == ("__debug__" : Str)) = false := by decide)
    (he : starEach (e :: es) X.env = (false, eval e X.env) :: starEach es X.env := by rfl) (hpl : (backTo pos (starEach es X.env)).any (·.1) = false := by rfl) : PE X (.Call (.Name x p1) (e :: es) [] pos) (tG X.K B0 H0 δ C) :=
  pe_to (pe_callB hc hg hm hv ha hn hdb he hpl) fun σ H Q ⟨B, E0, S, k⟩ => ⟨B, E0, S, fun vs B1 H1 E1 r1 => h B1 H1 vs Q E1.s r1 (hC _ _ _ _ _ k E1)⟩
theorem g_callTy {T : String} {r : List V → Hp → VK → Prop} {x : Str} (hC : Mono C) (hc : CallR X (.type T) r) (ha : Pa X B0 H0 δ (e :: es) as)
    (h : ∀ B H vs Q, Sub B H → RAs X.K B H vs as → C B H Q → r vs H Q) (hg : Gl X x) (hm : X.mg x = none) (hv : bootBuiltins x = some (.type T)) (hn : x ≠ "__name__" := by decide) (hdb : (x == ("__debug__" : Str)) = false := by decide)
    (he : starEach (e :: es) X.env = (false, eval e X.env) :: starEach es X.env := by rfl) (hpl : (backTo pos (starEach es X.env)).any (·.1) = false := by rfl) : PE X (.Call (.Name x p1) (e :: es) [] pos) (tG X.K B0 H0 δ C) :=
  pe_to (pe_callTy hc hg hm hv ha hn hdb he hpl) fun σ H Q ⟨B, E0, S, k⟩ => ⟨B, E0, S, fun vs B1 H1 E1 r1 => h B1 H1 vs Q E1.s r1 (hC _ _ _ _ _ k E1)⟩
theorem ras_1 {K : PySem.W.Frag} {B H : Hp} {vs : List V} (r : RAs K B H vs [a]) : ∃ v, vs = [v] ∧ RA K B H v a := by
  cases r with
  | cons r t => cases t; exact ⟨_, rfl, r⟩
theorem ras_2 {K : PySem.W.Frag} {B H : Hp} {vs : List V} (r : RAs K B H vs [a1, a2]) : ∃ v u, vs = [v, u] ∧ RA K B H v a1 ∧ RA K B H u a2 := by
  cases r with
  | cons r t => cases t with
    | cons r2 t => cases t; exact ⟨_, _, rfl, r, r2⟩

theorem p_len (ha : Pa X B0 H0 δ [e] [a]) [hs : Sq a xs w] (hm : X.mg "len" = none) (hg : Gl X "len" := by rfl) (he : starEach [e] X.env = (false, eval e X.env) :: starEach [] X.env := by rfl) : Pe X B0 H0 δ (.Call (.Name "len" p1) [e] [] pos) (.d (.int xs.length)) :=
  g_callB we_mono call_len_seq ha (fun B H vs Q s rs k => by
    obtain ⟨v, rfl, r⟩ := ras_1 rs
    obtain ⟨p, us, rfl, hq, hd, _⟩ := hs.at s r
    exact ⟨p, us, rfl, hq, by rw [dqs_len hd]; exact We.now k s (.int _)⟩) hg hm PySem.boot_len (by decide) (by decide) he rfl
theorem p_lenS {z : Str} (ha : Pa X B0 H0 δ [e] [.d (.str z)]) (hz : z.length ≤ 1000) (hm : X.mg "len" = none) (hg : Gl X "len" := by rfl) (he : starEach [e] X.env = (false, eval e X.env) :: starEach [] X.env := by rfl) : Pe X B0 H0 δ (.Call (.Name "len" p1) [e] [] pos) (.d (.int z.length)) :=
  g_callB we_mono call_len_str ha (fun B H vs Q s rs k => by
    obtain ⟨v, rfl, r⟩ := ras_1 rs
    exact ⟨z, by rw [ra_str r], Nat.le_of_lt (small1000 hz), We.now k s (.int _)⟩) hg hm PySem.boot_len (by decide) (by decide) he rfl
/-- list(x), tuple(x) -/
theorem n_list1 (ha : Pa X B0 H0 δ [e] [a]) [hs : Sk a xs] (hm : X.mg "list" = none) (hg : Gl X "list" := by rfl) (he : starEach [e] X.env = (false, eval e X.env) :: starEach [] X.env := by rfl) : Pn X B0 H0 δ (.Call (.Name "list" p1) [e] [] pos) xs :=
  g_callTy wn_mono call_list_of ha (fun B H vs Q s rs k => by
    obtain ⟨v, rfl, r⟩ := ras_1 rs
    obtain ⟨p, us, rfl, hq, hd⟩ := hs.at s r
    exact ⟨p, us, rfl, hq, fun l hl => Wn.lst k s hl hd⟩) hg hm PyProof.Rows.boot_list (by decide) (by decide) he rfl
theorem p_tuple1 (ha : Pe X B0 H0 δ e (.d (.list xs))) (hm : X.mg "tuple" = none) (hg : Gl X "tuple" := by rfl) (he : starEach [e] X.env = (false, eval e X.env) :: starEach [] X.env := by rfl) : Pe X B0 H0 δ (.Call (.Name "tuple" p1) [e] [] pos) (.d (.tuple xs)) :=
  pe_to (pe_tupleOf hg hm ha he) fun σ H Q ⟨B, E0, S, k⟩ => ⟨B, E0, S, fun v B1 H1 E1 r => by
    cases r with
    | lst q d => exact .inl ⟨_, _, rfl, .inl (.inl (E1.s _ _ q)), fun p hp => We.tup (K := X.K) (we_mono _ _ _ _ _ k E1) E1.s hp d⟩⟩
theorem p_tuple2 (ha : Pe X B0 H0 δ e (.d (.tuple xs))) (hm : X.mg "tuple" = none) (hg : Gl X "tuple" := by rfl) (he : starEach [e] X.env = (false, eval e X.env) :: starEach [] X.env := by rfl) : Pe X B0 H0 δ (.Call (.Name "tuple" p1) [e] [] pos) (.d (.tuple xs)) :=
  pe_to (pe_tupleOf hg hm ha he) fun σ H Q ⟨B, E0, S, k⟩ => ⟨B, E0, S, fun v B1 H1 E1 r => by
    have r' := r
    cases r with
    | tup q d => exact .inr ⟨_, _, rfl, .inl (.inl (E1.s _ _ q)), We.now (K := X.K) (we_mono _ _ _ _ _ k E1) E1.s r'⟩⟩
/-- int(b), sum(ints), sorted(ints), max(m, n) -/
def b2i (b : Bool) : Int := if b then 1 else 0
theorem p_intB {k : Bool} (ha : Pa X B0 H0 δ [e] [.d (.bool k)]) (hm : X.mg "int" = none) (hg : Gl X "int" := by rfl) (he : starEach [e] X.env = (false, eval e X.env) :: starEach [] X.env := by rfl) : Pe X B0 H0 δ (.Call (.Name "int" p1) [e] [] pos) (.d (.int (b2i k))) :=
  g_callTy we_mono call_int1 ha (fun B H vs Q s rs q => by
    obtain ⟨v, rfl, r⟩ := ras_1 rs
    exact .inr ⟨k, by rw [ra_bl r], We.now q s (.int _)⟩) hg hm PyProof.Rows.boot_int (by decide) (by decide) he rfl
theorem p_sum {ns : List Int} (ha : Pa X B0 H0 δ [e] [.d (.list (ns.map .int))]) (hc : X.calm = true) (hm : X.mg "sum" = none) (hg : Gl X "sum" := by rfl) (he : starEach [e] X.env = (false, eval e X.env) :: starEach [] X.env := by rfl) : Pe X B0 H0 δ (.Call (.Name "sum" p1) [e] [] pos) (.d (.int ns.sum)) :=
  g_callB we_mono (cr_sum hc) ha (fun B H vs Q s rs k => by
    obtain ⟨v, rfl, r⟩ := ras_1 rs
    cases r with
    | lst q d => exact ⟨_, ns, rfl, .inl (.inl (by rw [← dqs_ints ns d]; exact s _ _ q)), We.now k s (.int _)⟩) hg hm (by decide +kernel) (by decide) (by decide) he rfl
theorem n_sorted {ns ms : List Int} (ha : Pa X B0 H0 δ [e] [.d (.list (ns.map .int))]) (hu : ∀ zs : List Int, zs.Perm ns → zs.Pairwise (· ≤ ·) → zs = ms) (hm : X.mg "sorted" = none) (hg : Gl X "sorted" := by rfl) (he : starEach [e] X.env = (false, eval e X.env) :: starEach [] X.env := by rfl) :
    Pn X B0 H0 δ (.Call (.Name "sorted" p1) [e] [] pos) (ms.map .int) :=
  g_callB wn_mono cr_sortedI ha (fun B H vs Q s rs k => by
    obtain ⟨v, rfl, r⟩ := ras_1 rs
    cases r with
    | lst q d => exact ⟨_, ns, rfl, .inl (.inl (by rw [← dqs_ints ns d]; exact s _ _ q)), fun zs p h1 h2 hp => by rw [hu zs h1 h2]; exact Wn.lst k s hp (ints_dqs ms)⟩) hg hm PyProof.Rows.boot_sorted (by decide) (by decide) he rfl
theorem p_max2 {i j : Int} (ha : Pa X B0 H0 δ [e1, e2] [.d (.int i), .d (.int j)]) (hc : X.calm = true) (hm : X.mg "max" = none) (hg : Gl X "max" := by rfl) (he : starEach [e1, e2] X.env = (false, eval e1 X.env) :: starEach [e2] X.env := by rfl) (hpl : (backTo pos (starEach [e2] X.env)).any (·.1) = false := by rfl) :
    Pe X B0 H0 δ (.Call (.Name "max" p1) [e1, e2] [] pos) (.d (.int (if j > i then j else i))) :=
  g_callB we_mono (call_max2 hc) ha (fun B H vs Q s rs k => by
    obtain ⟨v, u, rfl, r, r2⟩ := ras_2 rs
    exact ⟨i, j, by rw [ra_int r, ra_int r2], We.now k s (.int _)⟩) hg hm PyProof.Rows.boot_max (by decide) (by decide) he hpl

/-! ### isinstance -/
def tn : PyData → String
  | .none => "NoneType" | .bool _ => "bool" | .int _ => "int" | .str _ => "str" | .list _ => "list" | .tuple _ => "tuple" | .dict _ => "dict"
theorem dq_ty {K : PySem.W.Frag} {H : Hp} {v : V} {d : PyData} (h : Dq H v d) : TyX K H v (.type (tn d)) := by
  cases h with
  | non => exact .base .non
  | bl b => exact .base (.bl b)
  | int i => exact .base (.int i)
  | str z => exact .base (.str z)
  | lst q _ => exact .base (.lst q)
  | tup q _ => exact .base (.tup q)
theorem p_isi {T x : Str} {tb : String} {d : PyData} {r : Bool} (ha : Pe X B0 H0 δ e1 a) (hd : ∀ B H v, Sub B H → RA X.K B H v a → Dq H v d) (hT : X.mg T = none) (hb : bootBuiltins T = some (.type tb)) (hk : kitB (tn d) tb = some r) (hm : X.mg "isinstance" = none)
    (hgT : Gl X T := by rfl) (hg : Gl X "isinstance" := by rfl) (hn : T ≠ "__name__" := by decide) (hdb : (T == ("__debug__" : Str)) = false := by decide)
    (he : starEach [e1, .Name T p2] X.env = (false, eval e1 X.env) :: starEach [.Name T p2] X.env := by rfl) (he2 : starEach [.Name T p2] X.env = (false, eval (.Name T p2) X.env) :: starEach [] X.env := by rfl) (hpl : (backTo pos (starEach [.Name T p2] X.env)).any (·.1) = false := by rfl) :
    Pe X B0 H0 δ (.Call (.Name "isinstance" p1) [e1, .Name T p2] [] pos) (.d (.bool r)) :=
  g_callB we_mono call_isi (pas_cons ha (pas_cons (a := .v (.ty tb)) (p_c (v := .ty tb) (pe_bltn hgT hT hb rfl hn hdb) fun _ _ => rfl) pas_nil he2) he) (fun B H vs Q s rs k => by
    obtain ⟨v, u, rfl, r1, r2⟩ := ras_2 rs
    subst r2
    exact ⟨v, _, _, _, r, rfl, .ty tb, dq_ty (hd B H v s r1), kit_ty hk, We.now k s (.bl _)⟩) hg hm PyProof.Rows.boot_isinstance (by decide) (by decide) he hpl
theorem dq_d {K : PySem.W.Frag} {d : PyData} : ∀ B H v, Sub B H → RA K B H v (.d d) → Dq H v d := fun _ _ _ s r => dq_sub s _ _ r
end
end GL

set_option Elab.async false
set_option linter.all false
set_option maxRecDepth 100000
set_option maxHeartbeats 4000000
namespace GL
open PySem PySem.Spec L2

/-! ### data that == looks at -/
/-- data of depth n at most -/
def Sh (n : Nat) (d : PyData) : Prop := d.canLay0 = true ∧ d.depth ≤ n
theorem Sh.shaped {n : Nat} {d : PyData} (h : Sh n d) (hn : n ≤ 64 := by decide) : SeqAt.shaped d = true := by
  unfold SeqAt.shaped
  rw [h.1, Bool.true_and]
  exact decide_eq_true (Nat.le_trans h.2 hn)
theorem Sh.up {n m : Nat} {d : PyData} (h : Sh n d) (hn : n ≤ m := by omega) : Sh m d := ⟨h.1, Nat.le_trans h.2 hn⟩
theorem sh_int (n : Nat) (i : Int) : Sh n (.int i) := ⟨rfl, Nat.zero_le _⟩
theorem sh_bool (n : Nat) (i : Bool) : Sh n (.bool i) := ⟨rfl, Nat.zero_le _⟩
theorem sh_none (n : Nat) : Sh n .none := ⟨rfl, Nat.zero_le _⟩
theorem sh_str (n : Nat) {x : Str} (h : PyData.strOk x = true) : Sh n (.str x) := ⟨by rw [PyData.canLay0]; exact h, Nat.zero_le _⟩
theorem shs {n : Nat} : ∀ {xs : List PyData}, (∀ x ∈ xs, Sh n x) → PyData.canLayAll0 xs = true ∧ PyData.depthAll xs ≤ n
  | [], _ => ⟨rfl, Nat.zero_le _⟩
  | x :: xs, h => by
    obtain ⟨h1, h2⟩ := h x List.mem_cons_self
    obtain ⟨h3, h4⟩ := shs fun y hy => h y (List.mem_cons_of_mem _ hy)
    rw [PyData.canLayAll0, PyData.depthAll, h1, h3]
    exact ⟨rfl, Nat.max_le.mpr ⟨h2, h4⟩⟩
theorem sh_list {n : Nat} {xs : List PyData} (h : ∀ x ∈ xs, Sh n x) : Sh (n + 1) (.list xs) := by
  obtain ⟨h1, h2⟩ := shs h
  exact ⟨by rw [PyData.canLay0]; exact h1, by rw [PyData.depth]; omega⟩
theorem sh_tuple {n : Nat} {xs : List PyData} (h : ∀ x ∈ xs, Sh n x) : Sh (n + 1) (.tuple xs) := by
  obtain ⟨h1, h2⟩ := shs h
  exact ⟨by rw [PyData.canLay0]; exact h1, by rw [PyData.depth]; omega⟩
/-- lists and tuples of ints -/
abbrev li (ns : List Int) : PyData := .list (ns.map .int)
abbrev ti (ns : List Int) : PyData := .tuple (ns.map .int)
theorem sh_li (ns : List Int) : Sh 1 (li ns) := sh_list fun x hx => by
  obtain ⟨i, _, rfl⟩ := List.mem_map.mp hx
  exact sh_int _ _
theorem sh_ti (ns : List Int) : Sh 1 (ti ns) := sh_tuple fun x hx => by
  obtain ⟨i, _, rfl⟩ := List.mem_map.mp hx
  exact sh_int _ _
theorem eqvs_ints : ∀ ns ms : List Int, PyData.eqvAll (ns.map .int) (ms.map .int) = decide (ns = ms)
  | [], [] => by simp [PyData.eqvAll]
  | [], _ :: _ => by simp [PyData.eqvAll]
  | _ :: _, [] => by simp [PyData.eqvAll]
  | n :: ns, m :: ms => by
    rw [List.map_cons, List.map_cons, PyData.eqvAll, eqvs_ints ns ms, PyData.eqv]
    by_cases h : n = m
    · subst h; simp
    · simp [h]
theorem eqv_li (ns ms : List Int) : PyData.eqv (li ns) (li ms) = decide (ns = ms) := by rw [PyData.eqv]; exact eqvs_ints ns ms
theorem eqv_ti (ns ms : List Int) : PyData.eqv (ti ns) (ti ms) = decide (ns = ms) := by rw [PyData.eqv]; exact eqvs_ints ns ms
theorem Sh.same {n : Nat} {d : PyData} (h : Sh n d) : PyData.eqv d d = true := SeqAt.eqv_refl d h.1

/-- what is data now -/
class inductive Nw : A → outParam PyData → Prop
  | d {x} : Nw (.d x) x
  | t {x} : Nw (.t x) x
  | o {xs} : Nw (.o xs) (.list xs)
  | r {xs} : Nw (.r xs) (.list xs)
  | op {p xs} : Nw (.op p xs) (.list xs)
instance nw_d {x} : Nw (.d x) x := .d
instance nw_t {x} : Nw (.t x) x := .t
instance nw_o {xs} : Nw (.o xs) (.list xs) := .o
instance nw_r {xs} : Nw (.r xs) (.list xs) := .r
instance nw_op {p xs} : Nw (.op p xs) (.list xs) := .op
section
variable {X : Cx} {B0 H0 : Hp} {δ : List (Option A)} {e e1 e2 e3 : Expr} {es : List Expr} {a a1 a2 a3 : A} {as : List A} {b c : Bool} {xs ys : List PyData} {x y d d1 d2 : PyData} {pos p1 p2 : Pos} {w : PyData → A} {C : Hp → Hp → VK → Prop}

theorem Nw.at {K : PySem.W.Frag} {B H : Hp} {v : V} (h : Nw a d) (s : Sub B H) (r : RA K B H v a) : Dq H v d := by
  cases h with
  | d => exact dq_sub s _ _ r
  | t => exact r
  | o =>
    obtain ⟨p, vs, rfl, _, hp, k⟩ := r
    exact .lst hp (dqs_sub s _ _ k)
  | r =>
    obtain ⟨p, vs, rfl, hp, k⟩ := r
    exact .lst hp (dqs_sub s _ _ k)
  | @op p =>
    obtain ⟨rfl, _, vs, hp, k⟩ := r
    exact .lst hp (dqs_sub s _ _ k)
theorem c_eq {n m : Nat} (ha : Pe X B0 H0 δ e1 a1) (hb : Pe X B0 H0 δ e2 a2) [n1 : Nw a1 d1] [n2 : Nw a2 d2] (s1 : Sh n d1) (s2 : Sh m d2) (hu : X.A.units + 64 < cLine) (hn : n ≤ 64 := by decide) (hm : m ≤ 64 := by decide) : Pc X B0 H0 δ e1 .Eq e2 (PyData.eqv d1 d2) :=
  ⟨_, _, _, (op_eqD hu), ha, hb, (nomark _), fun B H u v Q s r1 r2 k => ⟨d1, d2, dq_dp _ _ (n1.at s r1), dq_dp _ _ (n2.at s r2), s1.shaped hn, s2.shaped hm, k⟩⟩
theorem c_ne {n m : Nat} (ha : Pe X B0 H0 δ e1 a1) (hb : Pe X B0 H0 δ e2 a2) [n1 : Nw a1 d1] [n2 : Nw a2 d2] (s1 : Sh n d1) (s2 : Sh m d2) (hu : X.A.units + 64 < cLine) (hn : n ≤ 64 := by decide) (hm : m ≤ 64 := by decide) : Pc X B0 H0 δ e1 .NotEq e2 (!PyData.eqv d1 d2) :=
  ⟨_, _, _, (op_neD hu), ha, hb, (nomark _), fun B H u v Q s r1 r2 k => ⟨d1, d2, dq_dp _ _ (n1.at s r1), dq_dp _ _ (n2.at s r2), s1.shaped hn, s2.shaped hm, k⟩⟩
theorem c_eqI {i j : Int} (ha : Pe X B0 H0 δ e1 (.d (.int i))) (hb : Pe X B0 H0 δ e2 (.d (.int j))) : Pc X B0 H0 δ e1 .Eq e2 (decide (i = j)) := by
  refine ⟨_, _, _, op_eq, ha, hb, (nomark _), fun B H u v Q s r1 r2 k => ?_⟩
  rw [ra_int r1, ra_int r2]
  have e : decide (V.int i = V.int j) = decide (i = j) := by
    by_cases h : i = j
    · rw [h]; simp
    · rw [decide_eq_false h, decide_eq_false fun z => h (V.int.inj z)]
  exact ⟨rfl, by rw [e]; exact k⟩
theorem c_neI {i j : Int} (ha : Pe X B0 H0 δ e1 (.d (.int i))) (hb : Pe X B0 H0 δ e2 (.d (.int j))) : Pc X B0 H0 δ e1 .NotEq e2 (!decide (i = j)) := by
  refine ⟨_, _, _, op_ne, ha, hb, (nomark _), fun B H u v Q s r1 r2 k => ?_⟩
  rw [ra_int r1, ra_int r2]
  have e : decide (V.int i = V.int j) = decide (i = j) := by
    by_cases h : i = j
    · rw [h]; simp
    · rw [decide_eq_false h, decide_eq_false fun z => h (V.int.inj z)]
  exact ⟨rfl, by rw [e]; exact k⟩
theorem c_eqB {i j : Bool} (ha : Pe X B0 H0 δ e1 (.d (.bool i))) (hb : Pe X B0 H0 δ e2 (.d (.bool j))) : Pc X B0 H0 δ e1 .Eq e2 (i == j) := by
  refine ⟨_, _, _, op_eq, ha, hb, (nomark _), fun B H u v Q s r1 r2 k => ?_⟩
  rw [ra_bl r1, ra_bl r2]
  have e : decide (V.bl i = V.bl j) = (i == j) := by cases i <;> cases j <;> decide
  exact ⟨rfl, by rw [e]; exact k⟩
theorem c_neB {i j : Bool} (ha : Pe X B0 H0 δ e1 (.d (.bool i))) (hb : Pe X B0 H0 δ e2 (.d (.bool j))) : Pc X B0 H0 δ e1 .NotEq e2 (i != j) := by
  refine ⟨_, _, _, op_ne, ha, hb, (nomark _), fun B H u v Q s r1 r2 k => ?_⟩
  rw [ra_bl r1, ra_bl r2]
  have e : (!decide (V.bl i = V.bl j)) = (i != j) := by cases i <;> cases j <;> decide
  exact ⟨rfl, by rw [e]; exact k⟩
theorem c_eqS {i j : Str} (ha : Pe X B0 H0 δ e1 (.d (.str i))) (hb : Pe X B0 H0 δ e2 (.d (.str j))) : Pc X B0 H0 δ e1 .Eq e2 (decide (i = j)) := by
  refine ⟨_, _, _, op_eq, ha, hb, (nomark _), fun B H u v Q s r1 r2 k => ?_⟩
  rw [ra_str r1, ra_str r2]
  have e : decide (V.str i = V.str j) = decide (i = j) := by
    by_cases h : i = j
    · rw [h]; simp
    · rw [decide_eq_false h, decide_eq_false fun z => h (V.str.inj z)]
  exact ⟨rfl, by rw [e]; exact k⟩
theorem c_neS {i j : Str} (ha : Pe X B0 H0 δ e1 (.d (.str i))) (hb : Pe X B0 H0 δ e2 (.d (.str j))) : Pc X B0 H0 δ e1 .NotEq e2 (!decide (i = j)) := by
  refine ⟨_, _, _, op_ne, ha, hb, (nomark _), fun B H u v Q s r1 r2 k => ?_⟩
  rw [ra_str r1, ra_str r2]
  have e : decide (V.str i = V.str j) = decide (i = j) := by
    by_cases h : i = j
    · rw [h]; simp
    · rw [decide_eq_false h, decide_eq_false fun z => h (V.str.inj z)]
  exact ⟨rfl, by rw [e]; exact k⟩
/-- is None, is not None -/
def isN : PyData → Bool
  | .none => true
  | _ => false
theorem dq_non {H : Hp} {v : V} (h : Dq H v d) : decide (v = V.non) = isN d := by
  cases h <;> simp [isN]
theorem c_isN (ha : Pe X B0 H0 δ e1 a1) [n1 : Nw a1 d] (hb : Pe X B0 H0 δ e2 (.d .none)) : Pc X B0 H0 δ e1 .Is e2 (isN d) :=
  ⟨_, _, _, op_isN, ha, hb, (nomark _), fun B H u v Q s r1 r2 k => ⟨ra_non r2, by rw [dq_non (n1.at s r1)]; exact k⟩⟩
theorem c_notN (ha : Pe X B0 H0 δ e1 a1) [n1 : Nw a1 d] (hb : Pe X B0 H0 δ e2 (.d .none)) : Pc X B0 H0 δ e1 .IsNot e2 (!isN d) :=
  ⟨_, _, _, op_notN, ha, hb, (nomark _), fun B H u v Q s r1 r2 k => ⟨ra_non r2, by rw [dq_non (n1.at s r1)]; exact k⟩⟩

/-! ### in, not in: ints in a list of ints -/
theorem inV_int (i : Int) : ∀ ns : List Int, inV (V.int i) (ns.map V.int) = decide (i ∈ ns)
  | [] => rfl
  | n :: ns => by
    have ih := inV_int i ns
    unfold inV at ih ⊢
    rw [List.map_cons, List.any_cons, ih]
    by_cases h : n = i
    · subst h; simp [eqV]
    · have h' : ¬ i = n := fun z => h z.symm
      simp [eqV, h, h']
theorem flat_int : ∀ ns : List Int, (ns.map V.int).all flatV = true
  | [] => rfl
  | n :: ns => by rw [List.map_cons, List.all_cons, flat_int ns]; rfl
theorem c_in {i : Int} {ns : List Int} (ha : Pe X B0 H0 δ e1 (.d (.int i))) (hb : Pe X B0 H0 δ e2 a2) [hs : Sq a2 (ns.map .int) w] (hm : behindInMarks .In e2 = false := by rfl) : Pc X B0 H0 δ e1 .In e2 (decide (i ∈ ns)) := by
  refine ⟨_, _, _, op_in_seq, ha, hb, hm, fun B H u v Q s r1 r2 k => ?_⟩
  obtain ⟨p, vs, rfl, hq, hd, _⟩ := hs.at s r2
  have e := dqs_ints ns hd
  subst e
  refine ⟨p, _, rfl, hq, by rw [ra_int r1]; rfl, flat_int ns, ?_⟩
  rw [ra_int r1]
  show Q (.bl (inV (V.int i) (ns.map V.int))) H
  rw [inV_int]
  exact k
theorem c_notIn {i : Int} {ns : List Int} (ha : Pe X B0 H0 δ e1 (.d (.int i))) (hb : Pe X B0 H0 δ e2 a2) [hs : Sq a2 (ns.map .int) w] (hm : behindInMarks .NotIn e2 = false := by rfl) : Pc X B0 H0 δ e1 .NotIn e2 (!decide (i ∈ ns)) := by
  refine ⟨_, _, _, op_notIn_seq, ha, hb, hm, fun B H u v Q s r1 r2 k => ?_⟩
  obtain ⟨p, vs, rfl, hq, hd, _⟩ := hs.at s r2
  have e := dqs_ints ns hd
  subst e
  refine ⟨p, _, rfl, hq, by rw [ra_int r1]; rfl, flat_int ns, ?_⟩
  rw [ra_int r1]
  show Q (.bl (!inV (V.int i) (ns.map V.int))) H
  rw [inV_int]
  exact k

/-! ### slices -/
def Po (X : Cx) (B0 H0 : Hp) (δ : List (Option A)) (e : Option Expr) (o : Option Int) : Prop := PO X e fun σ H Q => ∃ B, Ext B0 H0 B H ∧ SD X.K H0 B H σ δ ∧ ∀ B' H', Ext B H B' H' → Q o H'
theorem o_none : Po X B0 H0 δ none none := ⟨fun pins s σ H Q J ⟨B, E0, S, k⟩ => po_none.run pins s σ H Q J (k B H (.rfl' S.s))⟩
theorem o_some {i : Int} (h : Pe X B0 H0 δ e (.d (.int i))) : Po X B0 H0 δ (some e) (some i) := ⟨fun pins s σ H Q J ⟨B, E0, S, k⟩ => (po_some h).run pins s σ H Q J ⟨B, E0, S, fun v B' H' E r => ⟨i, ra_int r, k B' H' E⟩⟩⟩
def cut {α : Type} (xs : List α) (lo hi : Option Int) : List α := (xs.drop (HT.sIx xs.length 0 lo)).take (HT.sIx xs.length xs.length hi - HT.sIx xs.length 0 lo)
abbrev cutD (xs : List PyData) (lo hi : Option Int) : List PyData := cut xs lo hi
theorem dqs_cut {H : Hp} {vs : List V} {lo hi : Option Int} (h : Dqs H vs xs) : Dqs H (cutV vs lo hi) (cutD xs lo hi) := by
  unfold cutV cutD cut
  rw [dqs_len h]
  exact dqs_take _ (dqs_drop _ h)
theorem n_slice {lo hi : Option Expr} {l u : Option Int} (ha : Pe X B0 H0 δ e a) (h1 : Po X B0 H0 δ lo l) (h2 : Po X B0 H0 δ hi u) (hl : ∀ B H v, Sub B H → RA X.K B H v a → ∃ p vs, v = .ref p ∧ SqL X.K H p vs ∧ Dqs B vs xs) :
    Pn X B0 H0 δ (.Subscript e (.Slice lo hi none p2) pos) (cutD xs l u) :=
  pe_to (pe_slice sl_list ha h1 h2) fun σ H Q ⟨B, E0, S, k⟩ => ⟨B, E0, S, fun v B1 H1 E1 r1 => ⟨B1, E0.tr E1, S.mono E1, fun B2 H2 E2 => ⟨B2, (E0.tr E1).tr E2, S.mono (E1.tr E2), fun B3 H3 E3 => by
    obtain ⟨p, vs, rfl, hq, hd⟩ := hl _ _ _ E3.s (r1.mono (E2.tr E3))
    exact ⟨p, vs, rfl, hq, fun q hp => Wn.lst (wn_mono _ _ _ _ _ k ((E1.tr E2).tr E3)) E3.s hp (dqs_cut hd)⟩⟩⟩⟩
theorem ls_sl [hl : Ls a xs] : ∀ K B H v, Sub B H → RA K B H v a → ∃ p vs, v = .ref p ∧ SqL K H p vs ∧ Dqs B vs xs := fun K B H v s r => by
  obtain ⟨p, vs, e, hp, hd⟩ := hl.at s r
  exact ⟨p, vs, e, .inl (.inl hp), hd⟩
theorem sc_sl {ns : List Int} : ∀ K B H v, Sub B H → RA K B H v (.s ns) → ∃ p vs, v = .ref p ∧ SqL K H p vs ∧ Dqs B vs (ns.map .int) := fun K B H v s r => by
  obtain ⟨p, e, h⟩ := r
  exact ⟨p, _, e, sub_l s h, ints_dqs ns⟩
theorem p_sliceT {lo hi : Option Expr} {l u : Option Int} (ha : Pe X B0 H0 δ e (.d (.tuple xs))) (h1 : Po X B0 H0 δ lo l) (h2 : Po X B0 H0 δ hi u) : Pe X B0 H0 δ (.Subscript e (.Slice lo hi none p2) pos) (.d (.tuple (cutD xs l u))) :=
  pe_to (pe_slice sl_tupA ha h1 h2) fun σ H Q ⟨B, E0, S, k⟩ => ⟨B, E0, S, fun v B1 H1 E1 r1 => ⟨B1, E0.tr E1, S.mono E1, fun B2 H2 E2 => ⟨B2, (E0.tr E1).tr E2, S.mono (E1.tr E2), fun B3 H3 E3 => by
    have r := r1.mono (E2.tr E3)
    have k' := we_mono (K := X.K) _ _ _ _ _ k ((E1.tr E2).tr E3)
    have r' : Dq B3 v (.tuple xs) := r
    cases r with
    | @tup p vs _ hp hd =>
      refine ⟨p, vs, rfl, .inl (.inl (E3.s _ _ hp)), fun z => ?_, fun _ q hq => We.tup k' E3.s hq (dqs_cut hd)⟩
      have e : cutD xs l u = xs := by
        rw [dqs_len hd] at z
        unfold cutD cut
        rw [z.1, z.2, Nat.sub_zero, List.drop_zero, List.take_length]
      rw [e] at k'
      exact We.now k' E3.s r'⟩⟩⟩

/-! ### tests -/
theorem t_of {b : Bool} (h : Pe X B0 H0 δ e (.d (.bool b))) (he : ∀ whole, isTrue e X.env whole = (do let v ← whole; standAt e.pos; holding [v] (truthy v)) := by intro _; rfl) : Pt X B0 H0 δ e b :=
  pt_to (pt_val h he) fun σ H Q ⟨B, E0, S, k⟩ => ⟨B, E0, S, fun v B' H' E r => ⟨b, ra_bl r, k B' H' E⟩⟩
theorem t_not (h : Pt X B0 H0 δ e b) : Pt X B0 H0 δ (.UnaryOp .Not e pos) (!b) := pt_to (pt_not h) fun σ H Q ⟨B, E0, S, k⟩ => ⟨B, E0, S, fun B' H' E => k B' H' E⟩
/-- known only where it is asked -/
theorem pt_when {P : Prop} (h : P → Pt X B0 H0 δ e b) : PT X e (fun σ H Q => P ∧ tPt X.K B0 H0 δ b σ H Q) := ⟨fun pins s σ H Q J ⟨p, q⟩ => (h p).run pins s σ H Q J q⟩
theorem pw_when {P : Prop} (h : P → Pw X B0 H0 δ e b) : PW X e (fun σ H Q => P ∧ tPt X.K B0 H0 δ b σ H Q) := ⟨fun wh pins s σ H Q J ⟨p, q⟩ => (h p).run wh pins s σ H Q J q⟩
theorem pe_when {P : Prop} (h : P → Pe X B0 H0 δ e a) : PE X e (fun σ H Q => P ∧ tPe X.K B0 H0 δ a σ H Q) := ⟨fun pins s σ H Q J ⟨p, q⟩ => (h p).run pins s σ H Q J q⟩
theorem w_and1 (h : Pt X B0 H0 δ e b) : Pw X B0 H0 δ (.BoolOp .And [e] pos) b := pw_and1 h
theorem w_or1 (h : Pt X B0 H0 δ e b) : Pw X B0 H0 δ (.BoolOp .Or [e] pos) b := pw_or1 h
theorem w_and {r : List Expr} {e2 : Expr} (h : Pt X B0 H0 δ e b) (h2 : b = true → Pw X B0 H0 δ (.BoolOp .And (e2 :: r) pos) c) : Pw X B0 H0 δ (.BoolOp .And (e :: e2 :: r) pos) (b && c) :=
  pw_to (pw_and h (pw_when h2)) fun σ H Q ⟨B, E0, S, k⟩ => ⟨B, E0, S, fun B' H' E => by
    cases b with
    | true => exact ⟨rfl, B', E0.tr E, S.mono E, fun B2 H2 E2 => k B2 H2 (E.tr E2)⟩
    | false => exact k B' H' E⟩
theorem w_or {r : List Expr} {e2 : Expr} (h : Pt X B0 H0 δ e b) (h2 : b = false → Pw X B0 H0 δ (.BoolOp .Or (e2 :: r) pos) c) : Pw X B0 H0 δ (.BoolOp .Or (e :: e2 :: r) pos) (b || c) :=
  pw_to (pw_or h (pw_when h2)) fun σ H Q ⟨B, E0, S, k⟩ => ⟨B, E0, S, fun B' H' E => by
    cases b with
    | false => exact ⟨rfl, B', E0.tr E, S.mono E, fun B2 H2 E2 => k B2 H2 (E.tr E2)⟩
    | true => exact k B' H' E⟩
theorem t_w (h : Pw X B0 H0 δ e b) : Pt X B0 H0 δ e b := h.pt
/-- and, or, not as values -/
theorem p_one {op} (h : Pe X B0 H0 δ e a) : Pe X B0 H0 δ (.BoolOp op [e] pos) a := pe_one h
theorem p_and {r : List Expr} {e2 : Expr} (h : Pe X B0 H0 δ e (.d (.bool b))) (h2 : b = true → Pe X B0 H0 δ (.BoolOp .And (e2 :: r) pos) (.d (.bool c))) : Pe X B0 H0 δ (.BoolOp .And (e :: e2 :: r) pos) (.d (.bool (b && c))) :=
  pe_to (pe_and h (pe_when h2)) fun σ H Q ⟨B, E0, S, k⟩ => ⟨B, E0, S, fun v B' H' E r => ⟨b, ra_bl r, by
    cases b with
    | true => exact ⟨rfl, B', E0.tr E, S.mono E, fun v B2 H2 E2 r2 => k v B2 H2 (E.tr E2) r2⟩
    | false => exact k _ B' H' E (.bl _)⟩⟩
theorem p_or {r : List Expr} {e2 : Expr} (h : Pe X B0 H0 δ e (.d (.bool b))) (h2 : b = false → Pe X B0 H0 δ (.BoolOp .Or (e2 :: r) pos) (.d (.bool c))) : Pe X B0 H0 δ (.BoolOp .Or (e :: e2 :: r) pos) (.d (.bool (b || c))) :=
  pe_to (pe_or h (pe_when h2)) fun σ H Q ⟨B, E0, S, k⟩ => ⟨B, E0, S, fun v B' H' E r => ⟨b, ra_bl r, by
    cases b with
    | false => exact ⟨rfl, B', E0.tr E, S.mono E, fun v B2 H2 E2 r2 => k v B2 H2 (E.tr E2) r2⟩
    | true => exact k _ B' H' E (.bl _)⟩⟩
theorem p_not (h : Pe X B0 H0 δ e (.d (.bool b))) : Pe X B0 H0 δ (.UnaryOp .Not e pos) (.d (.bool (!b))) :=
  pe_to (pe_not h) fun σ H Q ⟨B, E0, S, k⟩ => ⟨B, E0, S, fun v B' H' E r => ⟨b, ra_bl r, k _ B' H' E (.bl _)⟩⟩
end
end GL

set_option Elab.async false
set_option linter.all false
set_option maxRecDepth 100000
set_option maxHeartbeats 4000000
namespace GL
open PySem PySem.Spec L2

/-! ### what is walked -/
/-- the turns J give the items xs, which stand in B -/
def Wk (J : It) (B : Hp) (xs : List PyData) : Prop :=
  ∀ (k : Nat) (B' H' : Hp), Sub B B' → Sub B' H' → (∀ x, xs[k]? = some x → J.go k H' ∧ ∀ v H2, J.yld k H' v H2 → ∃ B2, Ext B' H' B2 H2 ∧ Dq B2 v x) ∧ (k = xs.length → J.stop k H')
/-- .. which stand there as long as the heap Hz does -/
def Wkr (J : It) (B Hz : Hp) (xs : List PyData) : Prop :=
  ∀ (k : Nat) (B' H' : Hp), Sub B B' → Sub B' H' → Sub Hz H' → (∀ x, xs[k]? = some x → J.go k H' ∧ ∀ v H2, J.yld k H' v H2 → ∃ B2, Ext B' H' B2 H2 ∧ Dq B2 v x) ∧ (k = xs.length → J.stop k H')
theorem Wk.r {J : It} {B Hz : Hp} {xs : List PyData} (h : Wk J B xs) : Wkr J B Hz xs := fun k B' H' s1 s2 _ => h k B' H' s1 s2
def tPir (K : PySem.W.Frag) (B0 H0 : Hp) (δ : List (Option A)) (xs : List PyData) : TI := fun σ H R => ∃ B, Ext B0 H0 B H ∧ SD K H0 B H σ δ ∧ ∀ J B' H', Ext B H B' H' → Wkr J B' H' xs → R J H'
def Pir (X : Cx) (B0 H0 : Hp) (δ : List (Option A)) (tg iter : Expr) (xs : List PyData) : Prop := PI X tg iter (tPir X.K B0 H0 δ xs)
def tPi (K : PySem.W.Frag) (B0 H0 : Hp) (δ : List (Option A)) (xs : List PyData) : TI := fun σ H R => ∃ B, Ext B0 H0 B H ∧ SD K H0 B H σ δ ∧ ∀ J B' H', Ext B H B' H' → Wk J B' xs → R J H'
def Pi (X : Cx) (B0 H0 : Hp) (δ : List (Option A)) (tg iter : Expr) (xs : List PyData) : Prop := PI X tg iter (tPi X.K B0 H0 δ xs)
theorem pi_to {X : Cx} {tg iter : Expr} {t t' : TI} (h : PI X tg iter t) (m : ∀ σ H R, t' σ H R → t σ H R) : PI X tg iter t' := ⟨fun pins s σ H R J q => h.run pins s σ H R J (m _ _ _ q)⟩

theorem Pi.r {X : Cx} {B0 H0 : Hp} {δ : List (Option A)} {tg iter : Expr} {xs : List PyData} (h : Pi X B0 H0 δ tg iter xs) : Pir X B0 H0 δ tg iter xs := pi_to h fun σ H R ⟨B, E, S, k⟩ => ⟨B, E, S, fun J B' H' E1 w => k J B' H' E1 w.r⟩
section
variable {X : Cx} {B0 H0 : Hp} {δ : List (Option A)} {e e1 e2 e3 : Expr} {es : List Expr} {a a1 a2 a3 : A} {as : List A} {b c : Bool} {xs ys : List PyData} {x y d d1 d2 : PyData} {pos p1 p2 : Pos} {w : PyData → A} {tg iter : Expr}

theorem wk_list {K : PySem.W.Frag} {B : Hp} {p : Addr} {vs : List V} (hp : ∀ B' H', Sub B B' → Sub B' H' → SqL K H' p vs) (hd : Dqs B vs xs) : Wk (Itl K p) B xs := fun k B' H' s1 s2 => by
  have hl := hp B' H' s1 s2
  refine ⟨fun x hx => ?_, fun hk => ⟨vs, hl, by rw [dqs_len hd]; omega⟩⟩
  obtain ⟨u, hu, du⟩ := dqs_get hd k x hx
  refine ⟨⟨vs, u, hl, hu⟩, fun v H2 hy => ?_⟩
  obtain ⟨rfl, hv⟩ := hy
  have e : v = u := Option.some.inj ((hv vs hl).symm.trans hu)
  subst e
  exact ⟨B', .rfl' s2, dq_sub s1 _ _ du⟩
theorem i_list (h : Pe X B0 H0 δ iter (.d (.list xs))) : Pi X B0 H0 δ tg iter xs :=
  pi_to (pi_list h) fun σ H R ⟨B, E0, S, k⟩ => ⟨B, E0, S, fun v B' H' E r => by
    cases r with
    | @lst p vs _ hp hd => exact ⟨p, rfl, ⟨vs, .inl (.inl (E.s _ _ hp))⟩, k _ B' H' E (wk_list (fun B2 H2 s1 s2 => .inl (.inl (s2 _ _ (s1 _ _ hp)))) hd)⟩⟩
theorem i_read (h : Pe X B0 H0 δ iter a) [l : Ls a xs] : Pir X B0 H0 δ tg iter xs :=
  pi_to (pi_list h) fun σ H R ⟨B, E0, S, k⟩ => ⟨B, E0, S, fun v B' H' E r => by
    obtain ⟨p, vs, rfl, hp, hd⟩ := l.at E.s r
    refine ⟨p, rfl, ⟨vs, .inl (.inl hp)⟩, k _ B' H' E fun k B2 H2 s1 s2 s3 => ?_⟩
    have hl : SqL X.K H2 p vs := .inl (.inl (s3 _ _ hp))
    refine ⟨fun x hx => ?_, fun hk => ⟨vs, hl, by rw [dqs_len hd]; omega⟩⟩
    obtain ⟨u, hu, du⟩ := dqs_get hd k x hx
    refine ⟨⟨vs, u, hl, hu⟩, fun v H3 hy => ?_⟩
    obtain ⟨rfl, hv⟩ := hy
    have e : v = u := Option.some.inj ((hv vs hl).symm.trans hu)
    subst e
    exact ⟨B2, .rfl' s2, dq_sub s1 _ _ du⟩⟩
theorem i_script {ns : List Int} (h : Pe X B0 H0 δ iter (.s ns)) : Pi X B0 H0 δ tg iter (ns.map .int) :=
  pi_to (pi_list h) fun σ H R ⟨B, E0, S, k⟩ => ⟨B, E0, S, fun v B' H' E r => by
    obtain ⟨p, rfl, hp⟩ := r
    exact ⟨p, rfl, ⟨_, sub_l E.s hp⟩, k _ B' H' E (wk_list (fun B2 H2 s1 s2 => sub_l (s1.tr s2) hp) (ints_dqs ns))⟩⟩
theorem i_tuple (h : Pe X B0 H0 δ iter (.d (.tuple xs))) : Pi X B0 H0 δ tg iter xs :=
  pi_to (pi_tup h) fun σ H R ⟨B, E0, S, k⟩ => ⟨B, E0, S, fun v B' H' E r => by
    cases r with
    | @tup p vs _ hp hd =>
      refine ⟨p, rfl, ⟨vs, .inl (.inl (E.s _ _ hp))⟩, k _ B' H' E fun k B2 H2 s1 s2 => ?_⟩
      have hl : SqT X.K H2 p vs := .inl (.inl (s2 _ _ (s1 _ _ hp)))
      refine ⟨fun x hx => ?_, fun hk => ⟨vs, hl, by rw [dqs_len hd]; omega⟩⟩
      obtain ⟨u, hu, du⟩ := dqs_get hd k x hx
      refine ⟨⟨vs, u, hl, hu⟩, fun v H3 hy => ?_⟩
      obtain ⟨rfl, hv⟩ := hy
      have e : v = u := Option.some.inj ((hv vs hl).symm.trans hu)
      subst e
      exact ⟨B2, .rfl' s2, dq_sub s1 _ _ du⟩⟩
/-- 0, 1, .. below n -/
def upto (n : Nat) : List PyData := (List.range n).map fun i => .int (i : Nat)
theorem i_range {n : Int} (h : Pe X B0 H0 δ e (.d (.int n))) (hn : n ≤ 1000000) (hn2 : 0 ≤ n) (hm : X.mg "range" = none) (hg : Gl X "range" := by rfl) (hs : starEach [e] X.env = [(false, eval e X.env)] := by rfl) (hs2 : starEach [e] X.env = (false, eval e X.env) :: starEach [] X.env := by rfl) : Pi X B0 H0 δ tg (.Call (.Name "range" p1) [e] [] pos) (upto n.toNat) :=
  pi_to (pi_range1 hg hm (pas_cons h pas_nil hs2) hs) fun σ H R ⟨B, E0, S, k⟩ => ⟨B, E0, S, fun vs B' H' E rs => by
    obtain ⟨v, rfl, r⟩ := ras_1 rs
    refine ⟨n, by rw [ra_int r], by omega, by omega, k _ B' H' E fun k B2 H2 s1 s2 => ?_⟩
    have hl : (upto n.toNat).length = n.toNat := by unfold upto; rw [List.length_map, List.length_range]
    refine ⟨fun x hx => ?_, fun hk => Nat.le_of_eq (by omega)⟩
    have hk : k < n.toNat := by rw [← hl]; exact (List.getElem?_eq_some_iff.mp hx).1
    have ex : x = .int (k : Nat) := by
      unfold upto at hx
      rw [List.getElem?_map, List.getElem?_range hk] at hx
      exact (Option.some.inj hx).symm
    subst ex
    refine ⟨hk, fun v H3 hy => ?_⟩
    obtain ⟨rfl, rfl⟩ := hy
    rw [Int.zero_add]
    exact ⟨B2, .rfl' s2, .int _⟩⟩

/-! ### list comprehensions -/
def wipeD (δ : List (Option A)) : List Nat → List (Option A)
  | [] => δ
  | v :: vs => (wipeD δ vs).set v none
theorem sd_none {K : PySem.W.Frag} {H0 B H : Hp} {σ : L2.St} {δ : List (Option A)} (S : SD K H0 B H σ δ) (i : Nat) : SD K H0 B H (σ.set i none) (δ.set i none) := by
  have no : ∀ {a : A} (j : Nat), (δ.set i none)[j]? = some (some a) → i ≠ j ∧ δ[j]? = some (some a) := fun j h => by
    by_cases q : i = j
    · subst q
      by_cases hi : i < δ.length
      · rw [List.getElem?_set_self hi] at h; cases h
      · rw [List.getElem?_eq_none (by simpa using hi)] at h; cases h
    · rw [List.getElem?_set_ne q] at h; exact ⟨q, h⟩
  refine ⟨S.s, by rw [List.length_set, List.length_set, S.len], fun j a h => ?_, fun j k a b v u p h1 h2 h3 h4 => ?_, fun j a u p h1 h2 => ?_, fun j a u h1 hr h2 => ?_⟩
  · obtain ⟨q, h⟩ := no j h
    rw [List.getElem?_set_ne q]
    exact S.rel j a h
  · obtain ⟨q1, h1⟩ := no j h1
    obtain ⟨q2, h2⟩ := no k h2
    rw [List.getElem?_set_ne q1] at h3
    rw [List.getElem?_set_ne q2] at h4
    exact S.dis j k a b v u p h1 h2 h3 h4
  · obtain ⟨q1, h1⟩ := no j h1
    rw [List.getElem?_set_ne q1] at h2
    exact S.fr j a u p h1 h2
  · obtain ⟨q1, h1⟩ := no j h1
    rw [List.getElem?_set_ne q1] at h2
    exact S.rd j a u h1 hr h2
theorem sd_wipe {K : PySem.W.Frag} {H0 B H : Hp} {σ : L2.St} {δ : List (Option A)} (S : SD K H0 B H σ δ) : ∀ vs : List Nat, SD K H0 B H (wipe σ vs) (wipeD δ vs)
  | [] => S
  | v :: vs => sd_none (sd_wipe S vs) v
theorem pts_when {P : Prop} {es : List Expr} {t : TT} (h : P → PTs X es t) : PTs X es (fun σ H Q => P ∧ t σ H Q) := ⟨fun pins s σ H Q J ⟨p, q⟩ => (h p).run pins s σ H Q J q⟩

/-- the test of a comprehension's clause -/
def Pts (X : Cx) (B0 H0 : Hp) (δ : List (Option A)) (es : List Expr) (b : Bool) : Prop := PTs X es (tPt X.K B0 H0 δ b)
theorem ts_nil : Pts X B0 H0 δ [] true := ⟨fun pins s σ H Q J ⟨B, E0, S, k⟩ => pts_nil.run pins s σ H Q J (k B H (.rfl' S.s))⟩
theorem ts_one (h : Pt X B0 H0 δ e b) : Pts X B0 H0 δ [e] b := pts_one h

/-- the reading of [elt for x in iter if ..]: over zs, told by emb; f: the test, g: the element -/
theorem lc_imp {K : PySem.W.Frag} {α : Type} {zs : List α} {emb : α → PyData} {f : α → Bool} {g : α → PyData} {i : Nat} (hl : zs.length ≤ 1000) (σ : L2.St) (H : Hp) (Q : VK) (h : tPn K B0 H0 δ ((zs.filter f).map g) σ H Q) :
    tLc (tPir K B0 H0 δ (zs.map emb)) (gName i) (fun σ H Q => ∃ z, z ∈ zs ∧ tPt K B0 H0 ((δ.set i none).set i (some (.d (emb z)))) (f z) σ H Q) (fun σ H Q => ∃ z, (z ∈ zs ∧ f z = true) ∧ tPe K B0 H0 ((δ.set i none).set i (some (.d (emb z)))) (.d (g z)) σ H Q) [i] σ H Q := by
  obtain ⟨B, E0, S, k⟩ := h
  refine ⟨B, E0, S, fun J Bs Hs E hw D hD => ?_⟩
  have Bsub : Sub Bs Hs := E.s
  have len : (zs.map emb).length = zs.length := List.length_map _
  have S0 : SD K H0 Bs Hs (wipe σ [i]) (wipeD δ [i]) := sd_wipe (S.mono E) [i]
  refine ⟨fun n m H' => m = zs.length - n ∧ n ≤ zs.length ∧ ∃ B' vs, Ext Bs Hs B' H' ∧ B' D = none ∧ H' D = some (.lst vs) ∧ Dqs B' vs (((zs.take n).filter f).map g), ⟨zs.length, rfl, Nat.zero_le _, Bs, [], .own Bsub hD, sub_free Bsub hD, upd_same, .nil⟩, ?_⟩
  rintro n m H' ⟨rfl, hn, B', vs, E1, hb, hl', hd⟩
  have vlen : vs.length ≤ zs.length := by
    rw [dqs_len hd, List.length_map]
    exact Nat.le_trans (List.length_filter_le _ _) (by rw [List.length_take]; exact Nat.min_le_right _ _)
  obtain ⟨w1, w2⟩ := hw n B' H' E1.b E1.s E1.h
  by_cases h : n < zs.length
  · have hz : zs[n]? = some zs[n] := List.getElem?_eq_getElem h
    have hmem : zs[n] ∈ zs := List.getElem_mem h
    obtain ⟨go, yl⟩ := w1 (emb zs[n]) (by rw [List.getElem?_map, hz]; rfl)
    have tk : zs.take (n + 1) = zs.take n ++ [zs[n]] := by rw [List.take_add_one, hz]; rfl
    refine .inr ⟨go, fun H2 => ∃ B' vs, Ext Bs Hs B' H2 ∧ B' D = none ∧ H2 D = some (.lst vs) ∧ Dqs B' vs (((zs.take (n + 1)).filter f).map g), fun H2 q => ⟨zs.length - (n + 1), by omega, rfl, h, q⟩, fun v H2 hy => ?_⟩
    obtain ⟨B2, E2, dv⟩ := yl v H2 hy
    have E12 := E1.tr E2
    have S2 : SD K H0 B2 H2 ((wipe σ [i]).set i (some v)) ((wipeD δ [i]).set i (some (.d (emb zs[n])))) := SD.set (S0.mono E12) dv rfl
    show wipe ((wipe σ [i]).set i (some v)) [i] = wipe σ [i] ∧ _
    refine ⟨?_, zs[n], hmem, B2, (E0.tr E).tr E12, S2, fun B3 H3 E3 => ?_⟩
    · show ((σ.set i none).set i (some v)).set i none = σ.set i none
      rw [List.set_set, List.set_set]
    · have hD3 : H3 D = some (.lst vs) := E3.h _ _ (E2.h _ _ hl')
      have hB3 : B3 D = none := by
        rw [E3.n D (by rw [E2.h _ _ hl']; simp), E2.n D (by rw [hl']; simp)]
        exact hb
      cases hf : f zs[n] with
      | false =>
        refine iteF ⟨B3, vs, E12.tr E3, hB3, hD3, ?_⟩
        rw [tk, List.filter_append, List.filter_cons, hf]
        show Dqs B3 vs ((List.filter f (zs.take n) ++ []).map g)
        rw [List.append_nil]
        exact dqs_sub (E2.b.tr E3.b) _ _ hd
      | true =>
        refine iteT ⟨zs[n], ⟨hmem, hf⟩, B3, ((E0.tr E).tr E12).tr E3, S2.mono E3, fun u B4 H4 E4 du => ?_⟩
        have hD4 : H4 D = some (.lst vs) := E4.h _ _ hD3
        have hB4 : B4 D = none := by rw [E4.n D (by rw [hD3]; simp)]; exact hB3
        refine ⟨vs, hD4, small1000 (by omega), B4, vs ++ [u], ?_, hB4, upd_same, ?_⟩
        · have e := (E12.tr E3).tr E4
          exact ⟨e.b, sub_upd e.h hD, sub_upd e.s hB4, e.n⟩
        · rw [tk, List.filter_append, List.filter_cons, hf]
          show Dqs B4 (vs ++ [u]) ((List.filter f (zs.take n) ++ [zs[n]]).map g)
          rw [List.map_append]
          exact dqs_app (dqs_sub ((E2.b.tr E3.b).tr E4.b) _ _ hd) (.cons du .nil)
  · have e : n = zs.length := by omega
    subst e
    refine .inl ⟨w2 (by rw [len]), ?_⟩
    rw [List.take_length] at hd
    exact k D vs B' H' (E.tr E1) (sub_free E.h hD) hb hl' hd

/-- [elt for x in iter if ..] -/
theorem n_lc {α : Type} {zs : List α} {emb : α → PyData} {f : α → Bool} {g : α → PyData} {i : Nat} {xn : Str} {elt : Expr} {ifs : List Expr} {scope : Scope} (hi : Pir X B0 H0 δ (.Name xn p1) iter xs) (hx : xs = zs.map emb)
    (ht : ∀ z, z ∈ zs → ∀ (s : Shared) (H : Hp) (C : Addr) (cl : List (Str × Addr)) (fp : List Addr), Pts (X.blk s H scope (compEnvC scope cl C X.env) fp) B0 H0 ((δ.set i none).set i (some (.d (emb z)))) ifs (f z))
    (he : ∀ z, z ∈ zs → f z = true → ∀ (s : Shared) (H : Hp) (C : Addr) (cl : List (Str × Addr)) (fp : List Addr), Pe (X.blk s H scope (compEnvC scope cl C X.env) fp) B0 H0 ((δ.set i none).set i (some (.d (emb z)))) elt (.d (g z)))
    (hl : zs.length ≤ 1000) (hc : X.calm = true) (hN : X.N.Nodup) (ok : blkC X.N X.env.scope scope [(xn, i)] = true)
    (hg : ∀ (s : Shared) (H : Hp) (C : Addr) (cl : List (Str × Addr)) (fp : List Addr), PG (X.blk s H scope (compEnvC scope cl C X.env) fp) (.Name xn p1) (gName i))
    (hs : ∀ x, foldedSetIterable iter X.env x = pure x := by intro _; rfl) : Pn X B0 H0 δ (.ListComp elt [⟨.Name xn p1, iter, ifs, 0⟩] scope pos) ((zs.filter f).map g) := by
  subst hx
  exact pe_to (pe_lc (own := [(xn, i)]) (pos := pos) hc hN hi (blkOk_by ok) hg (fun s H C cl fp => ⟨fun pins s2 σ H2 Q J ⟨z, hz, q⟩ => (ht z hz s H C cl fp).run pins s2 σ H2 Q J q⟩)
    (fun s H C cl fp => ⟨fun pins s2 σ H2 Q J ⟨z, hz, q⟩ => (he z hz.1 hz.2 s H C cl fp).run pins s2 σ H2 Q J q⟩) hs) (lc_imp hl)
/-- y = [elt for x in iter if ..], y a plain local name -/
theorem s_lc {α : Type} {zs : List α} {emb : α → PyData} {f : α → Bool} {g : α → PyData} {i j : Nat} {xn y : Str} {py spos : Pos} {elt : Expr} {ifs : List Expr} {scope : Scope} (hi : Pir X B0 H0 δ (.Name xn p1) iter xs) (hx : xs = zs.map emb)
    (ht : ∀ z, z ∈ zs → ∀ (s : Shared) (H : Hp) (C : Addr) (cl : List (Str × Addr)) (fp : List Addr), Pts (X.blk s H scope (compEnvC scope cl C X.env) fp) B0 H0 ((δ.set i none).set i (some (.d (emb z)))) ifs (f z))
    (he : ∀ z, z ∈ zs → f z = true → ∀ (s : Shared) (H : Hp) (C : Addr) (cl : List (Str × Addr)) (fp : List Addr), Pe (X.blk s H scope (compEnvC scope cl C X.env) fp) B0 H0 ((δ.set i none).set i (some (.d (emb z)))) elt (.d (g z)))
    (hl : zs.length ≤ 1000) (hc : X.calm = true) (hN : X.N.Nodup) (ok : blkC X.N X.env.scope scope [(xn, i)] = true)
    (hg : ∀ (s : Shared) (H : Hp) (C : Addr) (cl : List (Str × Addr)) (fp : List Addr), PG (X.blk s H scope (compEnvC scope cl C X.env) fp) (.Name xn p1) (gName i))
    (hy : X.N[j]? = some y) (hyl : X.env.scope.names.lookup y = some .local) (hsw : swapsWith (.ListComp elt [⟨.Name xn p1, iter, ifs, 0⟩] scope pos) (some (.Name y py)) spos.line X.env = pure true)
    (hs : ∀ x, foldedSetIterable iter X.env x = pure x := by intro _; rfl) : PS X (.Assign [.Name y py] (.ListComp elt [⟨.Name xn p1, iter, ifs, 0⟩] scope pos) spos) (tAsg (tPn X.K B0 H0 δ ((zs.filter f).map g)) (gName j)) := by
  subst hx
  have key := ps_setLc (own := [(xn, i)]) (pos := pos) (spos := spos) (tt := fun σ H Q => ∃ z, z ∈ zs ∧ tPt X.K B0 H0 ((δ.set i none).set i (some (.d (emb z)))) (f z) σ H Q) (te := fun σ H Q => ∃ z, (z ∈ zs ∧ f z = true) ∧ tPe X.K B0 H0 ((δ.set i none).set i (some (.d (emb z)))) (.d (g z)) σ H Q) hc hN hy hyl hsw hi (blkOk_by ok) hg (fun s H C cl fp => ⟨fun pins s2 σ H2 Q J ⟨z, hz, q⟩ => (ht z hz s H C cl fp).run pins s2 σ H2 Q J q⟩)
    (fun s H C cl fp => ⟨fun pins s2 σ H2 Q J ⟨z, hz, q⟩ => (he z hz.1 hz.2 s H C cl fp).run pins s2 σ H2 Q J q⟩) hs
  exact ⟨fun pins s σ H D J q => key.run pins s σ H D J (lc_imp hl σ H _ q)⟩
theorem filt_true {α : Type} (zs : List α) : zs.filter (fun _ => true) = zs := List.filter_eq_self.mpr fun _ _ => rfl
theorem ps_is {st : Stmt} {j : Nat} {ys zs : List PyData} (h : PS X st (tAsg (tPn X.K B0 H0 δ ys) (gName j))) (q : ys = zs) : PS X st (tAsg (tPn X.K B0 H0 δ zs) (gName j)) := q ▸ h
/-! .. without a test; with ints for elements -/
theorem n_lcA {α : Type} {zs : List α} {emb : α → PyData} {g : α → PyData} {i : Nat} {xn : Str} {elt : Expr} {scope : Scope} (hi : Pir X B0 H0 δ (.Name xn p1) iter xs) (hx : xs = zs.map emb)
    
    (he : ∀ z, z ∈ zs → ∀ (s : Shared) (H : Hp) (C : Addr) (cl : List (Str × Addr)) (fp : List Addr), Pe (X.blk s H scope (compEnvC scope cl C X.env) fp) B0 H0 ((δ.set i none).set i (some (.d (emb z)))) elt (.d (g z)))
    (hl : zs.length ≤ 1000) (hc : X.calm = true) (hN : X.N.Nodup) (ok : blkC X.N X.env.scope scope [(xn, i)] = true)
    (hg : ∀ (s : Shared) (H : Hp) (C : Addr) (cl : List (Str × Addr)) (fp : List Addr), PG (X.blk s H scope (compEnvC scope cl C X.env) fp) (.Name xn p1) (gName i))
    (hs : ∀ x, foldedSetIterable iter X.env x = pure x := by intro _; rfl) : Pn X B0 H0 δ (.ListComp elt [⟨.Name xn p1, iter, [], 0⟩] scope pos) (zs.map g) :=
  (n_lc (f := fun _ => true) (g := g) hi hx (fun _ _ _ _ _ _ _ => ts_nil) (fun z hz _ => he z hz) hl hc hN ok hg hs).is (by rw [filt_true])
theorem n_lcI {α : Type} {zs : List α} {emb : α → PyData} {f : α → Bool} {β : Type} {em : β → PyData} {g : α → β} {i : Nat} {xn : Str} {elt : Expr} {ifs : List Expr} {scope : Scope} (hi : Pir X B0 H0 δ (.Name xn p1) iter xs) (hx : xs = zs.map emb)
    (ht : ∀ z, z ∈ zs → ∀ (s : Shared) (H : Hp) (C : Addr) (cl : List (Str × Addr)) (fp : List Addr), Pts (X.blk s H scope (compEnvC scope cl C X.env) fp) B0 H0 ((δ.set i none).set i (some (.d (emb z)))) ifs (f z))
    (he : ∀ z, z ∈ zs → f z = true → ∀ (s : Shared) (H : Hp) (C : Addr) (cl : List (Str × Addr)) (fp : List Addr), Pe (X.blk s H scope (compEnvC scope cl C X.env) fp) B0 H0 ((δ.set i none).set i (some (.d (emb z)))) elt (.d (em (g z))))
    (hl : zs.length ≤ 1000) (hc : X.calm = true) (hN : X.N.Nodup) (ok : blkC X.N X.env.scope scope [(xn, i)] = true)
    (hg : ∀ (s : Shared) (H : Hp) (C : Addr) (cl : List (Str × Addr)) (fp : List Addr), PG (X.blk s H scope (compEnvC scope cl C X.env) fp) (.Name xn p1) (gName i))
    (hs : ∀ x, foldedSetIterable iter X.env x = pure x := by intro _; rfl) : Pn X B0 H0 δ (.ListComp elt [⟨.Name xn p1, iter, ifs, 0⟩] scope pos) (((zs.filter f).map g).map em) :=
  (n_lc (f := f) (g := fun z => em (g z)) hi hx ht he hl hc hN ok hg hs).is (by rw [List.map_map]; rfl)
theorem n_lcAI {α : Type} {zs : List α} {emb : α → PyData} {β : Type} {em : β → PyData} {g : α → β} {i : Nat} {xn : Str} {elt : Expr} {scope : Scope} (hi : Pir X B0 H0 δ (.Name xn p1) iter xs) (hx : xs = zs.map emb)
    
    (he : ∀ z, z ∈ zs → ∀ (s : Shared) (H : Hp) (C : Addr) (cl : List (Str × Addr)) (fp : List Addr), Pe (X.blk s H scope (compEnvC scope cl C X.env) fp) B0 H0 ((δ.set i none).set i (some (.d (emb z)))) elt (.d (em (g z))))
    (hl : zs.length ≤ 1000) (hc : X.calm = true) (hN : X.N.Nodup) (ok : blkC X.N X.env.scope scope [(xn, i)] = true)
    (hg : ∀ (s : Shared) (H : Hp) (C : Addr) (cl : List (Str × Addr)) (fp : List Addr), PG (X.blk s H scope (compEnvC scope cl C X.env) fp) (.Name xn p1) (gName i))
    (hs : ∀ x, foldedSetIterable iter X.env x = pure x := by intro _; rfl) : Pn X B0 H0 δ (.ListComp elt [⟨.Name xn p1, iter, [], 0⟩] scope pos) ((zs.map g).map em) :=
  (n_lc (f := fun _ => true) (g := fun z => em (g z)) hi hx (fun _ _ _ _ _ _ _ => ts_nil) (fun z hz _ => he z hz) hl hc hN ok hg hs).is (by rw [List.map_map, filt_true]; rfl)
theorem s_lcA {α : Type} {zs : List α} {emb : α → PyData} {g : α → PyData} {i j : Nat} {xn y : Str} {py spos : Pos} {elt : Expr} {scope : Scope} (hi : Pir X B0 H0 δ (.Name xn p1) iter xs) (hx : xs = zs.map emb)
    
    (he : ∀ z, z ∈ zs → ∀ (s : Shared) (H : Hp) (C : Addr) (cl : List (Str × Addr)) (fp : List Addr), Pe (X.blk s H scope (compEnvC scope cl C X.env) fp) B0 H0 ((δ.set i none).set i (some (.d (emb z)))) elt (.d (g z)))
    (hl : zs.length ≤ 1000) (hc : X.calm = true) (hN : X.N.Nodup) (ok : blkC X.N X.env.scope scope [(xn, i)] = true)
    (hg : ∀ (s : Shared) (H : Hp) (C : Addr) (cl : List (Str × Addr)) (fp : List Addr), PG (X.blk s H scope (compEnvC scope cl C X.env) fp) (.Name xn p1) (gName i))
    (hy : X.N[j]? = some y) (hyl : X.env.scope.names.lookup y = some .local) (hsw : swapsWith (.ListComp elt [⟨.Name xn p1, iter, [], 0⟩] scope pos) (some (.Name y py)) spos.line X.env = pure true)
    (hs : ∀ x, foldedSetIterable iter X.env x = pure x := by intro _; rfl) : PS X (.Assign [.Name y py] (.ListComp elt [⟨.Name xn p1, iter, [], 0⟩] scope pos) spos) (tAsg (tPn X.K B0 H0 δ (zs.map g)) (gName j)) :=
  ps_is (s_lc (f := fun _ => true) (g := g) hi hx (fun _ _ _ _ _ _ _ => ts_nil) (fun z hz _ => he z hz) hl hc hN ok hg hy hyl hsw hs) (by rw [filt_true])
theorem s_lcI {α : Type} {zs : List α} {emb : α → PyData} {f : α → Bool} {β : Type} {em : β → PyData} {g : α → β} {i j : Nat} {xn y : Str} {py spos : Pos} {elt : Expr} {ifs : List Expr} {scope : Scope} (hi : Pir X B0 H0 δ (.Name xn p1) iter xs) (hx : xs = zs.map emb)
    (ht : ∀ z, z ∈ zs → ∀ (s : Shared) (H : Hp) (C : Addr) (cl : List (Str × Addr)) (fp : List Addr), Pts (X.blk s H scope (compEnvC scope cl C X.env) fp) B0 H0 ((δ.set i none).set i (some (.d (emb z)))) ifs (f z))
    (he : ∀ z, z ∈ zs → f z = true → ∀ (s : Shared) (H : Hp) (C : Addr) (cl : List (Str × Addr)) (fp : List Addr), Pe (X.blk s H scope (compEnvC scope cl C X.env) fp) B0 H0 ((δ.set i none).set i (some (.d (emb z)))) elt (.d (em (g z))))
    (hl : zs.length ≤ 1000) (hc : X.calm = true) (hN : X.N.Nodup) (ok : blkC X.N X.env.scope scope [(xn, i)] = true)
    (hg : ∀ (s : Shared) (H : Hp) (C : Addr) (cl : List (Str × Addr)) (fp : List Addr), PG (X.blk s H scope (compEnvC scope cl C X.env) fp) (.Name xn p1) (gName i))
    (hy : X.N[j]? = some y) (hyl : X.env.scope.names.lookup y = some .local) (hsw : swapsWith (.ListComp elt [⟨.Name xn p1, iter, ifs, 0⟩] scope pos) (some (.Name y py)) spos.line X.env = pure true)
    (hs : ∀ x, foldedSetIterable iter X.env x = pure x := by intro _; rfl) : PS X (.Assign [.Name y py] (.ListComp elt [⟨.Name xn p1, iter, ifs, 0⟩] scope pos) spos) (tAsg (tPn X.K B0 H0 δ (((zs.filter f).map g).map em)) (gName j)) :=
  ps_is (s_lc (f := f) (g := fun z => em (g z)) hi hx ht he hl hc hN ok hg hy hyl hsw hs) (by rw [List.map_map]; rfl)
theorem s_lcAI {α : Type} {zs : List α} {emb : α → PyData} {β : Type} {em : β → PyData} {g : α → β} {i j : Nat} {xn y : Str} {py spos : Pos} {elt : Expr} {scope : Scope} (hi : Pir X B0 H0 δ (.Name xn p1) iter xs) (hx : xs = zs.map emb)
    
    (he : ∀ z, z ∈ zs → ∀ (s : Shared) (H : Hp) (C : Addr) (cl : List (Str × Addr)) (fp : List Addr), Pe (X.blk s H scope (compEnvC scope cl C X.env) fp) B0 H0 ((δ.set i none).set i (some (.d (emb z)))) elt (.d (em (g z))))
    (hl : zs.length ≤ 1000) (hc : X.calm = true) (hN : X.N.Nodup) (ok : blkC X.N X.env.scope scope [(xn, i)] = true)
    (hg : ∀ (s : Shared) (H : Hp) (C : Addr) (cl : List (Str × Addr)) (fp : List Addr), PG (X.blk s H scope (compEnvC scope cl C X.env) fp) (.Name xn p1) (gName i))
    (hy : X.N[j]? = some y) (hyl : X.env.scope.names.lookup y = some .local) (hsw : swapsWith (.ListComp elt [⟨.Name xn p1, iter, [], 0⟩] scope pos) (some (.Name y py)) spos.line X.env = pure true)
    (hs : ∀ x, foldedSetIterable iter X.env x = pure x := by intro _; rfl) : PS X (.Assign [.Name y py] (.ListComp elt [⟨.Name xn p1, iter, [], 0⟩] scope pos) spos) (tAsg (tPn X.K B0 H0 δ ((zs.map g).map em)) (gName j)) :=
  ps_is (s_lc (f := fun _ => true) (g := fun z => em (g z)) hi hx (fun _ _ _ _ _ _ _ => ts_nil) (fun z hz _ => he z hz) hl hc hN ok hg hy hyl hsw hs) (by rw [List.map_map, filt_true]; rfl)
end
end GL

set_option Elab.async false
set_option linter.all false
set_option maxRecDepth 100000
set_option maxHeartbeats 4000000
namespace GL
open PySem PySem.Spec L2

/-! ### promises of defs, calls -/
/-- how a call ends: with a value, or with an exception of the class at C -/
inductive R where
  | ret (a : A)
  | exc (C : Addr)
/-- the promise: from arguments told by as, rel tells how it ends -/
def spG (K : PySem.W.Frag) (rel : Hp → Hp → List A → R → Prop) : Sp := fun vs H Q E => ∃ B as r, Sub B H ∧ RAs K B H vs as ∧ rel B H as r ∧ match r with
  | .ret a => ∀ v B' H', Ext B H B' H' → RA K B' H' v a → (∀ q, Fp H' v a q → H q = none) → Q v H'
  | .exc C => ∀ B' H', Ext B H B' H' → E (.ref C) none H'
/-- a def that stands in the module under the name x and keeps its promise -/
structure Kn (P : Program) (w : World) (K : PySem.W.Frag) (mg : Str → Option Value) (base : Heap) (x : Str) (k : Nat) (rel : Hp → Hp → List A → R → Prop) : Prop where
  ex : ∃ CX f fd ps, (∀ X : Cx, X.prog = P → X.w = w → Passes CX X E0) ∧ FnOk P w K mg base CX k f fd ps (spG K rel) ∧ mg x = some (.ref f) ∧ PySem.W.keepIn K (.ref f) = true ∧ Binds K fd ps []

theorem RAs.len {K : PySem.W.Frag} {B H : Hp} : ∀ {vs : List V} {as : List A}, RAs K B H vs as → vs.length = as.length
  | _, _, .nil => rfl
  | _, _, .cons _ t => congrArg (· + 1) (RAs.len t)

section
variable {X : Cx} {B0 H0 : Hp} {δ δ' : List (Option A)} {e e1 e2 e3 : Expr} {es : List Expr} {a a1 a2 a3 : A} {as : List A} {b c : Bool} {xs ys : List PyData} {x y d d1 d2 : PyData} {pos p1 p2 : Pos} {w : PyData → A} {tg iter : Expr} {nm : Str} {k : Nat} {rel : Hp → Hp → List A → R → Prop}

theorem p_call (F : Kn X.prog X.w X.K X.mg X.base nm k rel) (hr : Room k X.A) (ha : Pa X B0 H0 δ (e :: es) as) (h : ∀ B H, Ext B0 H0 B H → Sub B H → rel B H as (.ret a)) (hg : Gl X nm := by rfl) (hdb : (nm == ("__debug__" : Str)) = false := by decide)
    (he : starEach (e :: es) X.env = (false, eval e X.env) :: starEach es X.env := by rfl) (hpl : (backTo pos (starEach es X.env)).any (·.1) = false := by rfl) : Pe X B0 H0 δ (.Call (.Name nm p1) (e :: es) [] pos) a := by
  obtain ⟨CX, f, fd, ps, pa, F, hm, hk, hb⟩ := F.ex
  exact pe_to (pe_call F hr hg hm hk hb .nil (pa X rfl rfl) ha hdb he hpl) fun σ H Q ⟨B, E, S, q⟩ => ⟨B, E, S, fun vs B1 H1 E1 r1 => ⟨B1, as, .ret a, E1.s, by rw [List.append_nil]; exact r1, h B1 H1 (E.tr E1) E1.s, fun v B2 H2 E2 r2 _ => q v B2 H2 (E1.tr E2) r2⟩⟩

/-! ### statements -/
/-- what is wanted behind, told without addresses -/
structure AE where
  nx : Hp → Hp → List (Option A) → Prop
  rt : Hp → Hp → List (Option A) → A → Prop
  bk : Hp → Hp → List (Option A) → Prop := fun _ _ _ => False
  ct : Hp → Hp → List (Option A) → Prop := fun _ _ _ => False
structure Cz (K : PySem.W.Frag) (B : Hp) (E : AE) (D : Ends) : Prop where
  nx : ∀ B1 H1 δ σ B' H', E.nx B1 H1 δ → Sub B B' → Ext B1 H1 B' H' → SD K H1 B' H' σ δ → D.nx σ H'
  rt : ∀ B1 H1 δ a σ v B' H', E.rt B1 H1 δ a → Ext B1 H1 B' H' → SD K H1 B' H' σ δ → RA K B' H' v a → (∀ q, Fp H' v a q → H1 q = none) → D.rt v H'
  bk : ∀ B1 H1 δ σ B' H', E.bk B1 H1 δ → Sub B B' → Ext B1 H1 B' H' → SD K H1 B' H' σ δ → D.bk σ H'
  ct : ∀ B1 H1 δ σ B' H', E.ct B1 H1 δ → Sub B B' → Ext B1 H1 B' H' → SD K H1 B' H' σ δ → D.ct σ H'
theorem Cz.up {K : PySem.W.Frag} {B B' : Hp} {E : AE} {D : Ends} (z : Cz K B E D) (s : Sub B B') : Cz K B' E D :=
  ⟨fun B1 H1 δ σ B2 H2 h t => z.nx B1 H1 δ σ B2 H2 h (s.tr t), z.rt, fun B1 H1 δ σ B2 H2 h t => z.bk B1 H1 δ σ B2 H2 h (s.tr t), fun B1 H1 δ σ B2 H2 h t => z.ct B1 H1 δ σ B2 H2 h (s.tr t)⟩
def tWs (K : PySem.W.Frag) (B0 H0 : Hp) (δ : List (Option A)) (E : AE) : TS := fun D σ H => ∃ B, Ext B0 H0 B H ∧ SD K H0 B H σ δ ∧ Cz K B E D
def Ws (X : Cx) (B0 H0 : Hp) (δ : List (Option A)) (ss : List Stmt) (E : AE) : Prop := PSs X ss (tWs X.K B0 H0 δ E)
theorem pss_to {ss : List Stmt} {t t' : TS} (h : PSs X ss t) (m : ∀ D σ H, t' D σ H → t D σ H) : PSs X ss t' := ⟨fun pins s σ H D J q => h.run pins s σ H D J (m _ _ _ q)⟩
/-- one statement, then what W tells of the rest -/
theorem ws_cons {E : AE} {st : Stmt} {rest : List Stmt} {t : TS} {W : Hp → Hp → List (Option A) → Prop} (h1 : PS X st t) (hW : ∀ B H δ', W B H δ' → Ws X B H δ' rest E) (m : ∀ D σ H B, Ext B0 H0 B H → SD X.K H0 B H σ δ → Cz X.K B { E with nx := W } D → t D σ H) : Ws X B0 H0 δ (st :: rest) E := by
  have h2 : PSs X rest (fun D σ H => ∃ B1 H1 δ1, W B1 H1 δ1 ∧ tWs X.K B1 H1 δ1 E D σ H) := ⟨fun pins s σ H D J ⟨B1, H1, δ1, hw, q⟩ => (hW B1 H1 δ1 hw).run pins s σ H D J q⟩
  refine pss_to (pss_cons h1 h2) fun D σ H ⟨B, E0, S, z⟩ => m _ σ H B E0 S ?_
  exact ⟨fun B1 H1 δ1 σ1 B' H' hw s E1 S1 => ⟨B1, H1, δ1, hw, B', E1, S1, z.up s⟩, z.rt, z.bk, z.ct⟩
theorem ws_nil {E : AE} (h : E.nx B0 H0 δ) : Ws X B0 H0 δ [] E := pss_to pss_nil fun D σ H ⟨B, E0, S, z⟩ => z.nx _ _ _ σ B H h Sub.rfl' E0 S
/-- e kept in a slot -/
def keep : A → Bool
  | .d _ => true
  | .v _ => true
  | .s _ => true
  | .r _ => true
  | .rb _ _ => true
  | .rg _ => true
  | .nd _ _ _ => true
  | _ => false
/-- .. and that may be kept from anywhere -/
def stay (a : A) : Bool := keep a && !reads a
theorem stay_no {a : A} (h : stay a = true) : owns a = false ∧ reads a = false := by cases a <;> first | exact ⟨rfl, rfl⟩ | cases h
theorem keep_no {a : A} (h : keep a = true) : owns a = false := by cases a <;> first | rfl | cases h
theorem ws_set {E : AE} {rest : List Stmt} {i : Nat} {x : Str} (hi : X.N[i]? = some x) (he : Pe X B0 H0 δ e a) (hk : stay a = true) (hr : Ws X B0 H0 (δ.set i (some a)) rest E) (hN : X.N.Nodup) (hx : Loc X.env.scope x)
    (hs : swapsWith e (some (.Name x p1)) pos.line X.env = pure false := by rfl) (hf : X.fn x = true ∨ X.env.scope.names.lookup x = some .local := by first | exact .inl rfl | exact .inr rfl | assumption) : Ws X B0 H0 δ (.Assign [.Name x p1] e pos :: rest) E :=
  ws_cons (W := fun B H δ' => B = B0 ∧ H = H0 ∧ δ' = δ.set i (some a)) (ps_set hN hi hx he hs hf) (fun B H δ' ⟨h1, h2, h3⟩ => by rw [h1, h2, h3]; exact hr) fun D σ H B E0 S z =>
    ⟨B, E0, S, fun v B' H' E1 r => z.nx _ _ _ _ B' H' ⟨rfl, rfl, rfl⟩ E1.b (E0.tr E1) ((S.mono E1).set r (stay_no hk).1 (stay_no hk).2)⟩
/-- a new list kept as one's own -/
theorem ws_own {E : AE} {rest : List Stmt} {i : Nat} {x : Str} (hi : X.N[i]? = some x) (he : Pn X B0 H0 δ e xs) (hr : Ws X B0 H0 (δ.set i (some (.o xs))) rest E) (hN : X.N.Nodup) (hx : Loc X.env.scope x)
    (hs : swapsWith e (some (.Name x p1)) pos.line X.env = pure false := by rfl) (hf : X.fn x = true ∨ X.env.scope.names.lookup x = some .local := by first | exact .inl rfl | exact .inr rfl | assumption) : Ws X B0 H0 δ (.Assign [.Name x p1] e pos :: rest) E :=
  ws_cons (W := fun B H δ' => B = B0 ∧ H = H0 ∧ δ' = δ.set i (some (.o xs))) (ps_set hN hi hx he hs hf) (fun B H δ' ⟨h1, h2, h3⟩ => by rw [h1, h2, h3]; exact hr) fun D σ H B E0 S z =>
    ⟨B, E0, S, fun p vs B' H' E1 hp hb hl hd => z.nx _ _ _ _ B' H' ⟨rfl, rfl, rfl⟩ E1.b (E0.tr E1) (S.setN E0.h E1 ⟨p, vs, rfl, hb, hl, hd⟩ fun q f => by have f : V.ref p = V.ref q := f; cases f; exact hp)⟩
/-- the same by ps_setLc -/
theorem ws_lc {E : AE} {rest : List Stmt} {st : Stmt} {i : Nat} (h : PS X st (tAsg (tPn X.K B0 H0 δ xs) (gName i))) (hr : Ws X B0 H0 (δ.set i (some (.d (.list xs)))) rest E) : Ws X B0 H0 δ (st :: rest) E :=
  ws_cons (W := fun B H δ' => B = B0 ∧ H = H0 ∧ δ' = δ.set i (some (.d (.list xs)))) h (fun B H δ' ⟨h1, h2, h3⟩ => by rw [h1, h2, h3]; exact hr) fun D σ H B E0 S z =>
    ⟨B, E0, S, fun p vs B' H' E1 hp hb hl hd => by
      have E2 : Ext B H (upd B' p (.lst vs)) H' := ⟨E1.b.tr (sub_new hb), E1.h, fun x u q => by
        by_cases h : x = p
        · subst h; rw [upd_same] at q; cases q; exact hl
        · rw [upd_ne h] at q; exact E1.s x u q, fun x q => by
        have h : x ≠ p := fun h => q (by rw [h]; exact hp)
        rw [upd_ne h]; exact E1.n x q⟩
      exact z.nx _ _ _ _ _ H' ⟨rfl, rfl, rfl⟩ E2.b (E0.tr E2) ((S.mono E2).set (.lst upd_same (dqs_sub (sub_new hb) _ _ hd)) rfl)⟩
theorem ws_ret {E : AE} {rest : List Stmt} (he : Pe X B0 H0 δ e a) (h : E.rt B0 H0 δ a) (no : owns a = false := by rfl) : Ws X B0 H0 δ (.Return (some e) pos :: rest) E :=
  ws_cons (W := fun _ _ _ => False) (ps_ret he) (fun _ _ _ q => q.elim) fun D σ H B E0 S z => ⟨B, E0, S, fun v B' H' E1 r => z.rt _ _ _ _ σ v B' H' h (E0.tr E1) (S.mono E1) r (fun q f => by rw [fp_owns f] at no; cases no)⟩
theorem ws_if {E : AE} {rest b1 b2 : List Stmt} {t : Expr} (ht : Pt X B0 H0 δ t c) (h1 : c = true → Ws X B0 H0 δ b1 { E with nx := fun B H δ' => Ws X B H δ' rest E }) (h2 : c = false → Ws X B0 H0 δ b2 { E with nx := fun B H δ' => Ws X B H δ' rest E }) : Ws X B0 H0 δ (.If t b1 b2 pos :: rest) E := by
  have k1 : PSs X b1 (fun D σ H => c = true ∧ tWs X.K B0 H0 δ { E with nx := fun B H δ' => Ws X B H δ' rest E } D σ H) := ⟨fun pins s σ H D J ⟨q1, q2⟩ => (h1 q1).run pins s σ H D J q2⟩
  have k2 : PSs X b2 (fun D σ H => c = false ∧ tWs X.K B0 H0 δ { E with nx := fun B H δ' => Ws X B H δ' rest E } D σ H) := ⟨fun pins s σ H D J ⟨q1, q2⟩ => (h2 q1).run pins s σ H D J q2⟩
  refine ws_cons (W := fun B H δ' => Ws X B H δ' rest E) (ps_if ht k1 k2) (fun _ _ _ q => q) fun D σ H B E0 S z => ⟨B, E0, S, fun B' H' E1 => ?_⟩
  cases c with
  | true => exact iteT ⟨rfl, B', E0.tr E1, S.mono E1, z.up E1.b⟩
  | false => exact iteF ⟨rfl, B', E0.tr E1, S.mono E1, z.up E1.b⟩
/-- if t: body, without else; the state behind told by both ways at once -/
theorem ws_ifJ {E : AE} {rest b1 b2 : List Stmt} {t : Expr} (W : Hp → Hp → List (Option A) → Prop) (ht : Pt X B0 H0 δ t c) (h1 : c = true → Ws X B0 H0 δ b1 { E with nx := W }) (h2 : c = false → Ws X B0 H0 δ b2 { E with nx := W }) (hr : ∀ B H δ', W B H δ' → Ws X B H δ' rest E) : Ws X B0 H0 δ (.If t b1 b2 pos :: rest) E := by
  have k1 : PSs X b1 (fun D σ H => c = true ∧ tWs X.K B0 H0 δ { E with nx := W } D σ H) := ⟨fun pins s σ H D J ⟨q1, q2⟩ => (h1 q1).run pins s σ H D J q2⟩
  have k2 : PSs X b2 (fun D σ H => c = false ∧ tWs X.K B0 H0 δ { E with nx := W } D σ H) := ⟨fun pins s σ H D J ⟨q1, q2⟩ => (h2 q1).run pins s σ H D J q2⟩
  refine ws_cons (W := W) (ps_if ht k1 k2) hr fun D σ H B E0 S z => ⟨B, E0, S, fun B' H' E1 => ?_⟩
  cases c with
  | true => exact iteT ⟨rfl, B', E0.tr E1, S.mono E1, z.up E1.b⟩
  | false => exact iteF ⟨rfl, B', E0.tr E1, S.mono E1, z.up E1.b⟩
/-- for x in iter: I by the turn -/
theorem ws_for {E : AE} {rest body : List Stmt} {i : Nat} {xn : Str} (I : Nat → Hp → Hp → List (Option A) → Prop) (hi : Pi X B0 H0 δ (.Name xn p1) iter xs) (h0 : I 0 B0 H0 δ)
    (hs : ∀ k x B H δ', xs[k]? = some x → I k B H δ' → Ws X B H (δ'.set i (some (.d x))) body { E with nx := I (k + 1), ct := I (k + 1), bk := fun B H δ' => Ws X B H δ' rest E })
    (hr : ∀ B H δ', I xs.length B H δ' → Ws X B H δ' rest E) (hx : X.N[i]? = some xn) (hN : X.N.Nodup) (hl : Loc X.env.scope xn) (hc : X.calm = true) (hp : PassesOwn (model X.prog X.w) X.A X.env X.xe)
    (hf : X.fn xn = true ∨ X.env.scope.names.lookup xn = some .local := by first | exact .inl rfl | exact .inr rfl | assumption) (hfs : ∀ x, foldedSetIterable iter X.env x = pure x := by intro _; rfl) : Ws X B0 H0 δ (.For (.Name xn p1) iter body [] pos :: rest) E := by
  have hb : PSs X body (fun D σ H => ∃ k x B1 H1 δ1, xs[k]? = some x ∧ I k B1 H1 δ1 ∧ tWs X.K B1 H1 (δ1.set i (some (.d x))) { E with nx := I (k + 1), ct := I (k + 1), bk := fun B H δ' => Ws X B H δ' rest E } D σ H) :=
    ⟨fun pins s σ H D J ⟨k, x, B1, H1, δ1, hx, hI, q⟩ => (hs k x B1 H1 δ1 hx hI).run pins s σ H D J q⟩
  refine ws_cons (W := fun B H δ' => Ws X B H δ' rest E) (ps_for hp hc hi (pg_name hN hx hl hf) hb hfs) (fun _ _ _ q => q) fun D σ H B E0 S z => ⟨B, E0, S, fun J Bs Hs E1 hw => ?_⟩
  refine ⟨fun k m σ' H' => m = xs.length - k ∧ k ≤ xs.length ∧ ∃ B' B1 H1 δ1, Sub Bs B' ∧ I k B1 H1 δ1 ∧ Ext B1 H1 B' H' ∧ SD X.K H1 B' H' σ' δ1, ⟨xs.length, rfl, Nat.zero_le _, Bs, B0, H0, δ, Sub.rfl', h0, E0.tr E1, S.mono E1⟩, ?_⟩
  rintro k m σ' H' ⟨rfl, hk, B', B1, H1, δ1, sb, hI, E2, S2⟩
  obtain ⟨w1, w2⟩ := hw k B' H' sb S2.s
  by_cases h : k < xs.length
  · have hx : xs[k]? = some xs[k] := List.getElem?_eq_getElem h
    obtain ⟨go, yl⟩ := w1 _ hx
    refine .inr ⟨go, fun σ3 H3 => ∃ B3 B4 H4 δ4, Sub Bs B3 ∧ I (k + 1) B4 H4 δ4 ∧ Ext B4 H4 B3 H3 ∧ SD X.K H4 B3 H3 σ3 δ4, fun σ3 H3 ⟨B3, B4, H4, δ4, q1, q2, q3, q4⟩ => ⟨xs.length - (k + 1), by omega, rfl, h, B3, B4, H4, δ4, q1, q2, q3, q4⟩, fun v H3 hy => ?_⟩
    obtain ⟨B3, E3, dv⟩ := yl v H3 hy
    refine ⟨k, xs[k], B1, H1, δ1, hx, hI, B3, E2.tr E3, (S2.mono E3).set dv rfl, ?_⟩
    have s3 : Sub Bs B3 := sb.tr E3.b
    exact ⟨fun B4 H4 δ4 σ4 B5 H5 q1 q2 q3 q4 => ⟨B5, B4, H4, δ4, s3.tr q2, q1, q3, q4⟩, z.rt, fun B4 H4 δ4 σ4 B5 H5 q1 q2 => z.nx B4 H4 δ4 σ4 B5 H5 q1 ((E1.b.tr s3).tr q2), fun B4 H4 δ4 σ4 B5 H5 q1 q2 q3 q4 => ⟨B5, B4, H4, δ4, s3.tr q2, q1, q3, q4⟩⟩
  · have e : k = xs.length := by omega
    subst e
    exact .inl ⟨w2 rfl, z.nx _ _ _ _ B' H' (hr _ _ _ hI) (E1.b.tr sb) E2 S2⟩
theorem ws_pass {E : AE} {rest : List Stmt} (h : Ws X B0 H0 δ rest E) : Ws X B0 H0 δ (.Pass pos :: rest) E :=
  ws_cons (W := fun B H δ' => B = B0 ∧ H = H0 ∧ δ' = δ) ps_pass (fun B H δ' ⟨h1, h2, h3⟩ => by rw [h1, h2, h3]; exact h) fun D σ H B E0 S z => z.nx _ _ _ σ B H ⟨rfl, rfl, rfl⟩ Sub.rfl' E0 S
/-- no slot holds data for now -/
def fixd (_ : List (Option A)) : Bool := true
theorem keepd (h : fixd δ = true) {B H : Hp} {p : Addr} {vs : List V} {K : PySem.W.Frag} {σ : L2.St} {i : Nat} (S : SD K H0 B H σ δ) (E : Ext B0 H0 B H) (hδ : δ[i]? = some (some (.o xs))) (hσ : σ[i]? = some (some (.ref p))) (hb : B p = none) (hd : Dqs B vs ys) :
    Ext B0 H0 B (upd H p (.lst vs)) ∧ SD K H0 B (upd H p (.lst vs)) σ (δ.set i (some (.o ys))) := by
  have h0 := S.fr i _ _ p hδ hσ rfl
  exact ⟨⟨E.b, sub_upd E.h h0, sub_upd E.s hb, E.n⟩, S.put E.h hδ hσ (fun q u n hq => by rw [upd_ne (fun e => n (by rw [e]; rfl))]; exact hq) (sub_upd S.s hb) ⟨p, vs, rfl, hb, upd_same, hd⟩ (fun q f => .inl f) rfl⟩
/-- x.append(e), x a list of one's own -/
theorem ws_app {E : AE} {rest : List Stmt} {i : Nat} {xn : Str} {apos cpos epos : Pos} (hδ : δ[i]? = some (some (.o xs))) (he : Pe X B0 H0 δ e (.d x)) (hz : xs.length < 1000) (hf : fixd δ = true) (hr : Ws X B0 H0 (δ.set i (some (.o (xs ++ [x])))) rest E) (hN : X.N[i]? = some xn) (hv : Vis X.env.scope xn)
    (hbase : attributeBase (.Name xn p1) "append" X.env (eval (.Name xn p1) X.env) = eval (.Name xn p1) X.env := by rfl)
    (hfew : ((backTo cpos (starEach [e] X.env)).all (fun x => !x.1) && (backToKw cpos (keywordEach [] X.env)).all (fun x => x.1.isSome) && decide ([e].length + ([] : List Keyword).length + (if ([] : List Keyword).isEmpty then 0 else 1) < 30)) = true := by rfl)
    (hline : (apos.endLine == cpos.line) = true := by rfl) (hs : starEach [e] X.env = (false, eval e X.env) :: starEach [] X.env := by rfl) (hsw : swapsWith (.Call (.Attribute (.Name xn p1) "append" apos) [e] [] cpos) none epos.line X.env = pure false := by rfl) (h1 : (xn == ("__debug__" : Str)) = false := by decide) (h2 : (xn == ("__classdict__" : Str)) = false := by decide) :
    Ws X B0 H0 δ (.Expr (.Call (.Attribute (.Name xn p1) "append" apos) [e] [] cpos) epos :: rest) E := by
  have key := pe_bm PySem.F.plainAttrs_list PySem.F.slot_list_append PySem.F.type_list_append mt_append (pe_var (X := X) (i := i) (pos := p1) hN hv h1 h2) (pa_cons he pa_nil hs) hbase hfew hline hs rfl
  refine ws_cons (W := fun B H δ' => B = B0 ∧ H = H0 ∧ δ' = δ.set i (some (.o (xs ++ [x])))) (ps_expr key hsw) (fun B H δ' ⟨h1, h2, h3⟩ => by rw [h1, h2, h3]; exact hr) fun D σ H B E0 S z => ?_
  obtain ⟨v, hσ, p, vs, rfl, hb, hl, hd⟩ := S.rel i _ hδ
  refine ⟨_, hσ, .inl ⟨rfl, _, .inl (.inl hl)⟩, B, E0, S, fun u B' H' E1 r => ?_⟩
  have hl' := E1.h _ _ hl
  have hb' : B' p = none := by rw [E1.n p (by rw [hl]; simp)]; exact hb
  refine ⟨p, vs, u, rfl, rfl, hl', small1000 (by rw [dqs_len hd]; omega), ?_⟩
  obtain ⟨g1, g2⟩ := keepd hf (S.mono E1) (E0.tr E1) hδ hσ hb' (dqs_app (dqs_sub E1.b _ _ hd) (.cons r .nil))
  exact z.nx _ _ _ σ B' _ ⟨rfl, rfl, rfl⟩ E1.b g1 g2
/-- own[i] = e -/
theorem ws_store {E : AE} {rest : List Stmt} {i j : Nat} {xn : Str} {n : Int} {spos : Pos} (hδ : δ[i]? = some (some (.o xs))) (he : Pe X B0 H0 δ e (.d x)) (hi : Pe X B0 H0 δ e2 (.d (.int n))) (hj : ixN xs.length n = some j) (hf : fixd δ = true) (hr : Ws X B0 H0 (δ.set i (some (.o (xs.set j x)))) rest E) (hN : X.N[i]? = some xn) (hv : Vis X.env.scope xn)
    (hg : PG X (.Subscript (.Name xn p1) e2 p2) (gSub (tVar i) (tPe X.K B0 H0 δ (.d (.int n))) rSetL))
    (hs : swapsWithSole [.Subscript (.Name xn p1) e2 p2] e spos.line X.env = pure false := by rfl) (hw : swappedStores [.Subscript (.Name xn p1) e2 p2] e X.env = pure none := by rfl) (h1 : (assignEach [.Subscript (.Name xn p1) e2 p2] X.env).map (·.2) = [assign (.Subscript (.Name xn p1) e2 p2) X.env] := by rfl) :
    Ws X B0 H0 δ (.Assign [.Subscript (.Name xn p1) e2 p2] e spos :: rest) E := by
  refine ws_cons (W := fun B H δ' => B = B0 ∧ H = H0 ∧ δ' = δ.set i (some (.o (xs.set j x)))) (ps_asg he hg hs hw h1) (fun B H δ' ⟨h1, h2, h3⟩ => by rw [h1, h2, h3]; exact hr) fun D σ H B E0 S z => ⟨B, E0, S, fun u B' H' E1 r => ?_⟩
  obtain ⟨v, hσ, p, vs, rfl, hb, hl, hd⟩ := (S.mono E1).rel i _ hδ
  refine ⟨_, hσ, B', E0.tr E1, S.mono E1, fun m B2 H2 E2 r2 => ?_⟩
  have hl' := E2.h _ _ hl
  have hb' : B2 p = none := by rw [E2.n p (by rw [hl]; simp)]; exact hb
  refine ⟨p, vs, n, j, rfl, ra_int r2, hl', by rw [dqs_len hd]; exact hj, ?_⟩
  obtain ⟨g1, g2⟩ := keepd hf (S.mono (E1.tr E2)) ((E0.tr E1).tr E2) hδ hσ hb' (dqs_set j (dqs_sub E2.b _ _ hd) (r.mono E2))
  exact z.nx _ _ _ σ B2 _ ⟨rfl, rfl, rfl⟩ (E1.tr E2).b g1 g2
/-- a list of one's own is let go: from here on it is data -/
theorem ws_let {E : AE} {ss : List Stmt} (i : Nat) (hδ : δ[i]? = some (some (.o xs))) (h : Ws X B0 H0 (δ.set i (some (.d (.list xs)))) ss E) : Ws X B0 H0 δ ss E := by
  refine pss_to h fun D σ H ⟨B, E0, S, z⟩ => ?_
  obtain ⟨v, hσ, p, vs, rfl, hb, hl, hd⟩ := S.rel i _ hδ
  have h0 := S.fr i _ _ p hδ hσ rfl
  have hi : i < δ.length := (List.getElem?_eq_some_iff.mp hδ).1
  have sB : Sub B (upd B p (.lst vs)) := sub_new hb
  refine ⟨upd B p (.lst vs), ⟨E0.b.tr sB, E0.h, fun y u q => ?_, fun y q => ?_⟩, ⟨fun y u q => ?_, by rw [List.length_set]; exact S.len, fun j a hj => ?_, fun j k a b v u q h1 h2 h3 h4 f1 f2 => ?_, fun j a v q h1 h2 f => ?_, fun j a v h1 h2 h3 => ?_⟩, z.up sB⟩
  · by_cases e : y = p
    · subst e; rw [upd_same] at q; cases q; exact hl
    · rw [upd_ne e] at q; exact E0.s y u q
  · have e : y ≠ p := fun e => q (by rw [e]; exact h0)
    rw [upd_ne e]; exact E0.n y q
  · by_cases e : y = p
    · subst e; rw [upd_same] at q; cases q; exact hl
    · rw [upd_ne e] at q; exact S.s y u q
  · rcases set_get hj with ⟨e, e2, _⟩ | ⟨ne, hj⟩
    · subst e e2
      exact ⟨_, hσ, .lst upd_same (dqs_sub sB _ _ hd)⟩
    · obtain ⟨u, h1, h2⟩ := S.rel j a hj
      refine ⟨u, h1, ra_grow sB (fun q f => ?_) h2⟩
      have qp : q ≠ p := fun e => by
        subst e
        exact ne (S.dis i j _ a _ u q hδ hj hσ h1 rfl f)
      rw [upd_ne qp]
      exact (fp_at h2 f).1
  · rcases set_get h1 with ⟨e, e2, _⟩ | ⟨ne, h1⟩
    · subst e2
      exact f1.elim
    · rcases set_get h2 with ⟨e, e2, _⟩ | ⟨ne2, h2⟩
      · subst e2
        exact f2.elim
      · exact S.dis j k a b v u q h1 h2 h3 h4 f1 f2
  · rcases set_get h1 with ⟨e, e2, _⟩ | ⟨ne, h1⟩
    · subst e2
      exact f.elim
    · exact S.fr j a v q h1 h2 f
  · rcases set_get h1 with ⟨e, e2, _⟩ | ⟨ne, h1⟩
    · subst e2
      cases h2
    · obtain ⟨Bz, sz, rz⟩ := S.rd j a v h1 h2 h3
      exact ⟨Bz, sz.tr sB, rz⟩

/-! ### a def keeps its promise -/
def startD (N : List Str) (as : List A) : List (Option A) := as.map some ++ List.replicate (N.length - as.length) none
theorem sd_start {K : PySem.W.Frag} {B H : Hp} {N : List Str} {vs : List V} {as : List A} (s : Sub B H) (r : RAs K B H vs as) (no : ∀ a ∈ as, keep a = true) : SD K H B H (L2.start N vs) (startD N as) := by
  have hl := r.len
  have g : ∀ {vs : List V} {as : List A} {m : Nat}, RAs K B H vs as → ∀ (i : Nat) (a : A), (as.map some ++ List.replicate m none)[i]? = some (some a) → a ∈ as ∧ ∃ v, (vs.map some ++ List.replicate m none)[i]? = some (some v) ∧ RA K B H v a := by
    intro vs as m r
    induction r with
    | nil =>
      intro i a h
      rw [List.map_nil, List.nil_append, List.getElem?_replicate] at h
      split at h <;> cases h
    | @cons v a vs as r t ih =>
      intro i b h
      cases i with
      | zero =>
        have e := Option.some.inj (Option.some.inj h)
        subst e
        exact ⟨List.mem_cons_self, v, rfl, r⟩
      | succ i =>
        obtain ⟨h1, h2⟩ := ih i b h
        exact ⟨List.mem_cons_of_mem _ h1, h2⟩
  have g' : ∀ (i : Nat) (a : A), (startD N as)[i]? = some (some a) → a ∈ as ∧ ∃ v, (L2.start N vs)[i]? = some (some v) ∧ RA K B H v a := fun i a h => by
    have := g (m := N.length - as.length) r i a h
    unfold L2.start
    rw [hl]
    exact this
  refine ⟨s, by unfold L2.start startD; rw [List.length_append, List.length_append, List.length_map, List.length_map, List.length_replicate, List.length_replicate, hl], fun i a h => (g' i a h).2, fun i j a b v u q h1 _ _ _ f _ => ?_, fun i a v q h1 _ f => ?_, fun i a v h1 _ h3 => ⟨B, Sub.rfl', by
    obtain ⟨_, u, h4, h5⟩ := g' i a h1
    rw [h3] at h4
    cases h4
    exact h5⟩⟩
  all_goals
    have := keep_no (no _ (g' i _ h1).1)
    rw [fp_owns f] at this
    cases this
end
/-- THE RULE for a def from which nothing is raised -/
theorem fn_ws {P : Program} {w : World} {K : PySem.W.Frag} {mg : Str → Option Value} {base : Heap} {x qual : Str} {st : Stmt} {f : Addr} {fd : FuncData} {N ps : List Str} {k : Nat} {rel : Hp → Hp → List A → R → Prop} (F : Fun K x qual st f fd) (S : FnScope N ps (defScope st))
    (h : ∀ B H as r, Sub B H → rel B H as r → (as.length = ps.length ∧ ∀ a ∈ as, keep a = true) ∧ ∃ a, r = .ret a ∧ ∀ cdv A outer s0 H0 E, Room k (A.deeper (PyProof.Rows.envOfC qual (defScope st) s0.heap.objs.size f cdv)) → Ws (cxOf CX0 P w K mg base N qual (defScope st) f cdv A outer s0 H0 E).nox B H (startD N as) (defBody st) { nx := fun B' H' _ => Ext B H B' H' ∧ a = .d .none, rt := fun B' H' _ a' => Ext B H B' H' ∧ a' = a }) : FnOk P w K mg base CX0 (k + 1) f fd ps (spG K rel) := by
  refine F.ok S (fun vs H Q E ⟨B, as, r, s, ra, hr, _⟩ => by rw [ra.len]; exact (h B H as r s hr).1.1) fun cdv A outer s0 H vs Q E hroom ⟨B, as, r, s, ra, hr, q⟩ => ?_
  obtain ⟨⟨h1, h2⟩, a, rfl, h3⟩ := h B H as r s hr
  refine ⟨_, h3 cdv A outer s0 H E hroom, B, .rfl' s, sd_start s ra h2, ⟨fun B1 H1 δ σ B' H' ⟨e1, e2⟩ _ E1 S1 => ?_, fun B1 H1 _ a' _ v B' H' ⟨e1, e2⟩ E1 _ r1 f1 => ?_, fun _ _ _ _ _ _ z => z.elim, fun _ _ _ _ _ _ z => z.elim⟩⟩
  · subst e2
    exact q .non B' H' (e1.tr E1) .non fun _ z => z.elim
  · subst e2
    exact q v B' H' (e1.tr E1) r1 fun x f => sub_free e1.h (f1 x f)
end GL

set_option Elab.async false
set_option linter.all false
set_option maxRecDepth 100000
set_option maxHeartbeats 4000000
namespace GL
open PySem PySem.Spec L2

/-! ### rules that are found by what the values are -/
/-- a1 + a2, where side holds -/
class AddR (a1 a2 : A) (side : outParam Prop) (a : outParam A) : Prop where
  ok : side → ∀ (X : Cx) (B0 H0 : Hp) (δ : List (Option A)) (e1 e2 : Expr) (pos : Pos), Pe X B0 H0 δ e1 a1 → Pe X B0 H0 δ e2 a2 → Pe X B0 H0 δ (.BinOp e1 .Add e2 pos) a
instance ad_int {i j : Int} : AddR (.d (.int i)) (.d (.int j)) True (.d (.int (i + j))) := ⟨fun _ _ _ _ _ _ _ _ h1 h2 => p_add h1 h2⟩
instance (priority := low) ad_list {a1 a2 xs ys} [Ls a1 xs] [Ls a2 ys] : AddR a1 a2 (xs.length + ys.length ≤ 1000) (.d (.list (xs ++ ys))) := ⟨fun s _ _ _ _ _ _ _ h1 h2 => (n_cat h1 h2 s).dat⟩
instance ad_li {a1 a2} {xs ys : List Int} [Ls a1 (xs.map .int)] [Ls a2 (ys.map .int)] : AddR a1 a2 (xs.length + ys.length ≤ 1000) (.d (li (xs ++ ys))) := ⟨fun s _ _ _ _ _ _ _ h1 h2 => (n_cat h1 h2 (by rw [List.length_map, List.length_map]; exact s)).dat.is (by simp only [li, List.map_append])⟩
instance (priority := low) ad_tuple {xs ys} : AddR (.d (.tuple xs)) (.d (.tuple ys)) (xs.length + ys.length ≤ 1000) (.d (.tuple (xs ++ ys))) := ⟨fun s _ _ _ _ _ _ _ h1 h2 => p_catT h1 h2 s⟩
instance ad_ti {xs ys : List Int} : AddR (.d (.tuple (xs.map .int))) (.d (.tuple (ys.map .int))) (xs.length + ys.length ≤ 1000) (.d (ti (xs ++ ys))) := ⟨fun s _ _ _ _ _ _ _ h1 h2 => (p_catT h1 h2 (by rw [List.length_map, List.length_map]; exact s)).is (by simp only [ti, List.map_append])⟩
/-- a1 == a2 -/
class EqR (a1 a2 : A) (side : outParam Prop) (b : outParam Bool) : Prop where
  ok : side → ∀ (X : Cx) (B0 H0 : Hp) (δ : List (Option A)) (e1 e2 : Expr), X.A.units + 64 < cLine → Pe X B0 H0 δ e1 a1 → Pe X B0 H0 δ e2 a2 → Pc X B0 H0 δ e1 .Eq e2 b ∧ Pc X B0 H0 δ e1 .NotEq e2 (!b)
instance eq_int {i j : Int} : EqR (.d (.int i)) (.d (.int j)) True (decide (i = j)) := ⟨fun _ _ _ _ _ _ _ _ h1 h2 => ⟨c_eqI h1 h2, c_neI h1 h2⟩⟩
instance eq_bool {i j : Bool} : EqR (.d (.bool i)) (.d (.bool j)) True (i == j) := ⟨fun _ _ _ _ _ _ _ _ h1 h2 => ⟨c_eqB h1 h2, c_neB h1 h2⟩⟩
instance eq_str {i j : Str} : EqR (.d (.str i)) (.d (.str j)) True (decide (i = j)) := ⟨fun _ _ _ _ _ _ _ _ h1 h2 => ⟨c_eqS h1 h2, c_neS h1 h2⟩⟩
instance eq_li {a1 a2} {xs ys : List Int} [Nw a1 (.list (xs.map .int))] [Nw a2 (.list (ys.map .int))] : EqR a1 a2 True (decide (xs = ys)) :=
  ⟨fun _ _ _ _ _ _ _ hu h1 h2 => ⟨(c_eq h1 h2 (sh_li xs) (sh_li ys) hu).is (eqv_li xs ys), (c_ne h1 h2 (sh_li xs) (sh_li ys) hu).is (congrArg _ (eqv_li xs ys))⟩⟩
instance eq_ti {a1 a2} {xs ys : List Int} [Nw a1 (.tuple (xs.map .int))] [Nw a2 (.tuple (ys.map .int))] : EqR a1 a2 True (decide (xs = ys)) :=
  ⟨fun _ _ _ _ _ _ _ hu h1 h2 => ⟨(c_eq h1 h2 (sh_ti xs) (sh_ti ys) hu).is (eqv_ti xs ys), (c_ne h1 h2 (sh_ti xs) (sh_ti ys) hu).is (congrArg _ (eqv_ti xs ys))⟩⟩
instance (priority := low) eq_any {a1 a2 d1 d2} [Nw a1 d1] [Nw a2 d2] : EqR a1 a2 (Sh 40 d1 ∧ Sh 40 d2) (PyData.eqv d1 d2) :=
  ⟨fun s _ _ _ _ _ _ hu h1 h2 => ⟨c_eq h1 h2 s.1 s.2 hu, c_ne h1 h2 s.1 s.2 hu⟩⟩
/-- a display's items -/
class DispR (as : List A) (xs : outParam (List PyData)) : Prop where
  ok : as = xs.map .d
class DispI (as : List A) (ns : outParam (List Int)) : Prop where
  ok : as = (ns.map PyData.int).map .d
instance di_nil : DispI [] [] := ⟨rfl⟩
instance di_cons {n ns as} [h : DispI as ns] : DispI (.d (.int n) :: as) (n :: ns) := ⟨by rw [h.ok]; rfl⟩
class DispA (as : List A) (xs : outParam (List PyData)) : Prop where
  ok : as = xs.map .d
instance da_nil : DispA [] [] := ⟨rfl⟩
instance da_cons {x xs as} [h : DispA as xs] : DispA (.d x :: as) (x :: xs) := ⟨by rw [h.ok]; rfl⟩
instance (priority := high) dr_int {as ns} [h : DispI as ns] : DispR as (ns.map .int) := ⟨h.ok⟩
instance (priority := low) dr_any {as xs} [h : DispA as xs] : DispR as xs := ⟨h.ok⟩

section
variable {X : Cx} {B0 H0 : Hp} {δ δ' : List (Option A)} {e e1 e2 e3 : Expr} {es : List Expr} {a a1 a2 a3 : A} {as : List A} {b c : Bool} {xs ys : List PyData} {x y d d1 d2 : PyData} {pos p1 p2 : Pos} {w : PyData → A} {side : Prop}
theorem q_add (h1 : Pe X B0 H0 δ e1 a1) (h2 : Pe X B0 H0 δ e2 a2) [r : AddR a1 a2 side a] (s : side) : Pe X B0 H0 δ (.BinOp e1 .Add e2 pos) a := r.ok s _ _ _ _ _ _ _ h1 h2
theorem q_eq (h1 : Pe X B0 H0 δ e1 a1) (h2 : Pe X B0 H0 δ e2 a2) [r : EqR a1 a2 side b] (s : side) (hu : X.A.units + 64 < cLine) : Pc X B0 H0 δ e1 .Eq e2 b := (r.ok s _ _ _ _ _ _ hu h1 h2).1
theorem q_ne (h1 : Pe X B0 H0 δ e1 a1) (h2 : Pe X B0 H0 δ e2 a2) [r : EqR a1 a2 side b] (s : side) (hu : X.A.units + 64 < cLine) : Pc X B0 H0 δ e1 .NotEq e2 (!b) := (r.ok s _ _ _ _ _ _ hu h1 h2).2
theorem q_list (h : Pa X B0 H0 δ es as) [r : DispR as xs] (hz : xs.length ≤ 1000) : Pe X B0 H0 δ (.List es pos) (.d (.list xs)) := p_list (by rw [← r.ok]; exact h) hz
theorem qn_list (h : Pa X B0 H0 δ es as) [r : DispR as xs] (hz : xs.length ≤ 1000) : Pn X B0 H0 δ (.List es pos) xs := n_list (by rw [← r.ok]; exact h) hz
theorem q_tuple {k : Nat} (h : Pa X B0 H0 δ es as) [r : DispR as xs] (hz : xs.length ≤ 1000) : Pe X B0 H0 δ (.Tuple es k pos) (.d (.tuple xs)) := p_tuple (by rw [← r.ok]; exact h) hz
/-- indices -/
theorem at_d {α : Type} {ns : List α} {f : α → PyData} {i : Int} {z : α} (h0 : 0 ≤ i) (h : ns[i.toNat]? = some z) : atI (ns.map f) i = some (f z) := by
  have e : atI (ns.map f) ((i.toNat : Nat) : Int) = some (f z) := atI_nat (by rw [List.getElem?_map, h]; rfl)
  rw [Int.toNat_of_nonneg h0] at e
  exact e
theorem at_i {ns : List Int} {i : Int} (h : 0 ≤ i ∧ i < ns.length) : atI (ns.map PyData.int) i = some (.int (ns.getD i.toNat 0)) := by
  have hl : i.toNat < ns.length := by omega
  refine at_d h.1 ?_
  rw [List.getD_eq_getElem?_getD, List.getElem?_eq_getElem hl]
  rfl
/-- [es][i] of a display: by cases -/
theorem at_0 {α : Type} {z : α} {zs : List α} : atI (z :: zs) 0 = some z := by
  have : atI (z :: zs) ((0 : Nat) : Int) = some z := atI_nat rfl
  exact this
theorem at_k {α : Type} {zs : List α} {z : α} (k : Nat) (h : zs[k]? = some z) : atI zs (k : Int) = some z := atI_nat h
end
end GL
namespace GL
open PySem PySem.Spec L2
/-- isinstance of data, one of five types -/
def isK (d : PyData) (T : String) : Bool := tn d == T || (tn d == "bool" && T == "int")
theorem kit_all : ∀ n ∈ ["NoneType", "bool", "int", "str", "list", "tuple", "dict"], ∀ T ∈ ["int", "bool", "str", "list", "tuple"], kitB n T = some (n == T || (n == "bool" && T == "int")) := by decide +kernel
theorem tn_in (d : PyData) : tn d ∈ ["NoneType", "bool", "int", "str", "list", "tuple", "dict"] := by cases d <;> simp [tn]
theorem kit_isK (d : PyData) {T : String} (h : T ∈ ["int", "bool", "str", "list", "tuple"]) : kitB (tn d) T = some (isK d T) := kit_all _ (tn_in d) _ h
section
variable {X : Cx} {B0 H0 : Hp} {δ δ' : List (Option A)} {e e1 e2 e3 : Expr} {es : List Expr} {a a1 a2 a3 : A} {as : List A} {b c : Bool} {xs ys : List PyData} {x y d d1 d2 : PyData} {pos p1 p2 : Pos} {w : PyData → A} {side : Prop}
theorem q_isi {T : Str} {tb : String} (ha : Pe X B0 H0 δ e1 a) [n : Nw a d] (hT : X.mg T = none) (hb : bootBuiltins T = some (.type tb)) (hm : X.mg "isinstance" = none) (hk : tb ∈ ["int", "bool", "str", "list", "tuple"] := by decide)
    (hgT : Gl X T := by rfl) (hg : Gl X "isinstance" := by rfl) (hn : T ≠ "__name__" := by decide) (hdb : (T == ("__debug__" : Str)) = false := by decide)
    (he : starEach [e1, .Name T p2] X.env = (false, eval e1 X.env) :: starEach [.Name T p2] X.env := by rfl) (he2 : starEach [.Name T p2] X.env = (false, eval (.Name T p2) X.env) :: starEach [] X.env := by rfl) (hpl : (backTo pos (starEach [.Name T p2] X.env)).any (·.1) = false := by rfl) :
    Pe X B0 H0 δ (.Call (.Name "isinstance" p1) [e1, .Name T p2] [] pos) (.d (.bool (isK d tb))) :=
  p_isi (x := "") (d := d) ha (fun B H v s r => n.at s r) hT hb (kit_isK d hk) hm hgT hg hn hdb he he2 hpl
/-- x, y = e, a tuple of two, plain names -/
theorem ws_two {E : AE} {rest : List Stmt} {i j : Nat} {n1 n2 : Str} {px py pt : Pos} {kt : Nat} (he : Pe X B0 H0 δ e (.d (.tuple [x, y]))) (hr : Ws X B0 H0 ((δ.set i (some (.d x))).set j (some (.d y))) rest E) (hN : X.N.Nodup) (hi : X.N[i]? = some n1) (hj : X.N[j]? = some n2) (hx : Loc X.env.scope n1) (hy : Loc X.env.scope n2) (hc : X.calm = true)
    (hf : X.fn n1 = true ∨ X.env.scope.names.lookup n1 = some .local := by first | exact .inl rfl | exact .inr rfl | assumption) (hf2 : X.fn n2 = true ∨ X.env.scope.names.lookup n2 = some .local := by first | exact .inl rfl | exact .inr rfl | assumption)
    (s1 : (assignEach [.Name n1 px, .Name n2 py] X.env).map (·.2) = assign (.Name n1 px) X.env :: (assignEach [.Name n2 py] X.env).map (·.2) := by rfl) (s2 : (assignEach [.Name n2 py] X.env).map (·.2) = assign (.Name n2 py) X.env :: (assignEach [] X.env).map (·.2) := by rfl)
    (hn : (assignEach [.Name n1 px, .Name n2 py] X.env).length = 2 := by rfl) (hst : (assignEach [.Name n1 px, .Name n2 py] X.env).findIdx? (·.1) = none := by rfl)
    (hs : swapsWithSole [.Tuple [.Name n1 px, .Name n2 py] kt pt] e pos.line X.env = pure false := by rfl) (hw : swappedStores [.Tuple [.Name n1 px, .Name n2 py] kt pt] e X.env = pure none := by rfl) (h1 : (assignEach [.Tuple [.Name n1 px, .Name n2 py] kt pt] X.env).map (·.2) = [assign (.Tuple [.Name n1 px, .Name n2 py] kt pt) X.env] := by rfl) :
    Ws X B0 H0 δ (.Assign [.Tuple [.Name n1 px, .Name n2 py] kt pt] e pos :: rest) E := by
  refine ws_cons (W := fun B H δ' => B = B0 ∧ H = H0 ∧ δ' = (δ.set i (some (.d x))).set j (some (.d y))) (ps_asg he (pg_tup hc (pgs_cons (pg_name hN hi hx hf) (pgs_cons (pg_name hN hj hy hf2) pgs_nil s2) s1) hn hst) hs hw h1) (fun B H δ' ⟨h1, h2, h3⟩ => by rw [h1, h2, h3]; exact hr) fun D σ H B E0 S z => ⟨B, E0, S, fun v B' H' E1 r => ?_⟩
  cases r with
  | @tup p vs _ hp hd =>
    cases hd with
    | @cons u _ _ _ d1 t =>
      cases t with
      | @cons u2 _ _ _ d2 t =>
        cases t
        refine ⟨p, [u, u2], rfl, .inl (.inl (E1.s _ _ hp)), rfl, u, [u2], rfl, u2, [], rfl, rfl, ?_⟩
        exact z.nx _ _ _ _ B' H' ⟨rfl, rfl, rfl⟩ E1.b (E0.tr E1) (SD.set (a := .d y) (SD.set (a := .d x) (S.mono E1) d1 rfl) d2 rfl)
end
end GL
namespace GL
open PySem PySem.Spec L2
theorem upto_get {n k : Nat} {x : PyData} (h : (upto n)[k]? = some x) : k < n ∧ x = .int (k : Nat) := by
  have hl : (upto n).length = n := by unfold upto; rw [List.length_map, List.length_range]
  have hk : k < n := by rw [← hl]; exact (List.getElem?_eq_some_iff.mp h).1
  unfold upto at h
  rw [List.getElem?_map, List.getElem?_range hk] at h
  exact ⟨hk, (Option.some.inj h).symm⟩
theorem map_get {α : Type} {zs : List α} {f : α → PyData} {k : Nat} {x : PyData} (h : (zs.map f)[k]? = some x) : ∃ z, zs[k]? = some z ∧ z ∈ zs ∧ x = f z := by
  rw [List.getElem?_map] at h
  cases q : zs[k]? with
  | none => rw [q] at h; cases h
  | some z =>
    rw [q] at h
    exact ⟨z, rfl, List.mem_of_getElem? q, (Option.some.inj h).symm⟩
end GL
namespace GL
open PySem PySem.Spec L2
theorem kn_of {P : Program} {w : World} {K : PySem.W.Frag} {mg : Str → Option Value} {base : Heap} {x : Str} {k : Nat} {rel : Hp → Hp → List A → R → Prop} {f : Addr} {fd : FuncData} {ps : List Str} (F : FnOk P w K mg base CX0 k f fd ps (spG K rel)) (hm : mg x = some (.ref f)) (hk : PySem.W.keepIn K (.ref f) = true) (hb : Binds K fd ps []) : Kn P w K mg base x k rel :=
  ⟨CX0, f, fd, ps, fun _ _ _ => pass0, F, hm, hk, hb⟩
/-- the law's own call -/
theorem law_in {K : PySem.W.Frag} {H : Hp} {a : Addr} {ns : List Int} {rel : Hp → Hp → List A → R → Prop} (hl : ns.length ≤ 63) (hS : SqL K H a (ns.map V.int)) (h : ∀ B H, rel B H [.s ns] (.ret (.d (.bool true)))) : spG K rel [.ref a] H (fun v _ => v = .bl true) E0 :=
  ⟨H, [.s ns], .ret (.d (.bool true)), Sub.rfl', .cons ⟨a, rfl, hS⟩ .nil, h H H, fun v B' H' _ r _ => by cases r; rfl⟩
end GL
namespace GL
open PySem PySem.Spec L2
theorem map_cut {α β : Type} (f : α → β) (xs : List α) (lo hi : Option Int) : cut (xs.map f) lo hi = (cut xs lo hi).map f := by
  unfold cut
  rw [List.map_take, List.map_drop, List.length_map]
theorem six_nat {n d : Nat} {i : Int} (h : 0 ≤ i) : HT.sIx n d (some i) = min i.toNat n := by
  have := HT.sIx_nat n d i.toNat
  rwa [Int.toNat_of_nonneg h] at this
theorem cut_to {α : Type} {xs : List α} {i : Int} (h : 0 ≤ i) : cut xs none (some i) = xs.take i.toNat := by
  unfold cut
  rw [six_nat h]
  show List.take (min i.toNat xs.length - 0) (xs.drop 0) = _
  rw [List.drop_zero, Nat.sub_zero]
  by_cases hh : i.toNat ≤ xs.length
  · rw [Nat.min_eq_left hh]
  · rw [Nat.min_eq_right (by omega), List.take_length, List.take_of_length_le (by omega)]
theorem cut_from {α : Type} {xs : List α} {i : Int} (h : 0 ≤ i) : cut xs (some i) none = xs.drop i.toNat := by
  unfold cut
  rw [six_nat h]
  show List.take (xs.length - min i.toNat xs.length) (xs.drop (min i.toNat xs.length)) = _
  by_cases hh : i.toNat ≤ xs.length
  · rw [Nat.min_eq_left hh, List.take_of_length_le (by rw [List.length_drop]; exact Nat.le_refl _)]
  · rw [Nat.min_eq_right (by omega), List.drop_length, List.drop_of_length_le (by omega), List.take_nil]
/-- a[l:u] -/
class SliceR (a : A) (r : outParam (Option Int → Option Int → A)) : Prop where
  ok : ∀ (X : Cx) (B0 H0 : Hp) (δ : List (Option A)) (e : Expr) (lo hi : Option Expr) (l u : Option Int) (p2 pos : Pos), Pe X B0 H0 δ e a → Po X B0 H0 δ lo l → Po X B0 H0 δ hi u → Pe X B0 H0 δ (.Subscript e (.Slice lo hi none p2) pos) (r l u)
instance (priority := low) sl_any {a xs} [Ls a xs] : SliceR a (fun l u => .d (.list (cut xs l u))) := ⟨fun X _ _ _ _ _ _ _ _ _ _ h h1 h2 => (n_slice h h1 h2 (fun B H v s r => ls_sl X.K B H v s r)).dat⟩
instance sl_li {a} {ns : List Int} [Ls a (ns.map .int)] : SliceR a (fun l u => .d (li (cut ns l u))) := ⟨fun X _ _ _ _ _ _ _ _ _ _ h h1 h2 => (n_slice h h1 h2 (fun B H v s r => ls_sl X.K B H v s r)).dat.is (by simp only [li, cutD, map_cut])⟩
instance sl_sc {ns : List Int} : SliceR (.s ns) (fun l u => .d (li (cut ns l u))) := ⟨fun X _ _ _ _ _ _ _ _ _ _ h h1 h2 => (n_slice h h1 h2 (fun B H v s r => sc_sl X.K B H v s r)).dat.is (by simp only [li, cutD, map_cut])⟩
instance (priority := low) sl_tuple {xs} : SliceR (.d (.tuple xs)) (fun l u => .d (.tuple (cut xs l u))) := ⟨fun _ _ _ _ _ _ _ _ _ _ _ h h1 h2 => p_sliceT h h1 h2⟩
instance sl_ti {ns : List Int} : SliceR (.d (.tuple (ns.map .int))) (fun l u => .d (ti (cut ns l u))) := ⟨fun _ _ _ _ _ _ _ _ _ _ _ h h1 h2 => (p_sliceT h h1 h2).is (by simp only [ti, cutD, map_cut])⟩
/-- tuple(a) -/
class TupR (a : A) (r : outParam A) : Prop where
  ok : ∀ (X : Cx) (B0 H0 : Hp) (δ : List (Option A)) (e : Expr) (p1 pos : Pos), Pe X B0 H0 δ e a → X.mg "tuple" = none → Gl X "tuple" → starEach [e] X.env = (false, eval e X.env) :: starEach [] X.env → Pe X B0 H0 δ (.Call (.Name "tuple" p1) [e] [] pos) r
instance tup_l {xs} : TupR (.d (.list xs)) (.d (.tuple xs)) := ⟨fun _ _ _ _ _ _ _ h h1 h2 h3 => p_tuple1 h h1 h2 h3⟩
instance tup_t {xs} : TupR (.d (.tuple xs)) (.d (.tuple xs)) := ⟨fun _ _ _ _ _ _ _ h h1 h2 h3 => p_tuple2 h h1 h2 h3⟩
/-- x in a -/
class InR (a1 a2 : A) (b : outParam Bool) : Prop where
  ok : ∀ (X : Cx) (B0 H0 : Hp) (δ : List (Option A)) (e1 e2 : Expr), Pe X B0 H0 δ e1 a1 → Pe X B0 H0 δ e2 a2 → (behindInMarks .In e2 = false → Pc X B0 H0 δ e1 .In e2 b) ∧ (behindInMarks .NotIn e2 = false → Pc X B0 H0 δ e1 .NotIn e2 (!b))
instance in_int {i : Int} {a2} {ns : List Int} {w} [Sq a2 (ns.map .int) w] : InR (.d (.int i)) a2 (decide (i ∈ ns)) := ⟨fun _ _ _ _ _ _ h1 h2 => ⟨fun m => c_in h1 h2 m, fun m => c_notIn h1 h2 m⟩⟩
theorem inV_bl (i : Bool) : ∀ ns : List Bool, inV (V.bl i) (ns.map V.bl) = ns.contains i
  | [] => rfl
  | n :: ns => by
    have ih := inV_bl i ns
    unfold inV at ih ⊢
    rw [List.map_cons, List.any_cons, ih, List.contains_cons]
    cases i <;> cases n <;> rfl
theorem flat_bl : ∀ ns : List Bool, (ns.map V.bl).all flatV = true
  | [] => rfl
  | n :: ns => by rw [List.map_cons, List.all_cons, flat_bl ns]; rfl
section
variable {X : Cx} {B0 H0 : Hp} {δ δ' : List (Option A)} {e e1 e2 e3 : Expr} {es : List Expr} {a a1 a2 a3 : A} {as : List A} {b c : Bool} {xs ys : List PyData} {x y d d1 d2 : PyData} {pos p1 p2 : Pos} {w : PyData → A} {side : Prop} {r : Option Int → Option Int → A}
theorem q_slice {lo hi : Option Expr} {l u : Option Int} (h : Pe X B0 H0 δ e a) (h1 : Po X B0 H0 δ lo l) (h2 : Po X B0 H0 δ hi u) [q : SliceR a r] : Pe X B0 H0 δ (.Subscript e (.Slice lo hi none p2) pos) (r l u) := q.ok _ _ _ _ _ _ _ _ _ _ _ h h1 h2
theorem q_tup1 (h : Pe X B0 H0 δ e a1) (hm : X.mg "tuple" = none) [q : TupR a1 a] (hg : Gl X "tuple" := by rfl) (he : starEach [e] X.env = (false, eval e X.env) :: starEach [] X.env := by rfl) : Pe X B0 H0 δ (.Call (.Name "tuple" p1) [e] [] pos) a := q.ok _ _ _ _ _ _ _ h hm hg he
theorem q_in (h1 : Pe X B0 H0 δ e1 a1) (h2 : Pe X B0 H0 δ e2 a2) [q : InR a1 a2 b] (hm : behindInMarks .In e2 = false := by rfl) : Pc X B0 H0 δ e1 .In e2 b := (q.ok _ _ _ _ _ _ h1 h2).1 hm
theorem q_notIn (h1 : Pe X B0 H0 δ e1 a1) (h2 : Pe X B0 H0 δ e2 a2) [q : InR a1 a2 b] (hm : behindInMarks .NotIn e2 = false := by rfl) : Pc X B0 H0 δ e1 .NotIn e2 (!b) := (q.ok _ _ _ _ _ _ h1 h2).2 hm
/-- a truth value in a list of such -/
theorem c_inB {i : Bool} {ns : List Bool} (ha : Pe X B0 H0 δ e1 (.d (.bool i))) (hb : Pe X B0 H0 δ e2 a2) [hs : Sq a2 (ns.map .bool) w] : (behindInMarks .In e2 = false → Pc X B0 H0 δ e1 .In e2 (ns.contains i)) ∧ (behindInMarks .NotIn e2 = false → Pc X B0 H0 δ e1 .NotIn e2 (!ns.contains i)) := by
  refine ⟨fun hm => ⟨_, _, _, op_in_seq, ha, hb, hm, fun B H u v Q s r1 r2 k => ?_⟩, fun hm => ⟨_, _, _, op_notIn_seq, ha, hb, hm, fun B H u v Q s r1 r2 k => ?_⟩⟩
  all_goals
    obtain ⟨p, vs, rfl, hq, hd, _⟩ := hs.at s r2
    have e := dqs_bls ns hd
    subst e
    refine ⟨p, _, rfl, hq, by rw [ra_bl r1]; rfl, flat_bl ns, ?_⟩
    rw [ra_bl r1]
  · show Q (.bl (inV (V.bl i) (ns.map V.bl))) H
    rw [inV_bl]
    exact k
  · show Q (.bl (!inV (V.bl i) (ns.map V.bl))) H
    rw [inV_bl]
    exact k
end
instance in_bool {i : Bool} {a2} {ns : List Bool} {w} [Sq a2 (ns.map .bool) w] : InR (.d (.bool i)) a2 (ns.contains i) := ⟨fun _ _ _ _ _ _ h1 h2 => c_inB h1 h2⟩
class DispB (as : List A) (ns : outParam (List Bool)) : Prop where
  ok : as = (ns.map PyData.bool).map .d
instance db_nil : DispB [] [] := ⟨rfl⟩
instance db_cons {n ns as} [h : DispB as ns] : DispB (.d (.bool n) :: as) (n :: ns) := ⟨by rw [h.ok]; rfl⟩
instance dr_bool {as ns} [h : DispB as ns] : DispR as (ns.map .bool) := ⟨h.ok⟩
instance ad_lb {a1 a2} {xs ys : List Bool} [Ls a1 (xs.map .bool)] [Ls a2 (ys.map .bool)] : AddR a1 a2 (xs.length + ys.length ≤ 1000) (.d (.list ((xs ++ ys).map .bool))) := ⟨fun s _ _ _ _ _ _ _ h1 h2 => (n_cat h1 h2 (by rw [List.length_map, List.length_map]; exact s)).dat.is (by simp only [List.map_append])⟩
end GL
namespace GL
open PySem PySem.Spec L2
theorem zip_ints : ∀ xs ys : List Int, List.zipWith (fun x y => PyData.tuple [x, y]) (xs.map PyData.int) (ys.map PyData.int) = (xs.zip ys).map fun z => .tuple [.int z.1, .int z.2]
  | [], _ => by simp
  | _ :: _, [] => by simp
  | x :: xs, y :: ys => by
    rw [List.map_cons, List.map_cons, List.zipWith_cons_cons, zip_ints xs ys]
    rfl
theorem rep_ints (n : Nat) (i : Int) : (List.replicate n [PyData.int i]).flatten = (List.replicate n i).map PyData.int := by
  induction n with
  | zero => rfl
  | succ n ih => rw [List.replicate_succ, List.flatten_cons, ih, List.replicate_succ]; rfl
end GL
namespace GL
open PySem PySem.Spec L2
/-- what is walked: a list, a tuple, the script -/
class IterR (a : A) (xs : outParam (List PyData)) : Prop where
  ok : ∀ (X : Cx) (B0 H0 : Hp) (δ : List (Option A)) (tg iter : Expr), Pe X B0 H0 δ iter a → Pi X B0 H0 δ tg iter xs
instance it_l {xs} : IterR (.d (.list xs)) xs := ⟨fun _ _ _ _ _ _ h => i_list h⟩
instance it_t {xs} : IterR (.d (.tuple xs)) xs := ⟨fun _ _ _ _ _ _ h => i_tuple h⟩
instance it_s {ns} : IterR (.s ns) (ns.map .int) := ⟨fun _ _ _ _ _ _ h => i_script h⟩
/-- .. of a comprehension -/
class IterQ (a : A) (xs : outParam (List PyData)) : Prop where
  ok : ∀ (X : Cx) (B0 H0 : Hp) (δ : List (Option A)) (tg iter : Expr), Pe X B0 H0 δ iter a → Pir X B0 H0 δ tg iter xs
instance (priority := low) iq_d {a xs} [q : IterR a xs] : IterQ a xs := ⟨fun _ _ _ _ _ _ h => (q.ok _ _ _ _ _ _ h).r⟩
instance iq_r {xs} : IterQ (.r xs) xs := ⟨fun _ _ _ _ _ _ h => i_read h⟩
instance iq_o {xs} : IterQ (.o xs) xs := ⟨fun _ _ _ _ _ _ h => i_read h⟩
instance iq_p {p xs} : IterQ (.op p xs) xs := ⟨fun _ _ _ _ _ _ h => i_read h⟩
theorem q_iterR {X : Cx} {B0 H0 : Hp} {δ : List (Option A)} {a : A} {xs : List PyData} {tg iter : Expr} (h : Pe X B0 H0 δ iter a) [q : IterQ a xs] : Pir X B0 H0 δ tg iter xs := q.ok _ _ _ _ _ _ h
theorem q_iter {X : Cx} {B0 H0 : Hp} {δ : List (Option A)} {a : A} {xs : List PyData} {tg iter : Expr} (h : Pe X B0 H0 δ iter a) [q : IterR a xs] : Pi X B0 H0 δ tg iter xs := q.ok _ _ _ _ _ _ h
end GL
namespace GL
open PySem PySem.Spec L2
/-- len(a) -/
class LenR (a : A) (n : outParam Nat) : Prop where
  ok : ∀ (X : Cx) (B0 H0 : Hp) (δ : List (Option A)) (e : Expr) (p1 pos : Pos), Pa X B0 H0 δ [e] [a] → X.mg "len" = none → Gl X "len" → starEach [e] X.env = (false, eval e X.env) :: starEach [] X.env → Pe X B0 H0 δ (.Call (.Name "len" p1) [e] [] pos) (.d (.int n))
instance (priority := low) len_any {a xs w} [Sq a xs w] : LenR a xs.length := ⟨fun _ _ _ _ _ _ _ h hm hg he => p_len h hm hg he⟩
instance len_map {α : Type} {a} {zs : List α} {f : α → PyData} {w} [Sq a (zs.map f) w] : LenR a zs.length := ⟨fun _ _ _ _ _ _ _ h hm hg he => (p_len h hm hg he).is (by rw [List.length_map])⟩
theorem q_len {X : Cx} {B0 H0 : Hp} {δ : List (Option A)} {a : A} {n : Nat} {e : Expr} {p1 pos : Pos} (h : Pa X B0 H0 δ [e] [a]) (hm : X.mg "len" = none) [q : LenR a n] (hg : Gl X "len" := by rfl) (he : starEach [e] X.env = (false, eval e X.env) :: starEach [] X.env := by rfl) : Pe X B0 H0 δ (.Call (.Name "len" p1) [e] [] pos) (.d (.int n)) := q.ok _ _ _ _ _ _ _ h hm hg he
end GL

set_option Elab.async false
set_option linter.all false
set_option maxRecDepth 100000
set_option maxHeartbeats 8000000
/-! set(xs) of a list of ints, with the table's order known, and sorted(set(xs)) -/
namespace GL
open PySem PySem.Spec PyProof.Rows L2
/-- the empty set, just made -/
abbrev set0 (w : World) : Obj := ⟨.type "set", none, .set #[] 0 (.fresh 0 0 (!w.params.followText "set-order")), #[]⟩
section
variable {P : Program} {w : World} {A : Around} {E : Value → Shared → Prop} {s : Shared}
theorem set_of_list {p : Addr} {its : Array Value} (ns : List Int) {Q : Value → Shared → Prop} (noh : A.handled = none) (hp : s.heap.IsList p its) (hn : IntsAre its.toList ns) (hb : ns.length + 1 < scanBound)
    (k : ∀ (g : Heap) (tk c : Nat), SetR w g s.heap.objs.size (fun j => decide (j ∈ ns)) c → c ≤ ns.length → (∀ b o, s.heap.get? b = some o → g.get? b = some o) → Q (.ref s.heap.objs.size) { s with heap := g, toks := tk }) :
    wpAny (model P w) A (call (.type "set") [.ref p]) Q E s := by
  have size : its.size = ns.length := by
    have l := IntsAre.length hn
    rwa [Array.length_toList] at l
  have newS : (s.heap.push (set0 w)).get? s.heap.objs.size = some (set0 w) := Heap.get?_push_size _ rfl
  obtain ⟨c0, tl, mro⟩ := F.called_set.mro
  have m1 := F.called_set.made
  have m2 := F.called_set.sub
  have m3 := F.called_set.notType
  have m4 := F.called_set.canCreate
  have m5 := F.typeCall_set_1 (.ref p)
  refine wpAny_call (codeAny_of_tree (show wpAny _ _ (callAny (.type "set") _) _ _ _ from ?_))
  refine wpAny_pure ⟨Code.quiet_builtin _ (by decide +kernel), codeAny_builtin F.entry_type_call ?_⟩
  rw [Around.under_plain (weight_type_call_type "set" [.ref p] []) rfl]
  repeat (any_goals (first | assumption | wp_step))
  refine codeAny_mono (code_set_led1 (.ref p) (E := E) (Q₁ := fun ob s1 => ob = .ref s.heap.objs.size ∧ s1 = { s with heap := s.heap.push (set0 w) }) ⟨rfl, rfl⟩) fun r s1 hr => ?_
  match r, hr with
  | .error e, hr => exact hr
  | .ok (.ret ob), hr =>
    obtain ⟨rfl, rfl⟩ := hr
    have ty : Shared.TypeIs { s with heap := s.heap.push (set0 w) } (.ref s.heap.objs.size) "set" := ⟨_, newS, rfl⟩
    have m6 := F.called_set.init.lookup
    have m7 := F.called_set.init.bind (.ref s.heap.objs.size)
    repeat (any_goals (first | assumption | wp_step))
    refine codeAny_mono (codeAny_call_builtin (R := wants (fun r s2 => r = .none ∧ ∃ g tk c, s2 = { s with heap := g, toks := tk } ∧ SetR w g s.heap.objs.size (fun j => decide (j ∈ ns)) c ∧ c ≤ ns.length ∧
        (∀ b o, s.heap.get? b = some o → g.get? b = some o)) E) F.called_set.init.plain F.entry_set_init (check_set_init_1 ty ?_)) fun r2 s2 hr2 => ?_
    · obtain ⟨⟨lc, ld, la, ls⟩, at_p, ec, nl, ed⟩ := hp
      simp only at ec ed
      subst ec ed
      have at1 : (s.heap.push (set0 w)).get? p = some ⟨.type "list", ld, .seq its nl, ls⟩ := Heap.get?_push_of_some _ at_p
      have lis : (s.heap.push (set0 w)).IsList p its := ⟨_, at1, rfl, nl, rfl⟩
      have f1 := F.sub_list_set
      have f2 := F.sub_list_frozenset
      have f3 : (Value.type "list" == Value.type "dict") = false := by decide
      unfold Builtin.«set.__init__» noKeywords Builtin.Frozenset.updateFrom
      generalize eI : pyIter = I0
      wp_walk
      subst eI
      refine wpAny_pyIter_list lis (wpAny_bind (wpAny_runValue ?_))
      have small : p < s.heap.objs.size := Heap.lt_size at_p
      have noh3 : A.in1.in1.in1.handled = none := by simp [noh]
      have ne1 : p ≠ (s.heap.push (set0 w)).objs.size := by
        rw [Heap.size_push]
        exact Nat.ne_of_lt (Nat.lt_succ_of_lt small)
      have ne2 : s.heap.objs.size ∉ [(s.heap.push (set0 w)).objs.size, p] := by
        rw [Heap.size_push]
        simp only [List.mem_cons, List.mem_singleton, List.not_mem_nil, or_false, not_or]
        exact And.intro (Nat.ne_of_lt (Nat.lt_succ_self _)) (Nat.ne_of_gt small)
      have vals : ∀ (i : Nat) (v : Value), its[i]? = some v → ∃ k t, ns[i]? = some k ∧ v = .int k t := fun i v hv => by
        have hi : i < ns.length := by rw [← size]; exact (Array.getElem?_eq_some_iff.mp hv).1
        obtain ⟨t, e⟩ := IntsAre.int_at hn i v (by rw [Array.getElem?_toList]; exact hv)
        refine ⟨ns[i], t, List.getElem?_eq_getElem hi, ?_⟩
        rw [e, List.getD_eq_getElem?_getD, List.getElem?_eq_getElem hi] <;> rfl
      refine set_update_ints ((Walks.list noh3 _ p ne1 its).toS) s.heap.objs.size ne2 ns size hb vals (its.size - 0) 0 _ (by omega) (Nat.zero_le _) ⟨⟨_, Heap.get?_push_size _ rfl, rfl, rfl⟩, (lis.push _)⟩
        ⟨0, Nat.le_refl 0, setR_new_at (Heap.get?_push_of_some _ newS)⟩ ?_
      rintro ⟨g, g2, d2, tk2, os2⟩ c2 mv hc2 hS2
      have q1 : g2 = s.gens := mv.gens
      have q2 : d2 = s.drawn := mv.drawn
      have q3 : os2 = s.os := mv.os
      subst q1 q2 q3
      rw [size] at hc2
      refine wpAny_pure (show wpAny _ _ (ret Value.none) _ _ _ from wpAny_pure ⟨rfl, g, tk2, c2, rfl, hS2, hc2, fun b o e => ?_⟩)
      have lt : b < s.heap.objs.size := Heap.lt_size e
      refine mv.heap b o ?_ (Heap.get?_push_of_some _ (Heap.get?_push_of_some _ e))
      simp only [List.mem_cons, List.mem_singleton, List.not_mem_nil, or_false, not_or]
      rw [Heap.size_push]
      exact And.intro (Nat.ne_of_lt lt) (Nat.ne_of_lt (Nat.lt_succ_of_lt lt))
    · match r2, hr2 with
      | .error e, hr2 => exact hr2
      | .ok (.ret v), hr2 =>
        obtain ⟨rfl, g, tk, c, rfl, hS2, hc2, hk2⟩ := hr2
        repeat (any_goals (first | assumption | wp_step))
        exact k _ _ _ hS2 hc2 hk2
end
end GL

set_option Elab.async false
set_option linter.all false
set_option maxRecDepth 100000
set_option maxHeartbeats 8000000
namespace GL
open PySem PySem.Spec PyProof.Rows L2
section
variable {X : Cx} {B0 H0 : Hp} {δ : List (Option A)} {e : Expr} {xs : List PyData} {pos p1 p2 p3 : Pos}
def rSetI (w : World) : List V → Hp → VK → Prop := fun vs H Q => ∃ (p : Addr) (ns : List Int), vs = [V.ref p] ∧ H p = some (HO.lst (ns.map V.int)) ∧ ns.length < 60 ∧ ∀ (q : Addr) (c : Nat), H q = none → c ≤ ns.length → Q (.ref q) (upd H q (SetO w q (fun j => decide (j ∈ ns)) c))
theorem cr_setI (hc : X.calm = true) : CallR X (.type "set") (rSetI X.w) := by
  intro pins s σ H vs us Q J r ⟨p, ns, ev, hp, hl, q⟩
  subst ev
  rw [Vals.ref1 r]
  obtain ⟨its, n, rv, ho, hz⟩ := J.lst hp
  refine set_of_list ns (J.ok.hd hc) ⟨_, ho, rfl, n, rfl⟩ (by simpa using RZ.intsAre_vals rv) (by unfold scanBound; omega) fun g tk c hS hc2 hk => ?_
  have fresh := J.hok.fresh (Nat.le_refl s.heap.objs.size)
  exact ⟨.ref s.heap.objs.size, upd H s.heap.objs.size (SetO X.w s.heap.objs.size (fun j => decide (j ∈ ns)) c), J.laid (t' := tk) hk (Nat.le_refl _) (setO_new hS), rfl, q _ c fresh hc2⟩
/-- sorted(set(xs)), few ints -/
theorem n_sortedSet {ns ms : List Int} (ha : Pe X B0 H0 δ e (.d (.list (ns.map .int)))) (hl : ns.length < 60) (hu : ∀ zs : List Int, zs.Pairwise (· < ·) → (∀ z, z ∈ zs ↔ z ∈ ns) → zs = ms) (hc : X.calm = true) (hm : X.mg "sorted" = none) (hm2 : X.mg "set" = none) (hg : Gl X "sorted" := by rfl) (hg2 : Gl X "set" := by rfl)
    (he : starEach [e] X.env = (false, eval e X.env) :: starEach [] X.env := by rfl) (he2 : starEach [.Call (.Name "set" p2) [e] [] p3] X.env = (false, eval (.Call (.Name "set" p2) [e] [] p3) X.env) :: starEach [] X.env := by rfl) :
    Pn X B0 H0 δ (.Call (.Name "sorted" p1) [.Call (.Name "set" p2) [e] [] p3] [] pos) (ms.map .int) := by
  have inner := pe_callTy (x := "set") (p := p2) (pos := p3) (cr_setI hc) hg2 hm2 boot_set (pa_cons ha pa_nil he) (by decide) (by decide) he rfl
  refine pe_to (pe_callB (x := "sorted") (p := p1) (pos := pos) (cr_sortedSet hc) hg hm boot_sorted (pa_cons inner pa_nil he2) (by decide) (by decide) he2 rfl) fun σ H Q ⟨B, E0, S, k⟩ => ⟨B, E0, S, fun v B1 H1 E1 r => ?_⟩
  cases r with
  | @lst p vs _ hp d =>
    rw [dqs_ints ns d] at hp
    refine ⟨p, ns, rfl, E1.s _ _ hp, hl, fun q c hq hc2 => ?_⟩
    refine ⟨q, _, c, rfl, upd_same, by omega, fun zs p2 h1 h2 h3 h4 => ?_⟩
    rw [hu zs h1 fun z => by rw [h2 z]; exact decide_eq_true_iff]
    have E2 : Ext B H B1 (upd H1 q (SetO X.w q (fun j => decide (j ∈ ns)) c)) := E1.tr (.own E1.s hq)
    exact Wn.lst (wn_mono _ _ _ _ _ k E2) E2.s h4 (ints_dqs ms)
end
end GL

set_option Elab.async false
set_option linter.all false
set_option maxRecDepth 100000
set_option maxHeartbeats 4000000
/-! raise, try .. except .. as, isinstance of a caught error -/
namespace GL
open PySem PySem.Spec L2

theorem takesN {X : Cx} : L2N.Takes X (fun _ _ _ _ => False) := fun _ _ x => by
  obtain ⟨_, _, _, _, _, _, _, _, _, _, _, _, _, _, _, _, z⟩ := x
  exact z.elim
theorem passN {X : Cx} : Passes (L2N.CX X.prog X.w) X E0 := fun _ _ _ _ _ _ _ h => by
  obtain ⟨_, _, _, _, _, _, _, _, _, _, _, _, z⟩ := h
  exact z.elim
section
variable {P : Program} {w : World} {K : PySem.W.Frag} {mg : Str → Option Value} {base : Heap}
theorem fun_okN {x qual : Str} {st : Stmt} {f : Addr} {fd : FuncData} {N ps : List Str} {k : Nat} {sp : Sp} (F : Fun K x qual st f fd) (S : FnScope N ps (defScope st)) (len : ∀ vs H Q E, sp vs H Q E → vs.length = ps.length)
    (hbody : ∀ (cdv : Value) (A : Around) (outer : List Env) (s : Shared) (H : Hp) (vs : List V) (Q : VK) (E : XK), Room k (A.deeper (PyProof.Rows.envOfC qual (defScope st) s.heap.objs.size f cdv)) → sp vs H Q E →
      ∃ t, PSs (cxOf (L2N.CX P w) P w K mg base N qual (defScope st) f cdv A outer s H E) (defBody st) t ∧ t { nx := fun _ H' => Q .non H', rt := Q } (start N vs) H) : FnOk P w K mg base (L2N.CX P w) (k + 1) f fd ps sp := by
  obtain ⟨oc, od, kV, doc, pm, an, cdv, ct, osl, rfl, lk, hcd⟩ := F.ex
  exact fn_of lk hcd S len fun A outer s H vs Q E hr hsp => hbody cdv A outer s H vs Q E hr hsp
end
/-- an error of the class at C may be let out here -/
def Rz (X : Cx) (B0 H0 : Hp) (δ : List (Option A)) (C : Addr) : Prop := ∃ W : WX, L2N.Takes X W ∧ ∀ σ B' H', Ext B0 H0 B' H' → SD X.K H0 B' H' σ δ → W (.ref C) none σ H'
/-- a def that may raise, known by its name -/
structure KnX (P : Program) (w : World) (K : PySem.W.Frag) (mg : Str → Option Value) (base : Heap) (x : Str) (k : Nat) (rel : Hp → Hp → List A → R → Prop) : Prop where
  ex : ∃ f fd ps, FnOk P w K mg base (L2N.CX P w) k f fd ps (spG K rel) ∧ mg x = some (.ref f) ∧ PySem.W.keepIn K (.ref f) = true ∧ Binds K fd ps []
theorem KnX.kn {P : Program} {w : World} {K : PySem.W.Frag} {mg : Str → Option Value} {base : Heap} {x : Str} {k : Nat} {rel : Hp → Hp → List A → R → Prop} (F : KnX P w K mg base x k rel) : Kn P w K mg base x k rel := by
  obtain ⟨f, fd, ps, h1, h2, h3, h4⟩ := F.ex
  exact ⟨_, f, fd, ps, fun X e1 e2 => by subst e1 e2; exact passN, h1, h2, h3, h4⟩
theorem knx_of {P : Program} {w : World} {K : PySem.W.Frag} {mg : Str → Option Value} {base : Heap} {x : Str} {k : Nat} {rel : Hp → Hp → List A → R → Prop} {f : Addr} {fd : FuncData} {ps : List Str} (F : FnOk P w K mg base (L2N.CX P w) k f fd ps (spG K rel)) (hm : mg x = some (.ref f)) (hk : PySem.W.keepIn K (.ref f) = true) (hb : Binds K fd ps []) : KnX P w K mg base x k rel :=
  ⟨f, fd, ps, F, hm, hk, hb⟩
theorem cls_some {K : PySem.W.Frag} {C : Addr} (hd : PySem.W.hasDictIn K C = true) (ht : PySem.W.typeIn K (.ref C) = some (.type "type")) : ((PySem.W.clsIn K C).isSome && PySem.W.typeIn K (.ref C) == some (.type "type")) = true := by
  obtain ⟨cd, hc, _⟩ := PySem.W.any_some hd
  rw [hc, ht]
  rfl
theorem kit_own {K : PySem.W.Frag} {D C : Addr} {b : Bool} (hd : PySem.W.hasDictIn K C = true) (ht : PySem.W.typeIn K (.ref C) = some (.type "type")) (hs : PySem.W.subIn K (.ref D) (.ref C) = some b) (self : PySem.W.subIn K (.ref D) (.ref D) = some true) : PySem.W.kitOne K (.ref D) (.ref C) = some b := by
  unfold PySem.W.kitOne
  by_cases e : D = C
  · subst e
    rw [hs] at self
    cases self
    rw [if_pos (beq_self_eq_true _)]
  · have ne : (Value.ref D == Value.ref C) = false := beq_eq_false_iff_ne.mpr fun z => e (Value.ref.inj z)
    rw [ne, if_neg Bool.false_ne_true]
    unfold PySem.W.kitCls
    dsimp only
    rw [if_pos (cls_some hd ht), hs]
theorem kit_ve {K : PySem.W.Frag} {D : Addr} (hs : PySem.W.subIn K (.ref D) (.type "ValueError") = some true) : PySem.W.kitOne K (.ref D) (.type "ValueError") = some true := by
  unfold PySem.W.kitOne
  have ne : (Value.ref D == Value.type "ValueError") = false := by rfl
  rw [ne, if_neg Bool.false_ne_true]
  unfold PySem.W.kitCls
  dsimp only
  have me : PySem.W.kitMeta "ValueError" = true := by decide +kernel
  rw [if_pos me, hs]
/-- what is to be known of an own error class -/
structure Er (K : PySem.W.Frag) (mg : Str → Option Value) (x : Str) (C : Addr) : Prop where
  g : mg x = some (.ref C)
  x : PySem.W.excIn K C [.type "ValueError", .type "Exception", .type "BaseException", .type "object"] "ValueError.__new__" = true
  k : PySem.W.keepIn K (.ref C) = true
  b : PySem.W.subIn K (.ref C) (.type "BaseException") = some true
  t : PySem.W.typeIn K (.ref C) = some (.type "type")

section
variable {X : Cx} {B0 H0 : Hp} {δ δ' : List (Option A)} {e e1 e2 e3 : Expr} {es : List Expr} {a a1 a2 a3 : A} {as : List A} {b c : Bool} {xs ys : List PyData} {x y d d1 d2 : PyData} {pos p1 p2 : Pos} {nm : Str} {k : Nat} {rel : Hp → Hp → List A → R → Prop} {C : Addr}

theorem ws_raise {E : AE} {rest : List Stmt} {n m : Str} {j : Nat} {p3 : Pos} (r : Rz X B0 H0 δ C) (q : Er X.K X.mg n C) (hc : X.calm = true) (hg : Gl X n := by rfl) (hdb : (n == ("__debug__" : Str)) = false := by decide) : Ws X B0 H0 δ (.Raise (some (.Call (.Name n p1) [.Constant (.str m) j p2] [] p3)) none pos :: rest) E := by
  obtain ⟨W, tk, hw⟩ := r
  exact ws_cons (W := fun _ _ _ => False) (L2N.ps_raise hc tk (L2N.pmk_own PySem.F.excBase_ValueError q.x q.g q.k (raises_own q.b q.t) hg hdb)) (fun _ _ _ z => z.elim) fun D σ H B E0 S z => hw σ B H E0 S
/-- a call that raises -/
theorem p_exc (F : KnX X.prog X.w X.K X.mg X.base nm k rel) (hr : Room k X.A) (ha : Pa X B0 H0 δ (e :: es) as) (h : ∀ B H, Ext B0 H0 B H → Sub B H → rel B H as (.exc C)) (r : Rz X B0 H0 δ C) (hg : Gl X nm := by rfl) (hdb : (nm == ("__debug__" : Str)) = false := by decide)
    (he : starEach (e :: es) X.env = (false, eval e X.env) :: starEach es X.env := by rfl) (hpl : (backTo pos (starEach es X.env)).any (·.1) = false := by rfl) : Pe X B0 H0 δ (.Call (.Name nm p1) (e :: es) [] pos) a := by
  obtain ⟨f, fd, ps, F, hm, hk, hb⟩ := F.ex
  obtain ⟨W, tk, hw⟩ := r
  exact pe_to (pe_callS (E := WE W) F hr hg hm hk hb (fun σ => L2N.passAt tk σ) ha hdb he hpl) fun σ H Q ⟨B, E, S, q⟩ => ⟨B, E, S, fun vs B1 H1 E1 r1 => ⟨B1, as, .exc C, E1.s, r1, h B1 H1 (E.tr E1) E1.s, fun B2 H2 E2 => hw σ B2 H2 ((E.tr E1).tr E2) (S.mono (E1.tr E2))⟩⟩
theorem ws_drop {E : AE} {rest : List Stmt} (he : Pe X B0 H0 δ e a) (hr : Ws X B0 H0 δ rest E) (hs : swapsWith e none pos.line X.env = pure false := by rfl) : Ws X B0 H0 δ (.Expr e pos :: rest) E :=
  ws_cons (W := fun B H δ' => B = B0 ∧ H = H0 ∧ δ' = δ) (ps_expr he hs) (fun B H δ' ⟨h1, h2, h3⟩ => by rw [h1, h2, h3]; exact hr) fun D σ H B E0 S z => ⟨B, E0, S, fun v B' H' E1 r => z.nx _ _ _ σ B' H' ⟨rfl, rfl, rfl⟩ E1.b (E0.tr E1) (S.mono E1)⟩
/-- what raises never comes to its end -/
theorem ws_dead {E : AE} {rest : List Stmt} (he : Pe X B0 H0 δ e (.d (.dict []))) (hs : swapsWith e none pos.line X.env = pure false := by rfl) : Ws X B0 H0 δ (.Expr e pos :: rest) E :=
  ws_cons (W := fun _ _ _ => False) (ps_expr he hs) (fun _ _ _ q => q.elim) fun D σ H B E0 S z => ⟨B, E0, S, fun v B' H' E1 r => by cases r⟩
/-- the data, and what stood at first -/
def jn (B H0 : Hp) : Hp := fun a => match B a with
  | some o => some o
  | none => H0 a
theorem jn_b {B H0 : Hp} : Sub B (jn B H0) := fun a o h => by unfold jn; rw [h]
theorem jn_none {B H0 : Hp} {a : Addr} (h1 : B a = none) (h2 : H0 a = none) : jn B H0 a = none := by unfold jn; rw [h1]; exact h2
theorem jn_le {B H0 H : Hp} (h1 : Sub B H) (h2 : Sub H0 H) : Sub (jn B H0) H := fun a o h => by
  unfold jn at h
  cases q : B a with
  | some u => rw [q] at h; exact h1 a o (by rw [q]; exact h)
  | none => rw [q] at h; exact h2 a o h
theorem jn_h {B H0 H : Hp} (h1 : Sub B H) (h2 : Sub H0 H) : Sub H0 (jn B H0) := fun a o h => by
  unfold jn
  cases q : B a with
  | some u =>
    have e1 := h1 a u q
    rw [h2 a o h] at e1
    exact e1.symm
  | none => exact h
theorem jn_lo {B0 H0 B H : Hp} (E : Ext B0 H0 B H) : Ext B0 H0 B (jn B H0) := ⟨E.b, jn_h E.s E.h, jn_b, E.n⟩
theorem jn_hi {B0 H0 B H : Hp} (E : Ext B0 H0 B H) : Ext B (jn B H0) B H := ⟨Sub.rfl', jn_le E.s E.h, E.s, fun _ _ => rfl⟩
theorem jn_sd {K : PySem.W.Frag} {H0 B H : Hp} {σ : L2.St} (l : Sub H0 H) (S : SD K H0 B H σ δ) : SD K (jn B H0) B H σ δ := ⟨S.s, S.len, S.rel, S.dis, fun i a v q h1 h2 f => jn_none (fp_at (S.rel' h1 h2) f).1 (S.fr i a v q h1 h2 f), fun i a v h1 h2 h3 => let ⟨Bz, sz, rz⟩ := S.rd i a v h1 h2 h3; ⟨Bz, sz, ra_reads h2 Sub.rfl' (jn_h S.s l) rz⟩⟩
theorem ws_try {E : AE} {rest body suite : List Stmt} {b0 : Stmt} {i : Nat} {n x : Str} {np pos' : Pos} {c : Value} (P : Addr → Prop) (hs : X.stack = X.env :: X.outer) (hf : X.env.frame = some X.env.locals) (hN : X.N.Nodup) (hi : X.N[i]? = some n) (hln : X.env.kindOf n = some .local) (hc : Names X x c)
    (tk : L2N.Takes X fun _ _ _ _ => False) (hex : ∀ C, P C → PySem.W.exmOne X.K (.ref C) c = some true)
    (hb : ∀ B1 H1, Ext B0 H0 B1 H1 → Sub B1 H1 → ∀ pn xe, PassesOwn (model X.prog X.w) X.A X.env xe → (∀ C, P C → Rz (X.tr pn xe) B1 H1 δ C) → Ws (X.tr pn xe) B1 H1 δ body { E with nx := fun B H δ' => Ws X B H δ' rest E })
    (hsu : ∀ B1 H1, Ext B0 H0 B1 H1 → Sub B1 H1 → ∀ C a oe pn, P C → L2N.Zn (.ref C) none oe → (∃ vs, oe.data = .fields vs) → Ws (X.suite a ((a, oe) :: pn)) B1 H1 (δ.set i (some (.v (.ref a)))) (b0 :: suite) { nx := fun B H δ' => Ws X B H (δ'.set i none) rest E, rt := E.rt, bk := fun B H δ' => E.bk B H (δ'.set i none), ct := fun B H δ' => E.ct B H (δ'.set i none) }) :
    Ws X B0 H0 δ (.Try body [.ExceptHandler (some (.Name x np)) (some n) (b0 :: suite) pos'] [] [] pos :: rest) E := by
  have key := L2N.ps_try_as (X := X) (i := i) (pos := pos) (pos' := pos') (np := np) (Wout := fun _ _ _ _ => False) (body := body) (suite := suite) (b₀ := b0) (c := c) hs hf hN hi hln hc tk
    (tb := fun W => fun D σ H => ∃ B1 H1, (Ext B0 H0 B1 H1 ∧ Sub B1 H1) ∧ (∀ C, P C → ∀ σ' B' H', Ext B1 H1 B' H' → SD X.K H1 B' H' σ' δ → W (.ref C) none σ' H') ∧ tWs X.K B1 H1 δ { E with nx := fun B H δ' => Ws X B H δ' rest E } D σ H)
    (ts := fun a cls d => fun D σ H => ∃ C B1 H1, cls = .ref C ∧ d = none ∧ P C ∧ (Ext B0 H0 B1 H1 ∧ Sub B1 H1) ∧ tWs X.K B1 H1 (δ.set i (some (.v (.ref a)))) { nx := fun B H δ' => Ws X B H (δ'.set i none) rest E, rt := E.rt, bk := fun B H δ' => E.bk B H (δ'.set i none), ct := fun B H δ' => E.ct B H (δ'.set i none) } D σ H)
    (fun W pn xe tk po => ⟨fun pins s σ H D J ⟨B1, H1, ⟨e1, e2⟩, hW, q⟩ => (hb B1 H1 e1 e2 pn xe po fun C hC => ⟨W, tk, fun σ' B' H' e s => hW C hC σ' B' H' e s⟩).run pins s σ H D J q⟩)
    (fun a oe cls d pn z1 z2 => ⟨fun pins s σ H D J ⟨C, B1, H1, e3, e4, hC, ⟨e1, e2⟩, q⟩ => by
      subst e3 e4
      exact (hsu B1 H1 e1 e2 C a oe pn hC z1 z2).run pins s σ H D J q⟩)
  refine ws_cons (W := fun B H δ' => Ws X B H δ' rest E) key (fun _ _ _ q => q) fun D σ H B E0 S z => ?_
  refine ⟨B, jn B H0, ⟨jn_lo E0, jn_b⟩, fun C hC σ' B' H' e1 S1 => ⟨true, hex C hC, fun _ a ha => ⟨C, B, jn B H0, rfl, rfl, hC, ⟨jn_lo E0, jn_b⟩, B', e1, SD.set S1 rfl rfl, ?_⟩, fun q => nomatch q⟩, B, jn_hi E0, jn_sd E0.h S, z⟩
  have z' := z.up e1.b
  exact ⟨fun B1 H1 δ1 σ1 B2 H2 h1 h2 h3 h4 => z'.nx B1 H1 _ _ B2 H2 h1 h2 h3 (sd_none h4 i), z'.rt, fun B1 H1 δ1 σ1 B2 H2 h1 h2 h3 h4 => z'.bk B1 H1 _ _ B2 H2 h1 h2 h3 (sd_none h4 i), fun B1 H1 δ1 σ1 B2 H2 h1 h2 h3 h4 => z'.ct B1 H1 _ _ B2 H2 h1 h2 h3 (sd_none h4 i)⟩
/-- isinstance(e, T), e the error that the suite holds -/
theorem p_isE {ad D : Addr} {oe : Obj} {pn : List (Addr × Obj)} {v : V} {cv : Value} (Cc : ExcC X.K D) (hz : L2N.Zn (.ref D) none oe) (hf : ∃ vs, oe.data = .fields vs) (ha : Pe (X.suite ad ((ad, oe) :: pn)) B0 H0 δ e1 (.v (.ref ad))) (hT : Pe (X.suite ad ((ad, oe) :: pn)) B0 H0 δ e2 (.v v)) (hv : ∀ u, RelV v u → u = cv) (hk : PySem.W.kitOne X.K (.ref D) cv = some b) (hm : X.mg "isinstance" = none)
    (hg : Gl (X.suite ad ((ad, oe) :: pn)) "isinstance" := by rfl) (he : starEach [e1, e2] X.env = (false, eval e1 X.env) :: starEach [e2] X.env := by rfl) (he2 : starEach [e2] X.env = (false, eval e2 X.env) :: starEach [] X.env := by rfl) (hpl : (backTo pos (starEach [e2] X.env)).any (·.1) = false := by rfl) :
    Pe (X.suite ad ((ad, oe) :: pn)) B0 H0 δ (.Call (.Name "isinstance" p1) [e1, e2] [] pos) (.d (.bool b)) :=
  g_callB we_mono (call_isE (pn := pn) Cc hz.zc hf) (pas_cons ha (pas_cons hT pas_nil he2) he) (fun B H vs Q s rs k => by
    obtain ⟨u1, u2, rfl, r1, r2⟩ := ras_2 rs
    subst r1 r2
    exact ⟨_, cv, b, rfl, hv, hk, We.now k s (.bl _)⟩) hg hm PyProof.Rows.boot_isinstance (by decide) (by decide) he hpl
end
/-- THE RULE for a def that may raise -/
theorem fn_wsX {P : Program} {w : World} {K : PySem.W.Frag} {mg : Str → Option Value} {base : Heap} {x qual : Str} {st : Stmt} {f : Addr} {fd : FuncData} {N ps : List Str} {k : Nat} {rel : Hp → Hp → List A → R → Prop} (F : Fun K x qual st f fd) (S : FnScope N ps (defScope st))
    (h : ∀ B H as r, Sub B H → rel B H as r → (as.length = ps.length ∧ ∀ a ∈ as, keep a = true) ∧ ∀ cdv A outer s0 H0 E, Room k (A.deeper (PyProof.Rows.envOfC qual (defScope st) s0.heap.objs.size f cdv)) →
      (∀ C, r = .exc C → ∀ δ, Rz (cxOf (L2N.CX P w) P w K mg base N qual (defScope st) f cdv A outer s0 H0 E) B H δ C) → Ws (cxOf (L2N.CX P w) P w K mg base N qual (defScope st) f cdv A outer s0 H0 E) B H (startD N as) (defBody st) { nx := fun B' H' _ => Ext B H B' H' ∧ r = .ret (.d .none), rt := fun B' H' _ a' => Ext B H B' H' ∧ r = .ret a' }) : FnOk P w K mg base (L2N.CX P w) (k + 1) f fd ps (spG K rel) := by
  refine fun_okN F S (fun vs H Q E ⟨B, as, r, s, ra, hr, _⟩ => by rw [ra.len]; exact (h B H as r s hr).1.1) fun cdv A outer s0 H vs Q E hroom ⟨B, as, r, s, ra, hr, q⟩ => ?_
  obtain ⟨⟨h1, h2⟩, h3⟩ := h B H as r s hr
  refine ⟨_, h3 cdv A outer s0 H E hroom (fun C e δ => ⟨fun cls d _ H => E cls d H, L2N.takes_of rfl rfl rfl rfl, fun σ B' H' e1 _ => ?_⟩), B, .rfl' s, sd_start s ra h2, ⟨fun B1 H1 δ σ B' H' ⟨e1, e2⟩ _ E1 S1 => ?_, fun B1 H1 _ a' _ v B' H' ⟨e1, e2⟩ E1 _ r1 f1 => ?_, fun _ _ _ _ _ _ z => z.elim, fun _ _ _ _ _ _ z => z.elim⟩⟩
  · subst e
    exact q B' H' e1
  · subst e2
    exact q .non B' H' (e1.tr E1) .non fun _ z => z.elim
  · subst e2
    exact q v B' H' (e1.tr E1) r1 fun x f => sub_free e1.h (f1 x f)
end GL

set_option Elab.async false
set_option linter.all false
set_option maxRecDepth 100000
set_option maxHeartbeats 4000000
/-! [elt for x, y in zip(s, t)] over two tuples; x, y = a list of two -/
namespace GL
open PySem PySem.Spec L2
section
variable {X : Cx} {B0 H0 : Hp} {δ δ' : List (Option A)} {e e1 e2 e3 : Expr} {a a1 a2 a3 : A} {xs ys : List PyData} {x y d d1 d2 : PyData} {pos p1 p2 p3 pt : Pos} {iter tg : Expr}
theorem i_zip {elts : List Expr} {kk : Nat} (h1 : Pe X B0 H0 δ e1 (.d (.tuple xs))) (h2 : Pe X B0 H0 δ e2 (.d (.tuple ys))) (hm : X.mg "zip" = none) (hg : Gl X "zip" := by rfl)
    (hs : starEach [e1, e2] X.env = (false, eval e1 X.env) :: starEach [e2] X.env := by rfl) (hs2 : starEach [e2] X.env = (false, eval e2 X.env) :: starEach [] X.env := by rfl) (hpl : (backTo pos (starEach [e2] X.env)).any (·.1) = false := by rfl) :
    Pi X B0 H0 δ (.Tuple elts kk pt) (.Call (.Name "zip" p1) [e1, e2] [] pos) (List.zipWith (fun x y => .tuple [x, y]) xs ys) :=
  pi_to (RZ.pi_zipA hg hm (pas_cons h1 (pas_cons h2 pas_nil hs2) hs) hs hpl) fun σ H R ⟨B, E0, S, k⟩ => ⟨B, E0, S, fun vs B' H' E rs => by
    obtain ⟨u1, u2, rfl, r1, r2⟩ := ras_2 rs
    cases r1 with
    | @tup p us _ hp d1 =>
      cases r2 with
      | @tup q ws _ hq d2 =>
        refine ⟨p, q, us, ws, rfl, .inr ⟨.inl (.inl (E.s _ _ hp)), .inl (.inl (E.s _ _ hq)), k _ B' H' E fun n B2 H2 s1 s2 => ?_⟩⟩
        have l1 : SqT X.K H2 p us := .inl (.inl (s2 _ _ (s1 _ _ hp)))
        have l2 : SqT X.K H2 q ws := .inl (.inl (s2 _ _ (s1 _ _ hq)))
        refine ⟨fun z hz => ?_, fun hn => ⟨us, ws, l1, l2, ?_⟩⟩
        · rw [List.getElem?_zipWith] at hz
          cases e1 : xs[n]? with
          | none => rw [e1] at hz; cases hz
          | some x =>
            cases e2 : ys[n]? with
            | none => rw [e1, e2] at hz; cases hz
            | some y =>
              rw [e1, e2] at hz
              have ez := (Option.some.inj hz).symm
              subst ez
              obtain ⟨v1, hv1, dv1⟩ := dqs_get d1 n x e1
              obtain ⟨v2, hv2, dv2⟩ := dqs_get d2 n y e2
              refine ⟨⟨us, ws, v1, v2, l1, l2, hv1, hv2⟩, fun v H3 hy => ?_⟩
              obtain ⟨t, x1, x2, rfl, nt, rfl, f1, f2⟩ := hy
              have g1 : x1 = v1 := Option.some.inj ((f1 us l1).symm.trans hv1)
              have g2 : x2 = v2 := Option.some.inj ((f2 ws l2).symm.trans hv2)
              subst g1 g2
              have sn : Sub B2 (upd B2 t (.tup [x1, x2])) := sub_new (sub_free s2 nt)
              exact ⟨upd B2 t (.tup [x1, x2]), .both s2 nt, .tup upd_same (.cons (dq_sub (s1.tr sn) _ _ dv1) (.cons (dq_sub (s1.tr sn) _ _ dv2) .nil))⟩
        · rw [List.length_zipWith] at hn
          rw [dqs_len d1, dqs_len d2]
          omega⟩
theorem set_back {α : Type} (σ : List (Option α)) {i j : Nat} (h : i ≠ j) (u v : Option α) : (((((σ.set j none).set i none).set i u).set j v).set j none).set i none = (σ.set j none).set i none := by
  rw [List.set_set, List.set_set, List.set_comm _ _ h, List.set_set, List.set_set]
/-- the reading of the comprehension with two names -/
theorem n_lc2 {α : Type} {zs : List α} {f1 f2 g : α → PyData} {i j : Nat} {n1 n2 : Str} {elt : Expr} {scope : Scope} {kt : Nat} (hi : Pi X B0 H0 δ (.Tuple [.Name n1 p1, .Name n2 p2] kt pt) iter xs) (hx : xs = zs.map fun z => .tuple [f1 z, f2 z]) (hij : i ≠ j)
    (he : ∀ z, z ∈ zs → ∀ (s : Shared) (H : Hp) (C : Addr) (cl : List (Str × Addr)) (fp : List Addr), Pe (X.blk s H scope (compEnvC scope cl C X.env) fp) B0 H0 ((((δ.set j none).set i none).set i (some (.d (f1 z)))).set j (some (.d (f2 z)))) elt (.d (g z)))
    (hl : zs.length ≤ 1000) (hc : X.calm = true) (hN : X.N.Nodup) (ok : blkC X.N X.env.scope scope [(n1, i), (n2, j)] = true)
    (hg : ∀ (s : Shared) (H : Hp) (C : Addr) (cl : List (Str × Addr)) (fp : List Addr), PG (X.blk s H scope (compEnvC scope cl C X.env) fp) (.Tuple [.Name n1 p1, .Name n2 p2] kt pt) (gTup X.K 2 (gCons (gName i) (gCons (gName j) gNil))))
    (hs : ∀ x, foldedSetIterable iter X.env x = pure x := by intro _; rfl) : Pn X B0 H0 δ (.ListComp elt [⟨.Tuple [.Name n1 p1, .Name n2 p2] kt pt, iter, [], 0⟩] scope pos) (zs.map g) := by
  subst hx
  refine pe_to (pe_lc (own := [(n1, i), (n2, j)]) (pos := pos) (te := fun σ H Q => ∃ z, z ∈ zs ∧ tPe X.K B0 H0 ((((δ.set j none).set i none).set i (some (.d (f1 z)))).set j (some (.d (f2 z)))) (.d (g z)) σ H Q) hc hN hi (blkOk_by ok) hg (fun s H C cl fp => pts_nil)
    (fun s H C cl fp => ⟨fun pins s2 σ H2 Q J ⟨z, hz, q⟩ => (he z hz s H C cl fp).run pins s2 σ H2 Q J q⟩) hs) fun σ H Q ⟨B, E0, S, k⟩ => ⟨B, E0, S, fun J Bs Hs E hw D hD => ?_⟩
  have Bsub : Sub Bs Hs := E.s
  have len : (zs.map fun z => PyData.tuple [f1 z, f2 z]).length = zs.length := List.length_map _
  have S0 : SD X.K H0 Bs Hs (wipe σ [i, j]) (wipeD δ [i, j]) := sd_wipe (S.mono E) [i, j]
  refine ⟨fun n m H' => m = zs.length - n ∧ n ≤ zs.length ∧ ∃ B' vs, Ext Bs Hs B' H' ∧ B' D = none ∧ H' D = some (.lst vs) ∧ Dqs B' vs ((zs.take n).map g), ⟨zs.length, rfl, Nat.zero_le _, Bs, [], .own Bsub hD, sub_free Bsub hD, upd_same, .nil⟩, ?_⟩
  rintro n m H' ⟨rfl, hn, B', vs, E1, hb, hl', hd⟩
  have vlen : vs.length ≤ zs.length := by
    rw [dqs_len hd, List.length_map, List.length_take]
    exact Nat.min_le_right _ _
  obtain ⟨w1, w2⟩ := hw n B' H' E1.b E1.s
  by_cases h : n < zs.length
  · have hz : zs[n]? = some zs[n] := List.getElem?_eq_getElem h
    have hmem : zs[n] ∈ zs := List.getElem_mem h
    obtain ⟨go, yl⟩ := w1 (.tuple [f1 zs[n], f2 zs[n]]) (by rw [List.getElem?_map, hz]; rfl)
    have tk : zs.take (n + 1) = zs.take n ++ [zs[n]] := by rw [List.take_add_one, hz]; rfl
    refine .inr ⟨go, fun H2 => ∃ B' vs, Ext Bs Hs B' H2 ∧ B' D = none ∧ H2 D = some (.lst vs) ∧ Dqs B' vs ((zs.take (n + 1)).map g), fun H2 q => ⟨zs.length - (n + 1), by omega, rfl, h, q⟩, fun v H2 hy => ?_⟩
    obtain ⟨B2, E2, dv⟩ := yl v H2 hy
    have E12 := E1.tr E2
    cases dv with
    | @tup t us _ ht dt =>
      cases dt with
      | @cons u1 _ _ _ d1 dt =>
        cases dt with
        | @cons u2 _ _ _ d2 dt =>
          cases dt
          have S2 := SD.set (a := .d (f2 zs[n])) (i := j) (SD.set (a := .d (f1 zs[n])) (i := i) (S0.mono E12) d1 rfl) d2 rfl
          refine ⟨t, [u1, u2], rfl, .inl (.inl (E2.s _ _ ht)), rfl, u1, [u2], rfl, u2, [], rfl, rfl, ?_⟩
          refine ⟨?_, ?_⟩
          · show (((((σ.set j none).set i none).set i (some u1)).set j (some u2)).set j none).set i none = (σ.set j none).set i none
            exact set_back σ hij _ _
          · dsimp only [tYes]
            rw [if_pos rfl]
            refine ⟨zs[n], hmem, B2, (E0.tr E).tr E12, S2, fun u B4 H4 E4 du => ?_⟩
            have hD4 : H4 D = some (.lst vs) := E4.h _ _ (E2.h _ _ hl')
            have hB4 : B4 D = none := by
              rw [E4.n D (by rw [E2.h _ _ hl']; simp), E2.n D (by rw [hl']; simp)]
              exact hb
            refine ⟨vs, hD4, small1000 (by omega), B4, vs ++ [u], ?_, hB4, upd_same, ?_⟩
            · have e := E12.tr E4
              exact ⟨e.b, sub_upd e.h hD, sub_upd e.s hB4, e.n⟩
            · rw [tk, List.map_append]
              exact dqs_app (dqs_sub (E2.b.tr E4.b) _ _ hd) (.cons du .nil)
  · have e : n = zs.length := by omega
    subst e
    refine .inl ⟨w2 (by rw [len]), ?_⟩
    rw [List.take_length] at hd
    exact k D vs B' H' (E.tr E1) (sub_free E.h hD) hb hl' hd
/-- x, y = e, a list of two, plain names -/
theorem ws_twoL {E : AE} {rest : List Stmt} {i j : Nat} {n1 n2 : Str} {px py : Pos} {kt : Nat} (he : Pe X B0 H0 δ e (.d (.list [x, y]))) (hr : Ws X B0 H0 ((δ.set i (some (.d x))).set j (some (.d y))) rest E) (hN : X.N.Nodup) (hi : X.N[i]? = some n1) (hj : X.N[j]? = some n2) (hx : Loc X.env.scope n1) (hy : Loc X.env.scope n2) (hc : X.calm = true)
    (hf : X.fn n1 = true ∨ X.env.scope.names.lookup n1 = some .local := by first | exact .inl rfl | exact .inr rfl | assumption) (hf2 : X.fn n2 = true ∨ X.env.scope.names.lookup n2 = some .local := by first | exact .inl rfl | exact .inr rfl | assumption)
    (s1 : (assignEach [.Name n1 px, .Name n2 py] X.env).map (·.2) = assign (.Name n1 px) X.env :: (assignEach [.Name n2 py] X.env).map (·.2) := by rfl) (s2 : (assignEach [.Name n2 py] X.env).map (·.2) = assign (.Name n2 py) X.env :: (assignEach [] X.env).map (·.2) := by rfl)
    (hn : (assignEach [.Name n1 px, .Name n2 py] X.env).length = 2 := by rfl) (hst : (assignEach [.Name n1 px, .Name n2 py] X.env).findIdx? (·.1) = none := by rfl)
    (hs : swapsWithSole [.Tuple [.Name n1 px, .Name n2 py] kt pt] e pos.line X.env = pure false := by rfl) (hw : swappedStores [.Tuple [.Name n1 px, .Name n2 py] kt pt] e X.env = pure none := by rfl) (h1 : (assignEach [.Tuple [.Name n1 px, .Name n2 py] kt pt] X.env).map (·.2) = [assign (.Tuple [.Name n1 px, .Name n2 py] kt pt) X.env] := by rfl) :
    Ws X B0 H0 δ (.Assign [.Tuple [.Name n1 px, .Name n2 py] kt pt] e pos :: rest) E := by
  refine ws_cons (W := fun B H δ' => B = B0 ∧ H = H0 ∧ δ' = (δ.set i (some (.d x))).set j (some (.d y))) (ps_asg he (pg_lst hc (pgs_cons (pg_name hN hi hx hf) (pgs_cons (pg_name hN hj hy hf2) pgs_nil s2) s1) hn hst) hs hw h1) (fun B H δ' ⟨h1, h2, h3⟩ => by rw [h1, h2, h3]; exact hr) fun D σ H B E0 S z => ⟨B, E0, S, fun v B' H' E1 r => ?_⟩
  cases r with
  | @lst p vs _ hp hd =>
    cases hd with
    | @cons u _ _ _ d1 t =>
      cases t with
      | @cons u2 _ _ _ d2 t =>
        cases t
        refine ⟨p, [u, u2], rfl, .inl (.inl (E1.s _ _ hp)), rfl, u, [u2], rfl, u2, [], rfl, rfl, ?_⟩
        exact z.nx _ _ _ _ B' H' ⟨rfl, rfl, rfl⟩ E1.b (E0.tr E1) (SD.set (a := .d y) (SD.set (a := .d x) (S.mono E1) d1 rfl) d2 rfl)
end
end GL

set_option Elab.async false
set_option linter.all false
set_option maxHeartbeats 4000000
/-! GM: sorted lists of ints, plain Lean -/
namespace GM
/-- rising, each once -/
abbrev Rise (l : List Int) : Prop := l.Pairwise (· < ·)
def ins (x : Int) : List Int → List Int
  | [] => [x]
  | y :: ys => if x ≤ y then x :: y :: ys else y :: ins x ys
def srt : List Int → List Int
  | [] => []
  | x :: xs => ins x (srt xs)
theorem ins_perm (x : Int) : ∀ l, (ins x l).Perm (x :: l)
  | [] => .refl _
  | y :: ys => by
    unfold ins
    split
    · exact .refl _
    · exact ((ins_perm x ys).cons y).trans (.swap x y ys)
theorem srt_perm : ∀ l, (srt l).Perm l
  | [] => .refl _
  | x :: xs => (ins_perm x _).trans ((srt_perm xs).cons x)
theorem ins_mem {x z : Int} {l : List Int} : z ∈ ins x l ↔ z = x ∨ z ∈ l := by rw [(ins_perm x l).mem_iff, List.mem_cons]
theorem srt_mem {z : Int} {l : List Int} : z ∈ srt l ↔ z ∈ l := (srt_perm l).mem_iff
theorem ins_sorted (x : Int) : ∀ l : List Int, l.Pairwise (· ≤ ·) → (ins x l).Pairwise (· ≤ ·)
  | [], _ => List.pairwise_singleton _ _
  | y :: ys, h => by
    obtain ⟨h1, h2⟩ := List.pairwise_cons.mp h
    unfold ins
    split
    · rename_i hxy
      exact List.pairwise_cons.mpr ⟨fun z hz => by
        rcases List.mem_cons.mp hz with rfl | hz
        · exact hxy
        · exact Int.le_trans hxy (h1 z hz), h⟩
    · rename_i hxy
      exact List.pairwise_cons.mpr ⟨fun z hz => by
        rcases ins_mem.mp hz with rfl | hz
        · omega
        · exact h1 z hz, ins_sorted x ys h2⟩
theorem srt_sorted : ∀ l : List Int, (srt l).Pairwise (· ≤ ·)
  | [] => List.Pairwise.nil
  | x :: xs => ins_sorted x _ (srt_sorted xs)
/-- two sorted lists of the same items are one -/
theorem sorted_same : ∀ {l m : List Int}, l.Perm m → l.Pairwise (· ≤ ·) → m.Pairwise (· ≤ ·) → l = m
  | [], m, p, _, _ => (List.nil_perm.mp p).symm ▸ rfl
  | x :: xs, [], p, _, _ => absurd (p.length_eq) (by simp)
  | x :: xs, y :: ys, p, h, k => by
    obtain ⟨h1, h2⟩ := List.pairwise_cons.mp h
    obtain ⟨k1, k2⟩ := List.pairwise_cons.mp k
    have a : x ≤ y := by
      rcases List.mem_cons.mp (p.mem_iff.mpr List.mem_cons_self : y ∈ x :: xs) with e | e
      · omega
      · exact h1 y e
    have b : y ≤ x := by
      rcases List.mem_cons.mp (p.mem_iff.mp List.mem_cons_self : x ∈ y :: ys) with e | e
      · omega
      · exact k1 x e
    have e : x = y := by omega
    subst e
    rw [sorted_same (List.Perm.cons_inv p) h2 k2]
theorem srt_uniq {l : List Int} : ∀ zs : List Int, zs.Perm l → zs.Pairwise (· ≤ ·) → zs = srt l := fun zs p h => sorted_same (p.trans (srt_perm l).symm) h (srt_sorted l)
/-- two rising lists with the same items are one -/
theorem ris_same : ∀ {l m : List Int}, Rise l → Rise m → (∀ z, z ∈ l ↔ z ∈ m) → l = m
  | [], [], _, _, _ => rfl
  | [], y :: _, _, _, e => absurd ((e y).mpr List.mem_cons_self) (by simp)
  | x :: _, [], _, _, e => absurd ((e x).mp List.mem_cons_self) (by simp)
  | x :: xs, y :: ys, h, k, e => by
    obtain ⟨h1, h2⟩ := List.pairwise_cons.mp h
    obtain ⟨k1, k2⟩ := List.pairwise_cons.mp k
    have a : x = y := by
      rcases List.mem_cons.mp ((e x).mp List.mem_cons_self) with q | q
      · exact q
      · rcases List.mem_cons.mp ((e y).mpr List.mem_cons_self) with r | r
        · exact r.symm
        · have := k1 x q
          have := h1 y r
          omega
    subst a
    refine congrArg _ (ris_same h2 k2 fun z => ⟨fun hz => ?_, fun hz => ?_⟩)
    · rcases List.mem_cons.mp ((e z).mp (List.mem_cons_of_mem _ hz)) with q | q
      · have := h1 z hz
        omega
      · exact q
    · rcases List.mem_cons.mp ((e z).mpr (List.mem_cons_of_mem _ hz)) with q | q
      · have := k1 z hz
        omega
      · exact q
theorem ris_le {l : List Int} (h : Rise l) : l.Pairwise (· ≤ ·) := h.imp fun h => Int.le_of_lt h
theorem ris_nodup {l : List Int} (h : Rise l) : l.Nodup := h.imp fun h => by omega
theorem ris_of {l : List Int} (h : l.Pairwise (· ≤ ·)) (n : l.Nodup) : Rise l := by
  induction l with
  | nil => exact List.Pairwise.nil
  | cons x xs ih =>
    obtain ⟨h1, h2⟩ := List.pairwise_cons.mp h
    obtain ⟨n1, n2⟩ := List.nodup_cons.mp n
    refine List.pairwise_cons.mpr ⟨fun z hz => ?_, ih h2 n2⟩
    have := h1 z hz
    have : x ≠ z := fun e => n1 (by rw [e]; exact hz)
    omega
/-- the rising list of what is in l -/
def insS (x : Int) : List Int → List Int
  | [] => [x]
  | y :: ys => if x < y then x :: y :: ys else if x = y then y :: ys else y :: insS x ys
def sset : List Int → List Int
  | [] => []
  | x :: xs => insS x (sset xs)
theorem insS_mem {x z : Int} : ∀ {l : List Int}, z ∈ insS x l ↔ z = x ∨ z ∈ l
  | [] => by simp [insS]
  | y :: ys => by
    unfold insS
    split
    · simp
    · split
      · rename_i e
        subst e
        simp
      · simp only [List.mem_cons, insS_mem (l := ys)]
        constructor
        · rintro (h | h | h)
          · exact .inr (.inl h)
          · exact .inl h
          · exact .inr (.inr h)
        · rintro (h | h | h)
          · exact .inr (.inl h)
          · exact .inl h
          · exact .inr (.inr h)
theorem insS_ris {x : Int} : ∀ {l : List Int}, Rise l → Rise (insS x l)
  | [], _ => List.pairwise_singleton _ _
  | y :: ys, h => by
    obtain ⟨h1, h2⟩ := List.pairwise_cons.mp h
    unfold insS
    split
    · rename_i hxy
      exact List.pairwise_cons.mpr ⟨fun z hz => by
        rcases List.mem_cons.mp hz with rfl | hz
        · exact hxy
        · exact Int.lt_trans hxy (h1 z hz), h⟩
    · split
      · exact h
      · rename_i a b
        exact List.pairwise_cons.mpr ⟨fun z hz => by
          rcases insS_mem.mp hz with rfl | hz
          · omega
          · exact h1 z hz, insS_ris h2⟩
theorem sset_ris : ∀ l : List Int, Rise (sset l)
  | [] => List.Pairwise.nil
  | _ :: xs => insS_ris (sset_ris xs)
theorem sset_mem {z : Int} : ∀ {l : List Int}, z ∈ sset l ↔ z ∈ l
  | [] => .rfl
  | x :: xs => by
    unfold sset
    rw [insS_mem, sset_mem (l := xs), List.mem_cons]
theorem sset_uniq {l : List Int} : ∀ zs : List Int, Rise zs → (∀ z, z ∈ zs ↔ z ∈ l) → zs = sset l := fun zs h e => ris_same h (sset_ris l) fun z => (e z).trans sset_mem.symm
theorem insS_len (x : Int) : ∀ l, (insS x l).length ≤ l.length + 1
  | [] => Nat.le_refl _
  | y :: ys => by
    have := insS_len x ys
    unfold insS
    split
    · exact Nat.le_refl _
    · split
      · simp
      · simp only [List.length_cons]; omega
theorem sset_len : ∀ l : List Int, (sset l).length ≤ l.length
  | [] => Nat.le_refl _
  | x :: xs => by
    have := sset_len xs
    have := insS_len x (sset xs)
    unfold sset
    simp only [List.length_cons]
    omega
/-- what just one of two has -/
def oddOnes (xs ys : List Int) : List Int := srt (xs.filter (fun z => !decide (z ∈ ys)) ++ ys.filter (fun z => !decide (z ∈ xs)))
theorem odd_mem {xs ys : List Int} {z : Int} : z ∈ oddOnes xs ys ↔ (z ∈ xs ∧ z ∉ ys) ∨ (z ∈ ys ∧ z ∉ xs) := by
  unfold oddOnes
  rw [srt_mem, List.mem_append, List.mem_filter, List.mem_filter]
  simp
theorem odd_ris {xs ys : List Int} (hx : Rise xs) (hy : Rise ys) : Rise (oddOnes xs ys) := by
  unfold oddOnes
  refine ris_of (srt_sorted _) ((srt_perm _).symm.nodup ?_)
  refine List.nodup_append.mpr ⟨(ris_nodup hx).sublist List.filter_sublist, (ris_nodup hy).sublist List.filter_sublist, fun a ha b hb e => ?_⟩
  subst e
  have h1 := (List.mem_filter.mp ha).2
  have h2 := (List.mem_filter.mp hb).1
  simp at h1
  exact h1 h2
theorem odd_len (xs ys : List Int) : (oddOnes xs ys).length ≤ xs.length + ys.length := by
  unfold oddOnes
  rw [(srt_perm _).length_eq, List.length_append]
  exact Nat.add_le_add (List.length_filter_le _ _) (List.length_filter_le _ _)
end GM
namespace GM
/-! ### the laws' own small functions -/
def cellAt (ns : List Int) (k : Int) : Int := ns.getD k.toNat 0
def mix (c p m : Int) : Int := c * 48271 % p % m
theorem mix_lt {c p m : Int} (h : 0 < m) : 0 ≤ mix c p m ∧ mix c p m < m := ⟨Int.emod_nonneg _ (by omega), Int.emod_lt_of_pos _ h⟩
end GM
namespace GM
theorem getD_bd {l : List Int} {lo hi : Int} (h : ∀ x ∈ l, lo ≤ x ∧ x ≤ hi) (h0 : lo ≤ 0 ∧ 0 ≤ hi) (i : Nat) : lo ≤ l.getD i 0 ∧ l.getD i 0 ≤ hi := by
  rw [List.getD_eq_getElem?_getD]
  cases q : l[i]? with
  | none => exact h0
  | some x => exact h x (List.mem_of_getElem? q)
/-! ### k01 -/
def lstMany (c : Int) : Int := [mix c 10007 5, mix c 10009 31].getD (mix c 10037 2).toNat 0
theorem lstMany_bd (c : Int) : 0 ≤ lstMany c ∧ lstMany c ≤ 30 := getD_bd (fun x hx => by
  have h1 := mix_lt (c := c) (p := 10007) (m := 5) (by decide)
  have h2 := mix_lt (c := c) (p := 10009) (m := 31) (by decide)
  simp only [List.mem_cons, List.not_mem_nil, or_false] at hx
  rcases hx with rfl | rfl <;> omega) (by decide) _
def lstRaw (ns : List Int) (first c : Int) : List Int := (List.range (lstMany c).toNat).map fun (k : Nat) => mix (cellAt ns (first + (k : Int) % 25) + (k : Int)) 10039 40
def lst (ns : List Int) (first c : Int) : List Int := sset (if mix c 10061 4 = 0 then (lstRaw ns first c).map fun z => 10 ^ 12 + z else lstRaw ns first c)
theorem lstRaw_len (ns : List Int) (first c : Int) : (lstRaw ns first c).length ≤ 30 := by
  unfold lstRaw
  have := lstMany_bd c
  rw [List.length_map, List.length_range]
  omega
theorem lst_len (ns : List Int) (first c : Int) : (lst ns first c).length ≤ 30 := by
  unfold lst
  refine Nat.le_trans (sset_len _) ?_
  split
  · rw [List.length_map]; exact lstRaw_len ns first c
  · exact lstRaw_len ns first c
end GM
namespace GM
theorem rise_get {l : List Int} (h : Rise l) {i j : Nat} (hi : i < j) (hj : j < l.length) : l.getD i 0 < l.getD j 0 := by
  rw [List.getD_eq_getElem?_getD, List.getD_eq_getElem?_getD, List.getElem?_eq_getElem hj, List.getElem?_eq_getElem (by omega : i < l.length)]
  exact List.pairwise_iff_getElem.mp h i j (by omega) hj hi
end GM

set_option Elab.async false
set_option linter.all false
set_option maxHeartbeats 4000000
/-! GM2: sets of places, values bit by bit, plain Lean -/
namespace GM
def setFrom (last : Int) (m : Int) : List Int → Bool
  | [] => true
  | p :: ps => if p ≤ last ∨ m ≤ p then false else setFrom p m ps
def isSet (ps : List Int) (m : Int) : Bool := setFrom (-1) m ps
theorem setFrom_iff {m : Int} : ∀ {ps : List Int} {last : Int}, setFrom last m ps = true ↔ Rise (last :: ps) ∧ ∀ x ∈ ps, x < m
  | [], last => by simp [setFrom]
  | p :: ps, last => by
    unfold setFrom
    split
    · rename_i h
      constructor
      · intro q; cases q
      · rintro ⟨h1, h2⟩
        have := (List.pairwise_cons.mp h1).1 p List.mem_cons_self
        have := h2 p List.mem_cons_self
        omega
    · rename_i h
      rw [setFrom_iff (ps := ps) (last := p)]
      constructor
      · rintro ⟨h1, h2⟩
        refine ⟨List.pairwise_cons.mpr ⟨fun z hz => ?_, h1⟩, fun x hx => ?_⟩
        · rcases List.mem_cons.mp hz with rfl | hz
          · omega
          · have := (List.pairwise_cons.mp h1).1 z hz
            omega
        · rcases List.mem_cons.mp hx with rfl | hx
          · omega
          · exact h2 x hx
      · rintro ⟨h1, h2⟩
        exact ⟨(List.pairwise_cons.mp h1).2, fun x hx => h2 x (List.mem_cons_of_mem _ hx)⟩
theorem isSet_iff {m : Int} {ps : List Int} : isSet ps m = true ↔ Rise ps ∧ ∀ x ∈ ps, 0 ≤ x ∧ x < m := by
  unfold isSet
  rw [setFrom_iff]
  constructor
  · rintro ⟨h1, h2⟩
    obtain ⟨h3, h4⟩ := List.pairwise_cons.mp h1
    exact ⟨h4, fun x hx => ⟨by have := h3 x hx; omega, h2 x hx⟩⟩
  · rintro ⟨h1, h2⟩
    exact ⟨List.pairwise_cons.mpr ⟨fun z hz => by have := (h2 z hz).1; omega, h1⟩, fun x hx => (h2 x hx).2⟩
/-! ### values -/
def nought (w : Nat) : List Int := List.replicate w 0
def addV (xs ys : List Int) : List Int := List.zipWith (fun x y => (x + y) % 2) xs ys
def valueOf (ld : List (List Int)) (w : Nat) (ps : List Int) : List Int := ps.foldl (fun acc p => addV acc (ld.getD p.toNat [])) (nought w)
def lsum (vs : List (List Int)) (w : Nat) : List Int := (List.range w).map fun (k : Nat) => (vs.map fun v => v.getD k 0).sum % 2
/-- of w bits -/
def Val (w : Nat) (v : List Int) : Prop := v.length = w ∧ ∀ x ∈ v, x = 0 ∨ x = 1
theorem val_nought (w : Nat) : Val w (nought w) := ⟨List.length_replicate, fun x hx => .inl (List.mem_replicate.mp hx).2⟩
theorem addV_len {w : Nat} {xs ys : List Int} (h1 : xs.length = w) (h2 : ys.length = w) : (addV xs ys).length = w := by
  unfold addV
  rw [List.length_zipWith, h1, h2, Nat.min_self]
theorem addV_get {xs ys : List Int} (h : xs.length = ys.length) (k : Nat) : (addV xs ys).getD k 0 = (xs.getD k 0 + ys.getD k 0) % 2 := by
  unfold addV
  rw [List.getD_eq_getElem?_getD, List.getD_eq_getElem?_getD, List.getD_eq_getElem?_getD, List.getElem?_zipWith]
  by_cases hk : k < xs.length
  · rw [List.getElem?_eq_getElem hk, List.getElem?_eq_getElem (h ▸ hk)]
    rfl
  · rw [List.getElem?_eq_none (by omega : xs.length ≤ k), List.getElem?_eq_none (by omega : ys.length ≤ k)]
    rfl
theorem val_add {w : Nat} {xs ys : List Int} (h1 : Val w xs) (h2 : Val w ys) : Val w (addV xs ys) := by
  refine ⟨addV_len h1.1 h2.1, fun x hx => ?_⟩
  unfold addV at hx
  rw [List.mem_iff_getElem?] at hx
  obtain ⟨k, hk⟩ := hx
  rw [List.getElem?_zipWith] at hk
  cases e1 : xs[k]? with
  | none => rw [e1] at hk; cases hk
  | some a =>
    cases e2 : ys[k]? with
    | none => rw [e1, e2] at hk; cases hk
    | some b =>
      rw [e1, e2] at hk
      have := (Option.some.inj hk).symm
      omega
theorem ext_getD {w : Nat} {xs ys : List Int} (h1 : xs.length = w) (h2 : ys.length = w) (h : ∀ k, k < w → xs.getD k 0 = ys.getD k 0) : xs = ys := by
  apply List.ext_getElem (by rw [h1, h2])
  intro k hk1 hk2
  have := h k (by omega)
  rw [List.getD_eq_getElem?_getD, List.getD_eq_getElem?_getD, List.getElem?_eq_getElem hk1, List.getElem?_eq_getElem hk2] at this
  exact this
theorem lsum_len (vs : List (List Int)) (w : Nat) : (lsum vs w).length = w := by unfold lsum; rw [List.length_map, List.length_range]
theorem lsum_get {vs : List (List Int)} {w k : Nat} (h : k < w) : (lsum vs w).getD k 0 = (vs.map fun v => v.getD k 0).sum % 2 := by
  unfold lsum
  rw [List.getD_eq_getElem?_getD, List.getElem?_map, List.getElem?_range h]
  rfl
theorem val_lsum (vs : List (List Int)) (w : Nat) : Val w (lsum vs w) := by
  refine ⟨lsum_len vs w, fun x hx => ?_⟩
  unfold lsum at hx
  obtain ⟨k, _, rfl⟩ := List.mem_map.mp hx
  omega
theorem fold_val {w : Nat} : ∀ (vs : List (List Int)) (acc : List Int), (∀ v ∈ vs, v.length = w) → Val w acc → (vs.foldl addV acc).length = w ∧ ∀ k, k < w → (vs.foldl addV acc).getD k 0 = (acc.getD k 0 + (vs.map fun v => v.getD k 0).sum) % 2
  | [], acc, _, ha => ⟨ha.1, fun k hk => by
    have : acc.getD k 0 = 0 ∨ acc.getD k 0 = 1 := by
      rw [List.getD_eq_getElem?_getD, List.getElem?_eq_getElem (by rw [ha.1]; exact hk)]
      exact ha.2 _ (List.getElem_mem _)
    show acc.getD k 0 = (acc.getD k 0 + 0) % 2
    omega⟩
  | v :: vs, acc, h, ha => by
    have hv := h v List.mem_cons_self
    have hl : (addV acc v).length = w := addV_len ha.1 hv
    have hva : Val w (addV acc v) := by
      refine ⟨hl, fun x hx => ?_⟩
      unfold addV at hx
      rw [List.mem_iff_getElem?] at hx
      obtain ⟨k, hk⟩ := hx
      rw [List.getElem?_zipWith] at hk
      cases e1 : acc[k]? with
      | none => rw [e1] at hk; cases hk
      | some a =>
        cases e2 : v[k]? with
        | none => rw [e1, e2] at hk; cases hk
        | some b =>
          rw [e1, e2] at hk
          have := (Option.some.inj hk).symm
          omega
    obtain ⟨h1, h2⟩ := fold_val vs (addV acc v) (fun u hu => h u (List.mem_cons_of_mem _ hu)) hva
    refine ⟨h1, fun k hk => ?_⟩
    show (vs.foldl addV (addV acc v)).getD k 0 = (acc.getD k 0 + (v.getD k 0 + (vs.map fun v => v.getD k 0).sum)) % 2
    rw [h2 k hk, addV_get (by rw [ha.1, hv])]
    omega
theorem fold_map {ld : List (List Int)} : ∀ (ps : List Int) (acc : List Int), ps.foldl (fun acc p => addV acc (ld.getD p.toNat [])) acc = (ps.map fun p => ld.getD p.toNat []).foldl addV acc
  | [], _ => rfl
  | p :: ps, acc => fold_map ps _
theorem nought_get (w k : Nat) : (nought w).getD k 0 = 0 := by
  unfold nought
  rw [List.getD_eq_getElem?_getD, List.getElem?_replicate]
  split <;> rfl
/-- the sum of pieces is the sum, bit by bit -/
theorem valueOf_sum {ld : List (List Int)} {w : Nat} {ps : List Int} (h : ∀ p ∈ ps, (ld.getD p.toNat []).length = w) : valueOf ld w ps = lsum (ps.map fun p => ld.getD p.toNat []) w := by
  unfold valueOf
  rw [fold_map]
  obtain ⟨h1, h2⟩ := fold_val (ps.map fun p => ld.getD p.toNat []) (nought w) (fun v hv => by
    obtain ⟨p, hp, rfl⟩ := List.mem_map.mp hv
    exact h p hp) (val_nought w)
  refine ext_getD h1 (lsum_len _ _) fun k hk => ?_
  rw [h2 k hk, lsum_get hk, nought_get, Int.zero_add]
theorem add_sum {w : Nat} {xs ys : List Int} (h1 : xs.length = w) (h2 : ys.length = w) : addV xs ys = lsum [xs, ys] w := by
  refine ext_getD (addV_len h1 h2) (lsum_len _ _) fun k hk => ?_
  rw [addV_get (by rw [h1, h2]), lsum_get hk]
  show _ = (xs.getD k 0 + (ys.getD k 0 + 0)) % 2
  rw [Int.add_zero]
/-! ### the laws' own small functions -/
def mixed (c k m : Int) : Int := ((c + 7919 * k + 11) * 48271 % 2147483647) * ((c + 7919 * k + 11) * 48271 % 2147483647) % 1000003 / 7 % m
theorem mixed_lt {c k m : Int} (h : 0 < m) : 0 ≤ mixed c k m ∧ mixed c k m < m := ⟨Int.emod_nonneg _ (by omega), Int.emod_lt_of_pos _ h⟩
def bits (c : Int) (w : Nat) : List Int := (List.range w).map fun (k : Nat) => mixed c k 2
theorem val_bits (c : Int) (w : Nat) : Val w (bits c w) := by
  refine ⟨by unfold bits; rw [List.length_map, List.length_range], fun x hx => ?_⟩
  unfold bits at hx
  obtain ⟨k, _, rfl⟩ := List.mem_map.mp hx
  have := mixed_lt (c := c) (k := (k : Int)) (m := 2) (by decide)
  omega
def lset (c m : Int) : List Int :=
  if mix c 10037 4 = 0 then [mix c 10067 m] else if mix c 10037 4 = 1 then sset [mix c 10067 m, mix c 10069 m]
  else ((List.range m.toNat).filter fun (k : Nat) => decide (mixed c (40 + (k : Int)) 2 = 1)).map fun (k : Nat) => (k : Int)
theorem lset_set {c m : Int} (h : 0 < m) : isSet (lset c m) m = true := by
  rw [isSet_iff]
  have b1 := mix_lt (c := c) (p := 10067) h
  have b2 := mix_lt (c := c) (p := 10069) h
  unfold lset
  split
  · exact ⟨List.pairwise_singleton _ _, fun x hx => by rw [List.mem_singleton.mp hx]; exact b1⟩
  · split
    · refine ⟨sset_ris _, fun x hx => ?_⟩
      rw [sset_mem] at hx
      simp only [List.mem_cons, List.not_mem_nil, or_false] at hx
      rcases hx with rfl | rfl
      · exact b1
      · exact b2
    · refine ⟨?_, fun x hx => ?_⟩
      · refine List.pairwise_map.mpr ?_
        exact (List.pairwise_lt_range.sublist List.filter_sublist).imp fun h => by omega
      · obtain ⟨k, hk, rfl⟩ := List.mem_map.mp hx
        have := List.mem_range.mp (List.mem_filter.mp hk).1
        omega
theorem set_len {ps : List Int} {m : Int} (h : isSet ps m = true) : (ps.length : Int) ≤ max m 0 := by
  obtain ⟨h1, h2⟩ := isSet_iff.mp h
  have key : ∀ (ps : List Int) (lo : Int), Rise ps → (∀ x ∈ ps, lo ≤ x ∧ x < m) → (ps.length : Int) ≤ max (m - lo) 0 := by
    intro ps
    induction ps with
    | nil => intro lo _ _; show (0 : Int) ≤ _; omega
    | cons x xs ih =>
      intro lo h1 h2
      obtain ⟨h3, h4⟩ := List.pairwise_cons.mp h1
      have a := h2 x List.mem_cons_self
      have := ih (x + 1) h4 fun y hy => ⟨by have := h3 y hy; omega, (h2 y (List.mem_cons_of_mem _ hy)).2⟩
      rw [List.length_cons]
      omega
  have := key ps 0 h1 h2
  omega
def sizeMany (c : Int) : Int := [1 + mix c 10079 7, 1 + mix c 10079 7, 1 + mix c 10091 24].getD (mix c 10103 3).toNat 0
def sizeWide (c : Int) : Int := [1 + mix c 10093 4, 1 + mix c 10099 32].getD (mix c 10111 2).toNat 0
theorem getD_in {l : List Int} {i : Nat} (h : i < l.length) : l.getD i 0 ∈ l := by
  rw [List.getD_eq_getElem?_getD, List.getElem?_eq_getElem h]
  exact List.getElem_mem h
theorem sizeMany_bd (c : Int) : 1 ≤ sizeMany c ∧ sizeMany c ≤ 24 := by
  have h1 := mix_lt (c := c) (p := 10079) (m := 7) (by decide)
  have h2 := mix_lt (c := c) (p := 10091) (m := 24) (by decide)
  have h3 := mix_lt (c := c) (p := 10103) (m := 3) (by decide)
  have := getD_in (l := [1 + mix c 10079 7, 1 + mix c 10079 7, 1 + mix c 10091 24]) (i := (mix c 10103 3).toNat) (by show _ < 3; omega)
  unfold sizeMany
  simp only [List.mem_cons, List.not_mem_nil, or_false] at this
  omega
theorem sizeWide_bd (c : Int) : 1 ≤ sizeWide c ∧ sizeWide c ≤ 32 := by
  have h1 := mix_lt (c := c) (p := 10093) (m := 4) (by decide)
  have h2 := mix_lt (c := c) (p := 10099) (m := 32) (by decide)
  have h3 := mix_lt (c := c) (p := 10111) (m := 2) (by decide)
  have := getD_in (l := [1 + mix c 10093 4, 1 + mix c 10099 32]) (i := (mix c 10111 2).toNat) (by show _ < 2; omega)
  unfold sizeWide
  simp only [List.mem_cons, List.not_mem_nil, or_false] at this
  omega
end GM
namespace GM
theorem add_zip (xs ys : List Int) : (xs.zip ys).map (fun z => (z.1 + z.2) % 2) = addV xs ys := by
  unfold addV
  rw [List.zip, List.map_zipWith]
end GM
namespace GM
def oddLists (ps : List Int) (m c : Int) : List (List Int) :=
  [ps.take (mix c 10133 (ps.length + 1)).toNat ++ [m] ++ ps.drop (mix c 10133 (ps.length + 1)).toNat, ps.take (mix c 10133 (ps.length + 1)).toNat ++ [-1] ++ ps.drop (mix c 10133 (ps.length + 1)).toNat, ps ++ [m + c % 1000000000]] ++
  [ps.take (mix c 10133 (ps.length + 1)).toNat ++ [0, 0] ++ ps.drop (mix c 10133 (ps.length + 1)).toNat, [m - 1] ++ ps ++ [0, 0]]
def oddList (ps : List Int) (m c : Int) : List Int := (oddLists ps m c).getD (mix c 10139 5).toNat []
theorem not_set_mem {l : List Int} {m x : Int} (h : x ∈ l) (hx : x < 0 ∨ m ≤ x) : isSet l m = false := by
  rw [Bool.eq_false_iff]
  intro q
  have := (isSet_iff.mp q).2 x h
  omega
theorem not_set_two {a b : List Int} {m : Int} : isSet (a ++ [0, 0] ++ b) m = false := by
  rw [Bool.eq_false_iff]
  intro q
  have h := (isSet_iff.mp q).1
  have h1 := (List.pairwise_append.mp h).1
  have h2 := (List.pairwise_append.mp h1).2.1
  have := (List.pairwise_cons.mp h2).1 0 List.mem_cons_self
  omega
theorem oddLists_bad (ps : List Int) (m c : Int) : ∀ l ∈ oddLists ps m c, isSet l m = false := by
  intro l hl
  unfold oddLists at hl
  simp only [List.mem_append, List.mem_cons, List.not_mem_nil, or_false] at hl
  rcases hl with (rfl | rfl | rfl) | rfl | rfl
  · exact not_set_mem (x := m) (by simp) (.inr (Int.le_refl _))
  · exact not_set_mem (x := -1) (by simp) (.inl (by decide))
  · exact not_set_mem (x := m + c % 1000000000) (by simp) (.inr (by omega))
  · exact not_set_two
  · have := not_set_two (a := [m - 1] ++ ps) (b := []) (m := m)
    rwa [List.append_nil] at this
theorem oddList_get (ps : List Int) (m c : Int) : (oddLists ps m c)[(mix c 10139 5).toNat]? = some (oddList ps m c) := by
  have h := mix_lt (c := c) (p := 10139) (m := 5) (by decide)
  have hl : (mix c 10139 5).toNat < (oddLists ps m c).length := by show _ < 5; omega
  unfold oddList
  rw [List.getD_eq_getElem?_getD, List.getElem?_eq_getElem hl]
  rfl
theorem oddList_bad (ps : List Int) (m c : Int) : isSet (oddList ps m c) m = false := oddLists_bad ps m c _ (List.mem_of_getElem? (oddList_get ps m c))
/-- a load of drawn bits -/
def loadOf (c : Int) (many : Nat) (w : Nat) : List (List Int) := (List.range many).map fun (k : Nat) => bits (c + 101 * (k : Int)) w
theorem loadOf_len (c : Int) (many w : Nat) : (loadOf c many w).length = many := by unfold loadOf; rw [List.length_map, List.length_range]
theorem loadOf_val {c : Int} {many w : Nat} : ∀ v ∈ loadOf c many w, Val w v := fun v hv => by
  unfold loadOf at hv
  obtain ⟨k, _, rfl⟩ := List.mem_map.mp hv
  exact val_bits _ _
end GM
namespace GM
/-! ### parcels drawn -/
def drawX (n : Int) : Nat → Int
  | 0 => 48271 * (n + 1) % 65537
  | k + 1 => (75 * drawX n k + 74) % 65537
def drawTo (n : Int) : Nat → List Int
  | 0 => []
  | k + 1 => if drawX n (k + 1) % 5 < 2 then drawTo n k ++ [(k : Int)] else drawTo n k
def drawn (n m : Int) : List Int := if drawTo n m.toNat = [] then [n % m] else drawTo n m.toNat
theorem drawTo_yes {n : Int} {k : Nat} (h : drawX n (k + 1) % 5 < 2) : drawTo n (k + 1) = drawTo n k ++ [(k : Int)] := if_pos h
theorem drawTo_no {n : Int} {k : Nat} (h : ¬ drawX n (k + 1) % 5 < 2) : drawTo n (k + 1) = drawTo n k := if_neg h
theorem drawTo_len (n : Int) : ∀ k, (drawTo n k).length ≤ k
  | 0 => Nat.le_refl _
  | k + 1 => by
    have := drawTo_len n k
    unfold drawTo
    split
    · rw [List.length_append]; show _ + 1 ≤ _; omega
    · omega
theorem drawTo_set (n : Int) : ∀ k, Rise (drawTo n k) ∧ ∀ x ∈ drawTo n k, 0 ≤ x ∧ x < k
  | 0 => ⟨List.Pairwise.nil, fun x hx => by cases hx⟩
  | k + 1 => by
    obtain ⟨h1, h2⟩ := drawTo_set n k
    unfold drawTo
    split
    · refine ⟨List.pairwise_append.mpr ⟨h1, List.pairwise_singleton _ _, fun a ha b hb => by
        rw [List.mem_singleton.mp hb]; exact (h2 a ha).2⟩, fun x hx => ?_⟩
      rcases List.mem_append.mp hx with hx | hx
      · have := h2 x hx; omega
      · rw [List.mem_singleton.mp hx]; omega
    · exact ⟨h1, fun x hx => by have := h2 x hx; omega⟩
theorem drawn_set {n m : Int} (hn : 0 ≤ n) (hm : 1 ≤ m) : isSet (drawn n m) m = true := by
  rw [isSet_iff]
  unfold drawn
  split
  · exact ⟨List.pairwise_singleton _ _, fun x hx => by
      rw [List.mem_singleton.mp hx]
      exact ⟨Int.emod_nonneg _ (by omega), Int.emod_lt_of_pos _ (by omega)⟩⟩
  · obtain ⟨h1, h2⟩ := drawTo_set n m.toNat
    exact ⟨h1, fun x hx => by have := h2 x hx; omega⟩
end GM

set_option Elab.async false
set_option linter.all false
set_option maxHeartbeats 4000000
/-! GM3: rows: sums of parcels, plain Lean -/
namespace GM
abbrev Rw := List Int × List Int × List Int
abbrev Par := List Int × List Int
def has (l : List Int) (x : Int) : Bool := decide (x ∈ l)
def bitAt (v : List Int) (k : Nat) : Bool := decide (v.getD k 0 = 1)
def hd (l : List Int) : Int := l.getD 0 0
def joined (a b : Rw) : Rw := (oddOnes a.1 b.1, addV a.2.1 b.2.1, oddOnes a.2.2 b.2.2)
def redStep (r o : Rw) : Rw := if hd o.1 ∈ r.1 then joined r o else r
def reduced (rows : List Rw) (r : Rw) : Rw := rows.foldl redStep r
def putStep (r o : Rw) : Rw := if hd r.1 ∈ o.1 then joined o r else o
def withRow (rows : List Rw) (r : Rw) : List Rw := rows.map (putStep r) ++ [r]
/-! ### parity -/
def par {α : Type} (f : α → Bool) : List α → Bool
  | [] => false
  | a :: l => xor (f a) (par f l)
theorem par_append {α : Type} (f : α → Bool) : ∀ l m : List α, par f (l ++ m) = xor (par f l) (par f m)
  | [], m => by simp [par]
  | a :: l, m => by simp [par, par_append f l m, Bool.xor_assoc]
theorem par_perm {α : Type} {f : α → Bool} {l m : List α} (p : l.Perm m) : par f l = par f m := by
  induction p with
  | nil => rfl
  | cons x _ ih => simp only [par, ih]
  | swap x y l => simp only [par]; cases f x <;> cases f y <;> cases par f l <;> rfl
  | trans _ _ ih1 ih2 => rw [ih1, ih2]
theorem par_split {α : Type} (f : α → Bool) (p : α → Bool) : ∀ l : List α, par f l = xor (par f (l.filter p)) (par f (l.filter fun a => !p a))
  | [] => rfl
  | a :: l => by
    have ih := par_split f p l
    cases h : p a <;> simp [List.filter_cons, h, par, ih] <;> cases f a <;> simp
theorem par_congr {α : Type} {f g : α → Bool} : ∀ {l : List α}, (∀ a ∈ l, f a = g a) → par f l = par g l
  | [], _ => rfl
  | a :: l, h => by simp only [par]; rw [h a List.mem_cons_self, par_congr fun b hb => h b (List.mem_cons_of_mem _ hb)]
theorem par_false {α : Type} {f : α → Bool} {l : List α} (h : ∀ a ∈ l, f a = false) : par f l = false := by
  rw [par_congr (g := fun _ => false) h]
  clear h
  induction l with
  | nil => rfl
  | cons a l ih => simp only [par, ih]; rfl
theorem par_xor {α : Type} (f g : α → Bool) : ∀ l : List α, par (fun a => xor (f a) (g a)) l = xor (par f l) (par g l)
  | [] => rfl
  | a :: l => by
    simp only [par, par_xor f g l]
    cases f a <;> cases g a <;> cases par f l <;> cases par g l <;> rfl
theorem par_map {α β : Type} (f : β → Bool) (g : α → β) : ∀ l : List α, par f (l.map g) = par (fun a => f (g a)) l
  | [] => rfl
  | a :: l => by simp only [List.map_cons, par, par_map f g l]
/-- parities of parities may be taken in either order -/
theorem par_swap {α β : Type} (f : α → β → Bool) (l : List α) : ∀ m : List β, par (fun a => par (f a) m) l = par (fun b => par (fun a => f a b) l) m
  | [] => par_false fun _ _ => rfl
  | b :: m => by
    simp only [par]
    rw [par_xor, par_swap f l m]
theorem par_odd {f : Int → Bool} {a b : List Int} (ha : Rise a) (hb : Rise b) : par f (oddOnes a b) = xor (par f a) (par f b) := by
  unfold oddOnes
  rw [par_perm (srt_perm _), par_append, par_split f (fun z => decide (z ∈ b)) a, par_split f (fun z => decide (z ∈ a)) b]
  have e : a.filter (fun z => decide (z ∈ b)) = b.filter (fun z => decide (z ∈ a)) := by
    refine ris_same (List.Pairwise.sublist List.filter_sublist ha) (List.Pairwise.sublist List.filter_sublist hb) fun z => ?_
    simp only [List.mem_filter, decide_eq_true_eq]
    exact ⟨fun h => ⟨h.2, h.1⟩, fun h => ⟨h.2, h.1⟩⟩
  rw [e]
  generalize par f (b.filter fun z => decide (z ∈ a)) = u
  generalize par f (a.filter fun z => !decide (z ∈ b)) = v
  generalize par f (b.filter fun z => !decide (z ∈ a)) = w
  cases u <;> cases v <;> cases w <;> rfl
theorem has_odd (a b : List Int) (x : Int) : has (oddOnes a b) x = xor (has a x) (has b x) := by
  unfold has
  by_cases h1 : x ∈ a <;> by_cases h2 : x ∈ b <;> simp [odd_mem, h1, h2]
/-- of a rising list: the parity of what is x tells whether x is in it -/
theorem par_eq {l : List Int} (h : l.Nodup) (x : Int) : par (fun y => decide (y = x)) l = has l x := by
  induction l with
  | nil => rfl
  | cons y l ih =>
    obtain ⟨h1, h2⟩ := List.nodup_cons.mp h
    simp only [par, ih h2]
    unfold has
    by_cases e : y = x
    · subst e
      simp [h1]
    · simp [e, Ne.symm e]
/-! ### sums of ints told by parity -/
def b01 (b : Bool) : Int := if b then 1 else 0
theorem sum_par {α : Type} {f : α → Int} : ∀ {l : List α}, (∀ a ∈ l, f a = 0 ∨ f a = 1) → (l.map f).sum % 2 = b01 (par (fun a => decide (f a = 1)) l)
  | [], _ => rfl
  | a :: l, h => by
    have ih := sum_par (f := f) (l := l) fun b hb => h b (List.mem_cons_of_mem _ hb)
    rw [List.map_cons, List.sum_cons]
    simp only [par]
    generalize (l.map f).sum = s at ih ⊢
    cases q : par (fun a => decide (f a = 1)) l <;> rw [q] at ih <;> rcases h a List.mem_cons_self with e | e <;> rw [e] <;> simp [b01] at ih ⊢ <;> omega
theorem b01_eq {b : Bool} : b01 b = 1 ↔ b = true := by cases b <;> simp [b01]
theorem b01_eq0 {b : Bool} : b01 b = 0 ↔ b = false := by cases b <;> simp [b01]
theorem val_get {w : Nat} {v : List Int} (h : Val w v) (k : Nat) : v.getD k 0 = b01 (bitAt v k) := by
  unfold bitAt
  rw [List.getD_eq_getElem?_getD]
  cases q : v[k]? with
  | none => rfl
  | some x =>
    rcases h.2 x (List.mem_of_getElem? q) with e | e <;> rw [e] <;> rfl
theorem val_bd {w : Nat} {v : List Int} (h : Val w v) (k : Nat) : v.getD k 0 = 0 ∨ v.getD k 0 = 1 := by
  rw [val_get h]
  cases bitAt v k
  · exact .inl rfl
  · exact .inr rfl
theorem val_ext {w : Nat} {u v : List Int} (hu : Val w u) (hv : Val w v) (h : ∀ k, k < w → bitAt u k = bitAt v k) : u = v :=
  ext_getD hu.1 hv.1 fun k hk => by rw [val_get hu, val_get hv, h k hk]
theorem bit_nought (w k : Nat) : bitAt (nought w) k = false := by unfold bitAt; rw [nought_get]; rfl
theorem bit_add {w : Nat} {u v : List Int} (hu : Val w u) (hv : Val w v) (k : Nat) : bitAt (addV u v) k = xor (bitAt u k) (bitAt v k) := by
  have e := addV_get (hu.1.trans hv.1.symm) k
  rw [val_get (val_add hu hv), val_get hu, val_get hv] at e
  revert e
  cases bitAt (addV u v) k <;> cases bitAt u k <;> cases bitAt v k <;> simp [b01]
theorem bit_lsum {w k : Nat} {vs : List (List Int)} (h : ∀ v ∈ vs, Val w v) (hk : k < w) : bitAt (lsum vs w) k = par (fun v => bitAt v k) vs := by
  have e := lsum_get (vs := vs) hk
  rw [sum_par fun v hv => val_bd (h v hv) k] at e
  unfold bitAt
  rw [e]
  generalize hq : par (fun v => decide (v.getD k 0 = 1)) vs = q
  cases q <;> rfl
/-! ### rows of one kind -/
structure SetOk (m : Int) (l : List Int) : Prop where
  ris : Rise l
  bd : ∀ x ∈ l, 0 ≤ x ∧ x < m
theorem setOk_iff {m : Int} {l : List Int} : SetOk m l ↔ isSet l m = true := ⟨fun h => isSet_iff.mpr ⟨h.1, h.2⟩, fun h => ⟨(isSet_iff.mp h).1, (isSet_iff.mp h).2⟩⟩
theorem setOk_odd {m : Int} {a b : List Int} (ha : SetOk m a) (hb : SetOk m b) : SetOk m (oddOnes a b) :=
  ⟨odd_ris ha.1 hb.1, fun x hx => by
    rcases odd_mem.mp hx with h | h
    · exact ha.2 x h.1
    · exact hb.2 x h.1⟩
theorem setOk_up {m n : Int} {l : List Int} (h : SetOk m l) (hm : m ≤ n) : SetOk n l := ⟨h.1, fun x hx => ⟨(h.2 x hx).1, by have := (h.2 x hx).2; omega⟩⟩
theorem setOk_nil {m : Int} : SetOk m [] := ⟨List.Pairwise.nil, fun _ h => by cases h⟩
theorem setOk_ext {m n : Int} {a b : List Int} (ha : SetOk m a) (hb : SetOk n b) (h : ∀ x, has a x = has b x) : a = b :=
  ris_same ha.1 hb.1 fun z => by
    have := h z
    unfold has at this
    exact decide_eq_decide.mp this
theorem setOk_len {m : Int} {l : List Int} (h : SetOk m l) : (l.length : Int) ≤ max m 0 := set_len (setOk_iff.mp h)
/-- a row: its set, its value, its numbers -/
structure Wf (m : Int) (w : Nat) (n : Int) (r : Rw) : Prop where
  set : SetOk m r.1
  val : Val w r.2.1
  num : SetOk n r.2.2
theorem wf_joined {m : Int} {w : Nat} {n : Int} {a b : Rw} (ha : Wf m w n a) (hb : Wf m w n b) : Wf m w n (joined a b) :=
  ⟨setOk_odd ha.set hb.set, val_add ha.val hb.val, setOk_odd ha.num hb.num⟩
theorem wf_up {m : Int} {w : Nat} {n k : Int} {r : Rw} (h : Wf m w n r) (hk : n ≤ k) : Wf m w k r := ⟨h.set, h.val, setOk_up h.num hk⟩
/-- what is told of rows bit by bit -/
def Lin (m : Int) (w : Nat) (n : Int) (f : Rw → Bool) : Prop := ∀ a b, Wf m w n a → Wf m w n b → f (joined a b) = xor (f a) (f b)
section lin
variable {m : Int} {w : Nat} {n : Int}
theorem lin_has (x : Int) : Lin m w n fun r => has r.1 x := fun a b _ _ => has_odd a.1 b.1 x
theorem lin_num (x : Int) : Lin m w n fun r => has r.2.2 x := fun a b _ _ => has_odd a.2.2 b.2.2 x
theorem lin_bit (k : Nat) : Lin m w n fun r => bitAt r.2.1 k := fun a b ha hb => bit_add ha.val hb.val k
theorem lin_par (f : Int → Bool) : Lin m w n fun r => par f r.1 := fun a b ha hb => par_odd ha.set.1 hb.set.1
theorem lin_parN (f : Int → Bool) : Lin m w n fun r => par f r.2.2 := fun a b ha hb => par_odd ha.num.1 hb.num.1
theorem lin_xor {f g : Rw → Bool} (hf : Lin m w n f) (hg : Lin m w n g) : Lin m w n fun r => xor (f r) (g r) := fun a b ha hb => by
  show xor (f _) (g _) = xor (xor (f a) (g a)) (xor (f b) (g b))
  rw [hf a b ha hb, hg a b ha hb]
  cases f a <;> cases f b <;> cases g a <;> cases g b <;> rfl
theorem wf_red {r o : Rw} (hr : Wf m w n r) (ho : Wf m w n o) : Wf m w n (redStep r o) := by
  unfold redStep
  split
  · exact wf_joined hr ho
  · exact hr
theorem wf_put {r o : Rw} (hr : Wf m w n r) (ho : Wf m w n o) : Wf m w n (putStep r o) := by
  unfold putStep
  split
  · exact wf_joined ho hr
  · exact ho
theorem reduced_wf : ∀ {rows : List Rw} {r : Rw}, (∀ o ∈ rows, Wf m w n o) → Wf m w n r → Wf m w n (reduced rows r)
  | [], _, _, hr => hr
  | o :: rows, r, h, hr => reduced_wf (rows := rows) (r := redStep r o) (fun q hq => h q (List.mem_cons_of_mem _ hq)) (wf_red hr (h o List.mem_cons_self))
theorem red_lin {f : Rw → Bool} (hf : Lin m w n f) {r o : Rw} (hr : Wf m w n r) (ho : Wf m w n o) (h : f o = false) : f (redStep r o) = f r := by
  unfold redStep
  split
  · rw [hf r o hr ho, h, Bool.xor_false]
  · rfl
theorem reduced_lin {f : Rw → Bool} (hf : Lin m w n f) : ∀ {rows : List Rw} {r : Rw}, (∀ o ∈ rows, Wf m w n o ∧ f o = false) → Wf m w n r → f (reduced rows r) = f r
  | [], _, _, _ => rfl
  | o :: rows, r, h, hr => by
    have ho := h o List.mem_cons_self
    show f (reduced rows (redStep r o)) = _
    rw [reduced_lin hf (rows := rows) (fun q hq => h q (List.mem_cons_of_mem _ hq)) (wf_red hr ho.1), red_lin hf hr ho.1 ho.2]
theorem put_lin {f : Rw → Bool} (hf : Lin m w n f) {r o : Rw} (hr : Wf m w n r) (ho : Wf m w n o) (h : f r = false) : f (putStep r o) = f o := by
  unfold putStep
  split
  · rw [hf o r ho hr, h, Bool.xor_false]
  · rfl
theorem withRow_lin {f : Rw → Bool} (hf : Lin m w n f) {rows : List Rw} {r : Rw} (h : ∀ o ∈ rows, Wf m w n o) (hr : Wf m w n r) :
    (∀ o ∈ withRow rows r, f o = false) ↔ (f r = false ∧ ∀ o ∈ rows, f o = false) := by
  unfold withRow
  constructor
  · intro q
    have hq : f r = false := q r (List.mem_append_right _ List.mem_cons_self)
    refine ⟨hq, fun o ho => ?_⟩
    rw [← put_lin hf hr (h o ho) hq]
    exact q _ (List.mem_append_left _ (List.mem_map_of_mem ho))
  · rintro ⟨h1, h2⟩ o ho
    rcases List.mem_append.mp ho with ho | ho
    · obtain ⟨p, hp, rfl⟩ := List.mem_map.mp ho
      rw [put_lin hf hr (h p hp) h1, h2 p hp]
    · rw [List.mem_singleton.mp ho]; exact h1
theorem withRow_len (rows : List Rw) (r : Rw) : (withRow rows r).length = rows.length + 1 := by
  unfold withRow
  rw [List.length_append, List.length_map]
  rfl
theorem withRow_wf {rows : List Rw} {r : Rw} (h : ∀ o ∈ rows, Wf m w n o) (hr : Wf m w n r) : ∀ o ∈ withRow rows r, Wf m w n o := by
  intro o ho
  unfold withRow at ho
  rcases List.mem_append.mp ho with ho | ho
  · obtain ⟨p, hp, rfl⟩ := List.mem_map.mp ho
    exact wf_put hr (h p hp)
  · rw [List.mem_singleton.mp ho]; exact hr
end lin
/-! ### each row's first place is in no other row -/
theorem hd_mem {l : List Int} (h : l ≠ []) : hd l ∈ l := by
  cases l with
  | nil => exact absurd rfl h
  | cons x l => exact List.mem_cons_self
theorem hd_le {l : List Int} (h : Rise l) : ∀ x ∈ l, hd l ≤ x := by
  cases l with
  | nil => intro x hx; cases hx
  | cons y l =>
    intro x hx
    rcases List.mem_cons.mp hx with rfl | hx
    · exact Int.le_refl _
    · exact Int.le_of_lt ((List.pairwise_cons.mp h).1 x hx)
theorem hd_of {l : List Int} (h : Rise l) {x : Int} (hx : x ∈ l) (hm : ∀ y ∈ l, x ≤ y) : hd l = x := by
  have a := hd_le h x hx
  have b := hm _ (hd_mem fun e => by rw [e] at hx; cases hx)
  omega
structure Ech (m : Int) (w : Nat) (n : Int) (rows : List Rw) : Prop where
  wf : ∀ o ∈ rows, Wf m w n o
  ne : ∀ o ∈ rows, o.1 ≠ []
  off : rows.Pairwise fun a b => hd a.1 ∉ b.1 ∧ hd b.1 ∉ a.1
section ech
variable {m : Int} {w : Nat} {n : Int}
theorem ech_nil : Ech m w n [] := ⟨fun _ h => (List.not_mem_nil h).elim, fun _ h => (List.not_mem_nil h).elim, List.Pairwise.nil⟩
theorem ech_up {k : Int} {rows : List Rw} (h : Ech m w n rows) (hk : n ≤ k) : Ech m w k rows := ⟨fun o ho => wf_up (h.wf o ho) hk, h.ne, h.off⟩
theorem reduced_off : ∀ {rows : List Rw} {r : Rw}, Ech m w n rows → Wf m w n r → ∀ o ∈ rows, hd o.1 ∉ (reduced rows r).1
  | [], _, _, _, o, ho => (List.not_mem_nil ho).elim
  | p :: rows, r, h, hr, o, ho => by
    obtain ⟨h1, h2⟩ := List.pairwise_cons.mp h.off
    have hp := h.wf p List.mem_cons_self
    have hr' := wf_red hr hp
    have he : Ech m w n rows := ⟨fun q hq => h.wf q (List.mem_cons_of_mem _ hq), fun q hq => h.ne q (List.mem_cons_of_mem _ hq), h2⟩
    show hd o.1 ∉ (reduced rows (redStep r p)).1
    rcases List.mem_cons.mp ho with rfl | ho
    · have e := reduced_lin (lin_has (hd o.1)) (rows := rows) (r := redStep r o) (fun q hq => ⟨he.wf q hq, by
        unfold has; exact decide_eq_false (h1 q hq).1⟩) hr'
      have e2 : has (redStep r o).1 (hd o.1) = false := by
        have hm : has o.1 (hd o.1) = true := decide_eq_true (hd_mem (h.ne o List.mem_cons_self))
        unfold redStep
        split
        · rename_i q
          show has (oddOnes r.1 o.1) _ = _
          rw [has_odd, hm, show has r.1 (hd o.1) = true from decide_eq_true q]
          rfl
        · rename_i q
          exact decide_eq_false q
      rw [e2] at e
      exact of_decide_eq_false e
    · exact reduced_off he hr' o ho
theorem put_hd {r o : Rw} (hr : Wf m w n r) (ho : Wf m w n o) (rn : r.1 ≠ []) (on : o.1 ≠ []) (h : hd o.1 ∉ r.1) : (putStep r o).1 ≠ [] ∧ hd (putStep r o).1 = hd o.1 := by
  unfold putStep
  split
  · rename_i q
    have hle := hd_le ho.set.1
    have hlr := hd_le hr.set.1
    have hne : hd r.1 ≠ hd o.1 := fun e => h (e ▸ hd_mem rn)
    have hlt : hd o.1 < hd r.1 := by have := hle _ q; omega
    have hin : hd o.1 ∈ (joined o r).1 := odd_mem.mpr (.inl ⟨hd_mem on, h⟩)
    refine ⟨fun e => (by rw [e] at hin; cases hin), hd_of (odd_ris ho.set.1 hr.set.1) hin fun y hy => ?_⟩
    rcases odd_mem.mp hy with ⟨hy, _⟩ | ⟨hy, _⟩
    · exact hle y hy
    · have := hlr y hy; omega
  · exact ⟨on, rfl⟩
theorem put_off {r o : Rw} (hr : r.1 ≠ []) : hd r.1 ∉ (putStep r o).1 := by
  unfold putStep
  split
  · rename_i q
    show hd r.1 ∉ oddOnes o.1 r.1
    rw [odd_mem]
    rintro (⟨_, h⟩ | ⟨_, h⟩)
    · exact h (hd_mem hr)
    · exact h q
  · rename_i q
    exact q
theorem put_mem {r o : Rw} {x : Int} (h1 : x ∉ r.1) (h2 : x ∉ o.1) : x ∉ (putStep r o).1 := by
  unfold putStep
  split
  · show x ∉ oddOnes o.1 r.1
    rw [odd_mem]
    rintro (⟨h, _⟩ | ⟨h, _⟩)
    · exact h2 h
    · exact h1 h
  · exact h2
theorem ech_withRow {rows : List Rw} {r : Rw} (h : Ech m w n rows) (hr : Wf m w n r) (rn : r.1 ≠ []) (ho : ∀ o ∈ rows, hd o.1 ∉ r.1) : Ech m w n (withRow rows r) := by
  refine ⟨withRow_wf h.wf hr, fun o hq => ?_, ?_⟩
  · unfold withRow at hq
    rcases List.mem_append.mp hq with hq | hq
    · obtain ⟨p, hp, rfl⟩ := List.mem_map.mp hq
      exact (put_hd hr (h.wf p hp) rn (h.ne p hp) (ho p hp)).1
    · rw [List.mem_singleton.mp hq]; exact rn
  · unfold withRow
    refine List.pairwise_append.mpr ⟨List.pairwise_map.mpr (h.off.imp_of_mem fun {a b} ha hb q => ?_), List.pairwise_singleton _ _, fun a ha b hb => ?_⟩
    · rw [(put_hd hr (h.wf a ha) rn (h.ne a ha) (ho a ha)).2, (put_hd hr (h.wf b hb) rn (h.ne b hb) (ho b hb)).2]
      exact ⟨put_mem (ho a ha) q.1, put_mem (ho b hb) q.2⟩
    · obtain ⟨p, hp, rfl⟩ := List.mem_map.mp ha
      rw [List.mem_singleton.mp hb, (put_hd hr (h.wf p hp) rn (h.ne p hp) (ho p hp)).2]
      exact ⟨ho p hp, put_off rn⟩
end ech
end GM

set_option Elab.async false
set_option linter.all false
set_option maxHeartbeats 4000000
/-! GM4: quarrels, a load that fits, plain Lean -/
namespace GM
def pAt (ps : List Par) (i : Int) : Par := ps.getD i.toNat ([], [])
def row0 (p : Par) (k : Int) : Rw := (p.1, p.2, [k])
def rowsFrom (k : Int) (rows : List Rw) : List Par → List Rw × Option (List Int)
  | [] => (rows, none)
  | p :: ps => if (reduced rows (row0 p k)).1 ≠ [] then rowsFrom (k + 1) (withRow rows (reduced rows (row0 p k))) ps
    else if (reduced rows (row0 p k)).2.1 ≠ nought p.2.length then (rows, some (reduced rows (row0 p k)).2.2) else rowsFrom (k + 1) rows ps
def rowsOf (ps : List Par) : List Rw × Option (List Int) := rowsFrom 0 [] ps
structure ParOk (m : Int) (w : Nat) (p : Par) : Prop where
  set : SetOk m p.1
  val : Val w p.2
/-- of a load's bits L: where the row is not the sum of its places' -/
def fitR (L : Int → Nat → Bool) (j : Nat) (r : Rw) : Bool := xor (par (fun x => L x j) r.1) (bitAt r.2.1 j)
def fitP (L : Int → Nat → Bool) (j : Nat) (p : Par) : Bool := xor (par (fun x => L x j) p.1) (bitAt p.2 j)
/-- a row is the sum of the parcels with its numbers -/
structure Told (P : Int → Par) (o : Rw) : Prop where
  s : ∀ x, xor (has o.1 x) (par (fun i => has (P i).1 x) o.2.2) = false
  v : ∀ j, xor (bitAt o.2.1 j) (par (fun i => bitAt (P i).2 j) o.2.2) = false
section
variable {m : Int} {w : Nat} {n : Int} {P : Int → Par} {rows : List Rw} {r : Rw} {L : Int → Nat → Bool}
theorem lin_fit (j : Nat) : Lin m w n (fitR L j) := lin_xor (lin_par _) (lin_bit j)
theorem told_reduced (h : ∀ o ∈ rows, Wf m w n o ∧ Told P o) (hr : Wf m w n r) (ht : Told P r) : Told P (reduced rows r) :=
  ⟨fun x => (reduced_lin (lin_xor (lin_has x) (lin_parN _)) (fun o ho => ⟨(h o ho).1, (h o ho).2.s x⟩) hr).trans (ht.s x),
   fun j => (reduced_lin (lin_xor (lin_bit j) (lin_parN _)) (fun o ho => ⟨(h o ho).1, (h o ho).2.v j⟩) hr).trans (ht.v j)⟩
theorem told_withRow (h : ∀ o ∈ rows, Wf m w n o ∧ Told P o) (hr : Wf m w n r) (ht : Told P r) : ∀ o ∈ withRow rows r, Told P o := fun o ho =>
  ⟨fun x => (withRow_lin (lin_xor (lin_has x) (lin_parN _)) (fun o ho => (h o ho).1) hr).mpr ⟨ht.s x, fun o ho => (h o ho).2.s x⟩ o ho,
   fun j => (withRow_lin (lin_xor (lin_bit j) (lin_parN _)) (fun o ho => (h o ho).1) hr).mpr ⟨ht.v j, fun o ho => (h o ho).2.v j⟩ o ho⟩
theorem told_row0 {p : Par} {k : Int} (h : P k = p) : Told P (row0 p k) := by
  subst h
  exact ⟨fun x => by simp [row0, par], fun j => by simp [row0, par]⟩
theorem wf_row0 {p : Par} {k : Int} (h : ParOk m w p) (hk : 0 ≤ k) : Wf m w (k + 1) (row0 p k) :=
  ⟨h.set, h.val, List.pairwise_singleton _ _, fun x hx => by rw [List.mem_singleton.mp hx]; omega⟩
end
structure RInv (m : Int) (w : Nat) (ps : List Par) (k : Nat) (rows : List Rw) : Prop where
  ech : Ech m w k rows
  told : ∀ o ∈ rows, Told (pAt ps) o
  fit : ∀ L, (∀ o ∈ rows, ∀ j, j < w → fitR L j o = false) ↔ (∀ i : Nat, i < k → ∀ j, j < w → fitP L j (pAt ps i) = false)
  len : rows.length ≤ k
structure Quarrel (w : Nat) (ps : List Par) (q : List Int) : Prop where
  set : SetOk ps.length q
  none : ∀ x, par (fun i => has (pAt ps i).1 x) q = false
  some : ∃ j, j < w ∧ par (fun i => bitAt (pAt ps i).2 j) q = true
  no : ∀ L, ¬ ∀ i : Nat, i < ps.length → ∀ j, j < w → fitP L j (pAt ps i) = false
section
variable {m : Int} {w : Nat} {ps : List Par} {k : Nat} {rows : List Rw} {p : Par}
theorem rinv_nil : RInv m w ps 0 [] := ⟨ech_nil, fun _ h => (List.not_mem_nil h).elim, fun L => ⟨fun _ i h => by omega, fun _ _ h => (List.not_mem_nil h).elim⟩, Nat.le_refl _⟩
theorem pAt_get (h : ps[k]? = some p) : pAt ps (k : Nat) = p := by
  unfold pAt
  rw [Int.toNat_natCast, List.getD_eq_getElem?_getD, h]
  rfl
theorem fit_row0 {L : Int → Nat → Bool} {j : Nat} : fitR L j (row0 p k) = fitP L j p := rfl
theorem red_step (I : RInv m w ps k rows) (h : ps[k]? = some p) (hp : ParOk m w p) :
    Wf m w (k + 1 : Nat) (reduced rows (row0 p k)) ∧ Told (pAt ps) (reduced rows (row0 p k)) ∧ (∀ o ∈ rows, hd o.1 ∉ (reduced rows (row0 p k)).1) ∧ Ech m w (k + 1 : Nat) rows ∧
    ∀ L j, (∀ o ∈ rows, fitR L j o = false) → fitR L j (reduced rows (row0 p k)) = fitP L j p := by
  have he : Ech m w (k + 1 : Nat) rows := ech_up I.ech (by omega)
  have h0 : Wf m w ((k + 1 : Nat) : Int) (row0 p k) := by
    have := wf_row0 (k := (k : Int)) hp (by omega)
    exact this
  refine ⟨reduced_wf he.wf h0, told_reduced (fun o ho => ⟨he.wf o ho, I.told o ho⟩) h0 (told_row0 (pAt_get h)), reduced_off he h0, he, fun L j hf => ?_⟩
  rw [reduced_lin (lin_fit j) (fun o ho => ⟨he.wf o ho, hf o ho⟩) h0]
  rfl
theorem lt_succ_all {Q : Nat → Prop} : (∀ i, i < k + 1 → Q i) ↔ ((∀ i, i < k → Q i) ∧ Q k) :=
  ⟨fun h => ⟨fun i hi => h i (by omega), h k (by omega)⟩, fun h i hi => by
    by_cases e : i = k
    · subst e; exact h.2
    · exact h.1 i (by omega)⟩
theorem rinv_new (I : RInv m w ps k rows) (h : ps[k]? = some p) (hp : ParOk m w p) (hn : (reduced rows (row0 p k)).1 ≠ []) : RInv m w ps (k + 1) (withRow rows (reduced rows (row0 p k))) := by
  obtain ⟨h1, h2, h3, h4, h5⟩ := red_step I h hp
  refine ⟨ech_withRow h4 h1 hn h3, told_withRow (fun o ho => ⟨h4.wf o ho, I.told o ho⟩) h1 h2, fun L => ?_, by rw [withRow_len]; have := I.len; omega⟩
  have e : ∀ j, (∀ o ∈ withRow rows (reduced rows (row0 p k)), fitR L j o = false) ↔ (fitP L j p = false ∧ ∀ o ∈ rows, fitR L j o = false) := fun j => by
    rw [withRow_lin (lin_fit j) h4.wf h1]
    constructor
    · rintro ⟨a, b⟩
      exact ⟨by rw [← h5 L j b]; exact a, b⟩
    · rintro ⟨a, b⟩
      exact ⟨by rw [h5 L j b]; exact a, b⟩
  rw [lt_succ_all, ← I.fit L, pAt_get h]
  constructor
  · intro q
    exact ⟨fun o ho j hj => ((e j).mp fun o ho => q o ho j hj).2 o ho, fun j hj => ((e j).mp fun o ho => q o ho j hj).1⟩
  · rintro ⟨a, b⟩ o ho j hj
    exact (e j).mpr ⟨b j hj, fun o ho => a o ho j hj⟩ o ho
theorem rinv_known (I : RInv m w ps k rows) (h : ps[k]? = some p) (hp : ParOk m w p) (hn : (reduced rows (row0 p k)).1 = []) (hv : (reduced rows (row0 p k)).2.1 = nought w) : RInv m w ps (k + 1) rows := by
  obtain ⟨h1, h2, h3, h4, h5⟩ := red_step I h hp
  refine ⟨h4, I.told, fun L => ?_, by have := I.len; omega⟩
  rw [lt_succ_all, ← I.fit L, pAt_get h]
  refine ⟨fun q => ⟨q, fun j hj => ?_⟩, fun q => q.1⟩
  rw [← h5 L j fun o ho => q o ho j hj]
  unfold fitR
  rw [hn, hv, bit_nought]
  rfl
theorem not_nought {v : List Int} (h : Val w v) (hn : v ≠ nought w) : ∃ j, j < w ∧ bitAt v j = true := by
  refine Decidable.byContradiction fun q => hn (val_ext h (val_nought w) fun j hj => ?_)
  rw [bit_nought]
  cases e : bitAt v j with
  | false => rfl
  | true => exact (q ⟨j, hj, e⟩).elim
theorem quarrel_here (I : RInv m w ps k rows) (h : ps[k]? = some p) (hp : ParOk m w p) (hn : (reduced rows (row0 p k)).1 = []) (hv : (reduced rows (row0 p k)).2.1 ≠ nought w) : Quarrel w ps (reduced rows (row0 p k)).2.2 := by
  obtain ⟨h1, h2, h3, h4, h5⟩ := red_step I h hp
  have hk : k < ps.length := (List.getElem?_eq_some_iff.mp h).1
  obtain ⟨j, hj, hb⟩ := not_nought h1.val hv
  refine ⟨setOk_up h1.num (by omega), fun x => ?_, ⟨j, hj, ?_⟩, fun L q => ?_⟩
  · have := h2.s x
    rw [hn] at this
    simpa [has] using this
  · have := h2.v j
    rw [hb] at this
    simpa using this
  · have f : ∀ o ∈ rows, ∀ j, j < w → fitR L j o = false := (I.fit L).mpr fun i hi => q i (by omega)
    have := h5 L j fun o ho => f o ho j hj
    have q2 := q k hk j hj
    rw [pAt_get h] at q2
    rw [q2] at this
    unfold fitR at this
    rw [hn, hb] at this
    cases this
theorem rowsFrom_spec : ∀ (rest : List Par) {k : Nat} {rows : List Rw}, (∀ p ∈ ps, ParOk m w p) → rest = ps.drop k → k ≤ ps.length → RInv m w ps k rows →
    (∀ q, (rowsFrom k rows rest).2 = some q → Quarrel w ps q) ∧ ((rowsFrom k rows rest).2 = none → RInv m w ps ps.length (rowsFrom k rows rest).1)
  | [], k, rows, hp, hr, hk, I => by
    have e : k = ps.length := by
      have := congrArg List.length hr
      rw [List.length_drop] at this
      have : (0 : Nat) = ps.length - k := this
      omega
    subst e
    exact ⟨fun q h => (by cases h), fun _ => I⟩
  | p :: rest, k, rows, hp, hr, hk, I => by
    have hg : ps[k]? = some p := by
      have := congrArg (fun l => l[0]?) hr
      simp at this
      exact this.symm
    have hkl : k < ps.length := (List.getElem?_eq_some_iff.mp hg).1
    have hd' : rest = ps.drop (k + 1) := by
      have := congrArg List.tail hr
      simpa using this
    have pk := hp p (List.mem_of_getElem? hg)
    have pl := pk.val.1
    unfold rowsFrom
    have cast : ((k : Int) + 1) = ((k + 1 : Nat) : Int) := by omega
    rw [cast]
    split
    · rename_i hn
      exact rowsFrom_spec rest hp hd' hkl (rinv_new I hg pk hn)
    · rename_i hn
      have hn : (reduced rows (row0 p k)).1 = [] := Decidable.byContradiction hn
      rw [pl]
      split
      · rename_i hv
        exact ⟨fun q h => by
          have := Option.some.inj h
          subst this
          exact quarrel_here I hg pk hn hv, fun h => (by cases h)⟩
      · rename_i hv
        exact rowsFrom_spec rest hp hd' hkl (rinv_known I hg pk hn (Decidable.byContradiction hv))
end
/-- what rows_of tells -/
theorem rowsOf_spec {m : Int} {w : Nat} {ps : List Par} (hp : ∀ p ∈ ps, ParOk m w p) : (∀ q, (rowsOf ps).2 = some q → Quarrel w ps q) ∧ ((rowsOf ps).2 = none → RInv m w ps ps.length (rowsOf ps).1) :=
  rowsFrom_spec (k := 0) ps hp rfl (Nat.zero_le _) rinv_nil
/-! ### the load -/
def putRow (ld : List (List Int)) (o : Rw) : List (List Int) := ld.set (hd o.1).toNat o.2.1
def loadFit (m w : Nat) (rows : List Rw) : List (List Int) := rows.foldl putRow (List.replicate m (nought w))
section
variable {m : Int} {w : Nat} {n : Int} {rows : List Rw}
theorem putRow_len : ∀ (rows : List Rw) (ld : List (List Int)), (rows.foldl putRow ld).length = ld.length
  | [], _ => rfl
  | o :: rows, ld => by
    rw [List.foldl_cons, putRow_len rows]
    unfold putRow
    rw [List.length_set]
theorem loadFit_len {k : Nat} : (loadFit k w rows).length = k := by unfold loadFit; rw [putRow_len, List.length_replicate]
theorem putRow_val : ∀ (rows : List Rw) (ld : List (List Int)), (∀ v ∈ ld, Val w v) → (∀ o ∈ rows, Val w o.2.1) → ∀ v ∈ rows.foldl putRow ld, Val w v
  | [], _, h, _ => h
  | o :: rows, ld, h, hr => putRow_val rows _ (fun v hv => by
      rcases List.mem_or_eq_of_mem_set hv with q | q
      · exact h v q
      · rw [q]; exact hr o List.mem_cons_self) fun o ho => hr o (List.mem_cons_of_mem _ ho)
theorem loadFit_val {k : Nat} (h : ∀ o ∈ rows, Val w o.2.1) : ∀ v ∈ loadFit k w rows, Val w v := putRow_val rows _ (fun v hv => by rw [(List.mem_replicate.mp hv).2]; exact val_nought w) h
theorem putRow_other {x : Nat} : ∀ (rows : List Rw) (ld : List (List Int)), (∀ o ∈ rows, (hd o.1).toNat ≠ x) → (rows.foldl putRow ld)[x]? = ld[x]?
  | [], _, _ => rfl
  | o :: rows, ld, h => by
    rw [List.foldl_cons, putRow_other rows _ fun o ho => h o (List.mem_cons_of_mem _ ho)]
    unfold putRow
    rw [List.getElem?_set_ne (h o List.mem_cons_self)]
theorem putRow_hit : ∀ (rows : List Rw) (ld : List (List Int)), Ech m w n rows → ld.length = m.toNat → ∀ o ∈ rows, (rows.foldl putRow ld)[(hd o.1).toNat]? = some o.2.1
  | [], _, _, _, o, ho => (List.not_mem_nil ho).elim
  | p :: rows, ld, h, hl, o, ho => by
    obtain ⟨h1, h2⟩ := List.pairwise_cons.mp h.off
    have he : Ech m w n rows := ⟨fun q hq => h.wf q (List.mem_cons_of_mem _ hq), fun q hq => h.ne q (List.mem_cons_of_mem _ hq), h2⟩
    have bd : ∀ q ∈ p :: rows, 0 ≤ hd q.1 ∧ hd q.1 < m := fun q hq => (h.wf q hq).set.2 _ (hd_mem (h.ne q hq))
    rw [List.foldl_cons]
    rcases List.mem_cons.mp ho with e | ho
    · subst e
      have b0 := bd o List.mem_cons_self
      rw [putRow_other rows _ fun q hq e => by
        have b1 := bd q (List.mem_cons_of_mem _ hq)
        have : hd q.1 = hd o.1 := by omega
        exact (h1 q hq).1 (this ▸ hd_mem (he.ne q hq))]
      unfold putRow
      exact List.getElem?_set_self (by omega)
    · refine putRow_hit rows _ he ?_ o ho
      unfold putRow
      rw [List.length_set, hl]
def bitsOf (ld : List (List Int)) (x : Int) (j : Nat) : Bool := bitAt (ld.getD x.toNat []) j
theorem loadFit_fit (h : Ech m w n rows) {j : Nat} : ∀ o ∈ rows, fitR (bitsOf (loadFit m.toNat w rows)) j o = false := by
  intro o ho
  have hw := h.wf o ho
  have e1 : ∀ x ∈ o.1, bitsOf (loadFit m.toNat w rows) x j = (decide (x = hd o.1) && bitAt o.2.1 j) := by
    intro x hx
    have bx := hw.set.2 x hx
    unfold bitsOf
    rw [List.getD_eq_getElem?_getD]
    by_cases q : x = hd o.1
    · subst q
      have := putRow_hit rows (List.replicate m.toNat (nought w)) h List.length_replicate o ho
      unfold loadFit
      rw [this]
      simp
    · have : (loadFit m.toNat w rows)[x.toNat]? = some (nought w) := by
        unfold loadFit
        rw [putRow_other rows _ fun p hp e => by
          have b1 := (h.wf p hp).set.2 _ (hd_mem (h.ne p hp))
          have e : hd p.1 = x := by omega
          by_cases pq : p = o
          · subst pq; exact q e.symm
          · have off : hd p.1 ∉ o.1 := by
              obtain ⟨i, hi, rfl⟩ := List.mem_iff_getElem.mp hp
              obtain ⟨l, hl, rfl⟩ := List.mem_iff_getElem.mp ho
              have off := List.pairwise_iff_getElem.mp h.off
              by_cases c : i < l
              · exact (off i l hi hl c).1
              · by_cases c2 : l < i
                · exact (off l i hl hi c2).2
                · have : i = l := by omega
                  subst this
                  exact (pq rfl).elim
            exact off (e ▸ hx)]
        rw [List.getElem?_replicate, if_pos (by omega)]
      rw [this]
      simp [q, bit_nought]
  unfold fitR
  rw [par_congr e1]
  cases q : bitAt o.2.1 j with
  | false => rw [par_false fun x _ => by simp]; rfl
  | true =>
    have : par (fun x => decide (x = hd o.1) && true) o.1 = true := by
      have := par_eq (ris_nodup hw.set.1) (hd o.1)
      rw [show has o.1 (hd o.1) = true from decide_eq_true (hd_mem (h.ne o ho))] at this
      exact (par_congr fun x _ => by simp).trans this
    rw [this]
    rfl
end
end GM
namespace GM
/-! ### the laws' own helpers for parcels -/
def lodd (ls : List (List Int)) (m : Nat) : List Int := ((List.range m).filter fun (k : Nat) => decide ((ls.map fun one => b01 (decide ((k : Int) ∈ one))).sum % 2 = 1)).map fun (k : Nat) => (k : Int)
theorem lodd_set (ls : List (List Int)) (m : Nat) : SetOk m (lodd ls m) := by
  unfold lodd
  refine ⟨List.pairwise_map.mpr ((List.pairwise_lt_range.sublist List.filter_sublist).imp fun h => by omega), fun x hx => ?_⟩
  obtain ⟨k, hk, rfl⟩ := List.mem_map.mp hx
  have := List.mem_range.mp (List.mem_filter.mp hk).1
  omega
theorem odd_par (ls : List (List Int)) (x : Int) : decide ((ls.map fun one => b01 (decide (x ∈ one))).sum % 2 = 1) = par (fun one => has one x) ls := by
  rw [sum_par (f := fun one : List Int => b01 (decide (x ∈ one))) fun a _ => by cases decide (x ∈ a) <;> simp [b01]]
  rw [par_congr (f := fun a : List Int => decide (b01 (decide (x ∈ a)) = 1)) (g := fun one => has one x) fun a _ => by unfold has; cases decide (x ∈ a) <;> rfl]
  cases par (fun one => has one x) ls <;> rfl
theorem has_lodd {ls : List (List Int)} {m : Nat} {x : Int} (h : 0 ≤ x ∧ x < m) : has (lodd ls m) x = par (fun one => has one x) ls := by
  rw [← odd_par]
  unfold lodd has
  refine decide_eq_decide.mpr ?_
  rw [List.mem_map]
  constructor
  · rintro ⟨k, hk, rfl⟩
    exact of_decide_eq_true (List.mem_filter.mp hk).2
  · intro q
    refine ⟨x.toNat, List.mem_filter.mpr ⟨List.mem_range.mpr (by omega), ?_⟩, by omega⟩
    rw [show ((x.toNat : Nat) : Int) = x by omega]
    exact decide_eq_true q
/-- what an odd number of sets holds is the set l -/
theorem lodd_is {ls : List (List Int)} {m : Nat} {l : List Int} (hl : SetOk m l) (h : ∀ x, 0 ≤ x ∧ x < (m : Int) → par (fun one => has one x) ls = has l x) : lodd ls m = l := by
  refine setOk_ext (lodd_set ls m) hl fun x => ?_
  by_cases b : 0 ≤ x ∧ x < (m : Int)
  · rw [has_lodd b, h x b]
  · have n : ∀ {l : List Int}, SetOk m l → has l x = false := fun hl => decide_eq_false fun q => b (hl.2 x q)
    rw [n (lodd_set ls m), n hl]
def turned (v : List Int) (c : Int) : List Int := v.take (mix c 10133 v.length).toNat ++ [1 - v.getD (mix c 10133 v.length).toNat 0] ++ v.drop ((mix c 10133 v.length).toNat + 1)
theorem val_turned {w : Nat} {v : List Int} {c : Int} (h : Val w v) (hw : 1 ≤ w) : Val w (turned v c) := by
  have b := mix_lt (c := c) (p := 10133) (m := v.length) (by have := h.1; omega)
  unfold turned
  refine ⟨?_, fun x hx => ?_⟩
  · have := h.1
    simp only [List.length_append, List.length_take, List.length_drop, List.length_cons, List.length_nil]
    omega
  · rcases List.mem_append.mp hx with hx | hx
    · rcases List.mem_append.mp hx with hx | hx
      · exact h.2 x (List.mem_of_mem_take hx)
      · have := val_bd h (mix c 10133 v.length).toNat
        rw [List.mem_singleton.mp hx]
        omega
    · exact h.2 x (List.mem_of_mem_drop hx)
def some3 (c : Int) (bf : List Par) : List Par := [10141, 10151, 10159].map fun (pr : Int) => pAt bf (mix c pr bf.length)
def parcelOf (c : Int) (w : Nat) (ld : List (List Int)) (bf : List Par) : Par :=
  if 4 < mix c 10139 8 ∧ bf ≠ [] then (lodd ((some3 c bf).map fun p => p.1) ld.length, if mix c 10139 8 = 7 then turned (lsum ((some3 c bf).map fun p => p.2) w) c else lsum ((some3 c bf).map fun p => p.2) w)
  else if mix c 10139 8 = 0 then (lset c ld.length, bits (c + 7) w)
  else if mix c 10139 8 = 1 then ([], [lsum [] w, bits c w].getD (mix c 10163 2).toNat [])
  else (lset c ld.length, lsum ((lset c ld.length).map fun p => ld.getD p.toNat []) w)
theorem parcelOf_ok {c : Int} {w : Nat} {ld : List (List Int)} {bf : List Par} (hw : 1 ≤ w) (hl : 1 ≤ ld.length) : ParOk ld.length w (parcelOf c w ld bf) := by
  have b := mix_lt (c := c) (p := 10163) (m := 2) (by decide)
  have hs : SetOk ld.length (lset c ld.length) := setOk_iff.mpr (lset_set (by omega))
  unfold parcelOf
  split
  · refine ⟨lodd_set _ _, ?_⟩
    dsimp only
    split
    · exact val_turned (val_lsum _ _) hw
    · exact val_lsum _ _
  · split
    · exact ⟨hs, val_bits _ _⟩
    · split
      · refine ⟨setOk_nil, ?_⟩
        have : (mix c 10163 2).toNat = 0 ∨ (mix c 10163 2).toNat = 1 := by omega
        rcases this with e | e <;> rw [e]
        · exact val_lsum _ _
        · exact val_bits _ _
      · exact ⟨hs, val_lsum _ _⟩
theorem pAt_in {ps : List Par} {i : Int} (h : 0 ≤ i ∧ i < ps.length) : ps[i.toNat]? = some (pAt ps i) := by
  unfold pAt
  rw [List.getD_eq_getElem?_getD, List.getElem?_eq_getElem (by omega : i.toNat < ps.length)]
  rfl
theorem pAt_mem {ps : List Par} {i : Int} (h : 0 ≤ i ∧ i < ps.length) : pAt ps i ∈ ps := List.mem_of_getElem? (pAt_in h)
/-- a load fits, told as the laws tell it -/
theorem fits_sum {m : Int} {w : Nat} {ld : List (List Int)} {p : Par} (hp : ParOk m w p) (hm : ld.length = m.toNat) (hv : ∀ v ∈ ld, Val w v) (h : ∀ j, j < w → fitP (bitsOf ld) j p = false) : lsum (p.1.map fun x => ld.getD x.toNat []) w = p.2 := by
  refine val_ext (val_lsum _ _) hp.val fun j hj => ?_
  rw [bit_lsum (fun v hv' => ?_) hj, par_map]
  · have := h j hj
    unfold fitP bitsOf at this
    revert this
    cases par (fun x : Int => bitAt (ld.getD x.toNat []) j) p.1 <;> cases bitAt p.2 j <;> simp
  · obtain ⟨x, hx, rfl⟩ := List.mem_map.mp hv'
    have b := hp.set.2 x hx
    rw [List.getD_eq_getElem?_getD, List.getElem?_eq_getElem (by omega : x.toNat < ld.length)]
    exact hv _ (List.getElem_mem _)
theorem sum_fits {w : Nat} {ld : List (List Int)} {p : Par} (hv : ∀ x ∈ p.1, Val w (ld.getD x.toNat [])) (h : lsum (p.1.map fun x => ld.getD x.toNat []) w = p.2) {j : Nat} (hj : j < w) : fitP (bitsOf ld) j p = false := by
  unfold fitP bitsOf
  rw [← h, bit_lsum (fun v hv' => by obtain ⟨x, hx, rfl⟩ := List.mem_map.mp hv'; exact hv x hx) hj, par_map]
  exact Bool.xor_self _
/-- a quarrel's values' sum isn't nought -/
theorem quarrel_one {w : Nat} {ps : List Par} {q : List Int} (h : Quarrel w ps q) (hv : ∀ p ∈ ps, Val w p.2) : (1 : Int) ∈ lsum (q.map fun i => (pAt ps i).2) w := by
  obtain ⟨j, hj, hb⟩ := h.some
  have e := bit_lsum (vs := q.map fun i => (pAt ps i).2) (w := w) (k := j) (fun v hv' => by
    obtain ⟨i, hi, rfl⟩ := List.mem_map.mp hv'
    exact hv _ (pAt_mem (h.set.2 i hi))) hj
  rw [par_map, hb] at e
  unfold bitAt at e
  have e := of_decide_eq_true e
  rw [List.getD_eq_getElem?_getD, List.getElem?_eq_getElem (by rw [lsum_len]; exact hj)] at e
  have e : (lsum (q.map fun i => (pAt ps i).2) w)[j]'(by rw [lsum_len]; exact hj) = 1 := e
  rw [← e]
  exact List.getElem_mem _
theorem quarrel_none {w : Nat} {ps : List Par} {q : List Int} (h : Quarrel w ps q) {m : Nat} : lodd (q.map fun i => (pAt ps i).1) m = [] := by
  refine lodd_is setOk_nil fun x _ => ?_
  rw [par_map, h.none x]
  rfl
end GM
namespace GM
theorem load_good {m : Int} {w : Nat} {ps : List Par} {rows : List Rw} (hp : ∀ p ∈ ps, ParOk m w p) (I : RInv m w ps ps.length rows) : ∀ p ∈ ps, lsum (p.1.map fun x => (loadFit m.toNat w rows).getD x.toNat []) w = p.2 := by
  intro p hm
  obtain ⟨i, hi, rfl⟩ := List.mem_iff_getElem.mp hm
  refine fits_sum (hp _ hm) loadFit_len (loadFit_val fun o ho => (I.ech.wf o ho).val) fun j hj => ?_
  have := (I.fit (bitsOf (loadFit m.toNat w rows))).mp (fun o ho j _ => loadFit_fit I.ech o ho) i hi j hj
  rwa [pAt_get (List.getElem?_eq_getElem hi)] at this
theorem load_ok {m : Int} {w : Nat} {n : Int} {rows : List Rw} (h : Ech m w n rows) : ∀ v ∈ loadFit m.toNat w rows, Val w v := loadFit_val fun o ho => (h.wf o ho).val
end GM
namespace GM
/-! ### suspects -/
def lessOne {α : Type} (ps : List α) (k : Nat) : List α := ps.take k ++ ps.drop (k + 1)
theorem lessOne_mem {α : Type} {ps : List α} {k : Nat} {x : α} (h : x ∈ lessOne ps k) : x ∈ ps := by
  rcases List.mem_append.mp h with h | h
  · exact List.mem_of_mem_take h
  · exact List.mem_of_mem_drop h
theorem lessOne_len {α : Type} {ps : List α} {k : Nat} (h : k < ps.length) : (lessOne ps k).length = ps.length - 1 := by
  unfold lessOne
  rw [List.length_append, List.length_take, List.length_drop]
  omega
def suspectsOf (ps : List Par) : List Int := if (rowsOf ps).2.isNone then [] else ((List.range ps.length).filter fun k => (rowsOf (lessOne ps k)).2.isNone).map fun (k : Nat) => (k : Int)
end GM
namespace GM
/-! ### k12 -/
def k12Step (tr : Bool) (w : Nat) (ld : List (List Int)) (ps : List Par) (c : Int) : List Par :=
  ps ++ [((parcelOf c w ld ps).1, if tr then lsum ((parcelOf c w ld ps).1.map fun x => ld.getD x.toNat []) w else (parcelOf c w ld ps).2)]
def k12Raw (tr : Bool) (w : Nat) (ld : List (List Int)) (cs : List Int) : List Par := cs.foldl (k12Step tr w ld) []
def k12Tr (ns : List Int) : Bool := decide (mix (cellAt ns 2) 10313 3 = 0)
def k12At (ns : List Int) (l : Nat) : Int := mix (cellAt ns 1) 10321 (l + 1)
def turnAt (ns : List Int) (ps : List Par) (i : Int) : List Par := ps.set i.toNat ((pAt ps i).1, turned (pAt ps i).2 (cellAt ns 0))
def k12Ps (ns : List Int) (tr : Bool) (ps : List Par) : List Par := if tr = true ∧ k12At ns ps.length < ps.length then turnAt ns ps (k12At ns ps.length) else ps
def ByLoad (w : Nat) (ld : List (List Int)) (p : Par) : Prop := lsum (p.1.map fun x => ld.getD x.toNat []) w = p.2
section
variable {tr : Bool} {w : Nat} {ld : List (List Int)}
theorem k12Step_ok {ps : List Par} {c : Int} (hw : 1 ≤ w) (hl : 1 ≤ ld.length) (h : ∀ p ∈ ps, ParOk ld.length w p ∧ (tr = true → ByLoad w ld p)) : ∀ p ∈ k12Step tr w ld ps c, ParOk ld.length w p ∧ (tr = true → ByLoad w ld p) := by
  intro p hp
  have ok := parcelOf_ok (c := c) (w := w) (ld := ld) (bf := ps) hw hl
  unfold k12Step at hp
  rcases List.mem_append.mp hp with hp | hp
  · exact h p hp
  · rw [List.mem_singleton.mp hp]
    refine ⟨⟨ok.set, ?_⟩, fun e => ?_⟩
    · dsimp only
      split
      · exact val_lsum _ _
      · exact ok.val
    · unfold ByLoad
      dsimp only
      rw [if_pos e]
theorem k12Step_len {ps : List Par} {c : Int} : (k12Step tr w ld ps c).length = ps.length + 1 := by
  unfold k12Step
  rw [List.length_append]
  rfl
theorem k12Raw_go (hw : 1 ≤ w) (hl : 1 ≤ ld.length) : ∀ (cs : List Int) (ps : List Par), (∀ p ∈ ps, ParOk ld.length w p ∧ (tr = true → ByLoad w ld p)) → (∀ p ∈ cs.foldl (k12Step tr w ld) ps, ParOk ld.length w p ∧ (tr = true → ByLoad w ld p)) ∧ (cs.foldl (k12Step tr w ld) ps).length = ps.length + cs.length
  | [], ps, h => ⟨h, rfl⟩
  | c :: cs, ps, h => by
    obtain ⟨h1, h2⟩ := k12Raw_go hw hl cs (k12Step tr w ld ps c) (k12Step_ok hw hl h)
    refine ⟨h1, ?_⟩
    rw [List.foldl_cons, h2, k12Step_len, List.length_cons]
    omega
theorem lessOne_set {α : Type} (ps : List α) (k : Nat) (a : α) : lessOne (ps.set k a) k = lessOne ps k := by
  unfold lessOne
  rw [List.take_set_of_le (Nat.le_refl _), List.drop_set_of_lt (Nat.lt_succ_self _)]
/-- where all are by the load none quarrel -/
theorem byLoad_none {m : Int} {ps : List Par} (hp : ∀ p ∈ ps, ParOk m w p) (hm : (ld.length : Int) = m) (hv : ∀ v ∈ ld, Val w v) (h : ∀ p ∈ ps, ByLoad w ld p) : (rowsOf ps).2 = none := by
  cases q : (rowsOf ps).2 with
  | none => rfl
  | some q' =>
    refine ((rowsOf_spec hp).1 q' q).no (bitsOf ld) (fun i hi j hj => ?_) |>.elim
    have hm' := pAt_mem (ps := ps) (i := i) ⟨by omega, by omega⟩
    refine sum_fits (fun x hx => ?_) (h _ hm') hj
    have b := (hp _ hm').set.2 x hx
    rw [List.getD_eq_getElem?_getD, List.getElem?_eq_getElem (by omega : x.toNat < ld.length)]
    exact hv _ (List.getElem_mem _)
end
/-- all that the law knows of its parcels -/
theorem k12Ps_ok {w : Nat} {ld : List (List Int)} {cs : List Int} {ns : List Int} (hw : 1 ≤ w) (hl : 1 ≤ ld.length) :
    (∀ p ∈ k12Ps ns (k12Tr ns) (k12Raw (k12Tr ns) w ld cs), ParOk ld.length w p) ∧ (k12Ps ns (k12Tr ns) (k12Raw (k12Tr ns) w ld cs)).length = cs.length := by
  obtain ⟨h1, h2⟩ := k12Raw_go (tr := k12Tr ns) hw hl cs [] fun _ h => (List.not_mem_nil h).elim
  have h1 : ∀ p ∈ k12Raw (k12Tr ns) w ld cs, ParOk ld.length w p := fun p hp => (h1 p hp).1
  have h2 : (k12Raw (k12Tr ns) w ld cs).length = cs.length := by have := h2; rw [List.length_nil, Nat.zero_add] at this; exact this
  generalize k12Raw (k12Tr ns) w ld cs = ps at *
  unfold k12Ps
  split
  · rename_i h
    have b : 0 ≤ k12At ns ps.length := (mix_lt (by omega)).1
    have ok := h1 _ (pAt_mem ⟨b, h.2⟩)
    unfold turnAt
    refine ⟨fun p hp => ?_, by rw [List.length_set, h2]⟩
    rcases List.mem_or_eq_of_mem_set hp with q | q
    · exact h1 p q
    · rw [q]
      exact ⟨ok.set, val_turned ok.val hw⟩
  · exact ⟨h1, h2⟩
theorem k12_last {w : Nat} {ld : List (List Int)} {cs : List Int} {ns : List Int} (hw : 1 ≤ w) (hl : 1 ≤ ld.length) (hv : ∀ v ∈ ld, Val w v) (ht : k12Tr ns = true)
    (hq : (rowsOf (k12Ps ns (k12Tr ns) (k12Raw (k12Tr ns) w ld cs))).2.isNone = false) : k12At ns cs.length ∈ suspectsOf (k12Ps ns (k12Tr ns) (k12Raw (k12Tr ns) w ld cs)) := by
  obtain ⟨o1, o2⟩ := k12Ps_ok (w := w) (ld := ld) (cs := cs) (ns := ns) hw hl
  obtain ⟨h1, h2⟩ := k12Raw_go (tr := k12Tr ns) hw hl cs [] fun _ h => (List.not_mem_nil h).elim
  have h1 : ∀ p ∈ k12Raw (k12Tr ns) w ld cs, ParOk ld.length w p ∧ (k12Tr ns = true → ByLoad w ld p) := h1
  have h2 : (k12Raw (k12Tr ns) w ld cs).length = cs.length := by have := h2; rw [List.length_nil, Nat.zero_add] at this; exact this
  generalize k12Raw (k12Tr ns) w ld cs = ps at *
  have b := mix_lt (c := cellAt ns 1) (p := 10321) (m := (ps.length : Int) + 1) (by omega)
  have b : 0 ≤ k12At ns ps.length ∧ k12At ns ps.length < ps.length + 1 := b
  rw [← h2]
  by_cases c : k12At ns ps.length < ps.length
  · have ek : ((k12At ns ps.length).toNat : Int) = k12At ns ps.length := Int.toNat_of_nonneg b.1
    have less : lessOne (k12Ps ns (k12Tr ns) ps) (k12At ns ps.length).toNat = lessOne ps (k12At ns ps.length).toNat := by
      unfold k12Ps
      rw [if_pos ⟨ht, c⟩]
      exact lessOne_set _ _ _
    unfold suspectsOf
    rw [hq]
    refine List.mem_map.mpr ⟨(k12At ns ps.length).toNat, List.mem_filter.mpr ⟨List.mem_range.mpr (by omega), ?_⟩, ek⟩
    rw [less, byLoad_none (m := ld.length) (fun p hp => (h1 p (lessOne_mem hp)).1) rfl hv fun p hp => (h1 p (lessOne_mem hp)).2 ht]
    rfl
  · exfalso
    have e : k12Ps ns (k12Tr ns) ps = ps := by
      unfold k12Ps
      rw [if_neg fun h => c h.2]
    rw [e, byLoad_none (m := ld.length) (fun p hp => (h1 p hp).1) rfl hv fun p hp => (h1 p hp).2 ht] at hq
    cases hq
end GM

set_option Elab.async false
set_option linter.all false
set_option maxRecDepth 100000
set_option maxHeartbeats 4000000
/-! GY: list(range(n)), rows and parcels as data -/
namespace GM
def upI (n : Nat) : List Int := (List.range n).map fun (k : Nat) => (k : Int)
theorem upI_mem {n : Nat} {x : Int} : x ∈ upI n ↔ 0 ≤ x ∧ x < n := by
  unfold upI
  rw [List.mem_map]
  constructor
  · rintro ⟨k, hk, rfl⟩
    have := List.mem_range.mp hk
    omega
  · rintro ⟨h1, h2⟩
    exact ⟨x.toNat, List.mem_range.mpr (by omega), by omega⟩
theorem upI_ris (n : Nat) : Rise (upI n) := List.pairwise_map.mpr (List.pairwise_lt_range.imp fun h => by omega)
end GM
namespace GL
open PySem PySem.Spec L2
section
variable {X : Cx} {B0 H0 : Hp} {δ : List (Option A)} {e : Expr} {p1 p2 p3 pos : Pos}
theorem n_listRg {n : Int} (h : Pe X B0 H0 δ e (.d (.int n))) (hn : 0 ≤ n ∧ n ≤ 1000) (hc : X.calm = true) (hm : X.mg "list" = none) (hm2 : X.mg "range" = none) (hg : Gl X "list" := by rfl) (hg2 : Gl X "range" := by rfl)
    (na : starEach [e] X.env = (false, eval e X.env) :: starEach [] X.env := by rfl) (na2 : starEach [.Call (.Name "range" p2) [e] [] p3] X.env = (false, eval (.Call (.Name "range" p2) [e] [] p3) X.env) :: starEach [] X.env := by rfl) :
    Pn X B0 H0 δ (.Call (.Name "list" p1) [.Call (.Name "range" p2) [e] [] p3] [] pos) ((GM.upI n.toNat).map .int) :=
  pe_to (pe_listRg hc hg hm (prg_1 hg2 hm2 h na) na2) fun σ H Q ⟨B, E, S, k⟩ => ⟨B, E, S, fun v B' H' E1 r => ⟨n, ra_int r, RgOk.of_le (by decide) (by omega) (by decide) hn.1, fun q hq => by
    refine k q (rgV 0 n) B' _ (E1.tr (Ext.own E1.s hq)) (sub_free E1.h hq) (sub_free E1.s hq) upd_same ?_
    have e : rgV 0 n = (GM.upI n.toNat).map V.int := by
      unfold rgV GM.upI
      rw [List.map_map, Int.sub_zero]
      exact List.map_congr_left fun i _ => by show V.int (0 + (i : Int)) = V.int (i : Int); rw [Int.zero_add]
    rw [e]
    exact ints_dqs _⟩⟩
end
section
variable {X : Cx} {B0 H0 : Hp} {δ : List (Option A)} {e e2 : Expr} {xs : List PyData} {x : PyData} {p1 p2 p3 pos : Pos}
/-- own[i] = e, the index known -/
theorem ws_put {E : AE} {rest : List Stmt} {i j : Nat} {xn : Str} {n : Int} {spos : Pos} (hδ : δ[i]? = some (some (.o xs))) (he : Pe X B0 H0 δ e (.d x)) (hi : Pe X B0 H0 δ e2 (.d (.int n))) (hj : ixN xs.length n = some j) (hf : fixd δ = true) (hr : Ws X B0 H0 (δ.set i (some (.o (xs.set j x)))) rest E) (hN : X.N[i]? = some xn) (hv : Vis X.env.scope xn)
    (h1 : (xn == ("__debug__" : Str)) = false := by decide) (h2 : (xn == ("__classdict__" : Str)) = false := by decide)
    (ha : ∀ v, assign (.Subscript (.Name xn p1) e2 p2) X.env v = (do
      let ov ← holding [v] (eval (.Name xn p1) X.env)
      let iv ← holding [v, ov] (eval e2 X.env)
      standAt p2
      holding [v, ov, iv] (setItem ov iv v)
      release [v, ov, iv] []) := by intro _; rfl)
    (hs : swapsWithSole [.Subscript (.Name xn p1) e2 p2] e spos.line X.env = pure false := by rfl) (hw : swappedStores [.Subscript (.Name xn p1) e2 p2] e X.env = pure none := by rfl) (h3 : (assignEach [.Subscript (.Name xn p1) e2 p2] X.env).map (·.2) = [assign (.Subscript (.Name xn p1) e2 p2) X.env] := by rfl) :
    Ws X B0 H0 δ (.Assign [.Subscript (.Name xn p1) e2 p2] e spos :: rest) E :=
  ws_store hδ he hi hj hf hr hN hv (pg_sub (pe_var (i := i) hN hv h1 h2) hi set_list ha) hs hw h3
/-- x, y = a, b -/
theorem ws_par {E : AE} {rest : List Stmt} {i j : Nat} {n1 n2 : Str} {px py pt pt2 : Pos} {kt k2} {a1 a2 : A} (ha : Pa X B0 H0 δ [e, e2] [a1, a2]) (k1 : stay a1 = true) (k2' : stay a2 = true) (hr : Ws X B0 H0 ((δ.set i (some a1)).set j (some a2)) rest E) (hN : X.N.Nodup) (hi : X.N[i]? = some n1) (hj : X.N[j]? = some n2) (hij : i ≠ j) (hx : X.env.scope.names.lookup n1 = some .local) (hy : X.env.scope.names.lookup n2 = some .local) (hc : X.calm = true)
    (hw : swappedStores [.Tuple [.Name n1 px, .Name n2 py] kt pt] (.Tuple [e, e2] k2 pt2) X.env = pure (some [n1, n2])) (hs : swapsWithSole [.Tuple [.Name n1 px, .Name n2 py] kt pt] (.Tuple [e, e2] k2 pt2) pos.line X.env = pure false := by rfl) :
    Ws X B0 H0 δ (.Assign [.Tuple [.Name n1 px, .Name n2 py] kt pt] (.Tuple [e, e2] k2 pt2) pos :: rest) E := by
  refine ws_cons (W := fun B H δ' => B = B0 ∧ H = H0 ∧ δ' = (δ.set i (some a1)).set j (some a2)) (ps_par hc hN hi hj hij hx hy ha hw hs) (fun B H δ' ⟨h1, h2, h3⟩ => by rw [h1, h2, h3]; exact hr) fun D σ H B E0 S z => ⟨B, E0, S, fun vs B' H' E1 r => ?_⟩
  cases r with
  | cons d1 t =>
    cases t with
    | cons d2 t =>
      cases t
      exact ⟨_, _, rfl, z.nx _ _ _ _ B' H' ⟨rfl, rfl, rfl⟩ E1.b (E0.tr E1) (SD.set (SD.set (S.mono E1) d1 (stay_no k1).1 (stay_no k1).2) d2 (stay_no k2').1 (stay_no k2').2)⟩
/-- what is known of a slot is let go -/
theorem set_none_get {δ : List (Option A)} {i j : Nat} {a : A} (h : (δ.set i none)[j]? = some (some a)) : δ[j]? = some (some a) := by
  by_cases q : i = j
  · subst q
    by_cases hi : i < δ.length
    · rw [List.getElem?_set_self hi] at h; cases h
    · rw [List.getElem?_eq_none (by simpa using hi)] at h; cases h
  · rwa [List.getElem?_set_ne q] at h
theorem sd_forget {K : PySem.W.Frag} {H0 B H : Hp} {σ : L2.St} {δ : List (Option A)} (S : SD K H0 B H σ δ) (i : Nat) : SD K H0 B H σ (δ.set i none) :=
  ⟨S.s, by rw [List.length_set]; exact S.len, fun j a h => S.rel j a (set_none_get h), fun j k a b v u q h1 h2 => S.dis j k a b v u q (set_none_get h1) (set_none_get h2), fun j a v q h1 => S.fr j a v q (set_none_get h1), fun j a v h1 => S.rd j a v (set_none_get h1)⟩
theorem ws_none {E : AE} {ss : List Stmt} (i : Nat) (h : Ws X B0 H0 (δ.set i none) ss E) : Ws X B0 H0 δ ss E :=
  pss_to h fun D σ H ⟨B, E0, S, z⟩ => ⟨B, E0, sd_forget S i, z⟩
/-- x, y, z = e, a list of three, plain names -/
theorem ws_thrL {E : AE} {rest : List Stmt} {i j l : Nat} {n1 n2 n3 : Str} {px py pz pt : Pos} {kt} {x y z : PyData} (he : Pe X B0 H0 δ e (.d (.list [x, y, z]))) (hr : Ws X B0 H0 (((δ.set i (some (.d x))).set j (some (.d y))).set l (some (.d z))) rest E) (hN : X.N.Nodup) (hi : X.N[i]? = some n1) (hj : X.N[j]? = some n2) (hl : X.N[l]? = some n3) (hx : Loc X.env.scope n1) (hy : Loc X.env.scope n2) (hz : Loc X.env.scope n3) (hc : X.calm = true)
    (hf : X.fn n1 = true ∨ X.env.scope.names.lookup n1 = some .local := by first | exact .inl rfl | exact .inr rfl | assumption) (hf2 : X.fn n2 = true ∨ X.env.scope.names.lookup n2 = some .local := by first | exact .inl rfl | exact .inr rfl | assumption) (hf3 : X.fn n3 = true ∨ X.env.scope.names.lookup n3 = some .local := by first | exact .inl rfl | exact .inr rfl | assumption)
    (s1 : (assignEach [.Name n1 px, .Name n2 py, .Name n3 pz] X.env).map (·.2) = assign (.Name n1 px) X.env :: (assignEach [.Name n2 py, .Name n3 pz] X.env).map (·.2) := by rfl) (s2 : (assignEach [.Name n2 py, .Name n3 pz] X.env).map (·.2) = assign (.Name n2 py) X.env :: (assignEach [.Name n3 pz] X.env).map (·.2) := by rfl) (s3 : (assignEach [.Name n3 pz] X.env).map (·.2) = assign (.Name n3 pz) X.env :: (assignEach [] X.env).map (·.2) := by rfl)
    (hn : (assignEach [.Name n1 px, .Name n2 py, .Name n3 pz] X.env).length = 3 := by rfl) (hst : (assignEach [.Name n1 px, .Name n2 py, .Name n3 pz] X.env).findIdx? (·.1) = none := by rfl)
    (hs : swapsWithSole [.Tuple [.Name n1 px, .Name n2 py, .Name n3 pz] kt pt] e pos.line X.env = pure false := by rfl) (hw : swappedStores [.Tuple [.Name n1 px, .Name n2 py, .Name n3 pz] kt pt] e X.env = pure none := by rfl) (h1 : (assignEach [.Tuple [.Name n1 px, .Name n2 py, .Name n3 pz] kt pt] X.env).map (·.2) = [assign (.Tuple [.Name n1 px, .Name n2 py, .Name n3 pz] kt pt) X.env] := by rfl) :
    Ws X B0 H0 δ (.Assign [.Tuple [.Name n1 px, .Name n2 py, .Name n3 pz] kt pt] e pos :: rest) E := by
  refine ws_cons (W := fun B H δ' => B = B0 ∧ H = H0 ∧ δ' = ((δ.set i (some (.d x))).set j (some (.d y))).set l (some (.d z))) (ps_asg he (pg_lst hc (pgs_cons (pg_name hN hi hx hf) (pgs_cons (pg_name hN hj hy hf2) (pgs_cons (pg_name hN hl hz hf3) pgs_nil s3) s2) s1) hn hst) hs hw h1) (fun B H δ' ⟨h1, h2, h3⟩ => by rw [h1, h2, h3]; exact hr) fun D σ H B E0 S q => ⟨B, E0, S, fun v B' H' E1 r => ?_⟩
  cases r with
  | @lst p vs _ hp hd =>
    cases hd with
    | @cons u _ _ _ d1 t =>
      cases t with
      | @cons u2 _ _ _ d2 t =>
        cases t with
        | @cons u3 _ _ _ d3 t =>
          cases t
          refine ⟨p, [u, u2, u3], rfl, .inl (.inl (E1.s _ _ hp)), rfl, u, [u2, u3], rfl, u2, [u3], rfl, u3, [], rfl, rfl, ?_⟩
          exact q.nx _ _ _ _ B' H' ⟨rfl, rfl, rfl⟩ E1.b (E0.tr E1) (SD.set (a := .d z) (SD.set (a := .d y) (SD.set (a := .d x) (S.mono E1) d1 rfl) d2 rfl) d3 rfl)
/-- y = [..], the new list kept as one's own -/
theorem ws_lcO {E : AE} {rest : List Stmt} {st : Stmt} {i : Nat} (h : PS X st (tAsg (tPn X.K B0 H0 δ xs) (gName i))) (hr : Ws X B0 H0 (δ.set i (some (.o xs))) rest E) : Ws X B0 H0 δ (st :: rest) E :=
  ws_cons (W := fun B H δ' => B = B0 ∧ H = H0 ∧ δ' = δ.set i (some (.o xs))) h (fun B H δ' ⟨h1, h2, h3⟩ => by rw [h1, h2, h3]; exact hr) fun D σ H B E0 S z =>
    ⟨B, E0, S, fun p vs B' H' E1 hp hb hl hd => z.nx _ _ _ _ B' H' ⟨rfl, rfl, rfl⟩ E1.b (E0.tr E1) (S.setN E0.h E1 ⟨p, vs, rfl, hb, hl, hd⟩ fun q f => by have f : V.ref p = V.ref q := f; cases f; exact hp)⟩
end
instance (priority := 600) sl_map {α : Type} {a} {f : α → PyData} {zs : List α} [Ls a (zs.map f)] : SliceR a (fun l u => .d (.list ((cut zs l u).map f))) := ⟨fun X _ _ _ _ _ _ _ _ _ _ h h1 h2 => (n_slice h h1 h2 (fun B H v s r => ls_sl X.K B H v s r)).dat.is (by simp only [cutD, map_cut])⟩
instance (priority := 600) ad_map {α : Type} {a1 a2} {f : α → PyData} {xs ys : List α} [Ls a1 (xs.map f)] [Ls a2 (ys.map f)] : AddR a1 a2 (xs.length + ys.length ≤ 1000) (.d (.list ((xs ++ ys).map f))) := ⟨fun s _ _ _ _ _ _ _ h1 h2 => (n_cat h1 h2 (by rw [List.length_map, List.length_map]; exact s)).dat.is (by rw [List.map_append])⟩
theorem cut_two {α : Type} (zs : List α) (k : Nat) : cut zs none (some (k : Int)) ++ cut zs (some ((k : Int) + 1)) none = GM.lessOne zs k := by
  rw [cut_to (by omega), cut_from (by omega), Int.toNat_natCast, show ((k : Int) + 1).toNat = k + 1 by omega]
  rfl
theorem isN_op (q : Option (List Int)) : isN (match q with | none => PyData.none | some q => li q) = q.isNone := by cases q <;> rfl
theorem cut_mem {α : Type} {zs : List α} {l u : Option Int} {x : α} (h : x ∈ cut zs l u) : x ∈ zs := by
  unfold cut at h
  exact List.mem_of_mem_drop (List.mem_of_mem_take h)
theorem cut_len {α : Type} {zs : List α} {l u : Option Int} : (cut zs l u).length ≤ zs.length := by
  unfold cut
  rw [List.length_take, List.length_drop]
  omega
theorem cut_len2 {α : Type} {zs : List α} {i j : Int} (h : 0 ≤ i) (h2 : i ≤ j) : (cut zs (some i) (some j)).length ≤ (j - i).toNat := by
  unfold cut
  rw [six_nat h, six_nat (by omega), List.length_take, List.length_drop]
  omega
/-- a row, a parcel -/
abbrev rwD (r : GM.Rw) : PyData := .tuple [li r.1, ti r.2.1, li r.2.2]
abbrev prD (p : GM.Par) : PyData := .tuple [li p.1, ti p.2]
abbrev opL : Option (List Int) → PyData
  | none => .none
  | some q => li q
theorem ix_in {l : Nat} {i : Int} (h : 0 ≤ i ∧ i < l) : ixN l i = some i.toNat := by
  unfold ixN
  rw [if_pos h.1, if_pos h.2]
theorem hd_get {l : List Int} (h : l ≠ []) : (l.map PyData.int)[0]? = some (.int (GM.hd l)) := by
  cases l with
  | nil => exact absurd rfl h
  | cons x l => rfl
/-- the sizes that the laws keep to -/
structure Dims (m : Int) (w : Nat) (n : Int) : Prop where
  m : m ≤ 24
  w : w ≤ 32
  n : n ≤ 61
theorem wf_small {m : Int} {w : Nat} {n : Int} {r : GM.Rw} (D : Dims m w n) (h : GM.Wf m w n r) : r.1.length ≤ 100 ∧ r.2.1.length ≤ 100 ∧ r.2.2.length ≤ 100 := by
  have h1 := GM.setOk_len h.set
  have h2 := GM.setOk_len h.num
  have h3 := h.val.1
  have := D.m
  have := D.w
  have := D.n
  omega
theorem sh_pr (p : GM.Par) : Sh 2 (prD p) := sh_tuple (n := 1) fun d hd => by
  rcases List.mem_cons.mp hd with rfl | hd
  · exact sh_li _
  · rw [List.mem_singleton.mp hd]; exact sh_ti _
theorem sh_prs (ps : List GM.Par) : Sh 40 (.list (ps.map prD)) := Sh.up (sh_list (n := 2) fun d hd => by
  obtain ⟨p, _, rfl⟩ := List.mem_map.mp hd
  exact sh_pr p)
def fitD (m w : Int) (ps : List GM.Par) : PyData := match (GM.rowsOf ps).2 with
  | some _ => .none
  | none => .list ((GM.loadFit m.toNat w.toNat (GM.rowsOf ps).1).map ti)
end GL

set_option Elab.async false
set_option linter.all false
set_option maxRecDepth 100000
set_option maxHeartbeats 4000000
/-! GO: objects: fields read, methods called -/
namespace GL
open PySem PySem.Spec L2
def putFd (f : Str) (x : Fd) : List (Str × Fd) → List (Str × Fd)
  | [] => [(f, x)]
  | (g, y) :: r => if g = f then (g, x) :: r else (g, y) :: putFd f x r
def fdA : Fd → A
  | .d x => .d x
  | .o xs => .r xs
  | .g ks => .rg ks
theorem fdv_look {K : PySem.W.Frag} {B H : Hp} {f : Str} {x : Fd} : ∀ {gs : List (Str × V)} {fs : List (Str × Fd)}, FdV B H gs fs → fs.lookup f = some x → ∃ v, gs.lookup f = some v ∧ RA K B H v (fdA x)
  | _, _, .nil, h => by cases h
  | _, _, @FdV.cons _ _ n v y gs fs r t, h => by
    unfold List.lookup at h ⊢
    split at h
    · have e := Option.some.inj h
      subst e
      refine ⟨v, by simp [*], ?_⟩
      cases y with
      | d x => exact r
      | o xs => exact r
      | g ks => exact r
    · obtain ⟨u, h1, h2⟩ := fdv_look t h
      exact ⟨u, by simp [*], h2⟩
theorem fdv_no {B H : Hp} {f : Str} : ∀ {gs : List (Str × V)} {fs : List (Str × Fd)}, FdV B H gs fs → fs.lookup f = none → gs.lookup f = none
  | _, _, .nil, _ => rfl
  | _, _, @FdV.cons _ _ n v y gs fs r t, h => by
    unfold List.lookup at h ⊢
    split at h
    · cases h
    · simp [*, fdv_no t h]
theorem fdv_len {B H : Hp} : ∀ {gs : List (Str × V)} {fs : List (Str × Fd)}, FdV B H gs fs → gs.length = fs.length
  | _, _, .nil => rfl
  | _, _, .cons _ t => congrArg (· + 1) (fdv_len t)
/-- a is an object of the class at C with these fields -/
class ObR (a : A) (C : outParam Addr) (fs : outParam (List (Str × Fd))) : Prop where
  ok : ∀ (K : PySem.W.Frag) (B H : Hp) (v : V), RA K B H v a → ∃ p dx gs, v = .ref p ∧ H p = some (.ins C dx gs) ∧ FdV B H gs fs
instance ob_ob {p C fs} : ObR (.ob p C fs) C fs := ⟨fun _ _ _ _ ⟨e, _, dx, gs, hp, hw, _⟩ => ⟨p, dx, gs, e, hp, fdv_of hw⟩⟩
instance ob_rb {C fs} : ObR (.rb C fs) C fs := ⟨fun _ _ _ _ h => h⟩
theorem op_inDk {X : Cx} (hu : X.A.units + 1 < cLine) : OpR X (compareOp .In) (fun y x H Q => ∃ a o, x = .ref a ∧ DGet H a y o ∧ Q (.bl o.isSome) H) := by
  rintro pins s σ H y x u v Q I ry rx ⟨a, o, rfl, g, q⟩
  obtain rfl : v = Value.ref a := rx
  exact d_in hu I g ry fun s3 I3 => ⟨.bl o.isSome, H, I3, rfl, q⟩
theorem op_notInDk {X : Cx} (hu : X.A.units + 1 < cLine) : OpR X (compareOp .NotIn) (fun y x H Q => ∃ a o, x = .ref a ∧ DGet H a y o ∧ Q (.bl (!o.isSome)) H) := by
  rintro pins s σ H y x u v Q I ry rx ⟨a, o, rfl, g, q⟩
  obtain rfl : v = Value.ref a := rx
  exact d_notIn hu I g ry fun s3 I3 => ⟨.bl (!o.isSome), H, I3, rfl, q⟩
def tMx (C : Addr) (m : Str) (sp : Sp) (E : L2.St → XK) (ta : TE) (t : TA) : TE := fun σ H Q => ta σ H fun x G => ∃ a dx fs, x = .ref a ∧ G a = some (.ins C dx fs) ∧ fs.lookup m = none ∧ t σ G fun vs G2 => sp (x :: vs) G2 Q (E σ)
/-- a method's call where what it lets out is told by the slots -/
theorem pe_methE {X : Cx} {CX : CXT} {k : Nat} {f C : Addr} {fd : FuncData} {ps : List Str} {sp : Sp} {E : L2.St → XK} {m : Str} {pos apos : Pos} {e o : Expr} {es : List Expr} {ta : TE} {t : TA} {pl : Sem Bool} (F : FnOk X.prog X.w X.K X.mg X.base CX k f fd ps sp) (ho : PE X o ta) (c : Cls X.K C) (hm : Meth X.K C m f) (hr : Room k X.A) (hb : Binds X.K fd ps []) (hx : ∀ σ, PassesAt CX X σ (E σ)) (ha : PA X (e :: es) t)
    (hst : starEach (e :: es) X.env = (false, eval e X.env) :: starEach es X.env) (hpl : (backTo pos (starEach es X.env)).any (·.1) = false)
    (ht : eval (.Call (.Attribute o m apos) (e :: es) [] pos) X.env = (do
      let ov ← eval o X.env
      standAt apos.atName
      let (f, first) ← holding [ov] (getMethod ov m pl)
      callWith pos f first (backTo pos (starEach (e :: es) X.env)) (backToKw pos (keywordEach [] X.env)))) : PE X (.Call (.Attribute o m apos) (e :: es) [] pos) (tMx C m sp E ta t) :=
  ⟨fun pins s σ H Q I h => PySem.W.methodCall_KW (pl := pl) (thn (ho.run pins s σ H _ I h) fun u s1 ⟨x, H1, I1, rx, a, dx, fs, ex, ea, l, q⟩ => by
    subst ex
    have eu : u = Value.ref a := rx
    subst eu
    exact getmeth_ok I1 ea c hm l (PySem.W.callWith_K (first := [.ref a]) (h₀ := X.base) I.ok.mod.kin hm.kp (thn (ha.run pos pins s1 σ H1 _ I1 q) fun us s2 ⟨vs, H2, I2, r, q2⟩ => ⟨I2.kIn, run_fnS (us := .ref a :: us) (vs := .ref a :: vs) F hr hb (hx σ) I2 (.cons rfl r) q2⟩) hst hpl)) ht⟩
theorem gK_val (k : Int) : ∀ ks : List Int, (valV (gK ks) (.inl k)).isSome = decide (k ∈ ks)
  | [] => by simp [gK, valV]
  | x :: ks => by
    have ih := gK_val k ks
    unfold valV at ih ⊢
    unfold gK at ih ⊢
    rw [List.map_cons, List.find?_cons]
    by_cases q : x = k
    · subst q
      simp
    · have e : decide ((Sum.inl x : L2.Key) = Sum.inl k) = false := decide_eq_false fun z => q (Sum.inl.inj z)
      simp only [e]
      rw [ih]
      exact decide_eq_decide.mpr ⟨fun h => List.mem_cons_of_mem _ h, fun h => by
        rcases List.mem_cons.mp h with h | h
        · exact absurd h.symm q
        · exact h⟩
/-- a method that keeps a promise -/
structure KnM (P : Program) (w : World) (K : PySem.W.Frag) (mg : Str → Option Value) (base : Heap) (C : Addr) (m : Str) (k : Nat) (rel : Hp → Hp → List A → R → Prop) : Prop where
  ex : ∃ CX f fd ps, (∀ X : Cx, X.prog = P → X.w = w → Passes CX X E0) ∧ FnOk P w K mg base CX k f fd ps (spG K rel) ∧ Meth K C m f ∧ Binds K fd ps []
/-- one that may raise -/
structure KnMX (P : Program) (w : World) (K : PySem.W.Frag) (mg : Str → Option Value) (base : Heap) (C : Addr) (m : Str) (k : Nat) (rel : Hp → Hp → List A → R → Prop) : Prop where
  ex : ∃ f fd ps, FnOk P w K mg base (L2N.CX P w) k f fd ps (spG K rel) ∧ Meth K C m f ∧ Binds K fd ps []
theorem KnMX.kn {P : Program} {w : World} {K : PySem.W.Frag} {mg : Str → Option Value} {base : Heap} {C : Addr} {m : Str} {k : Nat} {rel : Hp → Hp → List A → R → Prop} (F : KnMX P w K mg base C m k rel) : KnM P w K mg base C m k rel := by
  obtain ⟨f, fd, ps, h1, h2, h3⟩ := F.ex
  exact ⟨_, f, fd, ps, fun X e1 e2 => by subst e1 e2; exact passN, h1, h2, h3⟩
section
variable {X : Cx} {B0 H0 : Hp} {δ δ' : List (Option A)} {e e1 e2 o : Expr} {es : List Expr} {a a0 a1 a2 : A} {as : List A} {xs ys : List PyData} {x y : PyData} {pos p1 p2 apos : Pos} {f m : Str} {C : Addr} {fs : List (Str × Fd)} {k : Nat} {rel : Hp → Hp → List A → R → Prop} {fd : Fd}
theorem p_fld (ha : Pe X B0 H0 δ e a) [h : ObR a C fs] (c : Cls X.K C) (n : NoAttr X.K C f) (hl : fs.lookup f = some fd) (hb : attributeBase e f X.env (eval e X.env) = eval e X.env := by rfl) : Pe X B0 H0 δ (.Attribute e f pos) (fdA fd) :=
  pe_to (pe_fld ha hb) fun σ H Q ⟨B, E, S, k⟩ => ⟨B, E, S, fun v B1 H1 E1 r => by
    obtain ⟨p, dx, gs, rfl, hp, hv⟩ := h.ok _ _ _ _ r
    obtain ⟨u, hu, ru⟩ := fdv_look (K := X.K) hv hl
    exact ⟨p, C, dx, gs, u, rfl, hp, c, n, hu, k u B1 H1 E1 ru⟩⟩
/-- an object handed to what only reads it -/
theorem p_ob (i : Nat) {x : Str} {p : Addr} (hd : δ[i]? = some (some (.ob p C fs))) (hN : X.N[i]? = some x := by rfl) (hv : Vis X.env.scope x := by first | exact .inl rfl | exact .inr (.inl rfl) | exact .inr (.inr rfl)) (h1 : (x == ("__debug__" : Str)) = false := by decide) (h2 : (x == ("__classdict__" : Str)) = false := by decide) : Pe X B0 H0 δ (.Name x pos) (.rb C fs) :=
  Pe.imp (p_var i hd hN hv h1 h2) fun B H v s ⟨e, _, dx, gs, hp, hw, _⟩ => ⟨p, dx, gs, e, hp, fdv_of hw⟩
/-- o.m(..), nothing changed -/
theorem p_meth {pl : Sem Bool} (F : KnM X.prog X.w X.K X.mg X.base C m k rel) (c : Cls X.K C) (hr : Room k X.A) (ho : Pe X B0 H0 δ o a0) [g : ObR a0 C fs] (nm : fs.lookup m = none) (ha : Pa X B0 H0 δ (e :: es) as) (h : ∀ B H, Ext B0 H0 B H → Sub B H → rel B H (.rb C fs :: as) (.ret a))
    (hst : starEach (e :: es) X.env = (false, eval e X.env) :: starEach es X.env := by rfl) (hpl : (backTo pos (starEach es X.env)).any (·.1) = false := by rfl)
    (ht : eval (.Call (.Attribute o m apos) (e :: es) [] pos) X.env = (do
      let ov ← eval o X.env
      standAt apos.atName
      let (f, first) ← holding [ov] (getMethod ov m pl)
      callWith pos f first (backTo pos (starEach (e :: es) X.env)) (backToKw pos (keywordEach [] X.env))) := by rfl) : Pe X B0 H0 δ (.Call (.Attribute o m apos) (e :: es) [] pos) a := by
  obtain ⟨CX, f, fd, ps, pa, F, hm, hb⟩ := F.ex
  exact pe_to (pe_meth ho c hm F hr hb .nil (pa X rfl rfl) ha hst hpl ht) fun σ H Q ⟨B, E, S, q⟩ => ⟨B, E, S, fun v B1 H1 E1 r1 => by
    obtain ⟨p, dx, gs, rfl, hp, hv⟩ := g.ok _ _ _ _ r1
    refine ⟨p, dx, gs, rfl, hp, fdv_no hv nm, B1, E.tr E1, S.mono E1, fun vs B2 H2 E2 r2 => ⟨B2, .rb C fs :: as, .ret a, E2.s, ?_, h B2 H2 ((E.tr E1).tr E2) E2.s, fun v B3 H3 E3 r3 _ => q v B3 H3 ((E1.tr E2).tr E3) r3⟩⟩
    rw [List.append_nil]
    exact .cons ⟨p, dx, gs, rfl, E2.h _ _ hp, fdv_sub E2.b E2.h hv⟩ r2⟩
theorem p_meth0 {pl : Sem Bool} (F : KnM X.prog X.w X.K X.mg X.base C m k rel) (c : Cls X.K C) (hr : Room k X.A) (ho : Pe X B0 H0 δ o a0) [g : ObR a0 C fs] (nm : fs.lookup m = none) (h : ∀ B H, Ext B0 H0 B H → Sub B H → rel B H [.rb C fs] (.ret a))
    (ht : eval (.Call (.Attribute o m apos) [] [] pos) X.env = (do
      let ov ← eval o X.env
      standAt apos.atName
      let (f, first) ← holding [ov] (getMethod ov m pl)
      callWith pos f first (backTo pos (starEach [] X.env)) (backToKw pos (keywordEach [] X.env))) := by rfl) : Pe X B0 H0 δ (.Call (.Attribute o m apos) [] [] pos) a := by
  obtain ⟨CX, f, fd, ps, pa, F, hm, hb⟩ := F.ex
  exact pe_to (pe_meth0 ho c hm F hr hb .nil (pa X rfl rfl) ht) fun σ H Q ⟨B, E, S, q⟩ => ⟨B, E, S, fun v B1 H1 E1 r1 => by
    obtain ⟨p, dx, gs, rfl, hp, hv⟩ := g.ok _ _ _ _ r1
    exact ⟨p, dx, gs, rfl, hp, fdv_no hv nm, B1, [.rb C fs], .ret a, E1.s, .cons ⟨p, dx, gs, rfl, hp, hv⟩ .nil, h B1 H1 (E.tr E1) E1.s, fun v B3 H3 E3 r3 _ => q v B3 H3 (E1.tr E3) r3⟩⟩
/-- a method call that raises -/
theorem p_methX {pl : Sem Bool} (F : KnMX X.prog X.w X.K X.mg X.base C m k rel) (c : Cls X.K C) (hr : Room k X.A) (ho : Pe X B0 H0 δ o a0) [g : ObR a0 C fs] (nm : fs.lookup m = none) (ha : Pa X B0 H0 δ (e :: es) as) {D : Addr} (h : ∀ B H, Ext B0 H0 B H → Sub B H → rel B H (.rb C fs :: as) (.exc D)) (rz : Rz X B0 H0 δ D)
    (hst : starEach (e :: es) X.env = (false, eval e X.env) :: starEach es X.env := by rfl) (hpl : (backTo pos (starEach es X.env)).any (·.1) = false := by rfl)
    (ht : eval (.Call (.Attribute o m apos) (e :: es) [] pos) X.env = (do
      let ov ← eval o X.env
      standAt apos.atName
      let (f, first) ← holding [ov] (getMethod ov m pl)
      callWith pos f first (backTo pos (starEach (e :: es) X.env)) (backToKw pos (keywordEach [] X.env))) := by rfl) : Pe X B0 H0 δ (.Call (.Attribute o m apos) (e :: es) [] pos) a := by
  obtain ⟨f, fd, ps, F, hm, hb⟩ := F.ex
  obtain ⟨W, tk, hw⟩ := rz
  exact pe_to (pe_methE (E := WE W) F ho c hm hr hb (fun σ => L2N.passAt tk σ) ha hst hpl ht) fun σ H Q ⟨B, E, S, q⟩ => ⟨B, E, S, fun v B1 H1 E1 r1 => by
    obtain ⟨p, dx, gs, rfl, hp, hv⟩ := g.ok _ _ _ _ r1
    exact ⟨p, dx, gs, rfl, hp, fdv_no hv nm, B1, E.tr E1, S.mono E1, fun vs B2 H2 E2 r2 => ⟨B2, .rb C fs :: as, .exc D, E2.s, .cons ⟨p, dx, gs, rfl, E2.h _ _ hp, fdv_sub E2.b E2.h hv⟩ r2, h B2 H2 ((E.tr E1).tr E2) E2.s, fun B3 H3 E3 => hw σ B3 H3 (((E.tr E1).tr E2).tr E3) (S.mono ((E1.tr E2).tr E3))⟩⟩⟩
/-- an int in a dict of ints -/
theorem c_inG {i : Int} {ks : List Int} (ha : Pe X B0 H0 δ e1 (.d (.int i))) (hb : Pe X B0 H0 δ e2 (.rg ks)) (hu : X.A.units + 64 < cLine) (hm : behindInMarks .In e2 = false := by rfl) : Pc X B0 H0 δ e1 .In e2 (decide (i ∈ ks)) :=
  ⟨_, _, _, op_inDk (by omega), ha, hb, hm, fun B H u v Q s r1 r2 k => by
    obtain ⟨q, rfl, hq⟩ := r2
    have e := ra_int r1
    subst e
    refine ⟨q, _, rfl, DGet.k (k := .inl i) hq, ?_⟩
    rw [gK_val]
    exact k⟩
theorem c_notInG {i : Int} {ks : List Int} (ha : Pe X B0 H0 δ e1 (.d (.int i))) (hb : Pe X B0 H0 δ e2 (.rg ks)) (hu : X.A.units + 64 < cLine) (hm : behindInMarks .NotIn e2 = false := by rfl) : Pc X B0 H0 δ e1 .NotIn e2 (!decide (i ∈ ks)) :=
  ⟨_, _, _, op_notInDk (by omega), ha, hb, hm, fun B H u v Q s r1 r2 k => by
    obtain ⟨q, rfl, hq⟩ := r2
    have e := ra_int r1
    subst e
    refine ⟨q, _, rfl, DGet.k (k := .inl i) hq, ?_⟩
    rw [gK_val]
    exact k⟩
end
end GL

set_option Elab.async false
set_option linter.all false
set_option maxRecDepth 100000
set_option maxHeartbeats 4000000
/-! GP: objects changed -/
namespace GL
open PySem PySem.Spec L2
/-! ### fields put -/
def ixF {α : Type} (f : Str) : List (Str × α) → Nat
  | [] => 0
  | (g, _) :: r => if g = f then 0 else ixF f r + 1
theorem putF_get (f : Str) (y : V) : ∀ (gs : List (Str × V)) (i : Nat), (putF f y gs)[i]? = if i = ixF f gs then some (f, y) else gs[i]?
  | [], i => by cases i <;> simp [putF, ixF]
  | (g, x) :: r, i => by
    unfold putF ixF
    by_cases h : g = f
    · subst h
      rw [if_pos rfl, if_pos rfl]
      cases i <;> simp
    · rw [if_neg h, if_neg h]
      cases i with
      | zero => simp
      | succ i => simp [putF_get f y r i]
theorem putFd_get (f : Str) (y : Fd) : ∀ (gs : List (Str × Fd)) (i : Nat), (putFd f y gs)[i]? = if i = ixF f gs then some (f, y) else gs[i]?
  | [], i => by cases i <;> simp [putFd, ixF]
  | (g, x) :: r, i => by
    unfold putFd ixF
    by_cases h : g = f
    · subst h
      rw [if_pos rfl, if_pos rfl]
      cases i <;> simp
    · rw [if_neg h, if_neg h]
      cases i with
      | zero => simp
      | succ i => simp [putFd_get f y r i]
theorem fdw_ix {B H : Hp} (f : Str) : ∀ {gs : List (Str × V)} {fs : List (Str × Fd)}, FdW B H gs fs → ixF f gs = ixF f fs
  | _, _, .nil => rfl
  | _, _, .cons _ t => by
    unfold ixF
    rw [fdw_ix f t]
theorem fdw_put {B H : Hp} {f : Str} {y : V} {x : Fd} (r : FdR B H y x) : ∀ {gs : List (Str × V)} {fs : List (Str × Fd)}, FdW B H gs fs → FdW B H (putF f y gs) (putFd f x fs)
  | _, _, .nil => .cons r .nil
  | _, _, @FdW.cons _ _ n v g gs fs q t => by
    unfold putF putFd
    by_cases h : n = f
    · subst h
      rw [if_pos rfl, if_pos rfl]
      exact .cons r t
    · rw [if_neg h, if_neg h]
      exact .cons q (fdw_put r t)
theorem fdw_len {B H : Hp} : ∀ {gs : List (Str × V)} {fs : List (Str × Fd)}, FdW B H gs fs → gs.length = fs.length
  | _, _, .nil => rfl
  | _, _, .cons _ t => congrArg (· + 1) (fdw_len t)
theorem fdp_put {B H : Hp} {f : Str} {y : V} {x : Fd} {gs : List (Str × V)} {fs : List (Str × Fd)} (w : FdW B H gs fs) {i : Nat} {q : Addr} (h : FdP (putF f y gs) (putFd f x fs) i q) : (i = ixF f gs ∧ y = .ref q ∧ x.own = true) ∨ (i ≠ ixF f gs ∧ FdP gs fs i q) := by
  obtain ⟨n, g, h1, h2, h3⟩ := h
  rw [putF_get] at h1
  rw [putFd_get, ← fdw_ix f w] at h2
  by_cases e : i = ixF f gs
  · rw [if_pos e] at h1 h2
    have e1 := (Prod.mk.inj (Option.some.inj h1)).2
    have e2 := (Prod.mk.inj (Option.some.inj h2)).2
    exact .inl ⟨e, e1, by rw [e2]; exact h3⟩
  · rw [if_neg e] at h1 h2
    exact .inr ⟨e, n, g, h1, h2, h3⟩
theorem sep_put {B H : Hp} {f : Str} {y : V} {x : Fd} {gs : List (Str × V)} {fs : List (Str × Fd)} (w : FdW B H gs fs) (s : Sep gs fs) (h : x.own = true → ∀ q, y = .ref q → ∀ j, ¬ FdP gs fs j q) : Sep (putF f y gs) (putFd f x fs) := by
  intro i j q hi hj
  rcases fdp_put w hi with ⟨e1, e2, e3⟩ | ⟨e1, e2⟩
  · rcases fdp_put w hj with ⟨g1, _, _⟩ | ⟨g1, g2⟩
    · rw [e1, g1]
    · exact absurd g2 (h e3 q e2 j)
  · rcases fdp_put w hj with ⟨g1, g2, g3⟩ | ⟨g1, g2⟩
    · exact absurd e2 (h g3 q g2 i)
    · exact s i j q e2 g2
/-- an own list or dict of a field is another thing than the object -/
theorem fdw_ne {B H : Hp} {p C dx : Addr} {hs : List (Str × V)} (hp : H p = some (.ins C dx hs)) : ∀ {gs : List (Str × V)} {fs : List (Str × Fd)} {i : Nat} {q : Addr}, FdW B H gs fs → FdP gs fs i q → q ≠ p
  | _, _, i, q, .nil, ⟨n, f, h1, _, _⟩ => by simp at h1
  | _, _, 0, q, @FdW.cons _ _ _ v' ff _ _ r t, ⟨n, f, h1, h2, h3⟩ => by
    have e1 := (Prod.mk.inj (Option.some.inj h1)).2
    have e2 := (Prod.mk.inj (Option.some.inj h2)).2
    rw [← e2] at h3
    rw [e1] at r
    intro e
    subst e
    cases ff with
    | d x => cases h3
    | o xs =>
      obtain ⟨p, vs, e, hb, hq, _⟩ := r
      cases e
      rw [hp] at hq
      cases hq
    | g ks =>
      obtain ⟨p, e, hb, hq⟩ := r
      cases e
      rw [hp] at hq
      cases hq
  | _, _, i + 1, q, .cons r t, ⟨n, f, h1, h2, h3⟩ => fdw_ne hp t ⟨n, f, h1, h2, h3⟩
/-- the object in slot i is changed; what stands elsewhere stays -/
theorem ob_put {K : PySem.W.Frag} {B0 H0 B H H' : Hp} {σ : L2.St} {δ : List (Option A)} {i : Nat} {p C dx : Addr} {fs fs' : List (Str × Fd)} {gs' : List (Str × V)} (S : SD K H0 B H σ δ) (E : Ext B0 H0 B H) (hδ : δ[i]? = some (some (.ob p C fs))) (hσ : σ[i]? = some (some (.ref p)))
    (h1 : H' p = some (.ins C dx gs')) (h2 : ∀ q u, ¬ Fp H (.ref p) (.ob p C fs) q → H q = some u → H' q = some u) (h3 : FdW B H' gs' fs') (h4 : Sep gs' fs') (h5 : ∀ j q, FdP gs' fs' j q → Fp H (.ref p) (.ob p C fs) q ∨ (H0 q = none ∧ ∀ (l : Nat) (b : A) (u : V), δ[l]? = some (some b) → σ[l]? = some (some u) → ¬ Fp H u b q)) (hf : fixd δ = true) :
    Ext B0 H0 B H' ∧ SD K H0 B H' σ (δ.set i (some (.ob p C fs'))) := by
  have r := S.rel' hδ hσ
  have sb : Sub B H' := fun q u hq => h2 q u (fun f => by rw [(fp_at r f).1] at hq; cases hq) (S.s q u hq)
  have s0 : Sub H0 H' := fun q u hq => h2 q u (fun f => by rw [S.fr i _ _ q hδ hσ f] at hq; cases hq) (E.h q u hq)
  refine ⟨⟨E.b, s0, sb, E.n⟩, S.put E.h hδ hσ h2 sb ⟨rfl, (fp_at r (.inl rfl)).1, dx, gs', h1, h3, h4⟩ (fun q f => ?_) rfl⟩
  rcases f with f | ⟨p', C', dx', gs'', j, f1, f2, f3⟩
  · exact .inl (.inl f)
  · cases f1
    rw [h1] at f2
    cases f2
    exact h5 j q f3
section
variable {X : Cx} {B0 H0 : Hp} {δ δ' : List (Option A)} {e e1 e2 o : Expr} {es : List Expr} {a a0 a1 a2 : A} {as : List A} {xs ys : List PyData} {x y : PyData} {pos p1 p2 apos : Pos} {f m : Str} {p C : Addr} {fs : List (Str × Fd)} {k : Nat} {rel : Hp → Hp → List A → R → Prop} {fd : Fd}
/-- self.f = e, data -/
theorem ws_fset {E : AE} {fs2 : List (Str × Fd)} {rest : List Stmt} {i : Nat} {xn : Str} (hδ : δ[i]? = some (some (.ob p C fs))) (he : Pe X B0 H0 δ e (.d x)) (c : Cls X.K C) (n : NoAttr X.K C f) (hl : fs.length < 1000) (hf : fixd δ = true) (q : putFd f (.d x) fs = fs2) (hr : Ws X B0 H0 (δ.set i (some (.ob p C fs2))) rest E) (hN : X.N[i]? = some xn) (hv : Vis X.env.scope xn)
    (hs : swapsWith e (some (.Attribute (.Name xn p1) f apos)) pos.line X.env = pure false := by rfl) (h1 : (xn == ("__debug__" : Str)) = false := by decide) (h2 : (xn == ("__classdict__" : Str)) = false := by decide) :
    Ws X B0 H0 δ (.Assign [.Attribute (.Name xn p1) f apos] e pos :: rest) E := by
  subst q
  refine ws_cons (W := fun B H δ' => B = B0 ∧ H = H0 ∧ δ' = δ.set i (some (.ob p C (putFd f (.d x) fs)))) (ps_fld (pe_var (i := i) hN hv h1 h2) he hs) (fun B H δ' ⟨h1, h2, h3⟩ => by rw [h1, h2, h3]; exact hr) fun D σ H B E0 S z => ⟨B, E0, S, fun u B' H' E1 r => ?_⟩
  obtain ⟨v, hσ, rv⟩ := (S.mono E1).rel i _ hδ
  obtain ⟨rfl, hb, dx, gs, hp, hw, sp⟩ := id rv
  refine ⟨_, hσ, p, C, dx, gs, rfl, hp, c, n, by rw [fdw_len hw]; exact hl, ?_⟩
  have w2 : FdW B' (upd H' p (.ins C dx (putF f u gs))) gs fs := fdw_to Sub.rfl' (fun j q w g _ hq => ⟨(fdw_at hw g).1, by rw [upd_ne (fdw_ne hp hw g)]; exact hq⟩) hw
  obtain ⟨g1, g2⟩ := ob_put (H' := upd H' p (.ins C dx (putF f u gs))) (fs' := putFd f (.d x) fs) (S.mono E1) (E0.tr E1) hδ hσ upd_same (fun q w nf hq => by rw [upd_ne (fun e => nf (by rw [e]; exact .inl rfl))]; exact hq)
    (fdw_put (x := .d x) (show FdR B' _ u (.d x) from r) w2) (sep_put hw sp fun h => by cases h) (fun j q g => by
      rcases fdp_put hw g with ⟨_, _, g3⟩ | ⟨_, g2⟩
      · cases g3
      · exact .inl (.inr ⟨p, C, dx, gs, j, rfl, hp, g2⟩)) hf
  exact z.nx _ _ _ σ B' _ ⟨rfl, rfl, rfl⟩ E1.b g1 g2
/-- self.f = [..], a new list of its own -/
theorem ws_fnew {E : AE} {fs2 : List (Str × Fd)} {rest : List Stmt} {i : Nat} {xn : Str} (hδ : δ[i]? = some (some (.ob p C fs))) (he : Pn X B0 H0 δ e xs) (c : Cls X.K C) (n : NoAttr X.K C f) (hl : fs.length < 1000) (hf : fixd δ = true) (q : putFd f (.o xs) fs = fs2) (hr : Ws X B0 H0 (δ.set i (some (.ob p C fs2))) rest E) (hN : X.N[i]? = some xn) (hv : Vis X.env.scope xn)
    (hs : swapsWith e (some (.Attribute (.Name xn p1) f apos)) pos.line X.env = pure false := by rfl) (h1 : (xn == ("__debug__" : Str)) = false := by decide) (h2 : (xn == ("__classdict__" : Str)) = false := by decide) :
    Ws X B0 H0 δ (.Assign [.Attribute (.Name xn p1) f apos] e pos :: rest) E := by
  subst q
  refine ws_cons (W := fun B H δ' => B = B0 ∧ H = H0 ∧ δ' = δ.set i (some (.ob p C (putFd f (.o xs) fs)))) (ps_fld (pe_var (i := i) hN hv h1 h2) he hs) (fun B H δ' ⟨h1, h2, h3⟩ => by rw [h1, h2, h3]; exact hr) fun D σ H B E0 S z => ⟨B, E0, S, fun t vs B' H' E1 ht hbt hlt hdt => ?_⟩
  obtain ⟨v, hσ, rv⟩ := (S.mono E1).rel i _ hδ
  obtain ⟨rfl, hb, dx, gs, hp, hw, sp⟩ := id rv
  have ap := S.apart E0.h E1 ht
  have tp : t ≠ p := fun e => ap.2 i _ _ hδ hσ (.inl (by rw [e]))
  refine ⟨_, hσ, p, C, dx, gs, rfl, hp, c, n, by rw [fdw_len hw]; exact hl, ?_⟩
  have w2 : FdW B' (upd H' p (.ins C dx (putF f (.ref t) gs))) gs fs := fdw_to Sub.rfl' (fun j q w g _ hq => ⟨(fdw_at hw g).1, by rw [upd_ne (fdw_ne hp hw g)]; exact hq⟩) hw
  obtain ⟨g1, g2⟩ := ob_put (H' := upd H' p (.ins C dx (putF f (.ref t) gs))) (fs' := putFd f (.o xs) fs) (S.mono E1) (E0.tr E1) hδ hσ upd_same (fun q w nf hq => by rw [upd_ne (fun e => nf (by rw [e]; exact .inl rfl))]; exact hq)
    (fdw_put (x := .o xs) ⟨t, vs, rfl, hbt, by rw [upd_ne tp]; exact hlt, hdt⟩ w2) (sep_put hw sp fun _ q e j g => by
      cases e
      exact ap.2 i _ _ hδ hσ (.inr ⟨p, C, dx, gs, j, rfl, hp, g⟩)) (fun j q g => by
      rcases fdp_put hw g with ⟨_, g3, _⟩ | ⟨_, g2⟩
      · cases g3
        exact .inr ap
      · exact .inl (.inr ⟨p, C, dx, gs, j, rfl, hp, g2⟩)) hf
  exact z.nx _ _ _ σ B' _ ⟨rfl, rfl, rfl⟩ E1.b g1 g2
/-- self.f = {} -/
theorem ws_fnewD {E : AE} {fs2 : List (Str × Fd)} {rest : List Stmt} {i : Nat} {xn : Str} (hδ : δ[i]? = some (some (.ob p C fs))) (c : Cls X.K C) (n : NoAttr X.K C f) (hl : fs.length < 1000) (hf : fixd δ = true) (q : putFd f (.g []) fs = fs2) (hr : Ws X B0 H0 (δ.set i (some (.ob p C fs2))) rest E) (hN : X.N[i]? = some xn) (hv : Vis X.env.scope xn)
    (hs : swapsWith (.Dict [] [] p2) (some (.Attribute (.Name xn p1) f apos)) pos.line X.env = pure false := by rfl) (h1 : (xn == ("__debug__" : Str)) = false := by decide) (h2 : (xn == ("__classdict__" : Str)) = false := by decide) :
    Ws X B0 H0 δ (.Assign [.Attribute (.Name xn p1) f apos] (.Dict [] [] p2) pos :: rest) E := by
  subst q
  refine ws_cons (W := fun B H δ' => B = B0 ∧ H = H0 ∧ δ' = δ.set i (some (.ob p C (putFd f (.g []) fs)))) (ps_fld (pe_var (i := i) hN hv h1 h2) pe_dnewK hs) (fun B H δ' ⟨h1, h2, h3⟩ => by rw [h1, h2, h3]; exact hr) fun D σ H B E0 S z t ht => ?_
  have E1 : Ext B H B (upd H t (.dK [])) := .own S.s ht
  have hbt := sub_free S.s ht
  obtain ⟨v, hσ, rv⟩ := (S.mono E1).rel i _ hδ
  obtain ⟨rfl, hb, dx, gs, hp, hw, sp⟩ := id rv
  have ap := S.apart E0.h E1 ht
  have tp : t ≠ p := fun e => ap.2 i _ _ hδ hσ (.inl (by rw [e]))
  refine ⟨_, hσ, p, C, dx, gs, rfl, hp, c, n, by rw [fdw_len hw]; exact hl, ?_⟩
  have w2 : FdW B (upd (upd H t (.dK [])) p (.ins C dx (putF f (.ref t) gs))) gs fs := fdw_to Sub.rfl' (fun j q w g _ hq => ⟨(fdw_at hw g).1, by rw [upd_ne (fdw_ne hp hw g)]; exact hq⟩) hw
  obtain ⟨g1, g2⟩ := ob_put (H' := upd (upd H t (.dK [])) p (.ins C dx (putF f (.ref t) gs))) (fs' := putFd f (.g []) fs) (S.mono E1) (E0.tr E1) hδ hσ upd_same (fun q w nf hq => by rw [upd_ne (fun e => nf (by rw [e]; exact .inl rfl))]; exact hq)
    (fdw_put (x := .g []) ⟨t, rfl, hbt, by rw [upd_ne tp, upd_same]; rfl⟩ w2) (sep_put hw sp fun _ q e j g => by
      cases e
      exact ap.2 i _ _ hδ hσ (.inr ⟨p, C, dx, gs, j, rfl, hp, g⟩)) (fun j q g => by
      rcases fdp_put hw g with ⟨_, g3, _⟩ | ⟨_, g2⟩
      · cases g3
        exact .inr ap
      · exact .inl (.inr ⟨p, C, dx, gs, j, rfl, hp, g2⟩)) hf
  exact z.nx _ _ _ σ B _ ⟨rfl, rfl, rfl⟩ Sub.rfl' g1 g2
end
theorem look_ix {α : Type} {f : Str} {x : α} : ∀ {fs : List (Str × α)}, fs.lookup f = some x → fs[ixF f fs]? = some (f, x)
  | [], h => by cases h
  | (g, y) :: r, h => by
    unfold List.lookup at h
    unfold ixF
    by_cases q : g = f
    · subst q
      rw [if_pos rfl]
      simp at h
      rw [h]
      rfl
    · rw [if_neg q]
      have e : (f == g) = false := beq_eq_false_iff_ne.mpr fun z => q z.symm
      rw [e] at h
      exact look_ix h
theorem fdw_look {B H : Hp} {f : Str} {x : Fd} : ∀ {gs : List (Str × V)} {fs : List (Str × Fd)}, FdW B H gs fs → fs.lookup f = some x → ∃ v, gs.lookup f = some v ∧ FdR B H v x
  | _, _, .nil, h => by cases h
  | _, _, @FdW.cons _ _ n v y gs fs r t, h => by
    unfold List.lookup at h ⊢
    split at h
    · have e := Option.some.inj h
      subst e
      exact ⟨v, by simp [*], r⟩
    · obtain ⟨u, h1, h2⟩ := fdw_look t h
      exact ⟨u, by simp [*], h2⟩
theorem fdw_upd {B H H' : Hp} {f : Str} {x' : Fd} {v : V} : ∀ {gs : List (Str × V)} {fs : List (Str × Fd)}, FdW B H gs fs → gs.lookup f = some v → FdR B H' v x' → (∀ i q u, i ≠ ixF f gs → FdP gs fs i q → H q = some u → H' q = some u) → FdW B H' gs (putFd f x' fs)
  | _, _, .nil, h, _, _ => by cases h
  | _, _, @FdW.cons _ _ n v0 y gs fs r t, h, r', k => by
    unfold List.lookup at h
    unfold putFd
    by_cases q : n = f
    · subst q
      rw [if_pos rfl]
      have e : v0 = v := by simpa using h
      subst e
      have i0 : ixF n ((n, v0) :: gs) = 0 := by unfold ixF; rw [if_pos rfl]
      exact .cons r' (fdw_to Sub.rfl' (fun i q u g hb hq => ⟨hb, k (i + 1) q u (by rw [i0]; omega) (let ⟨m, a, b, c, d⟩ := g; ⟨m, a, b, c, d⟩) hq⟩) t)
    · rw [if_neg q]
      have e : (f == n) = false := beq_eq_false_iff_ne.mpr fun z => q z.symm
      rw [e] at h
      have i0 : ixF f ((n, v0) :: gs) = ixF f gs + 1 := by
        rw [show ixF f ((n, v0) :: gs) = (if n = f then 0 else ixF f gs + 1) from rfl, if_neg q]
      exact .cons (fdr_to Sub.rfl' (fun q u ev o hb hq => ⟨hb, k 0 q u (by rw [i0]; omega) ⟨n, y, by rw [ev]; rfl, rfl, o⟩ hq⟩) r) (fdw_upd t h r' fun i q u ni g hq => k (i + 1) q u (by rw [i0]; omega) (let ⟨m, a, b, c, d⟩ := g; ⟨m, a, b, c, d⟩) hq)
theorem fdp_upd {gs : List (Str × V)} {fs : List (Str × Fd)} {f : Str} {x x' : Fd} (hl : fs.lookup f = some x) (ho : x.own = true) {j : Nat} {q : Addr} (h : FdP gs (putFd f x' fs) j q) : FdP gs fs j q := by
  obtain ⟨n, g, h1, h2, h3⟩ := h
  rw [putFd_get] at h2
  by_cases e : j = ixF f fs
  · rw [if_pos e] at h2
    have e1 := (Prod.mk.inj (Option.some.inj h2)).1
    subst e1
    exact ⟨f, x, h1, by rw [e]; exact look_ix hl, ho⟩
  · rw [if_neg e] at h2
    exact ⟨n, g, h1, h2, h3⟩
/-- the thing that the field f owns is changed in place -/
theorem ob_fld {K : PySem.W.Frag} {B0 H0 B H : Hp} {σ : L2.St} {δ : List (Option A)} {i : Nat} {p C : Addr} {fs : List (Str × Fd)} {f : Str} {x x' : Fd} {t : Addr} {u : HO} {gs : List (Str × V)} {dx : Addr} (S : SD K H0 B H σ δ) (E : Ext B0 H0 B H) (hδ : δ[i]? = some (some (.ob p C fs))) (hσ : σ[i]? = some (some (.ref p)))
    (hp : H p = some (.ins C dx gs)) (hw : FdW B H gs fs) (sp : Sep gs fs) (hl : fs.lookup f = some x) (ho : x.own = true) (hg : gs.lookup f = some (.ref t)) (r : FdR B (upd H t u) (.ref t) x') (hf : fixd δ = true) :
    Ext B0 H0 B (upd H t u) ∧ SD K H0 B (upd H t u) σ (δ.set i (some (.ob p C (putFd f x' fs)))) := by
  have ix := fdw_ix f hw
  have ht : FdP gs fs (ixF f gs) t := ⟨f, x, look_ix hg, by rw [ix]; exact look_ix hl, ho⟩
  have tp : p ≠ t := (fdw_ne hp hw ht).symm
  have ft : Fp H (.ref p) (.ob p C fs) t := .inr ⟨p, C, dx, gs, _, rfl, hp, ht⟩
  refine ob_put S E hδ hσ (by rw [upd_ne tp]; exact hp) (fun q w nf hq => by rw [upd_ne (fun e => nf (by rw [e]; exact ft))]; exact hq) (fdw_upd hw hg r fun j q w nj g hq => ?_) (fun a b q h1 h2 => sp a b q (fdp_upd hl ho h1) (fdp_upd hl ho h2)) (fun j q g => .inl (.inr ⟨p, C, dx, gs, j, rfl, hp, fdp_upd hl ho g⟩)) hf
  rw [upd_ne (fun e => by subst e; exact nj (sp j _ _ g ht))]
  exact hq
end GL
namespace GL
open PySem PySem.Spec L2
section
variable {X : Cx} {B0 H0 : Hp} {δ δ' : List (Option A)} {e e1 e2 o : Expr} {es : List Expr} {a a0 a1 a2 : A} {as : List A} {xs ys : List PyData} {x y : PyData} {pos p1 p2 apos : Pos} {f m : Str} {p C : Addr} {fs : List (Str × Fd)} {k : Nat} {rel : Hp → Hp → List A → R → Prop} {fd : Fd}
/-- self.f.append(e) -/
theorem ws_fapp {E : AE} {fs2 : List (Str × Fd)} {rest : List Stmt} {i : Nat} {xn : Str} {ap2 cpos epos : Pos} (hδ : δ[i]? = some (some (.ob p C fs))) (hl : fs.lookup f = some (.o xs)) (he : Pe X B0 H0 δ e (.d x)) (c : Cls X.K C) (n : NoAttr X.K C f) (hz : xs.length < 1000) (hf : fixd δ = true) (q : putFd f (.o (xs ++ [x])) fs = fs2) (hr : Ws X B0 H0 (δ.set i (some (.ob p C fs2))) rest E) (hN : X.N[i]? = some xn) (hv : Vis X.env.scope xn)
    (hb1 : attributeBase (.Name xn p1) f X.env (eval (.Name xn p1) X.env) = eval (.Name xn p1) X.env := by rfl)
    (hbase : attributeBase (.Attribute (.Name xn p1) f ap2) "append" X.env (eval (.Attribute (.Name xn p1) f ap2) X.env) = eval (.Attribute (.Name xn p1) f ap2) X.env := by rfl)
    (hfew : ((backTo cpos (starEach [e] X.env)).all (fun x => !x.1) && (backToKw cpos (keywordEach [] X.env)).all (fun x => x.1.isSome) && decide ([e].length + ([] : List Keyword).length + (if ([] : List Keyword).isEmpty then 0 else 1) < 30)) = true := by rfl)
    (hline : (apos.endLine == cpos.line) = true := by rfl) (hs : starEach [e] X.env = (false, eval e X.env) :: starEach [] X.env := by rfl) (hsw : swapsWith (.Call (.Attribute (.Attribute (.Name xn p1) f ap2) "append" apos) [e] [] cpos) none epos.line X.env = pure false := by rfl) (h1 : (xn == ("__debug__" : Str)) = false := by decide) (h2 : (xn == ("__classdict__" : Str)) = false := by decide) :
    Ws X B0 H0 δ (.Expr (.Call (.Attribute (.Attribute (.Name xn p1) f ap2) "append" apos) [e] [] cpos) epos :: rest) E := by
  subst q
  have key := pe_bm PySem.F.plainAttrs_list PySem.F.slot_list_append PySem.F.type_list_append mt_append (pe_fld (pos := ap2) (f := f) (pe_var (X := X) (i := i) (pos := p1) hN hv h1 h2) hb1) (pa_cons he pa_nil hs) hbase hfew hline hs rfl
  refine ws_cons (W := fun B H δ' => B = B0 ∧ H = H0 ∧ δ' = δ.set i (some (.ob p C (putFd f (.o (xs ++ [x])) fs)))) (ps_expr key hsw) (fun B H δ' ⟨h1, h2, h3⟩ => by rw [h1, h2, h3]; exact hr) fun D σ H B E0 S z => ?_
  obtain ⟨v, hσ, rv⟩ := S.rel i _ hδ
  obtain ⟨rfl, hb, dx, gs, hp, hw, sp⟩ := id rv
  obtain ⟨w, hg, t, vs, rfl, hbt, ht, hd⟩ := fdw_look hw hl
  refine ⟨_, hσ, p, C, dx, gs, _, rfl, hp, c, n, hg, .inl ⟨rfl, _, .inl (.inl ht)⟩, B, E0, S, fun u B' H' E1 r => ?_⟩
  have hp' := E1.h _ _ hp
  have ht' := E1.h _ _ ht
  obtain ⟨_, hb', dx', gs', hp2, hw', sp'⟩ := (S.mono E1).rel' hδ hσ
  rw [hp'] at hp2
  cases hp2
  have hbt' : B' t = none := by rw [E1.n t (by rw [ht]; simp)]; exact hbt
  refine ⟨t, vs, u, rfl, rfl, ht', small1000 (by rw [dqs_len hd]; omega), ?_⟩
  obtain ⟨g1, g2⟩ := ob_fld (x' := .o (xs ++ [x])) (S.mono E1) (E0.tr E1) hδ hσ hp' hw' sp' hl rfl hg ⟨t, vs ++ [u], rfl, hbt', upd_same, dqs_app (dqs_sub E1.b _ _ hd) (.cons r .nil)⟩ hf
  exact z.nx _ _ _ σ B' _ ⟨rfl, rfl, rfl⟩ E1.b g1 g2
theorem gK_put (k : Int) (ks : List Int) (h : k ∉ ks) : putK (gK ks) (.inl k) (V.bl true) = gK (ks ++ [k]) := by
  unfold putK
  rw [if_neg (by
    intro q
    obtain ⟨kv, h1, h2⟩ := List.any_eq_true.mp q
    obtain ⟨j, hj, rfl⟩ := List.mem_map.mp h1
    have := Sum.inl.inj (of_decide_eq_true h2)
    exact h (this ▸ hj))]
  unfold gK
  rw [List.map_append]
  rfl
theorem gK_drop (k : Int) (ks : List Int) : dropK (gK ks) (.inl k) = gK (ks.filter fun j => decide (j ≠ k)) := by
  unfold dropK gK
  rw [List.filter_map]
  congr 1
  refine List.filter_congr fun j _ => ?_
  simp
/-- self.f[e1] = True, the key new -/
theorem ws_fdput {E : AE} {fs2 : List (Str × Fd)} {rest : List Stmt} {i : Nat} {xn : Str} {ap2 : Pos} {ks : List Int} {n1 : Int} {jj} {p3 : Pos} (hδ : δ[i]? = some (some (.ob p C fs))) (hl : fs.lookup f = some (.g ks)) (he : Pe X B0 H0 δ e (.d (.int n1))) (hk : n1 ∉ ks) (c : Cls X.K C) (n : NoAttr X.K C f) (hz : ks.length < 1000) (hf : fixd δ = true) (hu : X.A.units + 64 < cLine) (q : putFd f (.g (ks ++ [n1])) fs = fs2) (hr : Ws X B0 H0 (δ.set i (some (.ob p C fs2))) rest E) (hN : X.N[i]? = some xn) (hv : Vis X.env.scope xn)
    (hb1 : attributeBase (.Name xn p1) f X.env (eval (.Name xn p1) X.env) = eval (.Name xn p1) X.env := by rfl)
    (hsw : swapsWith (.Constant (.bool true) jj p3) (some (.Subscript (.Attribute (.Name xn p1) f ap2) e apos)) pos.line X.env = pure false := by rfl) (h1 : (xn == ("__debug__" : Str)) = false := by decide) (h2 : (xn == ("__classdict__" : Str)) = false := by decide) :
    Ws X B0 H0 δ (.Assign [.Subscript (.Attribute (.Name xn p1) f ap2) e apos] (.Constant (.bool true) jj p3) pos :: rest) E := by
  subst q
  have key := ps_dput (X := X) (pos' := apos) (pos := pos) (by omega) (pe_fld (pos := ap2) (f := f) (pe_var (X := X) (i := i) (pos := p1) hN hv h1 h2) hb1) he (pe_bl (X := X) (b := true) (j := jj) (pos := p3)) hsw
  refine ws_cons (W := fun B H δ' => B = B0 ∧ H = H0 ∧ δ' = δ.set i (some (.ob p C (putFd f (.g (ks ++ [n1])) fs)))) key (fun B H δ' ⟨h1, h2, h3⟩ => by rw [h1, h2, h3]; exact hr) fun D σ H B E0 S z => ?_
  obtain ⟨v, hσ, rv⟩ := S.rel i _ hδ
  obtain ⟨rfl, hb, dx, gs, hp, hw, sp⟩ := id rv
  obtain ⟨w, hg, t, rfl, hbt, ht⟩ := fdw_look hw hl
  refine ⟨_, hσ, p, C, dx, gs, _, rfl, hp, c, n, hg, B, E0, S, fun u B' H' E1 r => ?_⟩
  have hp' := E1.h _ _ hp
  have ht' := E1.h _ _ ht
  obtain ⟨_, hb', dx', gs', hp2, hw', sp'⟩ := (S.mono E1).rel' hδ hσ
  rw [hp'] at hp2
  cases hp2
  have hbt' : B' t = none := by rw [E1.n t (by rw [ht]; simp)]; exact hbt
  have eu := ra_int r
  subst eu
  refine ⟨t, _, rfl, DPut.k (k := .inl n1) (v := V.bl true) ht' (by show (ks.map _).length < _; rw [List.length_map, sizeLine_eq]; omega), ?_⟩
  rw [gK_put n1 ks hk]
  obtain ⟨g1, g2⟩ := ob_fld (x' := .g (ks ++ [n1])) (S.mono E1) (E0.tr E1) hδ hσ hp' hw' sp' hl rfl hg ⟨t, rfl, hbt', upd_same⟩ hf
  exact z.nx _ _ _ σ B' _ ⟨rfl, rfl, rfl⟩ E1.b g1 g2
/-- self.f.pop(e), the key there -/
theorem ws_fdpop {E : AE} {fs2 : List (Str × Fd)} {rest : List Stmt} {i : Nat} {xn : Str} {ap2 cpos epos : Pos} {ks : List Int} {n1 : Int} (hδ : δ[i]? = some (some (.ob p C fs))) (hl : fs.lookup f = some (.g ks)) (he : Pe X B0 H0 δ e (.d (.int n1))) (hk : n1 ∈ ks) (c : Cls X.K C) (n : NoAttr X.K C f) (hf : fixd δ = true) (q : putFd f (.g (ks.filter fun j => decide (j ≠ n1))) fs = fs2) (hr : Ws X B0 H0 (δ.set i (some (.ob p C fs2))) rest E) (hN : X.N[i]? = some xn) (hv : Vis X.env.scope xn)
    (hb1 : attributeBase (.Name xn p1) f X.env (eval (.Name xn p1) X.env) = eval (.Name xn p1) X.env := by rfl)
    (hbase : attributeBase (.Attribute (.Name xn p1) f ap2) "pop" X.env (eval (.Attribute (.Name xn p1) f ap2) X.env) = eval (.Attribute (.Name xn p1) f ap2) X.env := by rfl)
    (hfew : ((backTo cpos (starEach [e] X.env)).all (fun x => !x.1) && (backToKw cpos (keywordEach [] X.env)).all (fun x => x.1.isSome) && decide (([e] : List Expr).length + ([] : List Keyword).length + (if ([] : List Keyword).isEmpty then 0 else 1) < 30)) = true := by rfl)
    (hline : (apos.endLine == cpos.line) = true := by rfl) (hs : backTo cpos (starEach [e] X.env) = [(false, eval e X.env)] := by rfl) (hsw : swapsWith (.Call (.Attribute (.Attribute (.Name xn p1) f ap2) "pop" apos) [e] [] cpos) none epos.line X.env = pure false := by rfl) (h1 : (xn == ("__debug__" : Str)) = false := by decide) (h2 : (xn == ("__classdict__" : Str)) = false := by decide) :
    Ws X B0 H0 δ (.Expr (.Call (.Attribute (.Attribute (.Name xn p1) f ap2) "pop" apos) [e] [] cpos) epos :: rest) E := by
  subst q
  have key := pe_dpop1 (pe_fld (pos := ap2) (f := f) (pe_var (X := X) (i := i) (pos := p1) hN hv h1 h2) hb1) he ⟨hbase, hfew, hline, hs⟩
  refine ws_cons (W := fun B H δ' => B = B0 ∧ H = H0 ∧ δ' = δ.set i (some (.ob p C (putFd f (.g (ks.filter fun j => decide (j ≠ n1))) fs)))) (ps_expr key hsw) (fun B H δ' ⟨h1, h2, h3⟩ => by rw [h1, h2, h3]; exact hr) fun D σ H B E0 S z => ?_
  obtain ⟨v, hσ, rv⟩ := S.rel i _ hδ
  obtain ⟨rfl, hb, dx, gs, hp, hw, sp⟩ := id rv
  obtain ⟨w, hg, t, rfl, hbt, ht⟩ := fdw_look hw hl
  refine ⟨_, hσ, p, C, dx, gs, _, rfl, hp, c, n, hg, t, rfl, .inl ⟨_, .inl ht⟩, B, E0, S, fun u B' H' E1 r => ?_⟩
  have hp' := E1.h _ _ hp
  have ht' := E1.h _ _ ht
  obtain ⟨_, hb', dx', gs', hp2, hw', sp'⟩ := (S.mono E1).rel' hδ hσ
  rw [hp'] at hp2
  cases hp2
  have hbt' : B' t = none := by rw [E1.n t (by rw [ht]; simp)]; exact hbt
  have eu := ra_int r
  subst eu
  have there : (valV (gK ks) (.inl n1)).isSome = true := by rw [gK_val]; exact decide_eq_true hk
  obtain ⟨y, hy⟩ := Option.isSome_iff_exists.mp there
  refine ⟨gK ks, .inl n1, y, ht', rfl, hy, ?_⟩
  rw [gK_drop]
  obtain ⟨g1, g2⟩ := ob_fld (x' := .g (ks.filter fun j => decide (j ≠ n1))) (S.mono E1) (E0.tr E1) hδ hσ hp' hw' sp' hl rfl hg ⟨t, rfl, hbt', upd_same⟩ hf
  exact z.nx _ _ _ σ B' _ ⟨rfl, rfl, rfl⟩ E1.b g1 g2
end
end GL

set_option Elab.async false
set_option linter.all false
set_option maxRecDepth 100000
set_option maxHeartbeats 4000000
/-! GQ: defs that change an object of the caller's -/
namespace GL
open PySem PySem.Spec L2
/-- the promise of a def that changes what it is handed; H0: what it leaves as it was -/
def spM (K : PySem.W.Frag) (rel : Hp → Hp → List A → R → List A → Prop) : Sp := fun vs H Q E => ∃ B H0 as r as', Sub B H0 ∧ Ext B H0 B H ∧ SD K H0 B H (vs.map some) (as.map some) ∧ rel B H0 as r as' ∧ match r with
  | .ret a => ∀ v B' H', Ext B H0 B' H' → SD K H0 B' H' (vs.map some) (as'.map some) → RA K B' H' v a → Q v H'
  | .exc C => ∀ B' H', Ext B H0 B' H' → SD K H0 B' H' (vs.map some) (as'.map some) → E (.ref C) none H'
/-- an argument that is changed stands at the same place, and its slot tells it at the end; the others own nothing -/
def pin : A → Option Addr
  | .op p _ => some p
  | .ob p _ _ => some p
  | .np _ p _ _ => some p
  | _ => none
inductive Keep : List A → List A → List (Option A) → Prop
  | nil {δ} : Keep [] [] δ
  | same {a : A} {as as' : List A} {d : Option A} {δ : List (Option A)} (h1 : owns a = false) (h2 : reads a = false) : Keep as as' δ → Keep (a :: as) (a :: as') (d :: δ)
  | pinned {a a' : A} {as as' : List A} {δ : List (Option A)} (p : Addr) (h1 : pin a = some p) (h2 : pin a' = some p) : Keep as as' δ → Keep (a :: as) (a' :: as') (some a' :: δ)
theorem pin_ref {K : PySem.W.Frag} {B H : Hp} {v : V} {a : A} {p : Addr} (h : pin a = some p) (r : RA K B H v a) : v = .ref p := by
  cases a <;> first | (cases h; exact r.1) | cases h
theorem Keep.len : ∀ {as as' : List A} {δ : List (Option A)}, Keep as as' δ → as'.length = as.length
  | _, _, _, .nil => rfl
  | _, _, _, .same _ _ t => congrArg (· + 1) t.len
  | _, _, _, .pinned _ _ _ t => congrArg (· + 1) t.len
theorem Keep.at {as as' : List A} {δ : List (Option A)} (h : Keep as as' δ) : ∀ (i : Nat) (a' : A), as'[i]? = some a' → (owns a' = false ∧ reads a' = false ∧ as[i]? = some a') ∨ (∃ a p, as[i]? = some a ∧ pin a = some p ∧ pin a' = some p ∧ δ[i]? = some (some a')) := by
  induction h with
  | nil => intro i a' h; simp at h
  | same h1 h2 t ih =>
    intro i a' h
    cases i with
    | zero =>
      have e := Option.some.inj h
      subst e
      exact .inl ⟨h1, h2, rfl⟩
    | succ i => exact ih i a' h
  | pinned p h1 h2 t ih =>
    intro i a' h
    cases i with
    | zero =>
      have e := Option.some.inj h
      subst e
      exact .inr ⟨_, p, rfl, h1, h2, rfl⟩
    | succ i => exact ih i a' h
/-- the arguments behind, from the slots -/
theorem keep_sd {K : PySem.W.Frag} {H0 B H B' H' : Hp} {vs : List V} {as as' : List A} {σ : L2.St} {δ : List (Option A)} {H1 : Hp} (k : Keep as as' δ) (S0 : SD K H0 B H (vs.map some) (as.map some)) (S : SD K H1 B' H' σ δ) (lo : ∀ p, H1 p = none → H0 p = none) (b : Sub B B') : SD K H0 B' H' (vs.map some) (as'.map some) := by
  have get : ∀ (i : Nat) (a' : A), (as'.map some)[i]? = some (some a') → ∃ v, (vs.map some)[i]? = some (some v) ∧ RA K B' H' v a' ∧ ((owns a' = false) ∨ (δ[i]? = some (some a') ∧ σ[i]? = some (some v))) := by
    intro i a' h
    rw [List.getElem?_map] at h
    cases q : as'[i]? with
    | none => rw [q] at h; cases h
    | some c =>
      rw [q] at h
      cases h
      rcases k.at i _ q with ⟨h1, h2, h3⟩ | ⟨a, p, h1, h2, h3, h4⟩
      · obtain ⟨v, g1, g2⟩ := S0.rel i _ (by rw [List.getElem?_map, h3]; rfl)
        refine ⟨v, g1, ra_to b (fun q u f => by rw [fp_owns f] at h1; cases h1) h2 g2, .inl h1⟩
      · obtain ⟨v, g1, g2⟩ := S0.rel i a (by rw [List.getElem?_map, h1]; rfl)
        obtain ⟨u, g3, g4⟩ := S.rel i _ h4
        have e1 := pin_ref h2 g2
        have e2 := pin_ref h3 g4
        subst e1 e2
        exact ⟨_, g1, g4, .inr ⟨h4, g3⟩⟩
  have own : ∀ (i : Nat) (a' : A) (v : V) (q : Addr), (as'.map some)[i]? = some (some a') → (vs.map some)[i]? = some (some v) → Fp H' v a' q → δ[i]? = some (some a') ∧ σ[i]? = some (some v) := fun i a' v q h1 h2 f => by
    obtain ⟨u, g1, _, g3⟩ := get i a' h1
    rw [h2] at g1
    cases g1
    rcases g3 with g3 | g3
    · rw [fp_owns f] at g3; cases g3
    · exact g3
  refine ⟨S.s, ?_, fun i a h => let ⟨v, g1, g2, _⟩ := get i a h; ⟨v, g1, g2⟩, fun i j a c v u q h1 h2 h3 h4 f1 f2 => ?_, fun i a v q h1 h2 f => ?_, fun i a v h1 h2 h3 => ?_⟩
  · have := S0.len
    rw [List.length_map, List.length_map] at this ⊢
    rw [k.len]
    exact this
  · obtain ⟨g1, g2⟩ := own i a v q h1 h3 f1
    obtain ⟨g3, g4⟩ := own j c u q h2 h4 f2
    exact S.dis i j a c v u q g1 g3 g2 g4 f1 f2
  · obtain ⟨g1, g2⟩ := own i a v q h1 h2 f
    exact lo q (S.fr i a v q g1 g2 f)
  · exfalso
    rw [List.getElem?_map] at h1
    cases q : as'[i]? with
    | none => rw [q] at h1; cases h1
    | some c =>
      rw [q] at h1
      cases h1
      rcases k.at i _ q with ⟨_, g, _⟩ | ⟨_, p, _, _, g, _⟩
      · rw [g] at h2; cases h2
      · cases a <;> first | (cases h2; done) | (cases g; done)
end GL
namespace GL
open PySem PySem.Spec L2
theorem pad_get {α : Type} {l : List α} {m i : Nat} {a : α} (h : (l.map some ++ List.replicate m none)[i]? = some (some a)) : (l.map some)[i]? = some (some a) := by
  rw [List.getElem?_append] at h
  split at h
  · exact h
  · rw [List.getElem?_replicate] at h
    split at h <;> cases h
theorem get_pad {α : Type} {l : List α} {m i : Nat} {a : α} (h : (l.map some)[i]? = some (some a)) : (l.map some ++ List.replicate m none)[i]? = some (some a) := by
  have hi := (List.getElem?_eq_some_iff.mp h).1
  rw [List.getElem?_append_left hi]
  exact h
theorem sd_startM {K : PySem.W.Frag} {H0 B H : Hp} {N : List Str} {vs : List V} {as : List A} (S : SD K H0 B H (vs.map some) (as.map some)) : SD K H0 B H (L2.start N vs) (startD N as) := by
  have hl : vs.length = as.length := by have := S.len; rwa [List.length_map, List.length_map] at this
  unfold L2.start startD
  refine ⟨S.s, by rw [List.length_append, List.length_append, S.len, List.length_replicate, List.length_replicate, hl], fun i a h => ?_, fun i j a b v u q h1 h2 h3 h4 => S.dis i j a b v u q (pad_get h1) (pad_get h2) (pad_get h3) (pad_get h4), fun i a v q h1 h2 => S.fr i a v q (pad_get h1) (pad_get h2), fun i a v h1 h2 h3 => S.rd i a v (pad_get h1) h2 (pad_get h3)⟩
  obtain ⟨v, h1, h2⟩ := S.rel i a (pad_get h)
  exact ⟨v, get_pad h1, h2⟩
/-- THE RULE for a def that changes what it is handed, and may raise -/
theorem fn_wsM {P : Program} {w : World} {K : PySem.W.Frag} {mg : Str → Option Value} {base : Heap} {x qual : Str} {st : Stmt} {f : Addr} {fd : FuncData} {N ps : List Str} {k : Nat} {rel : Hp → Hp → List A → R → List A → Prop} (F : Fun K x qual st f fd) (S : FnScope N ps (defScope st))
    (h : ∀ B H as r as', Sub B H → rel B H as r as' → as.length = ps.length ∧ ∀ cdv A outer s0 H0 E, Room k (A.deeper (PyProof.Rows.envOfC qual (defScope st) s0.heap.objs.size f cdv)) →
      (∀ C, r = .exc C → ∀ δ, Keep as as' δ → Rz (cxOf (L2N.CX P w) P w K mg base N qual (defScope st) f cdv A outer s0 H0 E) B H δ C) → Ws (cxOf (L2N.CX P w) P w K mg base N qual (defScope st) f cdv A outer s0 H0 E) B H (startD N as) (defBody st) { nx := fun B' H' δ' => Ext B H B' H' ∧ Keep as as' δ' ∧ r = .ret (.d .none), rt := fun B' H' δ' a' => Ext B H B' H' ∧ Keep as as' δ' ∧ r = .ret a' }) : FnOk P w K mg base (L2N.CX P w) (k + 1) f fd ps (spM K rel) := by
  refine fun_okN F S (fun vs H Q E ⟨B, H0, as, r, as', s, e0, S0, hr, _⟩ => ?_) fun cdv A outer s0 H vs Q E hroom ⟨B, H0, as, r, as', s, e0, S0, hr, q⟩ => ?_
  · have := S0.len
    rw [List.length_map, List.length_map] at this
    rw [this]
    exact (h B H0 as r as' s hr).1
  obtain ⟨h1, h3⟩ := h B H0 as r as' s hr
  refine ⟨_, h3 cdv A outer s0 H E hroom (fun C e δ kp => ⟨fun cls d _ H => E cls d H, L2N.takes_of rfl rfl rfl rfl, fun σ B' H' e1 S1 => ?_⟩), B, e0, sd_startM S0, ⟨fun B1 H1 δ σ B' H' ⟨e1, e2, e3⟩ _ E1 S1 => ?_, fun B1 H1 δ a' σ v B' H' ⟨e1, e2, e3⟩ E1 S1 r1 f1 => ?_, fun _ _ _ _ _ _ z => z.elim, fun _ _ _ _ _ _ z => z.elim⟩⟩
  · subst e
    exact q B' H' e1 (keep_sd kp S0 S1 (fun _ z => z) e1.b)
  · subst e3
    exact q .non B' H' (e1.tr E1) (keep_sd e2 S0 S1 (fun p => sub_free e1.h) (e1.tr E1).b) .non
  · subst e3
    exact q v B' H' (e1.tr E1) (keep_sd e2 S0 S1 (fun p => sub_free e1.h) (e1.tr E1).b) r1
end GL
namespace GL
open PySem PySem.Spec L2
/-- a method that changes its object; a def that changes what it is handed -/
structure KnW (P : Program) (w : World) (K : PySem.W.Frag) (mg : Str → Option Value) (base : Heap) (C : Addr) (m : Str) (k : Nat) (rel : Hp → Hp → List A → R → List A → Prop) : Prop where
  ex : ∃ f fd ps, FnOk P w K mg base (L2N.CX P w) k f fd ps (spM K rel) ∧ Meth K C m f ∧ Binds K fd ps []
structure KnF (P : Program) (w : World) (K : PySem.W.Frag) (mg : Str → Option Value) (base : Heap) (x : Str) (k : Nat) (rel : Hp → Hp → List A → R → List A → Prop) : Prop where
  ex : ∃ f fd ps, FnOk P w K mg base (L2N.CX P w) k f fd ps (spM K rel) ∧ mg x = some (.ref f) ∧ PySem.W.keepIn K (.ref f) = true ∧ Binds K fd ps []
/-- an expression that changes what the slots hold -/
def Px (X : Cx) (B0 H0 : Hp) (δ : List (Option A)) (e : Expr) (δ' : List (Option A)) (a : A) : Prop :=
  PE X e fun σ H Q => ∃ B, Ext B0 H0 B H ∧ SD X.K H0 B H σ δ ∧ ∀ v B' H', Sub B B' → Ext B0 H0 B' H' → SD X.K H0 B' H' σ δ' → RA X.K B' H' v a → Q v H'
open Classical in
/-- all but what a value owns -/
noncomputable def less (H : Hp) (v : V) (a : A) : Hp := fun q => if Fp H v a q then none else H q
theorem less_no {H : Hp} {v : V} {a : A} {q : Addr} (h : Fp H v a q) : less H v a q = none := if_pos h
theorem less_yes {H : Hp} {v : V} {a : A} {q : Addr} (h : ¬ Fp H v a q) : less H v a q = H q := if_neg h
theorem less_le {H : Hp} {v : V} {a : A} : Sub (less H v a) H := fun q u h => by
  by_cases f : Fp H v a q
  · rw [less_no f] at h; cases h
  · rw [less_yes f] at h; exact h
/-- the arguments of a call of a method that changes its object -/
theorem sd_args {K : PySem.W.Frag} {B H : Hp} {v : V} {vs : List V} {a : A} {as : List A} (s : Sub B H) (r : RA K B H v a) (rs : RAs K B H vs as) (no : ∀ b ∈ as, owns b = false ∧ reads b = false) (na : reads a = false) : SD K (less H v a) B H ((v :: vs).map some) ((a :: as).map some) := by
  have g : ∀ {vs : List V} {as : List A}, RAs K B H vs as → ∀ (i : Nat) (b : A), (as.map some)[i]? = some (some b) → ∃ u, (vs.map some)[i]? = some (some u) ∧ RA K B H u b := by
    intro vs as rs
    induction rs with
    | nil => intro i b h; simp at h
    | cons r t ih =>
      intro i b h
      cases i with
      | zero =>
        have e := Option.some.inj (Option.some.inj h)
        subst e
        exact ⟨_, rfl, r⟩
      | succ i => exact ih i b h
  have z : ∀ (i : Nat) (b : A) (u : V) (q : Addr), ((a :: as).map some)[i]? = some (some b) → ((v :: vs).map some)[i]? = some (some u) → Fp H u b q → i = 0 ∧ b = a ∧ u = v := fun i b u q h1 h2 f => by
    cases i with
    | zero =>
      have e1 := Option.some.inj (Option.some.inj h1)
      have e2 := Option.some.inj (Option.some.inj h2)
      exact ⟨rfl, e1.symm, e2.symm⟩
    | succ i =>
      have h1 : (as.map some)[i]? = some (some b) := h1
      rw [List.getElem?_map] at h1
      cases q : as[i]? with
      | none => rw [q] at h1; cases h1
      | some c =>
        rw [q] at h1
        cases h1
        have := (no _ (List.mem_of_getElem? q)).1
        rw [fp_owns f] at this
        cases this
  refine ⟨s, by rw [List.length_map, List.length_map, List.length_cons, List.length_cons, rs.len], g (.cons r rs), fun i j b c u w q h1 h2 h3 h4 f1 f2 => ?_, fun i b u q h1 h2 f => ?_, fun i b u h1 h2 h3 => ?_⟩
  · rw [(z i b u q h1 h3 f1).1, (z j c w q h2 h4 f2).1]
  · obtain ⟨_, e1, e2⟩ := z i b u q h1 h2 f
    subst e1 e2
    exact less_no f
  · exfalso
    cases i with
    | zero =>
      have e1 := Option.some.inj (Option.some.inj h1)
      subst e1
      rw [na] at h2
      cases h2
    | succ i =>
      have h1 : (as.map some)[i]? = some (some b) := h1
      rw [List.getElem?_map] at h1
      cases q : as[i]? with
      | none => rw [q] at h1; cases h1
      | some c =>
        rw [q] at h1
        cases h1
        have := (no _ (List.mem_of_getElem? q)).2
        rw [h2] at this
        cases this

/-! ### several things of one's own handed on -/
/-- what the values own -/
def FpL (H : Hp) (vs : List V) (as : List A) (q : Addr) : Prop := ∃ (k : Nat) (v : V) (a : A), vs[k]? = some v ∧ as[k]? = some a ∧ Fp H v a q
open Classical in
noncomputable def lessL (H : Hp) (vs : List V) (as : List A) : Hp := fun q => if FpL H vs as q then none else H q
theorem lessL_no {H : Hp} {vs : List V} {as : List A} {q : Addr} (h : FpL H vs as q) : lessL H vs as q = none := if_pos h
theorem lessL_yes {H : Hp} {vs : List V} {as : List A} {q : Addr} (h : ¬ FpL H vs as q) : lessL H vs as q = H q := if_neg h
theorem lessL_le {H : Hp} {vs : List V} {as : List A} : Sub (lessL H vs as) H := fun q u h => by
  by_cases f : FpL H vs as q
  · rw [lessL_no f] at h; cases h
  · rw [lessL_yes f] at h; exact h
/-- the arguments: plain ones, and slots' own ones that stand at known places -/
inductive Lnk (δ : List (Option A)) : List (Option Nat) → List A → List A → Prop
  | nil : Lnk δ [] [] []
  | plain {a : A} {sl : List (Option Nat)} {as as' : List A} (h1 : owns a = false) (h2 : reads a = false) : Lnk δ sl as as' → Lnk δ (none :: sl) (a :: as) (a :: as')
  | own {a a' : A} {sl : List (Option Nat)} {as as' : List A} (i : Nat) (p : Addr) (h1 : δ[i]? = some (some a)) (h2 : pin a = some p) (h3 : pin a' = some p) (h4 : ∀ k : Nat, sl[k]? ≠ some (some i)) : Lnk δ sl as as' → Lnk δ (some i :: sl) (a :: as) (a' :: as')
def updL (δ : List (Option A)) : List (Option Nat) → List A → List (Option A)
  | some i :: sl, a :: as => (updL δ sl as).set i (some a)
  | none :: sl, _ :: as => updL δ sl as
  | _, _ => δ
theorem Lnk.len {δ : List (Option A)} {sl : List (Option Nat)} {as as' : List A} (h : Lnk δ sl as as') : as'.length = as.length := by
  induction h with
  | nil => rfl
  | plain _ _ _ ih => exact congrArg (· + 1) ih
  | own _ _ _ _ _ _ _ ih => exact congrArg (· + 1) ih
theorem Lnk.at {δ : List (Option A)} {sl : List (Option Nat)} {as as' : List A} (h : Lnk δ sl as as') : ∀ (k : Nat) (a : A), as[k]? = some a → (owns a = false ∧ reads a = false) ∨ ∃ i p a', sl[k]? = some (some i) ∧ δ[i]? = some (some a) ∧ pin a = some p ∧ as'[k]? = some a' ∧ pin a' = some p := by
  induction h with
  | nil => intro k a h; simp at h
  | plain h1 h2 t ih =>
    intro k a h
    cases k with
    | zero =>
      have e := Option.some.inj h
      subst e
      exact .inl ⟨h1, h2⟩
    | succ k => exact ih k a h
  | own i p h1 h2 h3 h4 t ih =>
    intro k a h
    cases k with
    | zero =>
      have e := Option.some.inj h
      subst e
      exact .inr ⟨i, p, _, rfl, h1, h2, rfl, h3⟩
    | succ k => exact ih k a h
/-- what a slot holds behind -/
theorem Lnk.behind {δ : List (Option A)} {sl : List (Option Nat)} {as as' : List A} (h : Lnk δ sl as as') : ∀ (i : Nat) (b : A), (updL δ sl as')[i]? = some (some b) → (∃ (k : Nat) (a : A) (p : Addr), sl[k]? = some (some i) ∧ as[k]? = some a ∧ δ[i]? = some (some a) ∧ pin a = some p ∧ as'[k]? = some b ∧ pin b = some p) ∨ ((∀ k : Nat, sl[k]? ≠ some (some i)) ∧ δ[i]? = some (some b)) := by
  induction h with
  | nil => intro i b h; exact .inr ⟨fun k => by simp, h⟩
  | plain h1 h2 t ih =>
    intro i b h
    rcases ih i b h with ⟨k, a, p, g1, g2, g3⟩ | ⟨g1, g2⟩
    · exact .inl ⟨k + 1, a, p, g1, g2, g3⟩
    · refine .inr ⟨fun k => ?_, g2⟩
      cases k with
      | zero => exact fun z => nomatch z
      | succ k => exact g1 k
  | @own a a' sl as as' j p h1 h2 h3 h4 t ih =>
    intro i b h
    have h : ((updL δ sl as').set j (some a'))[i]? = some (some b) := h
    rcases set_get h with ⟨e1, e2, _⟩ | ⟨ne, h⟩
    · subst e1 e2
      exact .inl ⟨0, a, p, rfl, rfl, h1, h2, rfl, h3⟩
    · rcases ih i b h with ⟨k, a, p, g1, g2, g3⟩ | ⟨g1, g2⟩
      · exact .inl ⟨k + 1, a, p, g1, g2, g3⟩
      · refine .inr ⟨fun k => ?_, g2⟩
        cases k with
        | zero =>
          intro z
          exact ne (Option.some.inj (Option.some.inj z))
        | succ k => exact g1 k
theorem Lnk.inj {δ : List (Option A)} {sl : List (Option Nat)} {as as' : List A} (h : Lnk δ sl as as') : ∀ (k j i : Nat), sl[k]? = some (some i) → sl[j]? = some (some i) → k = j := by
  induction h with
  | nil => intro k j i h; simp at h
  | plain h1 h2 t ih =>
    intro k j i a b
    cases k with
    | zero => cases a
    | succ k =>
      cases j with
      | zero => cases b
      | succ j => exact congrArg (· + 1) (ih k j i a b)
  | own i' p h1 h2 h3 h4 t ih =>
    intro k j i a b
    cases k with
    | zero =>
      cases j with
      | zero => rfl
      | succ j =>
        have e := Option.some.inj (Option.some.inj a)
        subst e
        exact absurd b (h4 j)
    | succ k =>
      cases j with
      | zero =>
        have e := Option.some.inj (Option.some.inj b)
        subst e
        exact absurd a (h4 k)
      | succ j => exact congrArg (· + 1) (ih k j i a b)
theorem updL_len {δ : List (Option A)} {sl : List (Option Nat)} {as as' : List A} (h : Lnk δ sl as as') : (updL δ sl as').length = δ.length := by
  induction h with
  | nil => rfl
  | plain _ _ _ ih => exact ih
  | own _ _ _ _ _ _ _ ih => exact List.length_set.trans ih
theorem RAs.at {K : PySem.W.Frag} {B H : Hp} : ∀ {vs : List V} {as : List A}, RAs K B H vs as → ∀ (k : Nat) (a : A), as[k]? = some a → ∃ v, vs[k]? = some v ∧ RA K B H v a
  | _, _, .nil, k, a, h => by simp at h
  | _, _, .cons r t, 0, a, h => by
    have e := Option.some.inj h
    subst e
    exact ⟨_, rfl, r⟩
  | _, _, .cons r t, k + 1, a, h => RAs.at t k a h
theorem map_at {α : Type} {l : List α} {k : Nat} {a : α} (h : (l.map some)[k]? = some (some a)) : l[k]? = some a := by
  rw [List.getElem?_map] at h
  cases q : l[k]? with
  | none => rw [q] at h; cases h
  | some b => rw [q] at h; cases h; rfl
theorem at_map {α : Type} {l : List α} {k : Nat} {a : α} (h : l[k]? = some a) : (l.map some)[k]? = some (some a) := by
  rw [List.getElem?_map, h]; rfl
/-- an argument's own things are a slot's -/
theorem Lnk.slot {K : PySem.W.Frag} {H0 B H : Hp} {σ : L2.St} {δ : List (Option A)} {sl : List (Option Nat)} {as as' : List A} {vs : List V} (L : Lnk δ sl as as') (S : SD K H0 B H σ δ) (rs : RAs K B H vs as) {k : Nat} {v : V} {a : A} {q : Addr} (h1 : vs[k]? = some v) (h2 : as[k]? = some a) (f : Fp H v a q) : ∃ i, sl[k]? = some (some i) ∧ δ[i]? = some (some a) ∧ σ[i]? = some (some v) := by
  rcases L.at k a h2 with ⟨g, _⟩ | ⟨i, p, a', g1, g2, g3, _, _⟩
  · rw [fp_owns f] at g; cases g
  · obtain ⟨u, g4, g5⟩ := S.rel i a g2
    obtain ⟨w, g6, g7⟩ := rs.at k a h2
    rw [h1] at g6
    cases g6
    rw [pin_ref g3 g5] at g4
    rw [pin_ref g3 g7]
    exact ⟨i, g1, g2, g4⟩
theorem sdm_args {K : PySem.W.Frag} {H0 B H : Hp} {σ : L2.St} {δ : List (Option A)} {sl : List (Option Nat)} {as as' : List A} {vs : List V} (L : Lnk δ sl as as') (S : SD K H0 B H σ δ) (rs : RAs K B H vs as) : SD K (lessL H vs as) B H (vs.map some) (as.map some) := by
  refine ⟨S.s, by rw [List.length_map, List.length_map, rs.len], fun i a h => ?_, fun i j a b v u q h1 h2 h3 h4 f1 f2 => ?_, fun i a v q h1 h2 f => lessL_no ⟨i, v, a, map_at h2, map_at h1, f⟩, fun i a v h1 h2 _ => ?_⟩
  · obtain ⟨v, g1, g2⟩ := rs.at i a (map_at h)
    exact ⟨v, at_map g1, g2⟩
  · obtain ⟨s1, g1, g2, g3⟩ := L.slot S rs (map_at h3) (map_at h1) f1
    obtain ⟨s2, g4, g5, g6⟩ := L.slot S rs (map_at h4) (map_at h2) f2
    have e := S.dis s1 s2 a b v u q g2 g5 g3 g6 f1 f2
    subst e
    exact L.inj i j s1 g1 g4
  · exfalso
    rcases L.at i a (map_at h1) with ⟨_, g⟩ | ⟨_, p, _, _, _, g, _, _⟩
    · rw [g] at h2; cases h2
    · cases a <;> first | (cases h2; done) | (cases g; done)
theorem sdm_behind {K : PySem.W.Frag} {B0 H0 B H B' H' : Hp} {σ : L2.St} {δ : List (Option A)} {sl : List (Option Nat)} {as as' : List A} {vs : List V} (L : Lnk δ sl as as') (S : SD K H0 B H σ δ) (E : Ext B0 H0 B H) (rs : RAs K B H vs as)
    (E1 : Ext B (lessL H vs as) B' H') (S1 : SD K (lessL H vs as) B' H' (vs.map some) (as'.map some)) : Ext B0 H0 B' H' ∧ SD K H0 B' H' σ (updL δ sl as') := by
  have keep : ∀ q u, ¬ FpL H vs as q → H q = some u → H' q = some u ∧ B' q = B q := fun q u n h => by
    have h2 : lessL H vs as q = some u := by rw [lessL_yes n]; exact h
    exact ⟨E1.h q u h2, E1.n q (by rw [h2]; exact fun z => nomatch z)⟩
  have out : ∀ q u, H0 q = some u → ¬ FpL H vs as q := fun q u h ⟨k, v, a, g1, g2, f⟩ => by
    obtain ⟨i, _, g4, g5⟩ := L.slot S rs g1 g2 f
    rw [S.fr i a v q g4 g5 f] at h
    cases h
  have up : Sub H0 H' := fun q u h => (keep q u (out q u h) (E.h q u h)).1
  have apart : ∀ (i : Nat) (b : A) (u : V) (q : Addr), (∀ k : Nat, sl[k]? ≠ some (some i)) → δ[i]? = some (some b) → σ[i]? = some (some u) → Fp H u b q → ¬ FpL H vs as q := fun i b u q n h1 h2 f ⟨k, v, a, g1, g2, f2⟩ => by
    obtain ⟨j, g3, g4, g5⟩ := L.slot S rs g1 g2 f2
    have e := S.dis i j b a u v q h1 g4 h2 g5 f f2
    subst e
    exact n k g3
  have other : ∀ (i : Nat) (b : A) (u : V), (∀ k : Nat, sl[k]? ≠ some (some i)) → δ[i]? = some (some b) → σ[i]? = some (some u) → RA K B' H' u b ∧ ∀ q, Fp H' u b q → Fp H u b q := fun i b u n h1 h2 => by
    have r := S.rel' h1 h2
    have k : ∀ q w, Fp H u b q → H q = some w → H' q = some w ∧ B' q = B q := fun q w f hq => keep q w (apart i b u q n h1 h2 f) hq
    refine ⟨?_, fun q f => fp_back r (fun p w g h => (k p w g h).1) f⟩
    cases hr : reads b with
    | false => exact ra_to E1.b (fun q w f hq => ⟨by rw [(k q w f hq).2]; exact (fp_at r f).1, (k q w f hq).1⟩) hr r
    | true =>
      obtain ⟨Bz, sz, rz⟩ := S.rd i b u h1 hr h2
      exact ra_reads hr (sz.tr E1.b) up rz
  have own : ∀ (i k : Nat) (a b : A) (p : Addr) (u : V), sl[k]? = some (some i) → δ[i]? = some (some a) → pin a = some p → as'[k]? = some b → pin b = some p → σ[i]? = some (some u) → vs[k]? = some u := fun i k a b p u h1 h2 h3 h4 h5 h6 => by
    obtain ⟨w, g1, g2⟩ := S1.rel k b (at_map h4)
    rw [pin_ref h5 g2] at g1
    rw [pin_ref h3 (S.rel' h2 h6)]
    exact map_at g1
  have meet : ∀ (i k j : Nat) (b c : A) (v u : V) (q : Addr), as'[k]? = some b → vs[k]? = some v → Fp H' v b q → (∀ k : Nat, sl[k]? ≠ some (some j)) → δ[j]? = some (some c) → σ[j]? = some (some u) → Fp H' u c q → False := fun i k j b c v u q h1 h2 f1 n h3 h4 f2 => by
    have g1 := S1.fr k b v q (at_map h1) (at_map h2) f1
    have g2 := (other j c u n h3 h4).2 q f2
    have g3 := apart j c u q n h3 h4 g2
    rw [lessL_yes g3] at g1
    exact (fp_at (S.rel' h3 h4) g2).2 g1
  refine ⟨⟨E.b.tr E1.b, up, E1.s, fun q h => ?_⟩, E1.s, by rw [updL_len L]; exact S.len, fun i b h => ?_, fun i j b c v u q h1 h2 h3 h4 f1 f2 => ?_, fun i b v q h1 h2 f => ?_, fun i b v h1 h2 h3 => ?_⟩
  · cases e : H0 q with
    | none => exact absurd e h
    | some u => rw [(keep q u (out q u e) (E.h q u e)).2]; exact E.n q h
  · rcases L.behind i b h with ⟨k, a, p, g1, g2, g3, g4, g5, g6⟩ | ⟨n, g⟩
    · obtain ⟨u, g7, _⟩ := S.rel i a g3
      obtain ⟨w, g8, g9⟩ := S1.rel k b (at_map g5)
      have e := own i k a b p u g1 g3 g4 g5 g6 g7
      rw [map_at g8] at e
      cases e
      exact ⟨_, g7, g9⟩
    · obtain ⟨u, g7, _⟩ := S.rel i b g
      exact ⟨u, g7, (other i b u n g g7).1⟩
  · rcases L.behind i b h1 with ⟨k, a, p, g1, g2, g3, g4, g5, g6⟩ | ⟨n, g⟩
    · have e1 := own i k a b p v g1 g3 g4 g5 g6 h3
      rcases L.behind j c h2 with ⟨k', a', p', g1', g2', g3', g4', g5', g6'⟩ | ⟨n', g'⟩
      · have e2 := own j k' a' c p' u g1' g3' g4' g5' g6' h4
        have e := S1.dis k k' b c v u q (at_map g5) (at_map g5') (at_map e1) (at_map e2) f1 f2
        subst e
        rw [g1] at g1'
        cases g1'
        rfl
      · exact (meet i k j b c v u q g5 e1 f1 n' g' h4 f2).elim
    · rcases L.behind j c h2 with ⟨k', a', p', g1', g2', g3', g4', g5', g6'⟩ | ⟨n', g'⟩
      · have e2 := own j k' a' c p' u g1' g3' g4' g5' g6' h4
        exact (meet j k' i c b u v q g5' e2 f2 n g h3 f1).elim
      · exact S.dis i j b c v u q g g' h3 h4 ((other i b v n g h3).2 q f1) ((other j c u n' g' h4).2 q f2)
  · rcases L.behind i b h1 with ⟨k, a, p, g1, g2, g3, g4, g5, g6⟩ | ⟨n, g⟩
    · have e1 := own i k a b p v g1 g3 g4 g5 g6 h2
      have e := S1.fr k b v q (at_map g5) (at_map e1) f
      by_cases z : FpL H vs as q
      · obtain ⟨k2, v2, a2, z1, z2, z3⟩ := z
        obtain ⟨j, _, z4, z5⟩ := L.slot S rs z1 z2 z3
        exact S.fr j a2 v2 q z4 z5 z3
      · rw [lessL_yes z] at e
        exact sub_free E.h e
    · exact S.fr i b v q g h2 ((other i b v n g h2).2 q f)
  · rcases L.behind i b h1 with ⟨k, a, p, g1, g2, g3, g4, g5, g6⟩ | ⟨n, g⟩
    · cases b <;> first | (cases h2; done) | (cases g6; done)
    · obtain ⟨Bz, sz, rz⟩ := S.rd i b v g h2 h3
      exact ⟨Bz, sz.tr E1.b, rz⟩
/-- a promise of that kind, used by one who holds the arguments in slots -/
theorem spM_in {K : PySem.W.Frag} {B0 H0 B H : Hp} {σ : L2.St} {δ : List (Option A)} {sl : List (Option Nat)} {as as' : List A} {vs : List V} {rel : Hp → Hp → List A → R → List A → Prop} {a : A} {Q : VK} {E : XK} (L : Lnk δ sl as as') (S : SD K H0 B H σ δ) (E0 : Ext B0 H0 B H) (rs : RAs K B H vs as)
    (h : ∀ B H, Sub B H → rel B H as (.ret a) as') (q : ∀ v B' H', Sub B B' → Ext B0 H0 B' H' → SD K H0 B' H' σ (updL δ sl as') → RA K B' H' v a → Q v H') : spM K rel vs H Q E := by
  have sb : Sub B (lessL H vs as) := fun q u hq => by
    rw [lessL_yes (fun ⟨k, v, a, g1, g2, f⟩ => by
      obtain ⟨w, g3, g4⟩ := rs.at k a g2
      rw [g1] at g3
      cases g3
      rw [(fp_at g4 f).1] at hq
      cases hq)]
    exact E0.s q u hq
  refine ⟨B, lessL H vs as, as, .ret a, as', sb, ⟨Sub.rfl', lessL_le, E0.s, fun _ _ => rfl⟩, sdm_args L S rs, h _ _ sb, fun v B3 H3 E3 S3 r3 => ?_⟩
  obtain ⟨g1, g2⟩ := sdm_behind L S E0 rs E3 S3
  exact q v B3 H3 E3.b g1 g2 r3
section
variable {X : Cx} {B0 H0 : Hp} {δ δ' : List (Option A)} {e e1 e2 o : Expr} {es : List Expr} {a a0 a1 a2 : A} {as as' : List A} {xs ys : List PyData} {x y : PyData} {pos p1 p2 apos : Pos} {f m xn nmx : Str} {p C : Addr} {fs fs' : List (Str × Fd)} {k i : Nat} {sl : List (Option Nat)} {rel : Hp → Hp → List A → R → List A → Prop} {fd : Fd}
/-- o.m(..), the object changed, and arguments too -/
theorem x_methM {pl : Sem Bool} (F : KnW X.prog X.w X.K X.mg X.base C m k rel) (c : Cls X.K C) (hr : Room k X.A) (ha : Pa X B0 H0 δ (e :: es) as) (L : Lnk δ (some i :: sl) (.ob p C fs :: as) (.ob p C fs' :: as')) (nm : fs.lookup m = none) (h : ∀ B H, Sub B H → rel B H (.ob p C fs :: as) (.ret a) (.ob p C fs' :: as'))
    (hN : X.N[i]? = some xn := by rfl) (hv : Vis X.env.scope xn := by first | exact .inl rfl | exact .inr (.inl rfl) | exact .inr (.inr rfl)) (h1 : (xn == ("__debug__" : Str)) = false := by decide) (h2 : (xn == ("__classdict__" : Str)) = false := by decide)
    (hst : starEach (e :: es) X.env = (false, eval e X.env) :: starEach es X.env := by rfl) (hpl : (backTo pos (starEach es X.env)).any (·.1) = false := by rfl)
    (ht : eval (.Call (.Attribute (.Name xn p1) m apos) (e :: es) [] pos) X.env = (do
      let ov ← eval (.Name xn p1) X.env
      standAt apos.atName
      let (f, first) ← holding [ov] (getMethod ov m pl)
      callWith pos f first (backTo pos (starEach (e :: es) X.env)) (backToKw pos (keywordEach [] X.env))) := by rfl) : Px X B0 H0 δ (.Call (.Attribute (.Name xn p1) m apos) (e :: es) [] pos) (updL δ (some i :: sl) (.ob p C fs' :: as')) a := by
  obtain ⟨f, fd, ps, F, hm, hb⟩ := F.ex
  have hδ : δ[i]? = some (some (.ob p C fs)) := by cases L with | own _ _ h1 _ _ _ _ => exact h1
  exact pe_to (pe_meth (pe_var (i := i) hN hv h1 h2) c hm F hr hb .nil passN ha hst hpl ht) fun σ H Q ⟨B, E, S, q⟩ => by
    obtain ⟨v, hσ, rv⟩ := S.rel i _ hδ
    obtain ⟨rfl, hb, dx, gs, hp, hw, sp⟩ := id rv
    refine ⟨_, hσ, p, dx, gs, rfl, hp, fdv_no (fdv_of hw) nm, B, E, S, fun vs B2 H2 E2 r2 => ?_⟩
    show spM X.K rel (V.ref p :: (vs ++ [])) H2 Q E0
    rw [List.append_nil]
    exact spM_in L (S.mono E2) (E.tr E2) (.cons ((S.mono E2).rel' hδ hσ) r2) h fun v B' H' b g1 g2 r => q v B' H' (E2.b.tr b) g1 g2 r
theorem x_meth {pl : Sem Bool} (F : KnW X.prog X.w X.K X.mg X.base C m k rel) (c : Cls X.K C) (hr : Room k X.A) (ha : Pa X B0 H0 δ (e :: es) as) (L : Lnk δ (some i :: sl) (.ob p C fs :: as) (.ob p C fs' :: as')) (nm : fs.lookup m = none) (h : ∀ B H, Sub B H → rel B H (.ob p C fs :: as) (.ret a) (.ob p C fs' :: as')) (hu : updL δ (some i :: sl) (.ob p C fs' :: as') = δ')
    (hN : X.N[i]? = some xn := by rfl) (hv : Vis X.env.scope xn := by first | exact .inl rfl | exact .inr (.inl rfl) | exact .inr (.inr rfl)) (h1 : (xn == ("__debug__" : Str)) = false := by decide) (h2 : (xn == ("__classdict__" : Str)) = false := by decide)
    (hst : starEach (e :: es) X.env = (false, eval e X.env) :: starEach es X.env := by rfl) (hpl : (backTo pos (starEach es X.env)).any (·.1) = false := by rfl)
    (ht : eval (.Call (.Attribute (.Name xn p1) m apos) (e :: es) [] pos) X.env = (do
      let ov ← eval (.Name xn p1) X.env
      standAt apos.atName
      let (f, first) ← holding [ov] (getMethod ov m pl)
      callWith pos f first (backTo pos (starEach (e :: es) X.env)) (backToKw pos (keywordEach [] X.env))) := by rfl) : Px X B0 H0 δ (.Call (.Attribute (.Name xn p1) m apos) (e :: es) [] pos) δ' a :=
  hu ▸ x_methM F c hr ha L nm h hN hv h1 h2 hst hpl ht
/-- o.m(), the object changed -/
theorem x_meth0 {pl : Sem Bool} (F : KnW X.prog X.w X.K X.mg X.base C m k rel) (c : Cls X.K C) (hr : Room k X.A) (hδ : δ[i]? = some (some (.ob p C fs))) (nm : fs.lookup m = none) (h : ∀ B H, Sub B H → rel B H [.ob p C fs] (.ret a) [.ob p C fs']) (hu : δ.set i (some (.ob p C fs')) = δ')
    (hN : X.N[i]? = some xn := by rfl) (hv : Vis X.env.scope xn := by first | exact .inl rfl | exact .inr (.inl rfl) | exact .inr (.inr rfl)) (h1 : (xn == ("__debug__" : Str)) = false := by decide) (h2 : (xn == ("__classdict__" : Str)) = false := by decide)
    (ht : eval (.Call (.Attribute (.Name xn p1) m apos) [] [] pos) X.env = (do
      let ov ← eval (.Name xn p1) X.env
      standAt apos.atName
      let (f, first) ← holding [ov] (getMethod ov m pl)
      callWith pos f first (backTo pos (starEach [] X.env)) (backToKw pos (keywordEach [] X.env))) := by rfl) : Px X B0 H0 δ (.Call (.Attribute (.Name xn p1) m apos) [] [] pos) δ' a := by
  obtain ⟨f, fd, ps, F, hm, hb⟩ := F.ex
  have L : Lnk δ [some i] [.ob p C fs] [.ob p C fs'] := .own i p hδ rfl rfl (fun k => by simp) .nil
  exact pe_to (pe_meth0 (pe_var (i := i) hN hv h1 h2) c hm F hr hb .nil passN ht) fun σ H Q ⟨B, E, S, q⟩ => by
    obtain ⟨v, hσ, rv⟩ := S.rel i _ hδ
    obtain ⟨rfl, hb, dx, gs, hp, hw, sp⟩ := id rv
    refine ⟨_, hσ, p, dx, gs, rfl, hp, fdv_no (fdv_of hw) nm, ?_⟩
    exact spM_in L S E (.cons rv .nil) h fun v B' H' b g1 g2 r => q v B' H' b g1 (hu ▸ g2) r
/-- f(..), arguments changed -/
theorem x_call (F : KnF X.prog X.w X.K X.mg X.base nmx k rel) (hr : Room k X.A) (ha : Pa X B0 H0 δ (e :: es) as) (L : Lnk δ sl as as') (h : ∀ B H, Sub B H → rel B H as (.ret a) as') (hu : updL δ sl as' = δ') (hg : Gl X nmx := by rfl) (hdb : (nmx == ("__debug__" : Str)) = false := by decide)
    (he : starEach (e :: es) X.env = (false, eval e X.env) :: starEach es X.env := by rfl) (hpl : (backTo pos (starEach es X.env)).any (·.1) = false := by rfl) : Px X B0 H0 δ (.Call (.Name nmx p1) (e :: es) [] pos) δ' a := by
  obtain ⟨f, fd, ps, F, hm, hk, hb⟩ := F.ex
  exact pe_to (pe_call F hr hg hm hk hb .nil passN ha hdb he hpl) fun σ H Q ⟨B, E, S, q⟩ => ⟨B, E, S, fun vs B1 H1 E1 r1 => by
    show spM X.K rel (vs ++ []) H1 Q E0
    rw [List.append_nil]
    exact spM_in L (S.mono E1) (E.tr E1) r1 h fun v B' H' b g1 g2 r => q v B' H' (E1.b.tr b) g1 (hu ▸ g2) r⟩
theorem ws_setX {E : AE} {rest : List Stmt} {j : Nat} {y : Str} (hi : X.N[j]? = some y) (he : Px X B0 H0 δ e δ' a) (hk : stay a = true) (hr : Ws X B0 H0 (δ'.set j (some a)) rest E) (hN : X.N.Nodup) (hx : Loc X.env.scope y)
    (hs : swapsWith e (some (.Name y p1)) pos.line X.env = pure false := by rfl) (hf : X.fn y = true ∨ X.env.scope.names.lookup y = some .local := by first | exact .inl rfl | exact .inr rfl | assumption) : Ws X B0 H0 δ (.Assign [.Name y p1] e pos :: rest) E :=
  ws_cons (W := fun B H d => B = B0 ∧ H = H0 ∧ d = δ'.set j (some a)) (ps_set hN hi hx he hs hf) (fun B H d ⟨h1, h2, h3⟩ => by rw [h1, h2, h3]; exact hr) fun D σ H B E0 S z =>
    ⟨B, E0, S, fun v B' H' b E1 S1 r => z.nx _ _ _ _ B' H' ⟨rfl, rfl, rfl⟩ b E1 (S1.set r (stay_no hk).1 (stay_no hk).2)⟩
theorem ws_dropX {E : AE} {rest : List Stmt} (he : Px X B0 H0 δ e δ' a) (hr : Ws X B0 H0 δ' rest E) (hs : swapsWith e none pos.line X.env = pure false := by rfl) : Ws X B0 H0 δ (.Expr e pos :: rest) E :=
  ws_cons (W := fun B H d => B = B0 ∧ H = H0 ∧ d = δ') (ps_expr he hs) (fun B H d ⟨h1, h2, h3⟩ => by rw [h1, h2, h3]; exact hr) fun D σ H B E0 S z => ⟨B, E0, S, fun v B' H' b E1 S1 r => z.nx _ _ _ σ B' H' ⟨rfl, rfl, rfl⟩ b E1 S1⟩
end
/-- a class whose objects are made by an own __init__ -/
structure KnMk (P : Program) (w : World) (K : PySem.W.Frag) (mg : Str → Option Value) (base : Heap) (x : Str) (C : Addr) (k : Nat) (rel : Hp → Hp → List A → R → List A → Prop) : Prop where
  ex : ∃ f fd ps, FnOk P w K mg base (L2N.CX P w) k f fd ps (spM K rel) ∧ Mk K C f ∧ Binds K fd ps [] ∧ mg x = some (.ref C)
theorem fp_empty {H : Hp} {x C : Addr} {q : Addr} (h : Fp H (.ref x) (.ob x C []) q) : q = x := by
  rcases h with h | ⟨_, _, _, _, _, _, _, n, f, _, h2, _⟩
  · cases h; rfl
  · simp at h2
section
variable {X : Cx} {B0 H0 : Hp} {δ δ' : List (Option A)} {e e1 e2 o : Expr} {es : List Expr} {a a0 a1 a2 : A} {as : List A} {pos p1 p2 apos : Pos} {f m xn nm : Str} {p C : Addr} {fs fs' : List (Str × Fd)} {k i : Nat} {rel : Hp → Hp → List A → R → List A → Prop}
/-- y = C(..) -/
theorem ws_make {E : AE} {rest : List Stmt} {j : Nat} {y : Str} (F : KnMk X.prog X.w X.K X.mg X.base nm C k rel) (hr : Room (k + 1) X.A) (ha : Pa X B0 H0 δ (e :: es) as) (no : ∀ b ∈ as, owns b = false ∧ reads b = false) (h : ∀ x B H, Sub B H → rel B H (.ob x C [] :: as) (.ret (.d .none)) (.ob x C fs :: as)) (hi : X.N[j]? = some y) (hR : ∀ x, Ws X B0 H0 (δ.set j (some (.ob x C fs))) rest E) (hN : X.N.Nodup) (hx : Loc X.env.scope y)
    (hg : Gl X nm := by rfl) (hdb : (nm == ("__debug__" : Str)) = false := by decide) (he : starEach (e :: es) X.env = (false, eval e X.env) :: starEach es X.env := by rfl) (hpl : (backTo pos (starEach es X.env)).any (·.1) = false := by rfl)
    (hs : swapsWith (.Call (.Name nm p2) (e :: es) [] pos) (some (.Name y p1)) apos.line X.env = pure false := by rfl) (hf : X.fn y = true ∨ X.env.scope.names.lookup y = some .local := by first | exact .inl rfl | exact .inr rfl | assumption) : Ws X B0 H0 δ (.Assign [.Name y p1] (.Call (.Name nm p2) (e :: es) [] pos) apos :: rest) E := by
  obtain ⟨f, fd, ps, F, hm, hb, hmg⟩ := F.ex
  refine ws_cons (W := fun B H d => B = B0 ∧ H = H0 ∧ ∃ x, d = δ.set j (some (.ob x C fs))) (ps_set hN hi hx (pe_make hm F hr hg hmg hb .nil passN ha hdb he hpl) hs hf) (fun B H d ⟨h1, h2, x, h3⟩ => by rw [h1, h2, h3]; exact hR x) fun D σ H B E0 S z => ⟨B, E0, S, fun vs B1 H1 E1 rs x dx nx ndx ne => ?_⟩
  have bx := sub_free E1.s nx
  have hn : ∀ q u, H1 q = some u → (upd (upd H1 dx (.own x)) x (.ins C dx [])) q = some u := fun q u hq => by
    rw [upd_ne (ne_of_none hq nx), upd_ne (ne_of_none hq ndx)]; exact hq
  have rv : RA X.K B1 (upd (upd H1 dx (.own x)) x (.ins C dx [])) (.ref x) (.ob x C []) := ⟨rfl, bx, dx, [], upd_same, .nil, fun a b q g => by obtain ⟨_, _, h1, _⟩ := g; simp at h1⟩
  have ex : Ext B1 H1 B1 (upd (upd H1 dx (.own x)) x (.ins C dx [])) := ⟨Sub.rfl', hn, fun q u hq => hn q u (E1.s q u hq), fun _ _ => rfl⟩
  have sb : Sub B1 (less (upd (upd H1 dx (.own x)) x (.ins C dx [])) (.ref x) (.ob x C [])) := fun q u hq => by
    rw [less_yes (fun g => by rw [fp_empty g, bx] at hq; cases hq)]
    exact ex.s q u hq
  refine ⟨B1, less (upd (upd H1 dx (.own x)) x (.ins C dx [])) (.ref x) (.ob x C []), .ob x C [] :: as, .ret (.d .none), .ob x C fs :: as, sb, ⟨Sub.rfl', less_le, ex.s, fun _ _ => rfl⟩, ?_, h x _ _ sb, fun v B3 H3 E3 S3 r3 => ⟨by cases r3; rfl, ?_⟩⟩
  · rw [List.append_nil]
    have rs2 : RAs X.K B1 (upd (upd H1 dx (.own x)) x (.ins C dx [])) vs as := rs.mono ex
    exact sd_args ex.s rv rs2 no rfl
  · have up : ∀ q u, H1 q = some u → less (upd (upd H1 dx (.own x)) x (.ins C dx [])) (.ref x) (.ob x C []) q = some u := fun q u hq => by
      rw [less_yes (fun g => by rw [fp_empty g, nx] at hq; cases hq)]
      exact hn q u hq
    have E4 : Ext B1 H1 B3 H3 := ⟨E3.b, fun q u hq => E3.h q u (up q u hq), E3.s, fun q hq => by
      cases w : H1 q with
      | none => exact absurd w hq
      | some u => exact E3.n q (by rw [up q u w]; exact fun z => nomatch z)⟩
    obtain ⟨u, g1, g2⟩ := S3.rel 0 (.ob x C fs) rfl
    have e9 := Option.some.inj (Option.some.inj g1)
    subst e9
    refine z.nx _ _ _ _ B3 H3 ⟨rfl, rfl, x, rfl⟩ (E1.b.tr E4.b) ((E0.tr E1).tr E4) ((S.mono E1).setN (fun q u hq => E1.h q u (E0.h q u hq)) E4 g2 fun q g => ?_)
    have g3 := S3.fr 0 (.ob x C fs) _ q rfl rfl g
    cases w : H1 q with
    | none => rfl
    | some u => rw [up q u w] at g3; cases g3
end
end GL

set_option Elab.async false
set_option linter.all false
set_option maxRecDepth 100000
set_option maxHeartbeats 4000000
/-! GR: new things handed back, while, tests that change things, one's own lists at known places -/
namespace GL
open PySem PySem.Spec L2
/-! ### an expression whose value is new -/
def Pf (X : Cx) (B0 H0 : Hp) (δ : List (Option A)) (e : Expr) (a : A) : Prop :=
  PE X e fun σ H Q => ∃ B, Ext B0 H0 B H ∧ SD X.K H0 B H σ δ ∧ ∀ v B' H', Ext B H B' H' → RA X.K B' H' v a → (∀ q, Fp H' v a q → H q = none) → Q v H'
def fdD : Fd → PyData
  | .d x => x
  | .o xs => .list xs
  | .g _ => .none
def seqD (t : Bool) (xs : List PyData) : PyData := if t then .tuple xs else .list xs
theorem dq_seq {H : Hp} {t : Bool} {p : Addr} {vs : List V} {xs : List PyData} (h : H p = some (seqO t vs)) (d : Dqs H vs xs) : Dq H (.ref p) (seqD t xs) := by
  unfold seqO at h
  unfold seqD
  cases t with
  | true => exact .tup h d
  | false => exact .lst h d
def plainF (fs : List Fd) : Bool := fs.all fun f => match f with | .g _ => false | _ => true
open Classical in
/-- the data, and what a value owns -/
noncomputable def more (B H : Hp) (v : V) (a : A) : Hp := fun q => match B q with
  | some u => some u
  | none => if Fp H v a q then H q else none
theorem more_b {B H : Hp} {v : V} {a : A} : Sub B (more B H v a) := fun q u h => by unfold more; rw [h]
theorem more_h {B H : Hp} {v : V} {a : A} (s : Sub B H) : Sub (more B H v a) H := fun q u h => by
  unfold more at h
  cases e : B q with
  | some w => rw [e] at h; exact s q u (by rw [e]; exact h)
  | none =>
    rw [e] at h
    dsimp only at h
    by_cases f : Fp H v a q
    · rwa [if_pos f] at h
    · rw [if_neg f] at h; cases h
theorem more_own {B H : Hp} {v : V} {a : A} {q : Addr} (hb : B q = none) (f : Fp H v a q) : more B H v a q = H q := by
  unfold more
  rw [hb]
  exact if_pos f
theorem more_no {B H : Hp} {v : V} {a : A} {q : Addr} (f : ¬ Fp H v a q) : more B H v a q = B q := by
  unfold more
  cases e : B q with
  | some w => rfl
  | none => exact if_neg f
theorem fdw_dqs {B B' H : Hp} (b : Sub B B') : ∀ {vs : List V} {fs : List Fd}, plainF fs = true → FdW B H (nm vs) (nm fs) → (∀ i q u, FdP (nm vs) (nm fs) i q → B q = none → H q = some u → B' q = some u) → Dqs B' vs (fs.map fdD)
  | [], [], _, _, _ => .nil
  | [], _ :: _, _, w, _ => by cases w
  | _ :: _, [], _, w, _ => by cases w
  | v :: vs, f :: fs, hp, w, h => by
    have w : FdW B H (("", v) :: nm vs) (("", f) :: nm fs) := w
    cases w with
    | cons r t =>
      have hp2 : plainF fs = true := by
        unfold plainF at hp ⊢
        rw [List.all_cons, Bool.and_eq_true] at hp
        exact hp.2
      refine .cons ?_ (fdw_dqs b hp2 t fun i q u g hb hq => h (i + 1) q u (let ⟨n, f, h1, h2, h3⟩ := g; ⟨n, f, h1, h2, h3⟩) hb hq)
      cases f with
      | d x => exact dq_sub b _ _ r
      | o xs =>
        obtain ⟨q, ws, e, hb, hq, hd⟩ := r
        subst e
        exact .lst (h 0 q _ ⟨"", .o xs, rfl, rfl, rfl⟩ hb hq) (dqs_sub b _ _ hd)
      | g ks => unfold plainF at hp; simp at hp
section
variable {X : Cx} {B0 H0 : Hp} {δ δ' : List (Option A)} {e e1 e2 o : Expr} {es : List Expr} {a a0 a1 a2 : A} {as as' : List A} {xs ys : List PyData} {x y : PyData} {pos p1 p2 apos : Pos} {f m xn nmx : Str} {p C : Addr} {fs fs' : List (Str × Fd)} {k i : Nat} {sl : List (Option Nat)} {rel : Hp → Hp → List A → R → Prop} {fd : Fd} {b c : Bool}
theorem Pf.pe (h : Pf X B0 H0 δ e a) : Pe X B0 H0 δ e a := pe_to h fun σ H Q ⟨B, E, S, k⟩ => ⟨B, E, S, fun v B' H' E1 r _ => k v B' H' E1 r⟩
theorem Pf.pn (h : Pf X B0 H0 δ e (.o xs)) : Pn X B0 H0 δ e xs := pe_to h fun σ H Q ⟨B, E, S, k⟩ => ⟨B, E, S, fun v B' H' E1 r f => by
  obtain ⟨p, vs, rfl, hb, hp, hd⟩ := r
  exact k p vs B' H' E1 (f p rfl) hb hp hd⟩
theorem Pn.pf (h : Pn X B0 H0 δ e xs) : Pf X B0 H0 δ e (.o xs) := pe_to h fun σ H Q ⟨B, E, S, k⟩ => ⟨B, E, S, fun p vs B' H' E1 hp hb hl hd => k (.ref p) B' H' E1 ⟨p, vs, rfl, hb, hl, hd⟩ fun q f => by
  have f : V.ref p = V.ref q := f
  cases f
  exact hp⟩
/-- a new thing, let go at once -/
theorem Pf.dat {t : Bool} {gs : List Fd} (h : Pf X B0 H0 δ e (.nf t gs)) (hp : plainF gs = true := by rfl) : Pe X B0 H0 δ e (.d (seqD t (gs.map fdD))) := pe_to h fun σ H Q ⟨B, E, S, k⟩ => ⟨B, E, S, fun v B' H' E1 r f => by
  have r0 := r
  obtain ⟨p, vs, rfl, hb, hl, hw, hs, hn⟩ := r
  refine k (.ref p) (more B' H' (.ref p) (.nf t gs)) H' ⟨E1.b.tr more_b, E1.h, more_h E1.s, fun q hq => ?_⟩ ?_
  · rw [more_no fun g => hq (f q g)]
    exact E1.n q hq
  · have g0 : Fp H' (.ref p) (.nf t gs) p := .inl rfl
    exact dq_seq (by rw [more_own hb g0]; exact hl) (fdw_dqs more_b hp hw fun i q u g hbq hq => by
      have g1 : Fp H' (.ref p) (.nf t gs) q := .inr ⟨p, vs, i, rfl, hl, g⟩
      rw [more_own hbq g1]
      exact hq)⟩
theorem pf_call (F : Kn X.prog X.w X.K X.mg X.base nmx k rel) (hr : Room k X.A) (ha : Pa X B0 H0 δ (e :: es) as) (h : ∀ B H, Ext B0 H0 B H → Sub B H → rel B H as (.ret a)) (hg : Gl X nmx := by rfl) (hdb : (nmx == ("__debug__" : Str)) = false := by decide)
    (he : starEach (e :: es) X.env = (false, eval e X.env) :: starEach es X.env := by rfl) (hpl : (backTo pos (starEach es X.env)).any (·.1) = false := by rfl) : Pf X B0 H0 δ (.Call (.Name nmx p1) (e :: es) [] pos) a := by
  obtain ⟨CX, f, fd, ps, pa, F, hm, hk, hb⟩ := F.ex
  exact pe_to (pe_call F hr hg hm hk hb .nil (pa X rfl rfl) ha hdb he hpl) fun σ H Q ⟨B, E, S, q⟩ => ⟨B, E, S, fun vs B1 H1 E1 r1 => ⟨B1, as, .ret a, E1.s, by rw [List.append_nil]; exact r1, h B1 H1 (E.tr E1) E1.s, fun v B2 H2 E2 r2 f2 => q v B2 H2 (E1.tr E2) r2 fun x fx => sub_free E1.h (f2 x fx)⟩⟩
theorem pf_meth {pl : Sem Bool} (F : KnM X.prog X.w X.K X.mg X.base C m k rel) (c : Cls X.K C) (hr : Room k X.A) (ho : Pe X B0 H0 δ o a0) [g : ObR a0 C fs] (nm : fs.lookup m = none) (ha : Pa X B0 H0 δ (e :: es) as) (h : ∀ B H, Ext B0 H0 B H → Sub B H → rel B H (.rb C fs :: as) (.ret a))
    (hst : starEach (e :: es) X.env = (false, eval e X.env) :: starEach es X.env := by rfl) (hpl : (backTo pos (starEach es X.env)).any (·.1) = false := by rfl)
    (ht : eval (.Call (.Attribute o m apos) (e :: es) [] pos) X.env = (do
      let ov ← eval o X.env
      standAt apos.atName
      let (f, first) ← holding [ov] (getMethod ov m pl)
      callWith pos f first (backTo pos (starEach (e :: es) X.env)) (backToKw pos (keywordEach [] X.env))) := by rfl) : Pf X B0 H0 δ (.Call (.Attribute o m apos) (e :: es) [] pos) a := by
  obtain ⟨CX, f, fd, ps, pa, F, hm, hb⟩ := F.ex
  exact pe_to (pe_meth ho c hm F hr hb .nil (pa X rfl rfl) ha hst hpl ht) fun σ H Q ⟨B, E, S, q⟩ => ⟨B, E, S, fun v B1 H1 E1 r1 => by
    obtain ⟨p, dx, gs, rfl, hp, hv⟩ := g.ok _ _ _ _ r1
    refine ⟨p, dx, gs, rfl, hp, fdv_no hv nm, B1, E.tr E1, S.mono E1, fun vs B2 H2 E2 r2 => ⟨B2, .rb C fs :: as, .ret a, E2.s, ?_, h B2 H2 ((E.tr E1).tr E2) E2.s, fun v B3 H3 E3 r3 f3 => q v B3 H3 ((E1.tr E2).tr E3) r3 fun x fx => sub_free (E1.tr E2).h (f3 x fx)⟩⟩
    rw [List.append_nil]
    exact .cons ⟨p, dx, gs, rfl, E2.h _ _ hp, fdv_sub E2.b E2.h hv⟩ r2⟩
theorem pf_meth0 {pl : Sem Bool} (F : KnM X.prog X.w X.K X.mg X.base C m k rel) (c : Cls X.K C) (hr : Room k X.A) (ho : Pe X B0 H0 δ o a0) [g : ObR a0 C fs] (nm : fs.lookup m = none) (h : ∀ B H, Ext B0 H0 B H → Sub B H → rel B H [.rb C fs] (.ret a))
    (ht : eval (.Call (.Attribute o m apos) [] [] pos) X.env = (do
      let ov ← eval o X.env
      standAt apos.atName
      let (f, first) ← holding [ov] (getMethod ov m pl)
      callWith pos f first (backTo pos (starEach [] X.env)) (backToKw pos (keywordEach [] X.env))) := by rfl) : Pf X B0 H0 δ (.Call (.Attribute o m apos) [] [] pos) a := by
  obtain ⟨CX, f, fd, ps, pa, F, hm, hb⟩ := F.ex
  exact pe_to (pe_meth0 ho c hm F hr hb .nil (pa X rfl rfl) ht) fun σ H Q ⟨B, E, S, q⟩ => ⟨B, E, S, fun v B1 H1 E1 r1 => by
    obtain ⟨p, dx, gs, rfl, hp, hv⟩ := g.ok _ _ _ _ r1
    exact ⟨p, dx, gs, rfl, hp, fdv_no hv nm, B1, [.rb C fs], .ret a, E1.s, .cons ⟨p, dx, gs, rfl, hp, hv⟩ .nil, h B1 H1 (E.tr E1) E1.s, fun v B3 H3 E3 r3 f3 => q v B3 H3 (E1.tr E3) r3 fun x fx => sub_free E1.h (f3 x fx)⟩⟩
/-- y = a new thing -/
theorem ws_setF {E : AE} {rest : List Stmt} {j : Nat} {y : Str} (hi : X.N[j]? = some y) (he : Pf X B0 H0 δ e a) (nr : reads a = false) (hr : Ws X B0 H0 (δ.set j (some a)) rest E) (hN : X.N.Nodup) (hx : Loc X.env.scope y)
    (hs : swapsWith e (some (.Name y p1)) pos.line X.env = pure false := by rfl) (hf : X.fn y = true ∨ X.env.scope.names.lookup y = some .local := by first | exact .inl rfl | exact .inr rfl | assumption) : Ws X B0 H0 δ (.Assign [.Name y p1] e pos :: rest) E :=
  ws_cons (W := fun B H d => B = B0 ∧ H = H0 ∧ d = δ.set j (some a)) (ps_set hN hi hx he hs hf) (fun B H d ⟨h1, h2, h3⟩ => by rw [h1, h2, h3]; exact hr) fun D σ H B E0 S z =>
    ⟨B, E0, S, fun v B' H' E1 r f => z.nx _ _ _ _ B' H' ⟨rfl, rfl, rfl⟩ E1.b (E0.tr E1) (S.setN E0.h E1 r f nr)⟩
/-- return of a new thing -/
theorem ws_retF {E : AE} {rest : List Stmt} (he : Pf X B0 H0 δ e a) (h : E.rt B0 H0 δ a) : Ws X B0 H0 δ (.Return (some e) pos :: rest) E :=
  ws_cons (W := fun _ _ _ => False) (ps_ret he) (fun _ _ _ q => q.elim) fun D σ H B E0 S z => ⟨B, E0, S, fun v B' H' E1 r f => z.rt _ _ _ _ σ v B' H' h (E0.tr E1) (S.mono E1) r fun q g => sub_free E0.h (f q g)⟩
/-- return of a slot's own thing -/
theorem ws_retO {E : AE} {rest : List Stmt} {xn : Str} (i : Nat) (hδ : δ[i]? = some (some a)) (h : E.rt B0 H0 δ a) (hN : X.N[i]? = some xn := by rfl) (hv : Vis X.env.scope xn := by first | exact .inl rfl | exact .inr (.inl rfl) | exact .inr (.inr rfl)) (h1 : (xn == ("__debug__" : Str)) = false := by decide) (h2 : (xn == ("__classdict__" : Str)) = false := by decide) : Ws X B0 H0 δ (.Return (some (.Name xn p1)) pos :: rest) E :=
  ws_cons (W := fun _ _ _ => False) (ps_ret (pe_var (i := i) hN hv h1 h2)) (fun _ _ _ q => q.elim) fun D σ H B E0 S z => by
    obtain ⟨v, hσ, r⟩ := S.rel i _ hδ
    exact ⟨v, hσ, z.rt _ _ _ _ σ v B H h E0 S r fun q f => S.fr i a v q hδ hσ f⟩
/-- an own structure, read for now -/
theorem p_varN {t : Bool} {gs : List Fd} (i : Nat) {x : Str} (hd : δ[i]? = some (some (.nf t gs))) (hp : plainF gs = true := by rfl) (hN : X.N[i]? = some x := by rfl) (hv : Vis X.env.scope x := by first | exact .inl rfl | exact .inr (.inl rfl) | exact .inr (.inr rfl)) (h1 : (x == ("__debug__" : Str)) = false := by decide) (h2 : (x == ("__classdict__" : Str)) = false := by decide) : Pe X B0 H0 δ (.Name x pos) (.t (seqD t (gs.map fdD))) :=
  Pe.imp (p_var i hd hN hv h1 h2) fun B H v s ⟨p, vs, e, hb, hl, hw, _, _⟩ => by
    subst e
    exact dq_seq hl (fdw_dqs s hp hw fun i q u _ _ hq => hq)
/-! ### while -/
theorem ws_while {E : AE} {rest body : List Stmt} {test : Expr} (I : Nat → Hp → Hp → List (Option A) → Prop) (m0 : Nat) (h0 : I m0 B0 H0 δ)
    (hs : ∀ m B H δ', I m B H δ' → ∃ b, Pt X B H δ' test b ∧ (b = true → Ws X B H δ' body { E with nx := fun B H d => ∃ m', m' < m ∧ I m' B H d, ct := fun B H d => ∃ m', m' < m ∧ I m' B H d, bk := fun B H d => Ws X B H d rest E }) ∧ (b = false → Ws X B H δ' rest E))
    (hp : PassesOwn (model X.prog X.w) X.A X.env X.xe) : Ws X B0 H0 δ (.While test body [] pos :: rest) E := by
  have ht : PT X test (fun σ H Q => ∃ B1 H1 δ1 b, Pt X B1 H1 δ1 test b ∧ tPt X.K B1 H1 δ1 b σ H Q) := ⟨fun pins s σ H Q J ⟨B1, H1, δ1, b, h, q⟩ => h.run pins s σ H Q J q⟩
  have hb : PSs X body (fun D σ H => ∃ B1 H1 δ1 E', Ws X B1 H1 δ1 body E' ∧ tWs X.K B1 H1 δ1 E' D σ H) := ⟨fun pins s σ H D J ⟨B1, H1, δ1, E', h, q⟩ => h.run pins s σ H D J q⟩
  refine ws_cons (W := fun B H δ' => Ws X B H δ' rest E) (ps_while hp ht hb) (fun _ _ _ q => q) fun D σ H B E0 S z => ?_
  refine ⟨fun m σ' H' => ∃ B' B1 H1 δ1, Sub B B' ∧ I m B1 H1 δ1 ∧ Ext B1 H1 B' H' ∧ SD X.K H1 B' H' σ' δ1, ⟨m0, B, B0, H0, δ, Sub.rfl', h0, E0, S⟩, ?_⟩
  rintro m σ' H' ⟨B', B1, H1, δ1, sb, hI, E1, S1⟩
  obtain ⟨b, hT, hy, hn⟩ := hs m B1 H1 δ1 hI
  refine ⟨B1, H1, δ1, b, hT, B', E1, S1, fun B2 H2 E2 => ?_⟩
  have s2 : Sub B B2 := sb.tr E2.b
  cases b with
  | true =>
    refine iteT ⟨fun σ3 H3 => ∃ m', m' < m ∧ ∃ B3 B4 H4 δ4, Sub B B3 ∧ I m' B4 H4 δ4 ∧ Ext B4 H4 B3 H3 ∧ SD X.K H4 B3 H3 σ3 δ4, fun σ3 H3 ⟨m', h1, h2⟩ => ⟨m', h1, h2⟩, B1, H1, δ1, _, hy rfl, B2, E1.tr E2, S1.mono E2, ?_⟩
    exact ⟨fun B4 H4 δ4 σ4 B5 H5 ⟨m', q0, q1⟩ q2 q3 q4 => ⟨m', q0, B5, B4, H4, δ4, s2.tr q2, q1, q3, q4⟩, z.rt, fun B4 H4 δ4 σ4 B5 H5 q1 q2 => z.nx B4 H4 δ4 σ4 B5 H5 q1 (s2.tr q2), fun B4 H4 δ4 σ4 B5 H5 ⟨m', q0, q1⟩ q2 q3 q4 => ⟨m', q0, B5, B4, H4, δ4, s2.tr q2, q1, q3, q4⟩⟩
  | false =>
    exact iteF (z.nx _ _ _ _ B2 H2 (hn rfl) s2 (E1.tr E2) (S1.mono E2))
/-! ### tests that change what the slots hold -/
def Ptx (X : Cx) (B0 H0 : Hp) (δ : List (Option A)) (e : Expr) (δ' : List (Option A)) (b : Bool) : Prop :=
  PT X e fun σ H Q => ∃ B, Ext B0 H0 B H ∧ SD X.K H0 B H σ δ ∧ ∀ B' H', Sub B B' → Ext B0 H0 B' H' → SD X.K H0 B' H' σ δ' → Q b H'
def Pwx (X : Cx) (B0 H0 : Hp) (δ : List (Option A)) (e : Expr) (δ' : List (Option A)) (b : Bool) : Prop :=
  PW X e fun σ H Q => ∃ B, Ext B0 H0 B H ∧ SD X.K H0 B H σ δ ∧ ∀ B' H', Sub B B' → Ext B0 H0 B' H' → SD X.K H0 B' H' σ δ' → Q b H'
theorem tx_pure (h : Pt X B0 H0 δ e b) : Ptx X B0 H0 δ e δ b := pt_to h fun σ H Q ⟨B, E0, S, k⟩ => ⟨B, E0, S, fun B' H' E => k B' H' E.b (E0.tr E) (S.mono E)⟩
theorem tx_of (h : Px X B0 H0 δ e δ' (.d (.bool b))) (he : ∀ whole, isTrue e X.env whole = (do let v ← whole; standAt e.pos; holding [v] (truthy v)) := by intro _; rfl) : Ptx X B0 H0 δ e δ' b :=
  pt_to (pt_val h he) fun σ H Q ⟨B, E0, S, k⟩ => ⟨B, E0, S, fun v B' H' b1 E S1 r => ⟨b, ra_bl r, k B' H' b1 E S1⟩⟩
theorem tx_not (h : Ptx X B0 H0 δ e δ' b) : Ptx X B0 H0 δ (.UnaryOp .Not e pos) δ' (!b) := pt_to (pt_not h) fun σ H Q ⟨B, E0, S, k⟩ => ⟨B, E0, S, fun B' H' => k B' H'⟩
theorem pwx_when {P : Prop} (h : P → Pwx X B0 H0 δ e δ' b) : PW X e (fun σ H Q => P ∧ ∃ B, Ext B0 H0 B H ∧ SD X.K H0 B H σ δ ∧ ∀ B' H', Sub B B' → Ext B0 H0 B' H' → SD X.K H0 B' H' σ δ' → Q b H') := ⟨fun wh pins s σ H Q J ⟨p, q⟩ => (h p).run wh pins s σ H Q J q⟩
theorem wx_and1 (h : Ptx X B0 H0 δ e δ' b) : Pwx X B0 H0 δ (.BoolOp .And [e] pos) δ' b := pw_and1 h
theorem wx_or1 (h : Ptx X B0 H0 δ e δ' b) : Pwx X B0 H0 δ (.BoolOp .Or [e] pos) δ' b := pw_or1 h
theorem tx_w (h : Pwx X B0 H0 δ e δ' b) : Ptx X B0 H0 δ e δ' b := PW.pt h
/-- t and u: u is asked -/
theorem wx_andY {r : List Expr} {e2 : Expr} {δ2 : List (Option A)} (h : Ptx X B0 H0 δ e δ' true) (h2 : Pwx X B0 H0 δ' (.BoolOp .And (e2 :: r) pos) δ2 c) : Pwx X B0 H0 δ (.BoolOp .And (e :: e2 :: r) pos) δ2 c :=
  pw_to (pw_and h h2) fun σ H Q ⟨B, E0, S, k⟩ => ⟨B, E0, S, fun B' H' b1 E S1 => ⟨B', E, S1, fun B2 H2 b2 E2 S2 => k B2 H2 (b1.tr b2) E2 S2⟩⟩
theorem wx_orN {r : List Expr} {e2 : Expr} {δ2 : List (Option A)} (h : Ptx X B0 H0 δ e δ' false) (h2 : Pwx X B0 H0 δ' (.BoolOp .Or (e2 :: r) pos) δ2 c) : Pwx X B0 H0 δ (.BoolOp .Or (e :: e2 :: r) pos) δ2 c :=
  pw_to (pw_or h h2) fun σ H Q ⟨B, E0, S, k⟩ => ⟨B, E0, S, fun B' H' b1 E S1 => ⟨B', E, S1, fun B2 H2 b2 E2 S2 => k B2 H2 (b1.tr b2) E2 S2⟩⟩
/-- t and ..: not asked further -/
theorem wx_andN {r : List Expr} {e2 : Expr} (h : Ptx X B0 H0 δ e δ' false) (any : PW X (.BoolOp .And (e2 :: r) pos) fun _ _ _ => False) : Pwx X B0 H0 δ (.BoolOp .And (e :: e2 :: r) pos) δ' false :=
  pw_to (pw_and h any) fun σ H Q ⟨B, E0, S, k⟩ => ⟨B, E0, S, fun B' H' b1 E S1 => k B' H' b1 E S1⟩
end
end GL

set_option Elab.async false
set_option linter.all false
set_option maxHeartbeats 4000000
/-! GM5: the yard, plain Lean -/
namespace GM
inductive Wd where
  | out
  | new
  | known
  | against
  deriving DecidableEq
structure YS where
  many : Int
  wide : Int
  box : List Par
  gone : List Int
  words : List (Wd × List Int)
  rows : List Rw
def rowOf (p : Par) : Rw := (p.1, p.2, [])
def newR (R : Rw) (n : Int) : Rw := (R.1, R.2.1, oddOnes R.2.2 [n])
def judgeR (S : YS) (n : Int) (R : Rw) : YS :=
  if n ∈ S.gone then { S with words := S.words ++ [(.out, [])] }
  else if R.1 ≠ [] then { S with words := S.words ++ [(.new, [])], rows := withRow S.rows (newR R n) }
  else if R.2.1 = nought S.wide.toNat then { S with words := S.words ++ [(.known, R.2.2)] }
  else { S with words := S.words ++ [(.against, R.2.2)] }
def judge (S : YS) (n : Int) : YS := judgeR S n (reduced S.rows (rowOf (pAt S.box n)))
def judgeAll (S : YS) : YS := (List.range S.box.length).foldl (fun S (k : Nat) => judge S (k : Int)) { S with words := [], rows := [] }
def gathered (S : YS) (p : Par) : YS := judge { S with box := S.box ++ [p] } S.box.length
def newY (many wide : Int) : YS := ⟨many, wide, [], [], [], []⟩
/-- bit by bit, of the set and the value alone -/
structure LinS (m : Int) (w : Nat) (f : Rw → Bool) : Prop where
  lin : ∀ n, Lin m w n f
  num : ∀ (s v a b : List Int), f (s, v, a) = f (s, v, b)
theorem odd_nil : oddOnes [] [] = [] := rfl
theorem add_nought (w : Nat) : addV (nought w) (nought w) = nought w := val_ext (val_add (val_nought w) (val_nought w)) (val_nought w) fun k _ => by rw [bit_add (val_nought w) (val_nought w), bit_nought]; rfl
theorem wf_zero {m : Int} {w : Nat} {n : Int} : Wf m w n ([], nought w, []) := ⟨setOk_nil, val_nought w, setOk_nil⟩
theorem linS_zero {m : Int} {w : Nat} {f : Rw → Bool} (h : LinS m w f) (a : List Int) : f ([], nought w, a) = false := by
  rw [h.num [] (nought w) a []]
  have e := h.lin 0 _ _ wf_zero (wf_zero (m := m) (w := w))
  have j : joined ([], nought w, []) ([], nought w, []) = (([], nought w, []) : Rw) := by
    unfold joined
    simp only [odd_nil, add_nought]
  rw [j] at e
  rw [e]
  exact Bool.xor_self _
theorem linS_par {m : Int} {w : Nat} (f : Int → Bool) : LinS m w fun r => par f r.1 := ⟨fun n => lin_par f, fun _ _ _ _ => rfl⟩
theorem linS_fit {m : Int} {w : Nat} {L : Int → Nat → Bool} (j : Nat) : LinS m w (fitR L j) := ⟨fun n => lin_fit j, fun _ _ _ _ => rfl⟩
theorem linS_has {m : Int} {w : Nat} (x : Int) : LinS m w fun r => has r.1 x := ⟨fun n => lin_has x, fun _ _ _ _ => rfl⟩
theorem linS_bit {m : Int} {w : Nat} (j : Nat) : LinS m w fun r => bitAt r.2.1 j := ⟨fun n => lin_bit j, fun _ _ _ _ => rfl⟩
/-- kept -/
def kep : Wd → Bool
  | .new => true
  | .known => true
  | _ => false
/-- the numbers below k are judged -/
structure YInv (S : YS) (k : Nat) : Prop where
  m : 1 ≤ S.many ∧ S.many ≤ 24
  w : 1 ≤ S.wide ∧ S.wide ≤ 32
  len : S.box.length ≤ 60
  ok : ∀ p ∈ S.box, ParOk S.many S.wide.toNat p
  gone : ∀ g ∈ S.gone, 0 ≤ g ∧ g < S.box.length
  kl : k ≤ S.box.length
  wl : S.words.length = k
  rl : S.rows.length ≤ k
  ech : Ech S.many S.wide.toNat k S.rows
  told : ∀ o ∈ S.rows, Told (pAt S.box) o
  num : ∀ o ∈ S.rows, ∀ i ∈ o.2.2, ∃ l, S.words[i.toNat]? = some (.new, l)
  span : ∀ f, LinS S.many S.wide.toNat f → (∀ o ∈ S.rows, f o = false) → ∀ (i : Nat) d l, S.words[i]? = some (d, l) → kep d = true → f (rowOf (pAt S.box i)) = false
  spanS : ∀ f, LinS S.many S.wide.toNat f → (∀ s v v' a, f (s, v, a) = f (s, v', a)) → (∀ o ∈ S.rows, f o = false) → ∀ (i : Nat) d l, S.words[i]? = some (d, l) → d ≠ .out → f (rowOf (pAt S.box i)) = false
  gen : ∀ f, LinS S.many S.wide.toNat f → (∀ (i : Nat) l, S.words[i]? = some (.new, l) → f (rowOf (pAt S.box i)) = false) → ∀ o ∈ S.rows, f o = false
  wout : ∀ (i : Nat) d l, S.words[i]? = some (d, l) → (d = .out ↔ (i : Int) ∈ S.gone)
  wnil : ∀ (i : Nat) d l, S.words[i]? = some (d, l) → (d = .out ∨ d = .new) → l = []
  wnum : ∀ (i : Nat) d l, S.words[i]? = some (d, l) → (d = .known ∨ d = .against) → SetOk i l ∧ (∀ j ∈ l, ∃ l', S.words[j.toNat]? = some (.new, l')) ∧ ∀ x, par (fun j => has (pAt S.box j).1 x) l = has (pAt S.box i).1 x
section
variable {S : YS} {k : Nat} {Q v : List Int} {n : Int}
/-- what a reduced row tells -/
structure Red (S : YS) (k : Nat) (Q v : List Int) (R : Rw) : Prop where
  wf : Wf S.many S.wide.toNat k R
  lin : ∀ f, LinS S.many S.wide.toNat f → (∀ o ∈ S.rows, f o = false) → f R = f (Q, v, [])
  s : ∀ x, xor (has R.1 x) (par (fun i => has (pAt S.box i).1 x) R.2.2) = has Q x
  v : ∀ j, xor (bitAt R.2.1 j) (par (fun i => bitAt (pAt S.box i).2 j) R.2.2) = bitAt v j
  off : ∀ o ∈ S.rows, hd o.1 ∉ R.1
  num : ∀ i ∈ R.2.2, ∃ l, S.words[i.toNat]? = some (.new, l)
theorem red_of (I : YInv S k) (hQ : SetOk S.many Q) (hv : Val S.wide.toNat v) : Red S k Q v (reduced S.rows (Q, v, [])) := by
  have h0 : Wf S.many S.wide.toNat k (Q, v, []) := ⟨hQ, hv, setOk_nil⟩
  refine ⟨reduced_wf I.ech.wf h0, fun f hf hr => reduced_lin (hf.lin k) (fun o ho => ⟨I.ech.wf o ho, hr o ho⟩) h0, fun x => ?_, fun j => ?_, reduced_off I.ech h0, fun i hi => ?_⟩
  · rw [reduced_lin (lin_xor (lin_has x) (lin_parN _)) (fun o ho => ⟨I.ech.wf o ho, (I.told o ho).s x⟩) h0]
    simp [par]
  · rw [reduced_lin (lin_xor (lin_bit j) (lin_parN _)) (fun o ho => ⟨I.ech.wf o ho, (I.told o ho).v j⟩) h0]
    simp [par]
  · refine Classical.byContradiction fun no => ?_
    have e := reduced_lin (lin_num i) (rows := S.rows) (r := (Q, v, [])) (fun o ho => ⟨I.ech.wf o ho, decide_eq_false fun h => no (I.num o ho i h)⟩) h0
    have e : has (reduced S.rows (Q, v, [])).2.2 i = has [] i := e
    rw [show has (reduced S.rows (Q, v, [])).2.2 i = true from decide_eq_true hi] at e
    cases e
theorem yinv_new {many wide : Int} (hm : 1 ≤ many ∧ many ≤ 24) (hw : 1 ≤ wide ∧ wide ≤ 32) : YInv (newY many wide) 0 := by
  have no : ∀ (i : Nat) (d : Wd × List Int), ¬ (newY many wide).words[i]? = some d := fun i d h => by
    have h : ([] : List (Wd × List Int))[i]? = some d := h
    simp at h
  exact ⟨hm, hw, Nat.zero_le _, fun _ h => (List.not_mem_nil h).elim, fun _ h => (List.not_mem_nil h).elim, Nat.le_refl _, rfl, Nat.le_refl _, ech_nil, fun _ h => (List.not_mem_nil h).elim, fun _ h => (List.not_mem_nil h).elim, fun _ _ _ i _ _ h => (no i _ h).elim, fun _ _ _ _ i _ _ h => (no i _ h).elim, fun _ _ _ _ h => (List.not_mem_nil h).elim, fun i _ _ h => (no i _ h).elim, fun i _ _ h => (no i _ h).elim, fun i _ _ h => (no i _ h).elim⟩
theorem word_last {l : List (Wd × List Int)} {a : Wd × List Int} {i : Nat} {d : Wd × List Int} (h : (l ++ [a])[i]? = some d) : (i < l.length ∧ l[i]? = some d) ∨ (i = l.length ∧ d = a) := by
  rw [List.getElem?_append] at h
  split at h
  · rename_i q
    exact .inl ⟨q, h⟩
  · rename_i q
    have : i - l.length = 0 := by
      cases e : i - l.length with
      | zero => rfl
      | succ j => rw [e] at h; simp at h
    rw [this] at h
    have e := Option.some.inj h
    exact .inr ⟨by omega, e.symm⟩
theorem word_up {l : List (Wd × List Int)} {a d : Wd × List Int} {i : Nat} (h : l[i]? = some d) : (l ++ [a])[i]? = some d := by
  have hi := (List.getElem?_eq_some_iff.mp h).1
  rw [List.getElem?_append_left hi]
  exact h
/-- a word more, the rows as they were -/
theorem yinv_word (I : YInv S k) (hk : k < S.box.length) {d : Wd} {l : List Int} (hn : d ≠ .new) (ho : d = .out ↔ (k : Int) ∈ S.gone)
    (hs : ∀ f, LinS S.many S.wide.toNat f → (∀ o ∈ S.rows, f o = false) → kep d = true → f (rowOf (pAt S.box k)) = false)
    (hS : ∀ f, LinS S.many S.wide.toNat f → (∀ s v v' a, f (s, v, a) = f (s, v', a)) → (∀ o ∈ S.rows, f o = false) → d ≠ .out → f (rowOf (pAt S.box k)) = false)
    (hl : d = .out → l = []) (hw : (d = .known ∨ d = .against) → SetOk k l ∧ (∀ j ∈ l, ∃ l', S.words[j.toNat]? = some (.new, l')) ∧ ∀ x, par (fun j => has (pAt S.box j).1 x) l = has (pAt S.box k).1 x) :
    YInv { S with words := S.words ++ [(d, l)] } (k + 1) := by
  refine ⟨I.m, I.w, I.len, I.ok, I.gone, hk, by rw [List.length_append, I.wl]; rfl, Nat.le_succ_of_le I.rl, ech_up I.ech (by omega), I.told, fun o ho i hi => ?_, fun f hf hr i d' l' h1 h2 => ?_, fun f hf hv hr i d' l' h1 h2 => ?_, fun f hf hg => I.gen f hf fun i l' h => hg i l' (word_up h), fun i d' l' h1 => ?_, fun i d' l' h1 h2 => ?_, fun i d' l' h1 h2 => ?_⟩
  · obtain ⟨l', e⟩ := I.num o ho i hi
    exact ⟨l', word_up e⟩
  · rcases word_last h1 with ⟨_, h1⟩ | ⟨e, h1⟩
    · exact I.span f hf hr i d' l' h1 h2
    · cases h1
      rw [e, I.wl]
      exact hs f hf hr h2
  · rcases word_last h1 with ⟨_, h1⟩ | ⟨e, h1⟩
    · exact I.spanS f hf hv hr i d' l' h1 h2
    · cases h1
      rw [e, I.wl]
      exact hS f hf hv hr h2
  · rcases word_last h1 with ⟨_, h1⟩ | ⟨e, h1⟩
    · exact I.wout i d' l' h1
    · cases h1
      rw [e, I.wl]
      exact ho
  · rcases word_last h1 with ⟨_, h1⟩ | ⟨e, h1⟩
    · exact I.wnil i d' l' h1 h2
    · cases h1
      rcases h2 with h2 | h2
      · exact hl h2
      · exact absurd h2 hn
  · rcases word_last h1 with ⟨_, h1⟩ | ⟨e, h1⟩
    · obtain ⟨g1, g2, g3⟩ := I.wnum i d' l' h1 h2
      exact ⟨g1, fun j hj => let ⟨l', e⟩ := g2 j hj; ⟨l', word_up e⟩, g3⟩
    · cases h1
      rw [e, I.wl]
      obtain ⟨g1, g2, g3⟩ := hw h2
      exact ⟨g1, fun j hj => let ⟨l', e⟩ := g2 j hj; ⟨l', word_up e⟩, g3⟩
theorem pAt_ok (I : YInv S k) (hk : k < S.box.length) : ParOk S.many S.wide.toNat (pAt S.box k) := I.ok _ (by
  unfold pAt
  rw [Int.toNat_natCast, List.getD_eq_getElem?_getD, List.getElem?_eq_getElem hk]
  exact List.getElem_mem _)
/-- the new row's numbers -/
theorem yinv_judge (I : YInv S k) (hk : k < S.box.length) : YInv (judge S k) (k + 1) := by
  have pk := pAt_ok I hk
  have D := red_of I pk.set pk.val
  unfold judge judgeR
  have eR : reduced S.rows (rowOf (pAt S.box k)) = reduced S.rows ((pAt S.box k).1, (pAt S.box k).2, []) := rfl
  rw [eR]
  generalize hR : reduced S.rows ((pAt S.box k).1, (pAt S.box k).2, []) = R at D
  split
  · rename_i hg
    exact yinv_word I hk (by decide) ⟨fun _ => hg, fun _ => rfl⟩ (fun _ _ _ h => by cases h) (fun _ _ _ _ h => absurd rfl h) (fun _ => rfl) (fun h => by rcases h with h | h <;> cases h)
  · rename_i hg
    split
    · rename_i hn
      -- new
      have hk0 : SetOk ((k : Int) + 1) [(k : Int)] := ⟨List.pairwise_singleton _ _, fun x hx => by rw [List.mem_singleton.mp hx]; omega⟩
      have knot : (k : Int) ∉ R.2.2 := fun h => by have := (D.wf.num.2 _ h).2; omega
      have N : Wf S.many S.wide.toNat ((k + 1 : Nat) : Int) (newR R k) := by
        refine ⟨D.wf.set, D.wf.val, ?_⟩
        have e : ((k + 1 : Nat) : Int) = (k : Int) + 1 := by omega
        rw [e]
        exact setOk_odd (setOk_up D.wf.num (by omega)) hk0
      have parN : ∀ f : Int → Bool, par f (newR R k).2.2 = xor (par f R.2.2) (f k) := fun f => by
        show par f (oddOnes R.2.2 [(k : Int)]) = _
        rw [par_odd D.wf.num.1 (List.pairwise_singleton _ _)]
        simp [par]
      have T : Told (pAt S.box) (newR R k) := ⟨fun x => by
        rw [parN]
        have := D.s x
        show xor (has R.1 x) _ = _
        rw [← Bool.xor_assoc, this, Bool.xor_self], fun j => by
        rw [parN]
        have := D.v j
        show xor (bitAt R.2.1 j) _ = _
        rw [← Bool.xor_assoc, this, Bool.xor_self]⟩
      have E1 : Ech S.many S.wide.toNat ((k + 1 : Nat) : Int) S.rows := ech_up I.ech (by omega)
      have vanish : ∀ f, LinS S.many S.wide.toNat f → (∀ o ∈ withRow S.rows (newR R k), f o = false) → f (newR R k) = false ∧ ∀ o ∈ S.rows, f o = false := fun f hf hr => (withRow_lin (hf.lin _) E1.wf N).mp hr
      have fR : ∀ f, LinS S.many S.wide.toNat f → f (newR R k) = f R := fun f hf => hf.num _ _ _ _
      refine ⟨I.m, I.w, I.len, I.ok, I.gone, hk, by rw [List.length_append, I.wl]; rfl, by rw [withRow_len]; have := I.rl; omega, ech_withRow E1 N hn D.off, told_withRow (fun o ho => ⟨E1.wf o ho, I.told o ho⟩) N T, fun o ho i hi => ?_, fun f hf hr i d' l' h1 h2 => ?_, fun f hf hv hr i d' l' h1 h2 => ?_, fun f hf hg => ?_, fun i d' l' h1 => ?_, fun i d' l' h1 h2 => ?_, fun i d' l' h1 h2 => ?_⟩
      · -- a number of a row is new
        have key : i = (k : Int) ∨ ∃ l, S.words[i.toNat]? = some (.new, l) := by
          refine Classical.byContradiction fun no => ?_
          have no1 : i ≠ (k : Int) := fun e => no (.inl e)
          have no2 : ¬ ∃ l, S.words[i.toNat]? = some (Wd.new, l) := fun e => no (.inr e)
          have e1 : has (newR R k).2.2 i = false := by
            show has (oddOnes R.2.2 [(k : Int)]) i = false
            rw [has_odd]
            have a1 : has R.2.2 i = false := decide_eq_false fun h => no2 (D.num i h)
            have a2 : has [(k : Int)] i = false := decide_eq_false fun h => no1 (List.mem_singleton.mp h)
            rw [a1, a2]; rfl
          have e2 := (withRow_lin (lin_num i) E1.wf N).mpr ⟨e1, fun o ho => decide_eq_false fun h => no2 (I.num o ho i h)⟩ o ho
          have e2 : has o.2.2 i = false := e2
          rw [show has o.2.2 i = true from decide_eq_true hi] at e2
          cases e2
        rcases key with e | ⟨l, e⟩
        · refine ⟨[], ?_⟩
          rw [e, Int.toNat_natCast]
          show (S.words ++ [(Wd.new, [])])[k]? = _
          rw [List.getElem?_append_right (by rw [I.wl]; exact Nat.le_refl _), I.wl, Nat.sub_self]
          rfl
        · exact ⟨l, word_up e⟩
      · obtain ⟨g1, g2⟩ := vanish f hf hr
        rcases word_last h1 with ⟨_, h1⟩ | ⟨e, h1⟩
        · exact I.span f hf g2 i d' l' h1 h2
        · rw [e, I.wl, show rowOf (pAt S.box k) = ((pAt S.box k).1, (pAt S.box k).2, []) from rfl, ← D.lin f hf g2, ← fR f hf]
          exact g1
      · obtain ⟨g1, g2⟩ := vanish f hf hr
        rcases word_last h1 with ⟨_, h1⟩ | ⟨e, h1⟩
        · exact I.spanS f hf hv g2 i d' l' h1 h2
        · rw [e, I.wl, show rowOf (pAt S.box k) = ((pAt S.box k).1, (pAt S.box k).2, []) from rfl, ← D.lin f hf g2, ← fR f hf]
          exact g1
      · have rows : ∀ o ∈ S.rows, f o = false := I.gen f hf fun i l' h => hg i l' (word_up h)
        have last : f (rowOf (pAt S.box k)) = false := hg k [] (by
          show (S.words ++ [(Wd.new, [])])[k]? = _
          rw [List.getElem?_append_right (by rw [I.wl]; exact Nat.le_refl _), I.wl, Nat.sub_self]
          rfl)
        refine (withRow_lin (hf.lin _) E1.wf N).mpr ⟨?_, rows⟩
        rw [fR f hf, D.lin f hf rows]
        exact last
      · rcases word_last h1 with ⟨_, h1⟩ | ⟨e, h1⟩
        · exact I.wout i d' l' h1
        · cases h1
          rw [e, I.wl]
          exact ⟨fun h => (by cases h), fun h => absurd h hg⟩
      · rcases word_last h1 with ⟨_, h1⟩ | ⟨e, h1⟩
        · exact I.wnil i d' l' h1 h2
        · cases h1
          rfl
      · rcases word_last h1 with ⟨_, h1⟩ | ⟨e, h1⟩
        · obtain ⟨g1, g2, g3⟩ := I.wnum i d' l' h1 h2
          exact ⟨g1, fun j hj => let ⟨l', e⟩ := g2 j hj; ⟨l', word_up e⟩, g3⟩
        · cases h1
          rcases h2 with h2 | h2 <;> cases h2
    · rename_i hn
      have hn : R.1 = [] := Decidable.byContradiction hn
      have sum : ∀ x, par (fun j => has (pAt S.box j).1 x) R.2.2 = has (pAt S.box k).1 x := fun x => by
        have := D.s x
        rw [hn] at this
        simpa [has] using this
      have hSet : ∀ f, LinS S.many S.wide.toNat f → (∀ s v v' a, f (s, v, a) = f (s, v', a)) → (∀ o ∈ S.rows, f o = false) → f (rowOf (pAt S.box k)) = false := fun f hf hv hr => by
        rw [show rowOf (pAt S.box k) = ((pAt S.box k).1, (pAt S.box k).2, []) from rfl, ← D.lin f hf hr]
        have e : R = ([], R.2.1, R.2.2) := by rw [← hn]
        rw [e, hv [] R.2.1 (nought S.wide.toNat) R.2.2]
        exact linS_zero hf _
      split
      · rename_i hz
        refine yinv_word I hk (by decide) ⟨fun h => (by cases h), fun h => absurd h hg⟩ (fun f hf hr _ => ?_) (fun f hf hv hr _ => hSet f hf hv hr) (fun h => by cases h) (fun _ => ⟨D.wf.num, D.num, sum⟩)
        rw [show rowOf (pAt S.box k) = ((pAt S.box k).1, (pAt S.box k).2, []) from rfl, ← D.lin f hf hr]
        have e : R = ([], nought S.wide.toNat, R.2.2) := by rw [← hn, ← hz]
        rw [e]
        exact linS_zero hf _
      · rename_i hz
        exact yinv_word I hk (by decide) ⟨fun h => (by cases h), fun h => absurd h hg⟩ (fun f hf hr h => by cases h) (fun f hf hv hr _ => hSet f hf hv hr) (fun h => by cases h) (fun _ => ⟨D.wf.num, D.num, sum⟩)
end
end GM

set_option Elab.async false
set_option linter.all false
set_option maxHeartbeats 4000000
/-! GM6: what the yard is asked, plain Lean -/
namespace GM
theorem pAt_app {box : List Par} {p : Par} {i : Int} (h : 0 ≤ i ∧ i < box.length) : pAt (box ++ [p]) i = pAt box i := by
  unfold pAt
  rw [List.getD_eq_getElem?_getD, List.getD_eq_getElem?_getD, List.getElem?_append_left (by omega)]
theorem pAt_last {box : List Par} {p : Par} : pAt (box ++ [p]) box.length = p := by
  unfold pAt
  rw [Int.toNat_natCast, List.getD_eq_getElem?_getD, List.getElem?_append_right (Nat.le_refl _), Nat.sub_self]
  rfl
section
variable {S : YS} {k : Nat} {Q v : List Int} {n : Int} {p : Par}
theorem judge_box : (judge S n).box = S.box ∧ (judge S n).many = S.many ∧ (judge S n).wide = S.wide ∧ (judge S n).gone = S.gone := by
  unfold judge judgeR
  split
  · exact ⟨rfl, rfl, rfl, rfl⟩
  · split
    · exact ⟨rfl, rfl, rfl, rfl⟩
    · split <;> exact ⟨rfl, rfl, rfl, rfl⟩
theorem judge_words : ∃ d, (judge S n).words = S.words ++ [d] := by
  unfold judge judgeR
  split
  · exact ⟨_, rfl⟩
  · split
    · exact ⟨_, rfl⟩
    · split <;> exact ⟨_, rfl⟩
theorem yinv_box (I : YInv S S.box.length) (hp : ParOk S.many S.wide.toNat p) (hl : S.box.length < 60) : YInv { S with box := S.box ++ [p] } S.box.length := by
  have pa : ∀ i : Int, 0 ≤ i → i < S.box.length → pAt (S.box ++ [p]) i = pAt S.box i := fun i h1 h2 => pAt_app ⟨h1, h2⟩
  have pw : ∀ (i : Nat) d, S.words[i]? = some d → pAt (S.box ++ [p]) i = pAt S.box i := fun i d h => pa i (by omega) (by have := (List.getElem?_eq_some_iff.mp h).1; rw [I.wl] at this; omega)
  have pn : ∀ (f : Par → Bool) (l : List Int), SetOk S.box.length l → par (fun j => f (pAt (S.box ++ [p]) j)) l = par (fun j => f (pAt S.box j)) l := fun f l h => par_congr fun j hj => by rw [pa j (h.2 j hj).1 (h.2 j hj).2]
  refine ⟨I.m, I.w, by rw [List.length_append]; exact hl, fun q hq => ?_, fun g hg => ?_, by rw [List.length_append]; omega, I.wl, I.rl, I.ech, fun o ho => ?_, I.num, fun f hf hr i d l h1 h2 => ?_, fun f hf hv hr i d l h1 h2 => ?_, fun f hf hg => I.gen f hf fun i l h => ?_, I.wout, I.wnil, fun i d l h1 h2 => ?_⟩
  · rcases List.mem_append.mp hq with hq | hq
    · exact I.ok q hq
    · rw [List.mem_singleton.mp hq]; exact hp
  · have := I.gone g hg
    rw [List.length_append]
    omega
  · have T := I.told o ho
    have so := (I.ech.wf o ho).num
    exact ⟨fun x => by
      show xor _ (par (fun i => has (pAt (S.box ++ [p]) i).1 x) o.2.2) = false
      rw [pn (fun q => has q.1 x) o.2.2 so]
      exact T.s x, fun j => by
      show xor _ (par (fun i => bitAt (pAt (S.box ++ [p]) i).2 j) o.2.2) = false
      rw [pn (fun q => bitAt q.2 j) o.2.2 so]
      exact T.v j⟩
  · show f (rowOf (pAt (S.box ++ [p]) i)) = false
    rw [pw i _ h1]
    exact I.span f hf hr i d l h1 h2
  · show f (rowOf (pAt (S.box ++ [p]) i)) = false
    rw [pw i _ h1]
    exact I.spanS f hf hv hr i d l h1 h2
  · have := hg i l h
    have e : f (rowOf (pAt (S.box ++ [p]) i)) = false := this
    rw [pw i _ h] at e
    exact e
  · obtain ⟨g1, g2, g3⟩ := I.wnum i d l h1 h2
    refine ⟨g1, g2, fun x => ?_⟩
    have hi := (List.getElem?_eq_some_iff.mp h1).1
    rw [I.wl] at hi
    show par (fun j => has (pAt (S.box ++ [p]) j).1 x) l = has (pAt (S.box ++ [p]) i).1 x
    rw [pn (fun q => has q.1 x) l (setOk_up g1 (by omega)), pw i _ h1]
    exact g3 x
theorem yinv_gathered (I : YInv S S.box.length) (hp : ParOk S.many S.wide.toNat p) (hl : S.box.length < 60) : YInv (gathered S p) (gathered S p).box.length := by
  have := yinv_judge (yinv_box I hp hl) (by rw [List.length_append]; exact Nat.lt_succ_self _)
  have e : (gathered S p).box.length = S.box.length + 1 := by
    unfold gathered
    rw [judge_box.1, List.length_append]
    rfl
  rw [e]
  exact this
theorem gathered_box : (gathered S p).box = S.box ++ [p] ∧ (gathered S p).many = S.many ∧ (gathered S p).wide = S.wide ∧ (gathered S p).gone = S.gone := by
  unfold gathered
  exact judge_box
theorem gathered_words : ∃ d, (gathered S p).words = S.words ++ [d] := judge_words
end
/-! ### unseen -/
def unseenBy (rows : List Rw) (x : Int) : List Int := srt ([x] ++ (rows.filter fun o => decide (x ∈ o.1)).map fun o => hd o.1)
theorem uns_mem {rows : List Rw} {x y : Int} : y ∈ unseenBy rows x ↔ y = x ∨ ∃ o ∈ rows, x ∈ o.1 ∧ hd o.1 = y := by
  unfold unseenBy
  rw [srt_mem, List.mem_append, List.mem_singleton, List.mem_map]
  constructor
  · rintro (h | ⟨o, ho, e⟩)
    · exact .inl h
    · have := List.mem_filter.mp ho
      exact .inr ⟨o, this.1, of_decide_eq_true this.2, e⟩
  · rintro (h | ⟨o, ho, h, e⟩)
    · exact .inl h
    · exact .inr ⟨o, List.mem_filter.mpr ⟨ho, decide_eq_true h⟩, e⟩
section
variable {m : Int} {w : Nat} {n : Int} {rows : List Rw} {x : Int}
theorem heads_nodup (E : Ech m w n rows) : (rows.map fun o => hd o.1).Nodup := by
  refine List.pairwise_map.mpr (E.off.imp_of_mem fun {a b} ha hb h e => ?_)
  exact h.1 (e ▸ hd_mem (E.ne b hb))
theorem off_eq (E : Ech m w n rows) {a b : Rw} (ha : a ∈ rows) (hb : b ∈ rows) (h : hd a.1 ∈ b.1) : a = b := by
  refine Decidable.byContradiction fun ne => ?_
  obtain ⟨i, hi, rfl⟩ := List.mem_iff_getElem.mp ha
  obtain ⟨l, hl, rfl⟩ := List.mem_iff_getElem.mp hb
  have off := List.pairwise_iff_getElem.mp E.off
  by_cases c : i < l
  · exact (off i l hi hl c).1 h
  · by_cases c2 : l < i
    · exact (off l i hl hi c2).2 h
    · have : i = l := by omega
      subst this
      exact ne rfl
theorem uns_set (E : Ech m w n rows) (hx : 0 ≤ x ∧ x < m) (no : ∀ o ∈ rows, hd o.1 ≠ x) : SetOk m (unseenBy rows x) := by
  refine ⟨ris_of (srt_sorted _) ?_, fun y hy => ?_⟩
  · unfold unseenBy
    refine (srt_perm _).nodup_iff.mpr ?_
    show List.Nodup (x :: (rows.filter fun o => decide (x ∈ o.1)).map fun o => hd o.1)
    refine List.nodup_cons.mpr ⟨fun h => ?_, List.Nodup.sublist (List.Sublist.map _ List.filter_sublist) (heads_nodup E)⟩
    obtain ⟨o, ho, e⟩ := List.mem_map.mp h
    exact no o (List.mem_filter.mp ho).1 e
  · rcases uns_mem.mp hy with e | ⟨o, ho, _, e⟩
    · rw [e]; exact hx
    · rw [← e]
      exact (E.wf o ho).set.2 _ (hd_mem (E.ne o ho))
theorem uns_row (E : Ech m w n rows) (no : ∀ o ∈ rows, hd o.1 ≠ x) : ∀ o ∈ rows, par (has (unseenBy rows x)) o.1 = false := by
  intro o ho
  have so := (E.wf o ho).set
  have nd := ris_nodup so.1
  by_cases h : x ∈ o.1
  · have e : ∀ y ∈ o.1, has (unseenBy rows x) y = xor (decide (y = x)) (decide (y = hd o.1)) := fun y hy => by
      have ne := no o ho
      unfold has
      by_cases a : y = x
      · subst a
        rw [decide_eq_true (uns_mem.mpr (.inl rfl)), decide_eq_true rfl, decide_eq_false (fun z => ne z.symm)]
        rfl
      · by_cases b : y = hd o.1
        · rw [decide_eq_true (uns_mem.mpr (.inr ⟨o, ho, h, b.symm⟩)), decide_eq_false a, decide_eq_true b]
          rfl
        · rw [decide_eq_false a, decide_eq_false b]
          refine decide_eq_false fun z => ?_
          rcases uns_mem.mp z with z | ⟨q, hq, _, z⟩
          · exact a z
          · have := off_eq E hq ho (z ▸ hy)
            rw [this] at z
            exact b z.symm
    rw [par_congr e, par_xor, par_eq nd, par_eq nd]
    unfold has
    rw [decide_eq_true h, decide_eq_true (hd_mem (E.ne o ho))]
    rfl
  · refine par_false fun y hy => decide_eq_false fun z => ?_
    rcases uns_mem.mp z with z | ⟨q, hq, hxq, z⟩
    · rw [z] at hy; exact h hy
    · have := off_eq E hq ho (z ▸ hy)
      rw [this] at hxq
      exact h hxq
theorem uns_red {l : List Int} (hl : Rise l) (hx : x ∈ l) (off : ∀ o ∈ rows, hd o.1 ∉ l) : par (has (unseenBy rows x)) l = true := by
  have e : ∀ y ∈ l, has (unseenBy rows x) y = decide (y = x) := fun y hy => by
    unfold has
    by_cases a : y = x
    · rw [decide_eq_true a, decide_eq_true (uns_mem.mpr (.inl a))]
    · rw [decide_eq_false a]
      refine decide_eq_false fun z => ?_
      rcases uns_mem.mp z with z | ⟨q, hq, _, z⟩
      · exact a z
      · exact off q hq (z ▸ hy)
  rw [par_congr e, par_eq (ris_nodup hl)]
  exact decide_eq_true hx
theorem reduced_same : ∀ {rows : List Rw} {r : Rw}, (∀ o ∈ rows, hd o.1 ∉ r.1) → reduced rows r = r
  | [], _, _ => rfl
  | o :: rows, r, h => by
    show reduced rows (redStep r o) = r
    have e : redStep r o = r := if_neg (h o List.mem_cons_self)
    rw [e]
    exact reduced_same fun q hq => h q (List.mem_cons_of_mem _ hq)
end
theorem par_sym {a b : List Int} (ha : Rise a) (hb : Rise b) : par (has b) a = par (has a) b := by
  have e : a.filter (fun z => decide (z ∈ b)) = b.filter (fun z => decide (z ∈ a)) := by
    refine ris_same (List.Pairwise.sublist List.filter_sublist ha) (List.Pairwise.sublist List.filter_sublist hb) fun z => ?_
    simp only [List.mem_filter, decide_eq_true_eq]
    exact ⟨fun h => ⟨h.2, h.1⟩, fun h => ⟨h.2, h.1⟩⟩
  have k : ∀ (a b : List Int), par (has b) a = par (fun _ => true) (a.filter fun z => decide (z ∈ b)) := fun a b => by
    rw [par_split (has b) (fun z => decide (z ∈ b)) a]
    rw [par_congr (l := a.filter fun z => decide (z ∈ b)) (f := has b) (g := fun _ => true) fun z hz => (List.mem_filter.mp hz).2]
    rw [par_false (l := a.filter fun z => !decide (z ∈ b)) (f := has b) fun z hz => by
      have := (List.mem_filter.mp hz).2
      unfold has
      simpa using this]
    simp
  rw [k a b, k b a, e]
/-! ### as many -/
theorem sub_len : ∀ {l m : List Int}, l.Nodup → (∀ x ∈ l, x ∈ m) → l.length ≤ m.length
  | [], _, _, _ => Nat.zero_le _
  | x :: l, m, h, s => by
    obtain ⟨h1, h2⟩ := List.nodup_cons.mp h
    have hx := s x List.mem_cons_self
    have := sub_len (l := l) (m := m.erase x) h2 fun y hy => (List.mem_erase_of_ne (fun e : y = x => h1 (by rw [← e]; exact hy))).mpr (s y (List.mem_cons_of_mem _ hy))
    rw [List.length_erase_of_mem hx] at this
    have := List.length_pos_of_mem hx
    rw [List.length_cons]
    omega
theorem sub_all {l m : List Int} (h : l.Nodup) (s : ∀ x ∈ l, x ∈ m) (hl : m.length ≤ l.length) : ∀ x ∈ m, x ∈ l := fun x hx => by
  refine Decidable.byContradiction fun no => ?_
  have := sub_len (l := x :: l) (m := m) (List.nodup_cons.mpr ⟨no, h⟩) fun y hy => by
    rcases List.mem_cons.mp hy with e | hy
    · rw [e]; exact hx
    · exact s y hy
  rw [List.length_cons] at this
  omega
def placesUp (n : Nat) : List Int := (List.range n).map fun (k : Nat) => (k : Int)
theorem placesUp_mem {n : Nat} {x : Int} : x ∈ placesUp n ↔ 0 ≤ x ∧ x < n := by
  unfold placesUp
  rw [List.mem_map]
  constructor
  · rintro ⟨k, hk, rfl⟩
    have := List.mem_range.mp hk
    omega
  · rintro ⟨h1, h2⟩
    exact ⟨x.toNat, List.mem_range.mpr (by omega), by omega⟩
theorem placesUp_len (n : Nat) : (placesUp n).length = n := by unfold placesUp; rw [List.length_map, List.length_range]
section
variable {m : Int} {w : Nat} {n : Int} {rows : List Rw} {x : Int}
theorem rows_le (E : Ech m w n rows) : rows.length ≤ m.toNat := by
  have := sub_len (heads_nodup E) (m := placesUp m.toNat) fun x hx => by
    obtain ⟨o, ho, rfl⟩ := List.mem_map.mp hx
    have := (E.wf o ho).set.2 _ (hd_mem (E.ne o ho))
    exact placesUp_mem.mpr (by omega)
  rw [placesUp_len, List.length_map] at this
  exact this
theorem rows_all (E : Ech m w n rows) (h : rows.length = m.toNat) (hx : 0 ≤ x ∧ x < m) : ∃ o ∈ rows, hd o.1 = x := by
  have := sub_all (heads_nodup E) (m := placesUp m.toNat) (fun x hx => by
    obtain ⟨o, ho, rfl⟩ := List.mem_map.mp hx
    have := (E.wf o ho).set.2 _ (hd_mem (E.ne o ho))
    exact placesUp_mem.mpr (by omega)) (by rw [placesUp_len, List.length_map, h]; exact Nat.le_refl _) x (placesUp_mem.mpr (by omega))
  obtain ⟨o, ho, e⟩ := List.mem_map.mp this
  exact ⟨o, ho, e⟩
/-- no place is left without a row that begins there just where all are told -/
theorem rows_full (E : Ech m w n rows) (hm : 0 ≤ m) : rows.length = m.toNat ↔ ∀ x, 0 ≤ x ∧ x < m → (reduced rows ([x], nought w, [])).1 = [] := by
  constructor
  · intro h x hx
    have s1 : SetOk m [x] := ⟨List.pairwise_singleton _ _, fun y hy => by rw [List.mem_singleton.mp hy]; exact hx⟩
    have h0 : Wf m w n ([x], nought w, []) := ⟨s1, val_nought w, setOk_nil⟩
    have off := reduced_off E h0
    have wf := reduced_wf E.wf h0
    refine Decidable.byContradiction fun ne => ?_
    have b := wf.set.2 _ (hd_mem ne)
    obtain ⟨o, ho, e⟩ := rows_all E h b
    exact off o ho (e ▸ hd_mem ne)
  · intro h
    refine Nat.le_antisymm (rows_le E) (Nat.le_of_not_lt fun lt => ?_)
    -- some place is no first one
    have : ¬ ∀ x ∈ placesUp m.toNat, x ∈ rows.map fun o => hd o.1 := fun s => by
      have nd : (placesUp m.toNat).Nodup := by
        unfold placesUp
        exact List.pairwise_map.mpr (List.pairwise_lt_range.imp fun h e => by omega)
      have := sub_len nd s
      rw [placesUp_len, List.length_map] at this
      omega
    refine this fun x hx => Decidable.byContradiction fun no => ?_
    have bx := placesUp_mem.mp hx
    have := h x ⟨bx.1, by omega⟩
    rw [reduced_same fun o ho e => no (List.mem_map.mpr ⟨o, ho, List.mem_singleton.mp e⟩)] at this
    cases this
end
/-! ### a sum asked -/
section
variable {S : YS} {k : Nat} {Q : List Int}
abbrev askR (S : YS) (Q : List Int) : Rw := reduced S.rows (Q, nought S.wide.toNat, [])
structure Opn (S : YS) (Q U : List Int) : Prop where
  set : SetOk S.many U
  even : ∀ (i : Nat) d l, S.words[i]? = some (d, l) → d ≠ .out → par (has U) (pAt S.box i).1 = false
  odd : par (has U) Q = true
theorem ask_open (I : YInv S k) (hQ : SetOk S.many Q) (hn : (askR S Q).1 ≠ []) : Opn S Q (unseenBy S.rows (hd (askR S Q).1)) := by
  have D := red_of I hQ (val_nought S.wide.toNat)
  have hm := hd_mem hn
  have no : ∀ o ∈ S.rows, hd o.1 ≠ hd (askR S Q).1 := fun o ho e => D.off o ho (e ▸ hm)
  have fU := linS_par (m := S.many) (w := S.wide.toNat) (has (unseenBy S.rows (hd (askR S Q).1)))
  have rows := uns_row I.ech no
  refine ⟨uns_set I.ech (D.wf.set.2 _ hm) no, fun i d l h1 h2 => I.spanS _ fU (fun _ _ _ _ => rfl) rows i d l h1 h2, ?_⟩
  rw [show par (has (unseenBy S.rows (hd (askR S Q).1))) Q = par (has (unseenBy S.rows (hd (askR S Q).1))) (askR S Q).1 from (D.lin _ fU rows).symm]
  exact uns_red D.wf.set.1 hm D.off
structure Cls (S : YS) (k : Nat) (Q v nums : List Int) : Prop where
  val : Val S.wide.toNat v
  set : SetOk k nums
  new : ∀ j ∈ nums, ∃ l, S.words[j.toNat]? = some (.new, l)
  s : ∀ x, par (fun i => has (pAt S.box i).1 x) nums = has Q x
  v : ∀ j, par (fun i => bitAt (pAt S.box i).2 j) nums = bitAt v j
theorem ask_closed (I : YInv S k) (hQ : SetOk S.many Q) (hn : (askR S Q).1 = []) : Cls S k Q (askR S Q).2.1 (askR S Q).2.2 := by
  have D := red_of I hQ (val_nought S.wide.toNat)
  refine ⟨D.wf.val, D.wf.num, D.num, fun x => ?_, fun j => ?_⟩
  · have := D.s x
    rw [hn] at this
    simpa [has] using this
  · have := D.v j
    rw [bit_nought] at this
    revert this
    cases bitAt (askR S Q).2.1 j <;> cases par (fun i => bitAt (pAt S.box i).2 j) (askR S Q).2.2 <;> simp
/-- what is told of a sum keeps to any load of which all kept ones are sums -/
theorem ask_load (I : YInv S k) (hQ : SetOk S.many Q) (hn : (askR S Q).1 = []) {L : Int → Nat → Bool} {j : Nat} (h : ∀ o ∈ S.rows, fitR L j o = false) : bitAt (askR S Q).2.1 j = par (fun x => L x j) Q := by
  have D := red_of I hQ (val_nought S.wide.toNat)
  have e := D.lin _ (linS_fit (L := L) j) h
  unfold fitR at e
  rw [hn] at e
  simp only [par, bit_nought] at e
  simpa using e
end
end GM

set_option Elab.async false
set_option linter.all false
set_option maxRecDepth 100000
set_option maxHeartbeats 4000000
/-! GT: more statements -/
namespace GL
open PySem PySem.Spec L2
/-- what a slot holds is told otherwise -/
theorem SD.conv {K : PySem.W.Frag} {H0 B H : Hp} {σ : L2.St} {δ : List (Option A)} (S : SD K H0 B H σ δ) (l : Sub H0 H) {i : Nat} {a a' : A} {v : V} (hδ : δ[i]? = some (some a)) (hσ : σ[i]? = some (some v)) (r : RA K B H v a') (f : ∀ q, Fp H v a' q → Fp H v a q) (nr : reads a' = false) : SD K H0 B H σ (δ.set i (some a')) :=
  S.put l hδ hσ (fun q u _ h => h) S.s r (fun q g => .inl (f q g)) nr
/-- a name handed to what only reads it -/
class RdR (a : A) (a' : outParam A) : Prop where
  ok : ∀ K B H v, Sub B H → RA K B H v a → RA K B H v a'
instance rd_ob {p C fs} : RdR (.ob p C fs) (.rb C fs) := ⟨fun K B H v s ⟨e, _, dx, gs, hp, hw, _⟩ => ⟨p, dx, gs, e, hp, fdv_of hw⟩⟩
instance rd_o {xs} : RdR (.o xs) (.r xs) := ⟨fun K B H v s ⟨p, vs, e, _, hp, hd⟩ => ⟨p, vs, e, hp, hd⟩⟩
instance rd_op {p xs} : RdR (.op p xs) (.r xs) := ⟨fun K B H v s ⟨e, _, vs, hp, hd⟩ => ⟨p, vs, e, hp, hd⟩⟩
instance (priority := low) rd_any {a} : RdR a a := ⟨fun _ _ _ _ _ r => r⟩
section
variable {X : Cx} {B0 H0 : Hp} {δ δ' : List (Option A)} {e e1 e2 o : Expr} {es : List Expr} {a a0 a1 a2 : A} {as as' : List A} {xs ys : List PyData} {x y d1 d2 : PyData} {pos p1 p2 apos : Pos} {f m xn nmx : Str} {p C : Addr} {fs fs' : List (Str × Fd)} {k i : Nat} {sl : List (Option Nat)} {fd : Fd} {b c : Bool}
theorem p_rd (i : Nat) {x : Str} (hd : δ[i]? = some (some a)) [r : RdR a a'] (hN : X.N[i]? = some x := by rfl) (hv : Vis X.env.scope x := by first | exact .inl rfl | exact .inr (.inl rfl) | exact .inr (.inr rfl)) (h1 : (x == ("__debug__" : Str)) = false := by decide) (h2 : (x == ("__classdict__" : Str)) = false := by decide) : Pe X B0 H0 δ (.Name x pos) a' :=
  Pe.imp (p_var i hd hN hv h1 h2) fun B H v s q => r.ok _ _ _ _ s q
theorem ws_ifX {E : AE} {rest b1 b2 : List Stmt} {t : Expr} (ht : Ptx X B0 H0 δ t δ' c) (h1 : c = true → Ws X B0 H0 δ' b1 { E with nx := fun B H δ' => Ws X B H δ' rest E }) (h2 : c = false → Ws X B0 H0 δ' b2 { E with nx := fun B H δ' => Ws X B H δ' rest E }) : Ws X B0 H0 δ (.If t b1 b2 pos :: rest) E := by
  have k1 : PSs X b1 (fun D σ H => c = true ∧ tWs X.K B0 H0 δ' { E with nx := fun B H δ' => Ws X B H δ' rest E } D σ H) := ⟨fun pins s σ H D J ⟨q1, q2⟩ => (h1 q1).run pins s σ H D J q2⟩
  have k2 : PSs X b2 (fun D σ H => c = false ∧ tWs X.K B0 H0 δ' { E with nx := fun B H δ' => Ws X B H δ' rest E } D σ H) := ⟨fun pins s σ H D J ⟨q1, q2⟩ => (h2 q1).run pins s σ H D J q2⟩
  refine ws_cons (W := fun B H δ' => Ws X B H δ' rest E) (ps_if ht k1 k2) (fun _ _ _ q => q) fun D σ H B E0 S z => ⟨B, E0, S, fun B' H' b1 E1 S1 => ?_⟩
  cases c with
  | true => exact iteT ⟨rfl, B', E1, S1, z.up b1⟩
  | false => exact iteF ⟨rfl, B', E1, S1, z.up b1⟩
/-- a list of one's own: its place is named from here on -/
theorem ws_pin {E : AE} {ss : List Stmt} (i : Nat) (hδ : δ[i]? = some (some (.o xs))) (h : ∀ p, Ws X B0 H0 (δ.set i (some (.op p xs))) ss E) : Ws X B0 H0 δ ss E := by
  refine ⟨fun pins s σ H D J ⟨B, E0, S, z⟩ => ?_⟩
  obtain ⟨v, hσ, p, vs, rfl, hb, hl, hd⟩ := S.rel i _ hδ
  exact (h p).run pins s σ H D J ⟨B, E0, S.conv E0.h hδ hσ ⟨rfl, hb, vs, hl, hd⟩ (fun q f => f) rfl, z⟩
theorem ws_unpin {E : AE} {ss : List Stmt} (i : Nat) (hδ : δ[i]? = some (some (.op p xs))) (h : Ws X B0 H0 (δ.set i (some (.o xs))) ss E) : Ws X B0 H0 δ ss E :=
  pss_to h fun D σ H ⟨B, E0, S, z⟩ => by
    obtain ⟨v, hσ, rfl, hb, vs, hl, hd⟩ := S.rel i _ hδ
    exact ⟨B, E0, S.conv E0.h hδ hσ ⟨p, vs, rfl, hb, hl, hd⟩ (fun q f => f) rfl, z⟩
/-- x.append(e), x a list of one's own at a known place -/
theorem ws_appP {E : AE} {rest : List Stmt} {i : Nat} {xn : Str} {apos cpos epos : Pos} (hδ : δ[i]? = some (some (.op p xs))) (he : Pe X B0 H0 δ e (.d x)) (hz : xs.length < 1000) (hf : fixd δ = true) (hr : Ws X B0 H0 (δ.set i (some (.op p (xs ++ [x])))) rest E) (hN : X.N[i]? = some xn) (hv : Vis X.env.scope xn)
    (hbase : attributeBase (.Name xn p1) "append" X.env (eval (.Name xn p1) X.env) = eval (.Name xn p1) X.env := by rfl)
    (hfew : ((backTo cpos (starEach [e] X.env)).all (fun x => !x.1) && (backToKw cpos (keywordEach [] X.env)).all (fun x => x.1.isSome) && decide ([e].length + ([] : List Keyword).length + (if ([] : List Keyword).isEmpty then 0 else 1) < 30)) = true := by rfl)
    (hline : (apos.endLine == cpos.line) = true := by rfl) (hs : starEach [e] X.env = (false, eval e X.env) :: starEach [] X.env := by rfl) (hsw : swapsWith (.Call (.Attribute (.Name xn p1) "append" apos) [e] [] cpos) none epos.line X.env = pure false := by rfl) (h1 : (xn == ("__debug__" : Str)) = false := by decide) (h2 : (xn == ("__classdict__" : Str)) = false := by decide) :
    Ws X B0 H0 δ (.Expr (.Call (.Attribute (.Name xn p1) "append" apos) [e] [] cpos) epos :: rest) E := by
  have key := pe_bm PySem.F.plainAttrs_list PySem.F.slot_list_append PySem.F.type_list_append mt_append (pe_var (X := X) (i := i) (pos := p1) hN hv h1 h2) (pa_cons he pa_nil hs) hbase hfew hline hs rfl
  refine ws_cons (W := fun B H δ' => B = B0 ∧ H = H0 ∧ δ' = δ.set i (some (.op p (xs ++ [x])))) (ps_expr key hsw) (fun B H δ' ⟨h1, h2, h3⟩ => by rw [h1, h2, h3]; exact hr) fun D σ H B E0 S z => ?_
  obtain ⟨v, hσ, rfl, hb, vs, hl, hd⟩ := S.rel i _ hδ
  refine ⟨_, hσ, .inl ⟨rfl, _, .inl (.inl hl)⟩, B, E0, S, fun u B' H' E1 r => ?_⟩
  have hl' := E1.h _ _ hl
  have hb' : B' p = none := by rw [E1.n p (by rw [hl]; simp)]; exact hb
  refine ⟨p, vs, u, rfl, rfl, hl', small1000 (by rw [dqs_len hd]; omega), ?_⟩
  have S1 := S.mono E1
  have h0 := S1.fr i _ _ p hδ hσ rfl
  have g2 := S1.put (a' := .op p (xs ++ [x])) (H' := upd H' p (.lst (vs ++ [u]))) (fun q w hq => E1.h q w (E0.h q w hq)) hδ hσ (fun q w n hq => by rw [upd_ne (fun e => n (by rw [e]; rfl))]; exact hq) (sub_upd S1.s hb') ⟨rfl, hb', _, upd_same, dqs_app (dqs_sub E1.b _ _ hd) (.cons r .nil)⟩ (fun q f => .inl f) rfl
  have E2 := E0.tr E1
  exact z.nx _ _ _ σ B' _ ⟨rfl, rfl, rfl⟩ E1.b ⟨E2.b, sub_upd E2.h h0, sub_upd E2.s hb', E2.n⟩ g2
/-! ### in: data of any depth -/
theorem c_inD (ha : Pe X B0 H0 δ e1 a1) (hb : Pe X B0 H0 δ e2 a2) [n1 : Nw a1 d1] [n2 : Nw a2 (.list ys)] (s1 : Sh 40 d1) (s2 : Sh 40 (.list ys)) (hu : X.A.units + 100 < cLine) (hm : behindInMarks .In e2 = false := by rfl) : Pc X B0 H0 δ e1 .In e2 (ys.any fun z => PyData.eqv z d1) :=
  ⟨_, _, _, op_inD (by omega), ha, hb, hm, fun B H u v Q s r1 r2 k => ⟨d1, ys, dq_dp _ _ (n1.at s r1), dq_dp _ _ (n2.at s r2), s1.shaped, s2.shaped, k⟩⟩
theorem c_notInD (ha : Pe X B0 H0 δ e1 a1) (hb : Pe X B0 H0 δ e2 a2) [n1 : Nw a1 d1] [n2 : Nw a2 (.list ys)] (s1 : Sh 40 d1) (s2 : Sh 40 (.list ys)) (hu : X.A.units + 100 < cLine) (hm : behindInMarks .NotIn e2 = false := by rfl) : Pc X B0 H0 δ e1 .NotIn e2 (!ys.any fun z => PyData.eqv z d1) :=
  ⟨_, _, _, op_notInD (by omega), ha, hb, hm, fun B H u v Q s r1 r2 k => ⟨d1, ys, dq_dp _ _ (n1.at s r1), dq_dp _ _ (n2.at s r2), s1.shaped, s2.shaped, k⟩⟩
end
/-! ### a yard's fields -/
def wdS : GM.Wd → Str
  | .out => "out"
  | .new => "new"
  | .known => "known"
  | .against => "against"
abbrev wdD (w : GM.Wd × List Int) : PyData := .tuple [.str (wdS w.1), ti w.2]
abbrev bxD (p : GM.Par) : PyData := .tuple [ti p.1, ti p.2]
abbrev yf (S : GM.YS) : List (Str × Fd) := [("many", .d (.int S.many)), ("wide", .d (.int S.wide)), ("box", .o (S.box.map bxD)), ("gone", .g S.gone), ("words", .o (S.words.map wdD)), ("rows", .d (.list (S.rows.map rwD)))]
section
variable {S : GM.YS}
theorem lk_many : (yf S).lookup ("many" : Str) = some (.d (.int S.many)) := by kernel_rfl
theorem lk_wide : (yf S).lookup ("wide" : Str) = some (.d (.int S.wide)) := by kernel_rfl
theorem lk_box : (yf S).lookup ("box" : Str) = some (.o (S.box.map bxD)) := by kernel_rfl
theorem lk_gone : (yf S).lookup ("gone" : Str) = some (.g S.gone) := by kernel_rfl
theorem lk_words : (yf S).lookup ("words" : Str) = some (.o (S.words.map wdD)) := by kernel_rfl
theorem lk_rows : (yf S).lookup ("rows" : Str) = some (.d (.list (S.rows.map rwD))) := by kernel_rfl
theorem nk_need_set : (yf S).lookup ("need_set" : Str) = none := by kernel_rfl
theorem nk_need_parcel : (yf S).lookup ("need_parcel" : Str) = none := by kernel_rfl
theorem nk_judge : (yf S).lookup ("judge" : Str) = none := by kernel_rfl
theorem nk_judge_all : (yf S).lookup ("judge_all" : Str) = none := by kernel_rfl
theorem nk_gather : (yf S).lookup ("gather" : Str) = none := by kernel_rfl
theorem nk_came : (yf S).lookup ("came" : Str) = none := by kernel_rfl
theorem nk_parcel : (yf S).lookup ("parcel" : Str) = none := by kernel_rfl
theorem nk_word : (yf S).lookup ("word" : Str) = none := by kernel_rfl
theorem nk_leave_out : (yf S).lookup ("leave_out" : Str) = none := by kernel_rfl
theorem nk_take_back : (yf S).lookup ("take_back" : Str) = none := by kernel_rfl
theorem nk_told : (yf S).lookup ("told" : Str) = none := by kernel_rfl
theorem nk_by : (yf S).lookup ("by" : Str) = none := by kernel_rfl
theorem nk_unseen : (yf S).lookup ("unseen" : Str) = none := by kernel_rfl
theorem nk_pieces : (yf S).lookup ("pieces" : Str) = none := by kernel_rfl
theorem nk_missing : (yf S).lookup ("missing" : Str) = none := by kernel_rfl
theorem nk_openings : (yf S).lookup ("openings" : Str) = none := by kernel_rfl
theorem pf_words (ws : List (GM.Wd × List Int)) : putFd "words" (.o (ws.map wdD)) (yf S) = yf { S with words := ws } := by kernel_rfl
theorem pf_rows (rs : List GM.Rw) : putFd "rows" (.d (.list (rs.map rwD))) (yf S) = yf { S with rows := rs } := by kernel_rfl
theorem pf_box (bs : List GM.Par) : putFd "box" (.o (bs.map bxD)) (yf S) = yf { S with box := bs } := by kernel_rfl
theorem pf_gone (gs : List Int) : putFd "gone" (.g gs) (yf S) = yf { S with gone := gs } := by kernel_rfl
theorem pf_new (m w : Int) : putFd "rows" (.d (.list [])) (putFd "words" (.o []) (putFd "gone" (.g []) (putFd "box" (.o []) (putFd "wide" (.d (.int w)) (putFd "many" (.d (.int m)) []))))) = yf (GM.newY m w) := by kernel_rfl
end
end GL

set_option Elab.async false
set_option linter.all false
set_option maxRecDepth 100000
set_option maxHeartbeats 4000000
/-! GU: the yard's answers as data; statements that end in an error -/
namespace L2
open PySem PySem.Spec PyProof.Rows
theorem Room.units100 {k : Nat} {A : Around} (r : Room k A) : A.units + 100 < cLine := by have := r.un; omega
end L2
namespace GL
open PySem PySem.Spec L2
section
variable {X : Cx} {B0 H0 : Hp} {δ δ' : List (Option A)} {e e1 e2 o : Expr} {a a0 a1 a2 : A} {pos p1 p2 : Pos} {b c : Bool} {side : Prop}
theorem p_fldD {C : Addr} {fs : List (Str × Fd)} {f : Str} {x : PyData} (ha : Pe X B0 H0 δ e a) [h : ObR a C fs] (c : L2.Cls X.K C) (n : NoAttr X.K C f) (hl : fs.lookup f = some (.d x)) (hb : attributeBase e f X.env (eval e X.env) = eval e X.env := by rfl) : Pe X B0 H0 δ (.Attribute e f pos) (.d x) := p_fld (fd := .d x) ha c n hl hb
theorem p_fldO {C : Addr} {fs : List (Str × Fd)} {f : Str} {xs : List PyData} (ha : Pe X B0 H0 δ e a) [h : ObR a C fs] (c : L2.Cls X.K C) (n : NoAttr X.K C f) (hl : fs.lookup f = some (.o xs)) (hb : attributeBase e f X.env (eval e X.env) = eval e X.env := by rfl) : Pe X B0 H0 δ (.Attribute e f pos) (.r xs) := p_fld (fd := .o xs) ha c n hl hb
theorem p_fldG {C : Addr} {fs : List (Str × Fd)} {f : Str} {ks : List Int} (ha : Pe X B0 H0 δ e a) [h : ObR a C fs] (c : L2.Cls X.K C) (n : NoAttr X.K C f) (hl : fs.lookup f = some (.g ks)) (hb : attributeBase e f X.env (eval e X.env) = eval e X.env := by rfl) : Pe X B0 H0 δ (.Attribute e f pos) (.rg ks) := p_fld (fd := .g ks) ha c n hl hb
/-- y = what raises -/
theorem ws_deadS {E : AE} {rest : List Stmt} {j : Nat} {y : Str} (hi : X.N[j]? = some y) (he : Pe X B0 H0 δ e (.d (.dict []))) (hN : X.N.Nodup) (hx : Loc X.env.scope y)
    (hs : swapsWith e (some (.Name y p1)) pos.line X.env = pure false := by rfl) (hf : X.fn y = true ∨ X.env.scope.names.lookup y = some .local := by first | exact .inl rfl | exact .inr rfl | assumption) : Ws X B0 H0 δ (.Assign [.Name y p1] e pos :: rest) E :=
  ws_cons (W := fun _ _ _ => False) (ps_set hN hi hx he hs hf) (fun _ _ _ q => q.elim) fun D σ H B E0 S z => ⟨B, E0, S, fun v B' H' E1 r => by cases r⟩
/-- t or ..: not asked further -/
theorem wx_orY {r : List Expr} {e2 : Expr} (h : Ptx X B0 H0 δ e δ' true) (any : PW X (.BoolOp .Or (e2 :: r) pos) fun _ _ _ => False) : Pwx X B0 H0 δ (.BoolOp .Or (e :: e2 :: r) pos) δ' true :=
  pw_to (pw_or h any) fun σ H Q ⟨B, E0, S, k⟩ => ⟨B, E0, S, fun B' H' b1 E S1 => k B' H' b1 E S1⟩
end
def KeepP : List A → List A → List (Option A) → Prop
  | [], [], _ => True
  | a :: as, a' :: as', d :: δ => ((owns a = false ∧ reads a = false ∧ a' = a) ∨ ∃ p, pin a = some p ∧ pin a' = some p ∧ d = some a') ∧ KeepP as as' δ
  | _, _, _ => False
theorem keepOf : ∀ {as as' : List A} {δ : List (Option A)}, KeepP as as' δ → Keep as as' δ
  | [], [], _, _ => .nil
  | _ :: _, _ :: _, _ :: _, ⟨.inl ⟨h1, h2, h3⟩, t⟩ => by
    subst h3
    exact .same h1 h2 (keepOf t)
  | _ :: _, _ :: _, _ :: _, ⟨.inr ⟨p, h1, h2, h3⟩, t⟩ => by
    subst h3
    exact .pinned p h1 h2 (keepOf t)
  | [], _ :: _, _, h => h.elim
  | _ :: _, [], _, h => h.elim
  | _ :: _, _ :: _, [], h => h.elim
theorem lt_put {f : Str} {x : Fd} {n : Nat} : ∀ {fs : List (Str × Fd)}, fs.length < n → (putFd f x fs).length < n + 1
  | [], h => by show 1 < n + 1; have : 0 < n := h; omega
  | (g, y) :: r, h => by
    unfold putFd
    split
    · exact Nat.lt_succ_of_lt h
    · cases n with
      | zero => exact absurd h (Nat.not_lt_zero _)
      | succ n =>
        have := lt_put (f := f) (x := x) (fs := r) (n := n) (Nat.lt_of_succ_lt_succ h)
        exact Nat.succ_lt_succ this
theorem lt_yf {S : GM.YS} : (yf S).length < 1000 := by show 6 < 1000; decide
theorem linkNo {sl : List (Option Nat)} {i : Nat} (h : sl.all (fun o => o != some i) = true) : ∀ k : Nat, sl[k]? ≠ some (some i) := fun k e => by
  have := List.all_eq_true.mp h _ (List.mem_of_getElem? e)
  simp at this
theorem pf_word (S : GM.YS) (w : GM.Wd × List Int) : putFd "words" (.o (S.words.map wdD ++ [wdD w])) (yf S) = yf { S with words := S.words ++ [w] } := by
  rw [show S.words.map wdD ++ [wdD w] = (S.words ++ [w]).map wdD by rw [List.map_append]; rfl]
  exact pf_words _
theorem pf_parcel (S : GM.YS) (p : GM.Par) : putFd "box" (.o (S.box.map bxD ++ [bxD p])) (yf S) = yf { S with box := S.box ++ [p] } := by
  rw [show S.box.map bxD ++ [bxD p] = (S.box ++ [p]).map bxD by rw [List.map_append]; rfl]
  exact pf_box _
/-- a parcel's word -/
def wAt (S : GM.YS) (n : Int) : GM.Wd × List Int := S.words.getD n.toNat (.out, [])
/-- the answers as data -/
def toldD (S : GM.YS) (Q : List Int) : PyData := if (GM.askR S Q).1 ≠ [] then .none else ti (GM.askR S Q).2.1
def byD (S : GM.YS) (Q : List Int) : PyData := if (GM.askR S Q).1 ≠ [] then .none else li (GM.askR S Q).2.2
def unsD (S : GM.YS) (Q : List Int) : PyData := if (GM.askR S Q).1 = [] then .none else li (GM.unseenBy S.rows (GM.hd (GM.askR S Q).1))
def piecesD (S : GM.YS) : List PyData := (List.range S.many.toNat).map fun (x : Nat) => toldD S [(x : Int)]
end GL

set_option Elab.async false
set_option linter.all false
set_option maxRecDepth 100000
set_option maxHeartbeats 4000000
/-! GV: tuples with a new list, pop, for over pairs -/
namespace GL
open PySem PySem.Spec L2
theorem small2 : (2 : Nat) ≤ sizeLine := Nat.le_of_lt (small1000 (by decide))
theorem dqs_erase {H : Hp} : ∀ {vs : List V} {xs : List PyData} (i : Nat), Dqs H vs xs → Dqs H (vs.eraseIdx i) (xs.eraseIdx i)
  | _, _, _, .nil => .nil
  | _, _, 0, .cons _ t => t
  | _, _, i + 1, .cons r t => .cons r (dqs_erase i t)
theorem erase_map {α β : Type} (f : α → β) : ∀ (l : List α) (i : Nat), (l.map f).eraseIdx i = (l.eraseIdx i).map f
  | [], _ => rfl
  | _ :: _, 0 => rfl
  | a :: l, i + 1 => by
    show f a :: (l.map f).eraseIdx i = f a :: (l.eraseIdx i).map f
    rw [erase_map f l i]
section
variable {X : Cx} {B0 H0 : Hp} {δ δ' : List (Option A)} {e e1 e2 o : Expr} {es : List Expr} {a a0 a1 a2 : A} {as as' : List A} {xs ys : List PyData} {x y d1 d2 : PyData} {pos p1 p2 p3 apos pt : Pos} {f m xn nmx : Str} {p C : Addr} {k i : Nat} {b c : Bool} {iter tg : Expr}
theorem Pf.word (h : Pf X B0 H0 δ e (.nf true [.d x, .o ys])) : Pe X B0 H0 δ e (.d (.tuple [x, .list ys])) := h.dat rfl
theorem Pf.par (h : Pf X B0 H0 δ e (.nf true [.o xs, .d y])) : Pe X B0 H0 δ e (.d (.tuple [.list xs, y])) := h.dat rfl
/-- (x, a new list) -/
theorem f_tupDL {kt : Nat} (h1 : Pe X B0 H0 δ e1 (.d x)) (h2 : Pn X B0 H0 δ e2 ys) (s1 : starEach [e1, e2] X.env = (false, eval e1 X.env) :: starEach [e2] X.env := by rfl) (s2 : starEach [e2] X.env = (false, eval e2 X.env) :: starEach [] X.env := by rfl) : Pf X B0 H0 δ (.Tuple [e1, e2] kt pos) (.nf true [.d x, .o ys]) :=
  pe_to (pe_tup (pa_cons h1 (pa_cons h2 pa_nil s2) s1)) fun σ H Q ⟨B, E0, S, k⟩ => ⟨B, E0, S, fun v1 B1 H1 E1 r1 => ⟨B1, E0.tr E1, S.mono E1, fun q vs B2 H2 E2 hq hb hl hd => ⟨small2, fun t ht => by
    have qt : q ≠ t := fun e => by rw [e, ht] at hl; cases hl
    have only : ∀ i r, FdP (nm [v1, V.ref q]) (nm [Fd.d x, Fd.o ys]) i r → i = 1 ∧ r = q := fun i r ⟨n, f, g1, g2, g3⟩ => by
      cases i with
      | zero =>
        have e := (Prod.mk.inj (Option.some.inj g2)).2
        rw [← e] at g3
        cases g3
      | succ i =>
        cases i with
        | zero =>
          have e := (Prod.mk.inj (Option.some.inj g1)).2
          cases e
          exact ⟨rfl, rfl⟩
        | succ i => simp [nm] at g1
    refine k (.ref t) B2 _ ((E1.tr E2).tr (.own E2.s ht)) ⟨t, [v1, .ref q], rfl, sub_free E2.s ht, upd_same, .cons (show FdR B2 _ v1 (.d x) from dq_sub E2.b _ _ r1) (.cons ⟨q, vs, rfl, hb, by rw [upd_ne qt]; exact hl, hd⟩ .nil), fun i j r g1 g2 => by rw [(only i r g1).1, (only j r g2).1], fun i r g => by rw [(only i r g).2]; exact qt⟩ fun r g => ?_
    rcases g with g | ⟨p', vs', i, g1, g2, g3⟩
    · cases g
      exact sub_free (E1.tr E2).h ht
    · cases g1
      rw [upd_same] at g2
      have e := seqO_inj (t := true) (Option.some.inj g2)
      subst e
      rw [(only i r g3).2]
      exact sub_free E1.h hq⟩⟩⟩
/-- (a new list, x) -/
theorem f_tupLD {kt : Nat} (h1 : Pn X B0 H0 δ e1 xs) (h2 : Pe X B0 H0 δ e2 (.d y)) (s1 : starEach [e1, e2] X.env = (false, eval e1 X.env) :: starEach [e2] X.env := by rfl) (s2 : starEach [e2] X.env = (false, eval e2 X.env) :: starEach [] X.env := by rfl) : Pf X B0 H0 δ (.Tuple [e1, e2] kt pos) (.nf true [.o xs, .d y]) :=
  pe_to (pe_tup (pa_cons h1 (pa_cons h2 pa_nil s2) s1)) fun σ H Q ⟨B, E0, S, k⟩ => ⟨B, E0, S, fun q vs B1 H1 E1 hq hb hl hd => ⟨B1, E0.tr E1, S.mono E1, fun v2 B2 H2 E2 r2 => ⟨small2, fun t ht => by
    have hl2 := E2.h _ _ hl
    have hb2 : B2 q = none := by rw [E2.n q (by rw [hl]; simp)]; exact hb
    have qt : q ≠ t := fun e => by rw [e, ht] at hl2; cases hl2
    have only : ∀ i r, FdP (nm [V.ref q, v2]) (nm [Fd.o xs, Fd.d y]) i r → i = 0 ∧ r = q := fun i r ⟨n, f, g1, g2, g3⟩ => by
      cases i with
      | zero =>
        have e := (Prod.mk.inj (Option.some.inj g1)).2
        cases e
        exact ⟨rfl, rfl⟩
      | succ i =>
        cases i with
        | zero =>
          have e := (Prod.mk.inj (Option.some.inj g2)).2
          rw [← e] at g3
          cases g3
        | succ i => simp [nm] at g1
    refine k (.ref t) B2 _ ((E1.tr E2).tr (.own E2.s ht)) ⟨t, [.ref q, v2], rfl, sub_free E2.s ht, upd_same, .cons ⟨q, vs, rfl, hb2, by rw [upd_ne qt]; exact hl2, dqs_sub E2.b _ _ hd⟩ (.cons (show FdR B2 _ v2 (.d y) from r2) .nil), fun i j r g1 g2 => by rw [(only i r g1).1, (only j r g2).1], fun i r g => by rw [(only i r g).2]; exact qt⟩ fun r g => ?_
    rcases g with g | ⟨p', vs', i, g1, g2, g3⟩
    · cases g
      exact sub_free (E1.tr E2).h ht
    · cases g1
      rw [upd_same] at g2
      have e := seqO_inj (t := true) (Option.some.inj g2)
      subst e
      rw [(only i r g3).2]
      exact hq⟩⟩⟩
/-- l.pop(i), l a list of one's own -/
theorem x_pop {n : Int} {cpos : Pos} (i : Nat) (hδ : δ[i]? = some (some (.o xs))) (he : Pe X B0 H0 δ e (.d (.int n))) (hn : 0 ≤ n ∧ n < xs.length) (hz : xs.length ≤ 1000) (hx : xs[n.toNat]? = some x) (hu : δ.set i (some (.o (xs.eraseIdx n.toNat))) = δ') (hN : X.N[i]? = some xn) (hv : Vis X.env.scope xn)
    (hbase : attributeBase (.Name xn p1) "pop" X.env (eval (.Name xn p1) X.env) = eval (.Name xn p1) X.env := by rfl)
    (hfew : ((backTo cpos (starEach [e] X.env)).all (fun x => !x.1) && (backToKw cpos (keywordEach [] X.env)).all (fun x => x.1.isSome) && decide ([e].length + ([] : List Keyword).length + (if ([] : List Keyword).isEmpty then 0 else 1) < 30)) = true := by rfl)
    (hline : (apos.endLine == cpos.line) = true := by rfl) (hs : starEach [e] X.env = (false, eval e X.env) :: starEach [] X.env := by rfl) (h1 : (xn == ("__debug__" : Str)) = false := by decide) (h2 : (xn == ("__classdict__" : Str)) = false := by decide) :
    Px X B0 H0 δ (.Call (.Attribute (.Name xn p1) "pop" apos) [e] [] cpos) δ' (.d x) := by
  subst hu
  have key := pe_bm PySem.F.plainAttrs_list PySem.F.slot_list_pop PySem.F.type_list_pop mt_popAt (pe_var (X := X) (i := i) (pos := p1) hN hv h1 h2) (pa_cons he pa_nil hs) hbase hfew hline hs rfl
  refine pe_to key fun σ H Q ⟨B, E0, S, z⟩ => ?_
  obtain ⟨v, hσ, p, vs, rfl, hb, hl, hd⟩ := S.rel i _ hδ
  refine ⟨_, hσ, .inl ⟨rfl, _, .inl (.inl hl)⟩, B, E0, S, fun u B' H' E1 r => ?_⟩
  have hl' := E1.h _ _ hl
  have hb' : B' p = none := by rw [E1.n p (by rw [hl]; simp)]; exact hb
  have ln := dqs_len hd
  obtain ⟨w, hw, dw⟩ := dqs_get hd n.toNat x hx
  have q63 : (1000 : Int) < 2 ^ 63 := by decide
  refine ⟨p, vs, n, n.toNat, w, rfl, by rw [ra_int r], hl', by omega, by omega, (ixN_seq (ix_in ⟨hn.1, by omega⟩)).1, hw, ?_⟩
  have S1 := S.mono E1
  have h0 := S1.fr i _ _ p hδ hσ rfl
  have E2 := E0.tr E1
  have g2 := S1.put (a' := .o (xs.eraseIdx n.toNat)) (H' := upd H' p (.lst (vs.eraseIdx n.toNat))) E2.h hδ hσ (fun q w n hq => by rw [upd_ne (fun e => n (by rw [e]; rfl))]; exact hq) (sub_upd S1.s hb') ⟨p, _, rfl, hb', upd_same, dqs_erase _ (dqs_sub E1.b _ _ hd)⟩ (fun q f => .inl f) rfl
  exact z w B' _ E1.b ⟨E2.b, sub_upd E2.h h0, sub_upd E2.s hb', E2.n⟩ g2 (dq_sub E1.b _ _ dw)
/-- x.append(e), where e changes what other slots hold -/
theorem ws_appX {E : AE} {rest : List Stmt} {i : Nat} {xn : Str} {apos cpos epos : Pos} (hδ : δ[i]? = some (some (.o xs))) (he : Px X B0 H0 δ e δ' (.d x)) (hδ' : δ'[i]? = some (some (.o xs))) (hz : xs.length < 1000) (hr : Ws X B0 H0 (δ'.set i (some (.o (xs ++ [x])))) rest E) (hN : X.N[i]? = some xn) (hv : Vis X.env.scope xn)
    (hbase : attributeBase (.Name xn p1) "append" X.env (eval (.Name xn p1) X.env) = eval (.Name xn p1) X.env := by rfl)
    (hfew : ((backTo cpos (starEach [e] X.env)).all (fun x => !x.1) && (backToKw cpos (keywordEach [] X.env)).all (fun x => x.1.isSome) && decide ([e].length + ([] : List Keyword).length + (if ([] : List Keyword).isEmpty then 0 else 1) < 30)) = true := by rfl)
    (hline : (apos.endLine == cpos.line) = true := by rfl) (hs : starEach [e] X.env = (false, eval e X.env) :: starEach [] X.env := by rfl) (hsw : swapsWith (.Call (.Attribute (.Name xn p1) "append" apos) [e] [] cpos) none epos.line X.env = pure false := by rfl) (h1 : (xn == ("__debug__" : Str)) = false := by decide) (h2 : (xn == ("__classdict__" : Str)) = false := by decide) :
    Ws X B0 H0 δ (.Expr (.Call (.Attribute (.Name xn p1) "append" apos) [e] [] cpos) epos :: rest) E := by
  have key := pe_bm PySem.F.plainAttrs_list PySem.F.slot_list_append PySem.F.type_list_append mt_append (pe_var (X := X) (i := i) (pos := p1) hN hv h1 h2) (pa_cons he pa_nil hs) hbase hfew hline hs rfl
  refine ws_cons (W := fun B H d => B = B0 ∧ H = H0 ∧ d = δ'.set i (some (.o (xs ++ [x])))) (ps_expr key hsw) (fun B H d ⟨h1, h2, h3⟩ => by rw [h1, h2, h3]; exact hr) fun D σ H B E0 S z => ?_
  obtain ⟨v, hσ, p, vs, rfl, hb, hl, hd⟩ := S.rel i _ hδ
  refine ⟨_, hσ, .inl ⟨rfl, _, .inl (.inl hl)⟩, B, E0, S, fun u B' H' b1 E1 S1 r => ?_⟩
  obtain ⟨v', hσ', p', vs', ev, hb', hl', hd'⟩ := S1.rel i _ hδ'
  rw [hσ] at hσ'
  cases hσ'
  cases ev
  refine ⟨p, vs', u, rfl, rfl, hl', small1000 (by rw [dqs_len hd']; omega), ?_⟩
  have h0 := S1.fr i _ _ p hδ' hσ rfl
  have g2 := S1.put (a' := .o (xs ++ [x])) (H' := upd H' p (.lst (vs' ++ [u]))) E1.h hδ' hσ (fun q w n hq => by rw [upd_ne (fun e => n (by rw [e]; rfl))]; exact hq) (sub_upd S1.s hb') ⟨p, _, rfl, hb', upd_same, dqs_app hd' (.cons r .nil)⟩ (fun q f => .inl f) rfl
  exact z.nx _ _ _ σ B' _ ⟨rfl, rfl, rfl⟩ b1 ⟨E1.b, sub_upd E1.h h0, sub_upd E1.s hb', E1.n⟩ g2
/-- for x, y in iter: I by the turn -/
theorem ws_forT {E : AE} {rest body : List Stmt} {i j : Nat} {n1 n2 : Str} {kt : Nat} {α : Type} {zs : List α} {f g : α → PyData} (I : Nat → Hp → Hp → List (Option A) → Prop) (hi : Pi X B0 H0 δ (.Tuple [.Name n1 p1, .Name n2 p2] kt pt) iter (zs.map fun z => .tuple [f z, g z])) (h0 : I 0 B0 H0 δ)
    (hs : ∀ k z B H δ', zs[k]? = some z → I k B H δ' → Ws X B H ((δ'.set i (some (.d (f z)))).set j (some (.d (g z)))) body { E with nx := I (k + 1), ct := I (k + 1), bk := fun B H δ' => Ws X B H δ' rest E })
    (hr : ∀ B H δ', I zs.length B H δ' → Ws X B H δ' rest E) (hx : X.N[i]? = some n1) (hy : X.N[j]? = some n2) (hN : X.N.Nodup) (hl : Loc X.env.scope n1) (hl2 : Loc X.env.scope n2) (hc : X.calm = true) (hp : PassesOwn (model X.prog X.w) X.A X.env X.xe)
    (hf : X.fn n1 = true ∨ X.env.scope.names.lookup n1 = some .local := by first | exact .inl rfl | exact .inr rfl | assumption) (hf2 : X.fn n2 = true ∨ X.env.scope.names.lookup n2 = some .local := by first | exact .inl rfl | exact .inr rfl | assumption)
    (s1 : (assignEach [.Name n1 p1, .Name n2 p2] X.env).map (·.2) = assign (.Name n1 p1) X.env :: (assignEach [.Name n2 p2] X.env).map (·.2) := by rfl) (s2 : (assignEach [.Name n2 p2] X.env).map (·.2) = assign (.Name n2 p2) X.env :: (assignEach [] X.env).map (·.2) := by rfl)
    (hn : (assignEach [.Name n1 p1, .Name n2 p2] X.env).length = 2 := by rfl) (hst : (assignEach [.Name n1 p1, .Name n2 p2] X.env).findIdx? (·.1) = none := by rfl)
    (hfs : ∀ x, foldedSetIterable iter X.env x = pure x := by intro _; rfl) : Ws X B0 H0 δ (.For (.Tuple [.Name n1 p1, .Name n2 p2] kt pt) iter body [] pos :: rest) E := by
  have hb : PSs X body (fun D σ H => ∃ k z B1 H1 δ1, zs[k]? = some z ∧ I k B1 H1 δ1 ∧ tWs X.K B1 H1 ((δ1.set i (some (.d (f z)))).set j (some (.d (g z)))) { E with nx := I (k + 1), ct := I (k + 1), bk := fun B H δ' => Ws X B H δ' rest E } D σ H) :=
    ⟨fun pins s σ H D J ⟨k, z, B1, H1, δ1, hx, hI, q⟩ => (hs k z B1 H1 δ1 hx hI).run pins s σ H D J q⟩
  refine ws_cons (W := fun B H δ' => Ws X B H δ' rest E) (ps_for hp hc hi (pg_tup hc (pgs_cons (pg_name hN hx hl hf) (pgs_cons (pg_name hN hy hl2 hf2) pgs_nil s2) s1) hn hst) hb hfs) (fun _ _ _ q => q) fun D σ H B E0 S z => ⟨B, E0, S, fun J Bs Hs E1 hw => ?_⟩
  have ll : (zs.map fun z => PyData.tuple [f z, g z]).length = zs.length := List.length_map _
  refine ⟨fun k m σ' H' => m = zs.length - k ∧ k ≤ zs.length ∧ ∃ B' B1 H1 δ1, Sub Bs B' ∧ I k B1 H1 δ1 ∧ Ext B1 H1 B' H' ∧ SD X.K H1 B' H' σ' δ1, ⟨zs.length, rfl, Nat.zero_le _, Bs, B0, H0, δ, Sub.rfl', h0, E0.tr E1, S.mono E1⟩, ?_⟩
  rintro k m σ' H' ⟨rfl, hk, B', B1, H1, δ1, sb, hI, E2, S2⟩
  obtain ⟨w1, w2⟩ := hw k B' H' sb S2.s
  by_cases h : k < zs.length
  · have hx : zs[k]? = some zs[k] := List.getElem?_eq_getElem h
    obtain ⟨go, yl⟩ := w1 (.tuple [f zs[k], g zs[k]]) (by rw [List.getElem?_map, hx]; rfl)
    refine .inr ⟨go, fun σ3 H3 => ∃ B3 B4 H4 δ4, Sub Bs B3 ∧ I (k + 1) B4 H4 δ4 ∧ Ext B4 H4 B3 H3 ∧ SD X.K H4 B3 H3 σ3 δ4, fun σ3 H3 ⟨B3, B4, H4, δ4, q1, q2, q3, q4⟩ => ⟨zs.length - (k + 1), by omega, rfl, h, B3, B4, H4, δ4, q1, q2, q3, q4⟩, fun v H3 hy => ?_⟩
    obtain ⟨B3, E3, dv⟩ := yl v H3 hy
    cases dv with
    | @tup t us _ ht dt =>
      cases dt with
      | @cons u1 _ _ _ d1 dt =>
        cases dt with
        | @cons u2 _ _ _ d2 dt =>
          cases dt
          refine ⟨t, [u1, u2], rfl, .inl (.inl (E3.s _ _ ht)), rfl, u1, [u2], rfl, u2, [], rfl, rfl, k, zs[k], B1, H1, δ1, hx, hI, B3, E2.tr E3, SD.set (a := .d (g zs[k])) (SD.set (a := .d (f zs[k])) (S2.mono E3) d1 rfl) d2 rfl, ?_⟩
          have s3 : Sub Bs B3 := sb.tr E3.b
          exact ⟨fun B4 H4 δ4 σ4 B5 H5 q1 q2 q3 q4 => ⟨B5, B4, H4, δ4, s3.tr q2, q1, q3, q4⟩, z.rt, fun B4 H4 δ4 σ4 B5 H5 q1 q2 => z.nx B4 H4 δ4 σ4 B5 H5 q1 ((E1.b.tr s3).tr q2), fun B4 H4 δ4 σ4 B5 H5 q1 q2 q3 q4 => ⟨B5, B4, H4, δ4, s3.tr q2, q1, q3, q4⟩⟩
  · have e : k = zs.length := by omega
    subst e
    exact .inl ⟨w2 (by rw [ll]), z.nx _ _ _ _ B' H' (hr _ _ _ hI) (E1.b.tr sb) E2 S2⟩
end
end GL

set_option Elab.async false
set_option linter.all false
set_option maxRecDepth 100000
set_option maxHeartbeats 4000000
/-! GW: lists handed on to be read; a list that was just told is made longer -/
namespace GL
open PySem PySem.Spec L2
/-- a new thing that no slot holds is changed -/
theorem SD.free {K : PySem.W.Frag} {H0 B H : Hp} {σ : L2.St} {δ : List (Option A)} (S : SD K H0 B H σ δ) (l : Sub H0 H) {q0 : Addr} {u : HO} (hb : B q0 = none) (h0 : H0 q0 = none) (hf : ∀ (j : Nat) (b : A) (w : V), δ[j]? = some (some b) → σ[j]? = some (some w) → ¬ Fp H w b q0) : SD K H0 B (upd H q0 u) σ δ := by
  have k : ∀ (j : Nat) (b : A) (w : V), δ[j]? = some (some b) → σ[j]? = some (some w) → ∀ q x, Fp H w b q → H q = some x → upd H q0 u q = some x := fun j b w h1 h2 q x f hq => by
    have ne : q ≠ q0 := fun e => by rw [e] at f; exact hf j b w h1 h2 f
    rw [upd_ne ne]
    exact hq
  have back : ∀ (j : Nat) (b : A) (w : V), δ[j]? = some (some b) → σ[j]? = some (some w) → ∀ q, Fp (upd H q0 u) w b q → Fp H w b q := fun j b w h1 h2 q f => fp_back (S.rel' h1 h2) (fun p x g h => k j b w h1 h2 p x g h) f
  have up : Sub H0 (upd H q0 u) := sub_upd l h0
  refine ⟨sub_upd S.s hb, S.len, fun i a h => ?_, fun i j a b v w q h1 h2 h3 h4 f1 f2 => S.dis i j a b v w q h1 h2 h3 h4 (back i a v h1 h3 q f1) (back j b w h2 h4 q f2), fun i a v q h1 h2 f => S.fr i a v q h1 h2 (back i a v h1 h2 q f), fun i a v h1 h2 h3 => S.rd i a v h1 h2 h3⟩
  obtain ⟨v, h1, r⟩ := S.rel i a h
  refine ⟨v, h1, ?_⟩
  cases hr : reads a with
  | false => exact ra_to Sub.rfl' (fun q x f hq => ⟨(fp_at r f).1, k i a v h h1 q x f hq⟩) hr r
  | true =>
    obtain ⟨Bz, sz, rz⟩ := S.rd i a v h hr h1
    exact ra_reads hr sz up rz
section
variable {X : Cx} {B0 H0 : Hp} {δ δ' : List (Option A)} {e e1 e2 o c : Expr} {es : List Expr} {a a0 a1 a2 : A} {xs ys : List PyData} {x y : PyData} {pos p1 p2 p3 apos : Pos} {k i : Nat}
theorem p_rr (h : Pe X B0 H0 δ e a) [l : Ls a xs] : Pe X B0 H0 δ e (.r xs) := Pe.imp h fun B H v s r => by
  obtain ⟨p, vs, e, hp, hd⟩ := l.at s r
  exact ⟨p, vs, e, hp, hd⟩
/-- e[1].append(c), e a new tuple whose second is a new list -/
theorem ws_tmpApp {E : AE} {rest : List Stmt} {cpos epos : Pos} {j} (he : Pf X B0 H0 δ e (.nf true [.d x, .o ys])) (hc : Pe X B0 H0 δ c (.d y)) (hz : ys.length < 1000) (hr : Ws X B0 H0 δ rest E)
    (hbase : attributeBase (.Subscript e (.Constant (.int 1) j p2) p1) "append" X.env (eval (.Subscript e (.Constant (.int 1) j p2) p1) X.env) = eval (.Subscript e (.Constant (.int 1) j p2) p1) X.env := by rfl)
    (hfew : ((backTo cpos (starEach [c] X.env)).all (fun x => !x.1) && (backToKw cpos (keywordEach [] X.env)).all (fun x => x.1.isSome) && decide ([c].length + ([] : List Keyword).length + (if ([] : List Keyword).isEmpty then 0 else 1) < 30)) = true := by rfl)
    (hline : (apos.endLine == cpos.line) = true := by rfl) (hs : starEach [c] X.env = (false, eval c X.env) :: starEach [] X.env := by rfl) (hsw : swapsWith (.Call (.Attribute (.Subscript e (.Constant (.int 1) j p2) p1) "append" apos) [c] [] cpos) none epos.line X.env = pure false := by rfl) (hp : PlainIx (.Constant (.int 1) j p2) := by intro _ _; rfl) :
    Ws X B0 H0 δ (.Expr (.Call (.Attribute (.Subscript e (.Constant (.int 1) j p2) p1) "append" apos) [c] [] cpos) epos :: rest) E := by
  have base : PE X (.Subscript e (.Constant (.int 1) j p2) p1) (fun σ H Q => ∃ B, Ext B0 H0 B H ∧ SD X.K H0 B H σ δ ∧ ∀ l vs B' H', Ext B H B' H' → H l = none → B' l = none → H' l = some (.lst vs) → Dqs B' vs ys → Q (.ref l) H') :=
    pe_to (pe_ix ix_seq he (p_int (i := 1) (j := j) (pos := p2) (X := X) (B0 := B0) (H0 := H0) (δ := δ)) hp) fun σ H Q ⟨B, E0, S, k⟩ => ⟨B, E0, S, fun v B1 H1 E1 r f => ⟨B1, E0.tr E1, S.mono E1, fun u B2 H2 E2 r2 => by
      have fr := f
      obtain ⟨t, ws, rfl, hb, hl, hw, hsp, hn⟩ := r
      cases ws with
      | nil => have hw : FdW B1 H1 [] _ := hw; cases hw
      | cons w0 ws =>
        have hw : FdW B1 H1 (("", w0) :: nm ws) (("", Fd.d x) :: nm [Fd.o ys]) := hw
        cases hw with
        | cons r0 hw =>
          cases ws with
          | nil => have hw : FdW B1 H1 [] _ := hw; cases hw
          | cons w1 ws =>
            have hw : FdW B1 H1 (("", w1) :: nm ws) (("", Fd.o ys) :: nm []) := hw
            cases hw with
            | cons r1 hw =>
              cases ws with
              | cons _ _ => have hw : FdW B1 H1 ((_, _) :: _) [] := hw; cases hw
              | nil =>
                obtain ⟨q, vs, rfl, hbq, hq, hd⟩ := r1
                have fq : Fp H1 (.ref t) (.nf true [.d x, .o ys]) q := .inr ⟨t, [w0, .ref q], 1, rfl, hl, ⟨"", .o ys, rfl, rfl, rfl⟩⟩
                refine .inr (.inl ⟨t, [w0, .ref q], 1, .ref q, rfl, ra_int r2, .inl (.inl (E2.h _ _ hl)), rfl, ?_⟩)
                exact k q vs B2 H2 (E1.tr E2) (fr q fq) (by rw [E2.n q (by rw [hq]; simp)]; exact hbq) (E2.h _ _ hq) (dqs_sub E2.b _ _ hd)⟩⟩
  have key := pe_bm PySem.F.plainAttrs_list PySem.F.slot_list_append PySem.F.type_list_append mt_append base (pa_cons hc pa_nil hs) hbase hfew hline hs rfl
  refine ws_cons (W := fun B H d => B = B0 ∧ H = H0 ∧ d = δ) (ps_expr key hsw) (fun B H d ⟨h1, h2, h3⟩ => by rw [h1, h2, h3]; exact hr) fun D σ H B E0 S z => ⟨B, E0, S, fun l vs B1 H1 E1 hl0 hb hl hd => ?_⟩
  refine .inl ⟨rfl, _, .inl (.inl hl)⟩ |> fun w => ⟨w, B1, E0.tr E1, S.mono E1, fun u B2 H2 E2 r => ?_⟩
  have hl2 := E2.h _ _ hl
  have hb2 : B2 l = none := by rw [E2.n l (by rw [hl]; simp)]; exact hb
  refine ⟨l, vs, u, rfl, rfl, hl2, small1000 (by rw [dqs_len hd]; omega), ?_⟩
  have E3 := E1.tr E2
  have ap := S.apart E0.h E3 hl0
  have E4 := E0.tr E3
  exact z.nx _ _ _ σ B2 _ ⟨rfl, rfl, rfl⟩ E3.b ⟨E4.b, sub_upd E4.h ap.1, sub_upd E4.s hb2, E4.n⟩ ((S.mono E3).free E4.h hb2 ap.1 ap.2)
end
end GL
namespace GL
open PySem PySem.Spec L2
/-- a word as it is told; with a copy of its list -/
abbrev wrD (w : GM.Wd × List Int) : PyData := .tuple [.str (wdS w.1), li w.2]
abbrev wwD (w : GM.Wd × List Int) : PyData := .tuple [wrD w, li w.2]
theorem wds_ok (d : GM.Wd) : PyData.strOk (wdS d) = true := by cases d <;> kernel_rfl
theorem sh_wr (w : GM.Wd × List Int) : Sh 3 (wrD w) := Sh.up (sh_tuple (n := 2) fun d hd => by
  rcases List.mem_cons.mp hd with rfl | hd
  · exact sh_str _ (wds_ok _)
  · rw [List.mem_singleton.mp hd]; exact Sh.up (sh_li _))
theorem wAt_get {S : GM.YS} {n : Int} (h : n.toNat < S.words.length) : S.words[n.toNat]? = some (wAt S n) := by
  unfold wAt
  rw [List.getD_eq_getElem?_getD, List.getElem?_eq_getElem h]
  rfl
theorem wAt_last {S : GM.YS} {ws : List (GM.Wd × List Int)} {w : GM.Wd × List Int} (h : S.words = ws ++ [w]) : wAt S ws.length = w := by
  unfold wAt
  rw [h, Int.toNat_natCast, List.getD_eq_getElem?_getD, List.getElem?_append_right (Nat.le_refl _), Nat.sub_self]
  rfl
end GL

set_option Elab.async false
set_option linter.all false
set_option maxRecDepth 100000
set_option maxHeartbeats 4000000
/-! GA: lists handed on: walked, made a tuple -/
namespace GL
open PySem PySem.Spec L2
section
variable {X : Cx} {B0 H0 : Hp} {δ δ' : List (Option A)} {e e1 e2 o c : Expr} {es : List Expr} {a a0 a1 a2 : A} {xs ys : List PyData} {x y : PyData} {pos p1 p2 p3 apos : Pos} {k i : Nat} {iter tg : Expr} {p : Addr}
/-- what is walked stands in the first heap -/
def Piz (X : Cx) (B0 H0 : Hp) (δ : List (Option A)) (tg iter : Expr) (xs : List PyData) : Prop := PI X tg iter fun σ H R => ∃ B, Ext B0 H0 B H ∧ SD X.K H0 B H σ δ ∧ ∀ J B' H', Ext B H B' H' → Wkr J B' H0 xs → R J H'
theorem i_rdz (i : Nat) {xn : Str} (hd : δ[i]? = some (some (.r xs))) (hN : X.N[i]? = some xn := by rfl) (hv : Vis X.env.scope xn := by first | exact .inl rfl | exact .inr (.inl rfl) | exact .inr (.inr rfl)) (h1 : (xn == ("__debug__" : Str)) = false := by decide) (h2 : (xn == ("__classdict__" : Str)) = false := by decide) : Piz X B0 H0 δ tg (.Name xn pos) xs :=
  pi_to (pi_list (pe_var (i := i) hN hv h1 h2)) fun σ H R ⟨B, E0, S, k⟩ => by
    obtain ⟨v, hσ, r⟩ := S.rel i _ hd
    obtain ⟨Bz, sz, p, vs, rfl, hp, hdz⟩ := S.rd i _ v hd rfl hσ
    refine ⟨_, hσ, p, rfl, ⟨vs, .inl (.inl (E0.h _ _ hp))⟩, k _ B H (.rfl' S.s) fun k B2 H2 s1 s2 s3 => ?_⟩
    have hl : SqL X.K H2 p vs := .inl (.inl (s3 _ _ hp))
    refine ⟨fun x hx => ?_, fun hk => ⟨vs, hl, by rw [dqs_len hdz]; omega⟩⟩
    obtain ⟨u, hu, du⟩ := dqs_get hdz k x hx
    refine ⟨⟨vs, u, hl, hu⟩, fun v H3 hy => ?_⟩
    obtain ⟨rfl, hv⟩ := hy
    have e : v = u := Option.some.inj ((hv vs hl).symm.trans hu)
    subst e
    exact ⟨B2, .rfl' s2, dq_sub (sz.tr s1) _ _ du⟩
/-- for x in iter, a list that is read -/
theorem ws_forR {E : AE} {rest body : List Stmt} {i : Nat} {xn : Str} (I : Nat → Hp → Hp → List (Option A) → Prop) (hi : Piz X B0 H0 δ (.Name xn p1) iter xs) (up : ∀ k B H δ', I k B H δ' → Sub H0 H) (h0 : I 0 B0 H0 δ)
    (hs : ∀ k x B H δ', xs[k]? = some x → I k B H δ' → Ws X B H (δ'.set i (some (.d x))) body { E with nx := I (k + 1), ct := I (k + 1), bk := fun B H δ' => Ws X B H δ' rest E })
    (hr : ∀ B H δ', I xs.length B H δ' → Ws X B H δ' rest E) (hx : X.N[i]? = some xn) (hN : X.N.Nodup) (hl : Loc X.env.scope xn) (hc : X.calm = true) (hp : PassesOwn (model X.prog X.w) X.A X.env X.xe)
    (hf : X.fn xn = true ∨ X.env.scope.names.lookup xn = some .local := by first | exact .inl rfl | exact .inr rfl | assumption) (hfs : ∀ x, foldedSetIterable iter X.env x = pure x := by intro _; rfl) : Ws X B0 H0 δ (.For (.Name xn p1) iter body [] pos :: rest) E := by
  have hb : PSs X body (fun D σ H => ∃ k x B1 H1 δ1, xs[k]? = some x ∧ I k B1 H1 δ1 ∧ tWs X.K B1 H1 (δ1.set i (some (.d x))) { E with nx := I (k + 1), ct := I (k + 1), bk := fun B H δ' => Ws X B H δ' rest E } D σ H) :=
    ⟨fun pins s σ H D J ⟨k, x, B1, H1, δ1, hx, hI, q⟩ => (hs k x B1 H1 δ1 hx hI).run pins s σ H D J q⟩
  refine ws_cons (W := fun B H δ' => Ws X B H δ' rest E) (ps_for hp hc hi (pg_name hN hx hl hf) hb hfs) (fun _ _ _ q => q) fun D σ H B E0 S z => ⟨B, E0, S, fun J Bs Hs E1 hw => ?_⟩
  refine ⟨fun k m σ' H' => m = xs.length - k ∧ k ≤ xs.length ∧ ∃ B' B1 H1 δ1, Sub Bs B' ∧ I k B1 H1 δ1 ∧ Ext B1 H1 B' H' ∧ SD X.K H1 B' H' σ' δ1, ⟨xs.length, rfl, Nat.zero_le _, Bs, B0, H0, δ, Sub.rfl', h0, E0.tr E1, S.mono E1⟩, ?_⟩
  rintro k m σ' H' ⟨rfl, hk, B', B1, H1, δ1, sb, hI, E2, S2⟩
  obtain ⟨w1, w2⟩ := hw k B' H' sb S2.s ((up _ _ _ _ hI).tr E2.h)
  by_cases h : k < xs.length
  · have hx : xs[k]? = some xs[k] := List.getElem?_eq_getElem h
    obtain ⟨go, yl⟩ := w1 _ hx
    refine .inr ⟨go, fun σ3 H3 => ∃ B3 B4 H4 δ4, Sub Bs B3 ∧ I (k + 1) B4 H4 δ4 ∧ Ext B4 H4 B3 H3 ∧ SD X.K H4 B3 H3 σ3 δ4, fun σ3 H3 ⟨B3, B4, H4, δ4, q1, q2, q3, q4⟩ => ⟨xs.length - (k + 1), by omega, rfl, h, B3, B4, H4, δ4, q1, q2, q3, q4⟩, fun v H3 hy => ?_⟩
    obtain ⟨B3, E3, dv⟩ := yl v H3 hy
    refine ⟨k, xs[k], B1, H1, δ1, hx, hI, B3, E2.tr E3, (S2.mono E3).set dv rfl, ?_⟩
    have s3 : Sub Bs B3 := sb.tr E3.b
    exact ⟨fun B4 H4 δ4 σ4 B5 H5 q1 q2 q3 q4 => ⟨B5, B4, H4, δ4, s3.tr q2, q1, q3, q4⟩, z.rt, fun B4 H4 δ4 σ4 B5 H5 q1 q2 => z.nx B4 H4 δ4 σ4 B5 H5 q1 ((E1.b.tr s3).tr q2), fun B4 H4 δ4 σ4 B5 H5 q1 q2 q3 q4 => ⟨B5, B4, H4, δ4, s3.tr q2, q1, q3, q4⟩⟩
  · have e : k = xs.length := by omega
    subst e
    exact .inl ⟨w2 rfl, z.nx _ _ _ _ B' H' (hr _ _ _ hI) (E1.b.tr sb) E2 S2⟩
theorem p_tupleR (ha : Pe X B0 H0 δ e a) [l : Ls a xs] (hm : X.mg "tuple" = none) (hg : Gl X "tuple" := by rfl) (he : starEach [e] X.env = (false, eval e X.env) :: starEach [] X.env := by rfl) : Pe X B0 H0 δ (.Call (.Name "tuple" p1) [e] [] pos) (.d (.tuple xs)) :=
  pe_to (pe_tupleOf hg hm ha he) fun σ H Q ⟨B, E0, S, k⟩ => ⟨B, E0, S, fun v B1 H1 E1 r => by
    obtain ⟨q, vs, rfl, hp, hd⟩ := l.at E1.s r
    exact .inl ⟨_, _, rfl, .inl (.inl hp), fun p hp => We.tup (K := X.K) (we_mono _ _ _ _ _ k E1) E1.s hp hd⟩⟩
end
instance tup_o {xs} : TupR (.o xs) (.d (.tuple xs)) := ⟨fun _ _ _ _ _ _ _ h h1 h2 h3 => p_tupleR h h1 h2 h3⟩
instance tup_op {p xs} : TupR (.op p xs) (.d (.tuple xs)) := ⟨fun _ _ _ _ _ _ _ h h1 h2 h3 => p_tupleR h h1 h2 h3⟩
instance tup_r {xs} : TupR (.r xs) (.d (.tuple xs)) := ⟨fun _ _ _ _ _ _ _ h h1 h2 h3 => p_tupleR h h1 h2 h3⟩
theorem in_words (d : GM.Wd) : ([PyData.str (wdS .new), .str (wdS .known)].any fun z => PyData.eqv z (.str (wdS d))) = GM.kep d := by cases d <;> kernel_rfl
theorem Ptx.is {X : Cx} {B0 H0 : Hp} {δ δ' : List (Option A)} {e : Expr} {b b' : Bool} (h : Ptx X B0 H0 δ e δ' b) (q : b = b') : Ptx X B0 H0 δ e δ' b' := q ▸ h
theorem sh_told (S : GM.YS) (qs : List Int) : Sh 3 (toldD S qs) := by
  unfold toldD
  split
  · exact sh_none _
  · exact Sh.up (sh_ti _)
theorem sh_pieces (S : GM.YS) : Sh 4 (.list (piecesD S)) := sh_list (n := 3) fun d hd => by
  unfold piecesD at hd
  obtain ⟨x, _, rfl⟩ := List.mem_map.mp hd
  exact sh_told S _
theorem pieces_len (S : GM.YS) : (piecesD S).length = S.many.toNat := by unfold piecesD; rw [List.length_map, List.length_range]
theorem pieces_at {S : GM.YS} {k : Nat} (hk : k < S.many.toNat) : atI (piecesD S) (k : Int) = some (toldD S [(k : Int)]) := at_k k (by
  unfold piecesD
  rw [List.getElem?_map, List.getElem?_range hk]
  rfl)
theorem pieces_none {S : GM.YS} {k : Nat} (I : GM.YInv S k) : ((piecesD S).any fun z => PyData.eqv z .none) = !decide (S.rows.length = S.many.toNat) := by
  have im := I.m
  have full := GM.rows_full (w := S.wide.toNat) I.ech (by omega)
  by_cases h : S.rows.length = S.many.toNat
  · rw [decide_eq_true h]
    refine List.any_eq_false.mpr fun z hz => ?_
    unfold piecesD at hz
    obtain ⟨x, hx, rfl⟩ := List.mem_map.mp hz
    have hx := List.mem_range.mp hx
    have e : toldD S [(x : Int)] = ti (GM.askR S [(x : Int)]).2.1 := if_neg (by simpa using full.mp h x (by omega))
    rw [e]
    simp [PyData.eqv]
  · rw [decide_eq_false h]
    refine List.any_eq_true.mpr ?_
    refine Classical.byContradiction fun no => h (full.mpr fun x hx => Classical.byContradiction fun hn => no ⟨toldD S [x], ?_, ?_⟩)
    · unfold piecesD
      exact List.mem_map.mpr ⟨x.toNat, List.mem_range.mpr (by omega), by rw [Int.toNat_of_nonneg hx.1]⟩
    · unfold toldD
      rw [if_pos hn]
      rfl
theorem is_new (d : GM.Wd) : decide (wdS d = "new") = decide (d = .new) := by cases d <;> kernel_rfl
end GL

set_option Elab.async false
set_option linter.all false
set_option maxRecDepth 100000
set_option maxHeartbeats 4000000
/-! GB: new lists of new lists -/
namespace GL
open PySem PySem.Spec L2
/-! ### items without names -/
theorem nm_app {α : Type} (a b : List α) : nm (a ++ b) = nm a ++ nm b := List.map_append
theorem nm_get {α : Type} {l : List α} {i : Nat} {n : Str} {x : α} (h : (nm l)[i]? = some (n, x)) : n = "" ∧ l[i]? = some x := by
  unfold nm at h
  rw [List.getElem?_map] at h
  cases e : l[i]? with
  | none => rw [e] at h; cases h
  | some y => rw [e] at h; cases h; exact ⟨rfl, rfl⟩
theorem get_nm {α : Type} {l : List α} {i : Nat} {x : α} (h : l[i]? = some x) : (nm l)[i]? = some (("" : Str), x) := by
  unfold nm
  rw [List.getElem?_map, h]
  rfl
theorem fdp_nm {vs : List V} {fs : List Fd} {i : Nat} {q : Addr} : FdP (nm vs) (nm fs) i q ↔ vs[i]? = some (.ref q) ∧ ∃ f, fs[i]? = some f ∧ f.own = true := by
  constructor
  · rintro ⟨n, f, h1, h2, h3⟩
    exact ⟨(nm_get h1).2, f, (nm_get h2).2, h3⟩
  · rintro ⟨h1, f, h2, h3⟩
    exact ⟨"", f, get_nm h1, get_nm h2, h3⟩
theorem fdw_app {B H : Hp} {v : V} {f : Fd} (r : FdR B H v f) : ∀ {vs : List V} {fs : List Fd}, FdW B H (nm vs) (nm fs) → FdW B H (nm (vs ++ [v])) (nm (fs ++ [f]))
  | [], [], _ => .cons r .nil
  | [], _ :: _, w => by cases w
  | _ :: _, [], w => by cases w
  | a :: vs, b :: fs, w => by
    have w : FdW B H (("", a) :: nm vs) (("", b) :: nm fs) := w
    cases w with
    | cons r0 t => exact .cons r0 (fdw_app r t)
theorem fdw_nlen {B H : Hp} {vs : List V} {fs : List Fd} (w : FdW B H (nm vs) (nm fs)) : vs.length = fs.length := by
  have := fdw_len w
  unfold nm at this
  rwa [List.length_map, List.length_map] at this
theorem fdw_nget {B H : Hp} : ∀ {vs : List V} {fs : List Fd}, FdW B H (nm vs) (nm fs) → ∀ (i : Nat) (f : Fd), fs[i]? = some f → ∃ v, vs[i]? = some v ∧ FdR B H v f
  | [], [], _, i, f, h => by simp at h
  | [], _ :: _, w, _, _, _ => by cases w
  | _ :: _, [], w, _, _, _ => by cases w
  | a :: vs, b :: fs, w, i, f, h => by
    have w : FdW B H (("", a) :: nm vs) (("", b) :: nm fs) := w
    cases w with
    | cons r0 t =>
      cases i with
      | zero =>
        have e := Option.some.inj h
        subst e
        exact ⟨a, rfl, r0⟩
      | succ i => exact fdw_nget t i f h
theorem fdw_nset {B H H' : Hp} {f' : Fd} {v : V} : ∀ {vs : List V} {fs : List Fd} (m : Nat), FdW B H (nm vs) (nm fs) → vs[m]? = some v → FdR B H' v f' → (∀ i q u, i ≠ m → FdP (nm vs) (nm fs) i q → H q = some u → H' q = some u) → FdW B H' (nm vs) (nm (fs.set m f'))
  | [], [], _, _, h, _, _ => by simp at h
  | [], _ :: _, _, w, _, _, _ => by cases w
  | _ :: _, [], _, w, _, _, _ => by cases w
  | a :: vs, b :: fs, m, w, h, r, k => by
    have w : FdW B H (("", a) :: nm vs) (("", b) :: nm fs) := w
    cases w with
    | cons r0 t =>
      cases m with
      | zero =>
        have e := Option.some.inj h
        subst e
        exact .cons r (fdw_to Sub.rfl' (fun i q u g hb hq => ⟨hb, k (i + 1) q u (by omega) (let ⟨n, f, h1, h2, h3⟩ := g; ⟨n, f, h1, h2, h3⟩) hq⟩) t)
      | succ m =>
        exact .cons (fdr_to Sub.rfl' (fun q u ev o hb hq => ⟨hb, k 0 q u (by omega) ⟨"", b, by rw [ev]; rfl, rfl, o⟩ hq⟩) r0) (fdw_nset m t h r fun i q u ni g hq => k (i + 1) q u (by omega) (let ⟨n, f, h1, h2, h3⟩ := g; ⟨n, f, h1, h2, h3⟩) hq)
/-! ### what is walked, told by what the items are -/
def Wka (K : PySem.W.Frag) (J : It) (B Hz : Hp) (its : List A) : Prop :=
  ∀ (k : Nat) (B' H' : Hp), Sub B B' → Sub B' H' → Sub Hz H' → (∀ a, its[k]? = some a → J.go k H' ∧ ∀ v H2, J.yld k H' v H2 → ∃ B2, Ext B' H' B2 H2 ∧ RA K B2 H2 v a) ∧ (k = its.length → J.stop k H')
def Pia (X : Cx) (B0 H0 : Hp) (δ : List (Option A)) (tg iter : Expr) (its : List A) : Prop := PI X tg iter fun σ H R => ∃ B, Ext B0 H0 B H ∧ SD X.K H0 B H σ δ ∧ ∀ J B' H', Ext B H B' H' → Wka X.K J B' H' its → R J H'
section
variable {X : Cx} {B0 H0 : Hp} {δ δ' : List (Option A)} {e e1 e2 o c : Expr} {es : List Expr} {a a0 a1 a2 : A} {xs ys : List PyData} {x y : PyData} {pos p1 p2 p3 apos : Pos} {k i : Nat} {iter tg : Expr} {p : Addr} {vs : List V} {fs : List Fd}
theorem Pir.pia (h : Pir X B0 H0 δ tg iter xs) : Pia X B0 H0 δ tg iter (xs.map .d) := pi_to h fun σ H R ⟨B, E, S, k⟩ => ⟨B, E, S, fun J B' H' E1 w => k J B' H' E1 fun n B2 H2 s1 s2 s3 => by
  obtain ⟨w1, w2⟩ := w n B2 H2 s1 s2 s3
  refine ⟨fun a ha => ?_, fun h => w2 (by rw [h, List.length_map])⟩
  rw [List.getElem?_map] at ha
  cases hu : xs[n]? with
  | none => rw [hu] at ha; cases ha
  | some u =>
    rw [hu] at ha
    cases ha
    obtain ⟨go, yl⟩ := w1 u hu
    exact ⟨go, fun v H3 hy => yl v H3 hy⟩⟩
theorem i_own (i : Nat) {xn : Str} (hd : δ[i]? = some (some (.np false p vs fs))) (hN : X.N[i]? = some xn := by rfl) (hv : Vis X.env.scope xn := by first | exact .inl rfl | exact .inr (.inl rfl) | exact .inr (.inr rfl)) (h1 : (xn == ("__debug__" : Str)) = false := by decide) (h2 : (xn == ("__classdict__" : Str)) = false := by decide) : Pia X B0 H0 δ tg (.Name xn pos) (vs.map .v) :=
  pi_to (pi_list (pe_var (i := i) hN hv h1 h2)) fun σ H R ⟨B, E0, S, k⟩ => by
    obtain ⟨v, hσ, rfl, hb, hl, hw, hs, hn⟩ := S.rel i _ hd
    have hl : H p = some (.lst vs) := hl
    refine ⟨_, hσ, p, rfl, ⟨vs, .inl (.inl hl)⟩, k _ B H (.rfl' S.s) fun n B2 H2 s1 s2 s3 => ?_⟩
    have hl2 : SqL X.K H2 p vs := .inl (.inl (s3 _ _ hl))
    refine ⟨fun a ha => ?_, fun h => ⟨vs, hl2, by rw [h, List.length_map]; exact Nat.le_refl _⟩⟩
    rw [List.getElem?_map] at ha
    cases hu : vs[n]? with
    | none => rw [hu] at ha; cases ha
    | some u =>
      rw [hu] at ha
      cases ha
      refine ⟨⟨vs, u, hl2, hu⟩, fun v H3 hy => ?_⟩
      obtain ⟨rfl, hv⟩ := hy
      have e : v = u := Option.some.inj ((hv vs hl2).symm.trans hu)
      subst e
      exact ⟨B2, .rfl' s2, rfl⟩
def tPf (K : PySem.W.Frag) (B0 H0 : Hp) (δ : List (Option A)) (a : A) : TE := fun σ H Q => ∃ B, Ext B0 H0 B H ∧ SD K H0 B H σ δ ∧ ∀ v B' H', Ext B H B' H' → RA K B' H' v a → (∀ q, Fp H' v a q → H q = none) → Q v H'
theorem lcN_imp {K : PySem.W.Frag} {α : Type} {zs : List α} {kind : α → A} {f : α → Bool} {g : α → List PyData} {i : Nat} (kn : ∀ z, owns (kind z) = false ∧ reads (kind z) = false) (hl : zs.length ≤ 1000) (σ : L2.St) (H : Hp) (Q : VK) (h : tPf K B0 H0 δ (.nf false ((zs.filter f).map fun z => .o (g z))) σ H Q) :
    tLc (fun σ H R => ∃ B, Ext B0 H0 B H ∧ SD K H0 B H σ δ ∧ ∀ J B' H', Ext B H B' H' → Wka K J B' H' (zs.map kind) → R J H') (gName i) (fun σ H Q => ∃ z, z ∈ zs ∧ tPt K B0 H0 ((δ.set i none).set i (some (kind z))) (f z) σ H Q) (fun σ H Q => ∃ z, (z ∈ zs ∧ f z = true) ∧ tPn K B0 H0 ((δ.set i none).set i (some (kind z))) (g z) σ H Q) [i] σ H Q := by
  obtain ⟨B, E0, S, k⟩ := h
  refine ⟨B, E0, S, fun J Bs Hs E hw D hD => ?_⟩
  have len : (zs.map kind).length = zs.length := List.length_map _
  have S0 : SD K H0 Bs Hs (wipe σ [i]) (wipeD δ [i]) := sd_wipe (S.mono E) [i]
  have Bsub : Sub Bs Hs := E.s
  refine ⟨fun n m H' => m = zs.length - n ∧ n ≤ zs.length ∧ ∃ B' vs, Ext Bs Hs B' H' ∧ B' D = none ∧ H' D = some (.lst vs) ∧ FdW B' H' (nm vs) (nm (((zs.take n).filter f).map fun z => Fd.o (g z))) ∧ Sep (nm vs) (nm (((zs.take n).filter f).map fun z => Fd.o (g z))) ∧ ∀ i q, FdP (nm vs) (nm (((zs.take n).filter f).map fun z => Fd.o (g z))) i q → q ≠ D ∧ Hs q = none, ⟨zs.length, rfl, Nat.zero_le _, Bs, [], .own Bsub hD, sub_free Bsub hD, upd_same, .nil, fun i j q h _ => by obtain ⟨h, _⟩ := fdp_nm.mp h; simp at h, fun i q h => by obtain ⟨h, _⟩ := fdp_nm.mp h; simp at h⟩, ?_⟩
  rintro n m H' ⟨rfl, hn, B', vs, E1, hb, hl', hd, hsp, hfr⟩
  have vlen : vs.length ≤ zs.length := by
    rw [fdw_nlen hd, List.length_map]
    exact Nat.le_trans (List.length_filter_le _ _) (by rw [List.length_take]; exact Nat.min_le_right _ _)
  obtain ⟨w1, w2⟩ := hw n B' H' E1.b E1.s E1.h
  by_cases h : n < zs.length
  · have hz : zs[n]? = some zs[n] := List.getElem?_eq_getElem h
    have hmem : zs[n] ∈ zs := List.getElem_mem h
    obtain ⟨go, yl⟩ := w1 (kind zs[n]) (by rw [List.getElem?_map, hz]; rfl)
    have tk : zs.take (n + 1) = zs.take n ++ [zs[n]] := by rw [List.take_add_one, hz]; rfl
    refine .inr ⟨go, fun H2 => ∃ B' vs, Ext Bs Hs B' H2 ∧ B' D = none ∧ H2 D = some (.lst vs) ∧ FdW B' H2 (nm vs) (nm (((zs.take (n + 1)).filter f).map fun z => Fd.o (g z))) ∧ Sep (nm vs) (nm (((zs.take (n + 1)).filter f).map fun z => Fd.o (g z))) ∧ ∀ i q, FdP (nm vs) (nm (((zs.take (n + 1)).filter f).map fun z => Fd.o (g z))) i q → q ≠ D ∧ Hs q = none, fun H2 q => ⟨zs.length - (n + 1), by omega, rfl, h, q⟩, fun v H2 hy => ?_⟩
    obtain ⟨B2, E2, dv⟩ := yl v H2 hy
    have E12 := E1.tr E2
    have S2 : SD K H0 B2 H2 ((wipe σ [i]).set i (some v)) ((wipeD δ [i]).set i (some (kind zs[n]))) := SD.set (S0.mono E12) dv (kn _).1 (kn _).2
    show wipe ((wipe σ [i]).set i (some v)) [i] = wipe σ [i] ∧ _
    refine ⟨?_, zs[n], hmem, B2, (E0.tr E).tr E12, S2, fun B3 H3 E3 => ?_⟩
    · show ((σ.set i none).set i (some v)).set i none = σ.set i none
      rw [List.set_set, List.set_set]
    · have E23 := E2.tr E3
      have hD3 : H3 D = some (.lst vs) := E23.h _ _ hl'
      have hB3 : B3 D = none := by
        rw [E23.n D (by rw [hl']; simp)]
        exact hb
      have hd3 : FdW B3 H3 (nm vs) (nm (((zs.take n).filter f).map fun z => Fd.o (g z))) := fdw_to E23.b (fun i q u gq hbq hq => ⟨by rw [E23.n q (by rw [hq]; simp)]; exact hbq, E23.h _ _ hq⟩) hd
      cases hf : f zs[n] with
      | false =>
        refine iteF ⟨B3, vs, E12.tr E3, hB3, hD3, ?_⟩
        have e : (zs.take (n + 1)).filter f = (zs.take n).filter f := by
          rw [tk, List.filter_append, List.filter_cons, hf]
          show (zs.take n).filter f ++ [] = _
          rw [List.append_nil]
        rw [e]
        exact ⟨hd3, hsp, hfr⟩
      | true =>
        refine iteT ⟨zs[n], ⟨hmem, hf⟩, B3, ((E0.tr E).tr E12).tr E3, S2.mono E3, fun q ws B4 H4 E4 hq hbq hlq hdq => ?_⟩
        have hD4 : H4 D = some (.lst vs) := E4.h _ _ hD3
        have hB4 : B4 D = none := by rw [E4.n D (by rw [hD3]; simp)]; exact hB3
        have qD : q ≠ D := fun e => by rw [e, hD3] at hq; cases hq
        have e : (zs.take (n + 1)).filter f = (zs.take n).filter f ++ [zs[n]] := by
          rw [tk, List.filter_append, List.filter_cons, hf]
          rfl
        have Eall := (E12.tr E3).tr E4
        have hd4 : FdW B4 (upd H4 D (.lst (vs ++ [.ref q]))) (nm vs) (nm (((zs.take n).filter f).map fun z => Fd.o (g z))) := fdw_to E4.b (fun i r u gr hbr hr => ⟨by rw [E4.n r (by rw [hr]; simp)]; exact hbr, by rw [upd_ne (hfr i r gr).1]; exact E4.h _ _ hr⟩) hd3
        have new : FdR B4 (upd H4 D (.lst (vs ++ [.ref q]))) (.ref q) (.o (g zs[n])) := ⟨q, ws, rfl, hbq, by rw [upd_ne qD]; exact hlq, hdq⟩
        have old : ∀ i r, FdP (nm (vs ++ [.ref q])) (nm ((((zs.take n).filter f).map fun z => Fd.o (g z)) ++ [.o (g zs[n])])) i r → FdP (nm vs) (nm (((zs.take n).filter f).map fun z => Fd.o (g z))) i r ∨ (i = vs.length ∧ r = q) := fun i r gr => by
          obtain ⟨g1, fd, g2, g3⟩ := fdp_nm.mp gr
          by_cases hi : i < vs.length
          · rw [List.getElem?_append_left hi] at g1
            rw [List.getElem?_append_left (by rw [← fdw_nlen hd]; exact hi)] at g2
            exact .inl (fdp_nm.mpr ⟨g1, fd, g2, g3⟩)
          · rw [List.getElem?_append_right (by omega)] at g1
            cases e : i - vs.length with
            | zero =>
              rw [e] at g1
              cases g1
              exact .inr ⟨by omega, rfl⟩
            | succ j => rw [e] at g1; simp at g1
        have apart : ∀ i r, FdP (nm vs) (nm (((zs.take n).filter f).map fun z => Fd.o (g z))) i r → r ≠ q := fun i r gr e => by
          have := (fdw_at hd3 gr).2
          rw [e, hq] at this
          exact this rfl
        refine ⟨vs, hD4, small1000 (by omega), B4, vs ++ [.ref q], ⟨Eall.b, sub_upd Eall.h hD, sub_upd Eall.s hB4, Eall.n⟩, hB4, upd_same, ?_⟩
        rw [e, List.map_append]
        refine ⟨fdw_app new hd4, fun i j r g1 g2 => ?_, fun i r gr => ?_⟩
        · rcases old i r g1 with g1 | ⟨g1, e1⟩
          · rcases old j r g2 with g2 | ⟨g2, e2⟩
            · exact hsp i j r g1 g2
            · exact absurd e2 (apart i r g1)
          · rcases old j r g2 with g2 | ⟨g2, e2⟩
            · exact absurd e1 (apart j r g2)
            · rw [g1, g2]
        · rcases old i r gr with gr | ⟨_, e1⟩
          · exact hfr i r gr
          · rw [e1]
            exact ⟨qD, sub_free (E12.tr E3).h hq⟩
  · have e : n = zs.length := by omega
    subst e
    refine .inl ⟨w2 (by rw [len]), ?_⟩
    rw [List.take_length] at hd hsp hfr
    refine k (.ref D) B' H' (E.tr E1) ⟨D, vs, rfl, hb, hl', hd, hsp, fun i q gq => (hfr i q gq).1⟩ fun q gq => ?_
    rcases gq with gq | ⟨p', vs', i, g1, g2, g3⟩
    · cases gq
      exact sub_free E.h hD
    · cases g1
      rw [hl'] at g2
      have e := seqO_inj (t := false) (Option.some.inj g2)
      subst e
      exact sub_free E.h (hfr i q g3).2
/-- [elt for x in iter if ..], each element a new list -/
theorem f_lcN {α : Type} {zs : List α} {kind : α → A} {f : α → Bool} {g : α → List PyData} {i : Nat} {xn : Str} {elt : Expr} {ifs : List Expr} {scope : Scope} {its : List A} (hi : Pia X B0 H0 δ (.Name xn p1) iter its) (hx : its = zs.map kind) (kn : ∀ z, owns (kind z) = false ∧ reads (kind z) = false)
    (ht : ∀ z, z ∈ zs → ∀ (s : Shared) (H : Hp) (C : Addr) (cl : List (Str × Addr)) (fp : List Addr), Pts (X.blk s H scope (compEnvC scope cl C X.env) fp) B0 H0 ((δ.set i none).set i (some (kind z))) ifs (f z))
    (he : ∀ z, z ∈ zs → f z = true → ∀ (s : Shared) (H : Hp) (C : Addr) (cl : List (Str × Addr)) (fp : List Addr), Pn (X.blk s H scope (compEnvC scope cl C X.env) fp) B0 H0 ((δ.set i none).set i (some (kind z))) elt (g z))
    (hl : zs.length ≤ 1000) (hc : X.calm = true) (hN : X.N.Nodup) (ok : blkC X.N X.env.scope scope [(xn, i)] = true)
    (hg : ∀ (s : Shared) (H : Hp) (C : Addr) (cl : List (Str × Addr)) (fp : List Addr), PG (X.blk s H scope (compEnvC scope cl C X.env) fp) (.Name xn p1) (gName i))
    (hs : ∀ x, foldedSetIterable iter X.env x = pure x := by intro _; rfl) : Pf X B0 H0 δ (.ListComp elt [⟨.Name xn p1, iter, ifs, 0⟩] scope pos) (.nf false ((zs.filter f).map fun z => .o (g z))) := by
  subst hx
  exact pe_to (pe_lc (own := [(xn, i)]) (pos := pos) (tt := fun σ H Q => ∃ z, z ∈ zs ∧ tPt X.K B0 H0 ((δ.set i none).set i (some (kind z))) (f z) σ H Q) (te := fun σ H Q => ∃ z, (z ∈ zs ∧ f z = true) ∧ tPn X.K B0 H0 ((δ.set i none).set i (some (kind z))) (g z) σ H Q) hc hN hi (blkOk_by ok) hg (fun s H C cl fp => ⟨fun pins s2 σ H2 Q J ⟨z, hz, q⟩ => (ht z hz s H C cl fp).run pins s2 σ H2 Q J q⟩)
    (fun s H C cl fp => ⟨fun pins s2 σ H2 Q J ⟨z, hz, q⟩ => (he z hz.1 hz.2 s H C cl fp).run pins s2 σ H2 Q J q⟩) hs) fun σ H Q h => lcN_imp kn hl σ H Q h
/-- y = [..], y a plain local name -/
theorem s_lcN {α : Type} {zs : List α} {kind : α → A} {f : α → Bool} {g : α → List PyData} {i j : Nat} {xn y : Str} {py spos : Pos} {elt : Expr} {ifs : List Expr} {scope : Scope} {its : List A} (hi : Pia X B0 H0 δ (.Name xn p1) iter its) (hx : its = zs.map kind) (kn : ∀ z, owns (kind z) = false ∧ reads (kind z) = false)
    (ht : ∀ z, z ∈ zs → ∀ (s : Shared) (H : Hp) (C : Addr) (cl : List (Str × Addr)) (fp : List Addr), Pts (X.blk s H scope (compEnvC scope cl C X.env) fp) B0 H0 ((δ.set i none).set i (some (kind z))) ifs (f z))
    (he : ∀ z, z ∈ zs → f z = true → ∀ (s : Shared) (H : Hp) (C : Addr) (cl : List (Str × Addr)) (fp : List Addr), Pn (X.blk s H scope (compEnvC scope cl C X.env) fp) B0 H0 ((δ.set i none).set i (some (kind z))) elt (g z))
    (hl : zs.length ≤ 1000) (hc : X.calm = true) (hN : X.N.Nodup) (ok : blkC X.N X.env.scope scope [(xn, i)] = true)
    (hg : ∀ (s : Shared) (H : Hp) (C : Addr) (cl : List (Str × Addr)) (fp : List Addr), PG (X.blk s H scope (compEnvC scope cl C X.env) fp) (.Name xn p1) (gName i))
    (hy : X.N[j]? = some y) (hyl : X.env.scope.names.lookup y = some .local) (hsw : swapsWith (.ListComp elt [⟨.Name xn p1, iter, ifs, 0⟩] scope pos) (some (.Name y py)) spos.line X.env = pure true)
    (hs : ∀ x, foldedSetIterable iter X.env x = pure x := by intro _; rfl) : PS X (.Assign [.Name y py] (.ListComp elt [⟨.Name xn p1, iter, ifs, 0⟩] scope pos) spos) (tAsg (tPf X.K B0 H0 δ (.nf false ((zs.filter f).map fun z => .o (g z)))) (gName j)) := by
  subst hx
  have key := ps_setLc (own := [(xn, i)]) (pos := pos) (spos := spos) (tt := fun σ H Q => ∃ z, z ∈ zs ∧ tPt X.K B0 H0 ((δ.set i none).set i (some (kind z))) (f z) σ H Q) (te := fun σ H Q => ∃ z, (z ∈ zs ∧ f z = true) ∧ tPn X.K B0 H0 ((δ.set i none).set i (some (kind z))) (g z) σ H Q) hc hN hy hyl hsw hi (blkOk_by ok) hg (fun s H C cl fp => ⟨fun pins s2 σ H2 Q J ⟨z, hz, q⟩ => (ht z hz s H C cl fp).run pins s2 σ H2 Q J q⟩)
    (fun s H C cl fp => ⟨fun pins s2 σ H2 Q J ⟨z, hz, q⟩ => (he z hz.1 hz.2 s H C cl fp).run pins s2 σ H2 Q J q⟩) hs
  exact ⟨fun pins s σ H D J q => key.run pins s σ H D J (lcN_imp kn hl σ H _ q)⟩
/-- .. let go at once -/
theorem ws_lcD {E : AE} {rest : List Stmt} {st : Stmt} {i : Nat} {fs : List Fd} {a' : A} (h : PS X st (tAsg (tPf X.K B0 H0 δ (.nf false fs)) (gName i))) (hp : plainF fs = true) (q : GL.A.d (seqD false (fs.map fdD)) = a') (hr : Ws X B0 H0 (δ.set i (some a')) rest E) : Ws X B0 H0 δ (st :: rest) E := by
  subst q
  refine ws_cons (W := fun B H δ' => B = B0 ∧ H = H0 ∧ δ' = δ.set i (some (.d (seqD false (fs.map fdD))))) h (fun B H δ' ⟨h1, h2, h3⟩ => by rw [h1, h2, h3]; exact hr) fun D σ H B E0 S z => ⟨B, E0, S, fun v B' H' E1 r f => ?_⟩
  obtain ⟨p, vs, rfl, hb, hl, hw, hs, hn⟩ := r
  have g0 : Fp H' (.ref p) (.nf false fs) p := .inl rfl
  have E2 : Ext B H (more B' H' (.ref p) (.nf false fs)) H' := ⟨E1.b.tr more_b, E1.h, more_h E1.s, fun q hq => by
    rw [more_no fun g => hq (f q g)]
    exact E1.n q hq⟩
  exact z.nx _ _ _ _ _ H' ⟨rfl, rfl, rfl⟩ E2.b (E0.tr E2) ((S.mono E2).set (a := .d (seqD false (fs.map fdD))) (dq_seq (t := false) (by rw [more_own hb g0]; exact hl) (fdw_dqs more_b hp hw fun i q u g hbq hq => by
      have g1 : Fp H' (.ref p) (.nf false fs) q := .inr ⟨p, vs, i, rfl, hl, g⟩
      rw [more_own hbq g1]
      exact hq)) rfl rfl)
end
end GL

set_option Elab.async false
set_option linter.all false
set_option maxRecDepth 100000
set_option maxHeartbeats 4000000
/-! GC: one's own lists of lists: walked, made longer -/
namespace GL
open PySem PySem.Spec L2
section
variable {X : Cx} {B0 H0 : Hp} {δ δ' : List (Option A)} {e e1 e2 o c : Expr} {es : List Expr} {a a0 a1 a2 : A} {xs ys : List PyData} {x y : PyData} {pos p1 p2 p3 apos : Pos} {k i : Nat} {iter tg : Expr} {p q : Addr} {vs : List V} {fs : List Fd} {t : Bool}
/-- its places are named -/
theorem ws_opn {E : AE} {ss : List Stmt} (i : Nat) (hδ : δ[i]? = some (some (.nf t fs))) (h : ∀ p vs, vs.length = fs.length → (∀ (m : Nat) (ys : List PyData), fs[m]? = some (.o ys) → ∃ q, vs[m]? = some (.ref q)) → Ws X B0 H0 (δ.set i (some (.np t p vs fs))) ss E) : Ws X B0 H0 δ ss E := by
  refine ⟨fun pins s σ H D J ⟨B, E0, S, z⟩ => ?_⟩
  obtain ⟨v, hσ, r⟩ := S.rel i _ hδ
  obtain ⟨p, vs, rfl, hb, hl, hw, hs, hn⟩ := id r
  refine (h p vs (fdw_nlen hw) fun m ys hm => ?_).run pins s σ H D J ⟨B, E0, S.conv E0.h hδ hσ ⟨rfl, hb, hl, hw, hs, hn⟩ (fun q f => ?_) rfl, z⟩
  · obtain ⟨v, h1, q, _, e, _⟩ := fdw_nget hw m _ hm
    exact ⟨q, by rw [h1, e]⟩
  · rcases f with f | ⟨i, f⟩
    · exact .inl f
    · exact .inr ⟨p, vs, i, rfl, hl, f⟩
/-- a name for one of the inner lists: it is read -/
theorem p_alias (j i m : Nat) {x : Str} (hd : δ[j]? = some (some (.v (.ref q)))) (hδ : δ[i]? = some (some (.np t p vs fs))) (hv : vs[m]? = some (.ref q)) (hf : fs[m]? = some (.o xs)) (hN : X.N[j]? = some x := by rfl) (hvis : Vis X.env.scope x := by first | exact .inl rfl | exact .inr (.inl rfl) | exact .inr (.inr rfl)) (h1 : (x == ("__debug__" : Str)) = false := by decide) (h2 : (x == ("__classdict__" : Str)) = false := by decide) : Pe X B0 H0 δ (.Name x pos) (.r xs) :=
  pe_to (pe_var (i := j) hN hvis h1 h2) fun σ H Q ⟨B, E0, S, k⟩ => by
    obtain ⟨v, hσ, r⟩ := S.rel j _ hd
    obtain ⟨_, _, _, _, _, hw, _⟩ := S.rel i _ hδ
    obtain ⟨u, h3, q', ws, e, _, hq, hdq⟩ := fdw_nget hw m _ hf
    rw [hv] at h3
    cases h3
    cases e
    exact ⟨v, hσ, k v B H (.rfl' S.s) ⟨q, ws, r, hq, hdq⟩⟩
/-- one of the inner lists is changed -/
theorem np_put {K : PySem.W.Frag} {B H : Hp} {σ : L2.St} {m : Nat} {ws : List V} (S : SD K H0 B H σ δ) (E : Ext B0 H0 B H) (hδ : δ[i]? = some (some (.np t p vs fs))) (hv : vs[m]? = some (.ref q)) (hf : fs[m]? = some (.o xs)) (hd : Dqs B ws ys) :
    Ext B0 H0 B (upd H q (.lst ws)) ∧ SD K H0 B (upd H q (.lst ws)) σ (δ.set i (some (.np t p vs (fs.set m (.o ys))))) := by
  obtain ⟨v, hσ, r⟩ := S.rel i _ hδ
  obtain ⟨rfl, hb, hl, hw, hs, hn⟩ := id r
  have fq : FdP (nm vs) (nm fs) m q := fdp_nm.mpr ⟨hv, .o xs, hf, rfl⟩
  have qp := hn m q fq
  have bq := (fdw_at hw fq).1
  have h0 := S.fr i _ _ q hδ hσ (.inr ⟨m, fq⟩)
  have same : ∀ j r, FdP (nm vs) (nm (fs.set m (.o ys))) j r → FdP (nm vs) (nm fs) j r := fun j r g => by
    obtain ⟨g1, f, g2, g3⟩ := fdp_nm.mp g
    by_cases e : m = j
    · subst e
      exact fdp_nm.mpr ⟨g1, .o xs, hf, rfl⟩
    · rw [List.getElem?_set_ne e] at g2
      exact fdp_nm.mpr ⟨g1, f, g2, g3⟩
  refine ⟨⟨E.b, sub_upd E.h h0, sub_upd E.s bq, E.n⟩, S.put E.h hδ hσ (fun r u n hr => by rw [upd_ne (fun e => n (by rw [e]; exact .inr ⟨m, fq⟩))]; exact hr) (sub_upd S.s bq) ⟨rfl, hb, by rw [upd_ne qp.symm]; exact hl, fdw_nset m hw hv ⟨q, ws, rfl, bq, upd_same, hd⟩ (fun j r u ne g hr => ?_), fun a b r g1 g2 => hs a b r (same a r g1) (same b r g2), fun j r g => hn j r (same j r g)⟩ (fun r f => ?_) rfl⟩
  · have rq : r ≠ q := fun e => by
      rw [← e] at fq
      exact ne (hs j m r g fq)
    rw [upd_ne rq]
    exact hr
  · rcases f with f | ⟨j, f⟩
    · exact .inl (.inl f)
    · exact .inl (.inr ⟨j, same j r f⟩)
/-- x.append(c), x a name for one of the inner lists -/
theorem ws_appA {E : AE} {rest : List Stmt} {xn : Str} {cpos epos : Pos} (j i m : Nat) (hd : δ[j]? = some (some (.v (.ref q)))) (hδ : δ[i]? = some (some (.np t p vs fs))) (hvm : vs[m]? = some (.ref q)) (hfm : fs[m]? = some (.o xs)) (he : Pe X B0 H0 δ e (.d x)) (hz : xs.length < 1000) (hr : Ws X B0 H0 (δ.set i (some (.np t p vs (fs.set m (.o (xs ++ [x])))))) rest E) (hN : X.N[j]? = some xn) (hv : Vis X.env.scope xn)
    (hbase : attributeBase (.Name xn p1) "append" X.env (eval (.Name xn p1) X.env) = eval (.Name xn p1) X.env := by rfl)
    (hfew : ((backTo cpos (starEach [e] X.env)).all (fun x => !x.1) && (backToKw cpos (keywordEach [] X.env)).all (fun x => x.1.isSome) && decide ([e].length + ([] : List Keyword).length + (if ([] : List Keyword).isEmpty then 0 else 1) < 30)) = true := by rfl)
    (hline : (apos.endLine == cpos.line) = true := by rfl) (hs : starEach [e] X.env = (false, eval e X.env) :: starEach [] X.env := by rfl) (hsw : swapsWith (.Call (.Attribute (.Name xn p1) "append" apos) [e] [] cpos) none epos.line X.env = pure false := by rfl) (h1 : (xn == ("__debug__" : Str)) = false := by decide) (h2 : (xn == ("__classdict__" : Str)) = false := by decide) :
    Ws X B0 H0 δ (.Expr (.Call (.Attribute (.Name xn p1) "append" apos) [e] [] cpos) epos :: rest) E := by
  have key := pe_bm PySem.F.plainAttrs_list PySem.F.slot_list_append PySem.F.type_list_append mt_append (pe_var (X := X) (i := j) (pos := p1) hN hv h1 h2) (pa_cons he pa_nil hs) hbase hfew hline hs rfl
  refine ws_cons (W := fun B H d => B = B0 ∧ H = H0 ∧ d = δ.set i (some (.np t p vs (fs.set m (.o (xs ++ [x])))))) (ps_expr key hsw) (fun B H d ⟨h1, h2, h3⟩ => by rw [h1, h2, h3]; exact hr) fun D σ H B E0 S z => ?_
  obtain ⟨v, hσ, r⟩ := S.rel j _ hd
  have r : v = .ref q := r
  subst r
  have inner : ∀ {B H : Hp}, SD X.K H0 B H σ δ → ∃ ws, H q = some (.lst ws) ∧ Dqs B ws xs := fun S => by
    obtain ⟨_, _, _, _, _, hw, _⟩ := S.rel i _ hδ
    obtain ⟨u, h3, q', ws, e, _, hq, hdq⟩ := fdw_nget hw m _ hfm
    rw [hvm] at h3
    cases h3
    cases e
    exact ⟨ws, hq, hdq⟩
  obtain ⟨ws0, hq0, _⟩ := inner S
  refine ⟨_, hσ, .inl ⟨rfl, _, .inl (.inl hq0)⟩, B, E0, S, fun u B' H' E1 r => ?_⟩
  have S1 := S.mono E1
  obtain ⟨ws, hq, hdq⟩ := inner S1
  refine ⟨q, ws, u, rfl, rfl, hq, small1000 (by rw [dqs_len hdq]; omega), ?_⟩
  obtain ⟨g1, g2⟩ := np_put S1 (E0.tr E1) hδ hvm hfm (dqs_app hdq (.cons r .nil))
  exact z.nx _ _ _ σ B' _ ⟨rfl, rfl, rfl⟩ E1.b g1 g2
/-- x.append(e), x a list of one's own of which nothing is asked any more -/
theorem ws_appJ {E : AE} {rest : List Stmt} {xn : Str} {cpos epos : Pos} (i : Nat) (hδ : δ[i]? = some (some (.np false p vs fs))) (he : Pe X B0 H0 δ e a) (hz : fs.length < 1000) (hr : Ws X B0 H0 (δ.set i none) rest E) (hN : X.N[i]? = some xn) (hv : Vis X.env.scope xn)
    (hbase : attributeBase (.Name xn p1) "append" X.env (eval (.Name xn p1) X.env) = eval (.Name xn p1) X.env := by rfl)
    (hfew : ((backTo cpos (starEach [e] X.env)).all (fun x => !x.1) && (backToKw cpos (keywordEach [] X.env)).all (fun x => x.1.isSome) && decide ([e].length + ([] : List Keyword).length + (if ([] : List Keyword).isEmpty then 0 else 1) < 30)) = true := by rfl)
    (hline : (apos.endLine == cpos.line) = true := by rfl) (hs : starEach [e] X.env = (false, eval e X.env) :: starEach [] X.env := by rfl) (hsw : swapsWith (.Call (.Attribute (.Name xn p1) "append" apos) [e] [] cpos) none epos.line X.env = pure false := by rfl) (h1 : (xn == ("__debug__" : Str)) = false := by decide) (h2 : (xn == ("__classdict__" : Str)) = false := by decide) :
    Ws X B0 H0 δ (.Expr (.Call (.Attribute (.Name xn p1) "append" apos) [e] [] cpos) epos :: rest) E := by
  have key := pe_bm PySem.F.plainAttrs_list PySem.F.slot_list_append PySem.F.type_list_append mt_append (pe_var (X := X) (i := i) (pos := p1) hN hv h1 h2) (pa_cons he pa_nil hs) hbase hfew hline hs rfl
  refine ws_cons (W := fun B H d => B = B0 ∧ H = H0 ∧ d = δ.set i none) (ps_expr key hsw) (fun B H d ⟨h1, h2, h3⟩ => by rw [h1, h2, h3]; exact hr) fun D σ H B E0 S z => ?_
  obtain ⟨v, hσ, r⟩ := S.rel i _ hδ
  obtain ⟨rfl, hb, hl, hw, _⟩ := id r
  have hl : H p = some (.lst vs) := hl
  refine ⟨_, hσ, .inl ⟨rfl, _, .inl (.inl hl)⟩, B, E0, S, fun u B' H' E1 r => ?_⟩
  have S1 := S.mono E1
  have hl' := E1.h _ _ hl
  have hb' : B' p = none := by rw [E1.n p (by rw [hl]; simp)]; exact hb
  refine ⟨p, vs, u, rfl, rfl, hl', small1000 (by rw [fdw_nlen hw]; exact Nat.le_of_lt hz), ?_⟩
  have h0 := S1.fr i _ _ p hδ hσ (.inl rfl)
  have E2 := E0.tr E1
  have S2 : SD X.K H0 B' (upd H' p (.lst (vs ++ [u]))) σ (δ.set i none) := (sd_forget S1 i).free E2.h hb' h0 fun j b w g1 g2 f => by
    have g3 := set_none_get g1
    have ne : i ≠ j := fun e => by
      subst e
      have hi := (List.getElem?_eq_some_iff.mp hδ).1
      rw [List.getElem?_set_self hi] at g1
      cases g1
    exact ne (S1.dis i j _ b _ w p hδ g3 hσ g2 (.inl rfl) f)
  exact z.nx _ _ _ σ B' _ ⟨rfl, rfl, rfl⟩ E1.b ⟨E2.b, sub_upd E2.h h0, sub_upd E2.s hb', E2.n⟩ S2
/-- for x in Y, Y a list of one's own: its items are walked as they are -/
theorem ws_forV {E : AE} {rest body : List Stmt} {i : Nat} {xn yn : Str} (j : Nat) (I : Nat → Hp → Hp → List (Option A) → Prop) (hI : ∀ k B H d, I k B H d → ∃ fs', d[j]? = some (some (.np false p vs fs'))) (h0 : I 0 B0 H0 δ)
    (hs : ∀ k v B H δ', vs[k]? = some v → I k B H δ' → Ws X B H (δ'.set i (some (.v v))) body { E with nx := I (k + 1), ct := I (k + 1), bk := fun B H δ' => Ws X B H δ' rest E })
    (hr : ∀ B H δ', I vs.length B H δ' → Ws X B H δ' rest E) (hx : X.N[i]? = some xn) (hY : X.N[j]? = some yn) (hN : X.N.Nodup) (hl : Loc X.env.scope xn) (hvY : Vis X.env.scope yn) (hc : X.calm = true) (hp : PassesOwn (model X.prog X.w) X.A X.env X.xe)
    (hf : X.fn xn = true ∨ X.env.scope.names.lookup xn = some .local := by first | exact .inl rfl | exact .inr rfl | assumption) (hfs : ∀ x, foldedSetIterable (.Name yn p2) X.env x = pure x := by intro _; rfl) (d1 : (yn == ("__debug__" : Str)) = false := by decide) (d2 : (yn == ("__classdict__" : Str)) = false := by decide) : Ws X B0 H0 δ (.For (.Name xn p1) (.Name yn p2) body [] pos :: rest) E := by
  have hb : PSs X body (fun D σ H => ∃ k x B1 H1 δ1, vs[k]? = some x ∧ I k B1 H1 δ1 ∧ tWs X.K B1 H1 (δ1.set i (some (.v x))) { E with nx := I (k + 1), ct := I (k + 1), bk := fun B H δ' => Ws X B H δ' rest E } D σ H) :=
    ⟨fun pins s σ H D J ⟨k, x, B1, H1, δ1, hx, hI, q⟩ => (hs k x B1 H1 δ1 hx hI).run pins s σ H D J q⟩
  refine ws_cons (W := fun B H δ' => Ws X B H δ' rest E) (ps_for hp hc (pi_list (pe_var (i := j) hY hvY d1 d2)) (pg_name hN hx hl hf) hb hfs) (fun _ _ _ q => q) fun D σ H B E0 S z => ?_
  have at_ : ∀ {k : Nat} {B1 H1 B' H' : Hp} {δ1 : List (Option A)} {σ' : L2.St}, I k B1 H1 δ1 → SD X.K H1 B' H' σ' δ1 → H' p = some (.lst vs) := fun h S => by
    obtain ⟨fs', hd⟩ := hI _ _ _ _ h
    obtain ⟨_, _, _, _, hl, _⟩ := S.rel j _ hd
    exact hl
  obtain ⟨fs0, hd0⟩ := hI _ _ _ _ h0
  obtain ⟨v0, hσ0, e0, _⟩ := S.rel j _ hd0
  subst e0
  have hl0 := at_ h0 S
  refine ⟨_, hσ0, p, rfl, ⟨vs, .inl (.inl hl0)⟩, ?_⟩
  refine ⟨fun k m σ' H' => m = vs.length - k ∧ k ≤ vs.length ∧ ∃ B' B1 H1 δ1, Sub B B' ∧ I k B1 H1 δ1 ∧ Ext B1 H1 B' H' ∧ SD X.K H1 B' H' σ' δ1, ⟨vs.length, rfl, Nat.zero_le _, B, B0, H0, δ, Sub.rfl', h0, E0, S⟩, ?_⟩
  rintro k m σ' H' ⟨rfl, hk, B', B1, H1, δ1, sb, hIk, E2, S2⟩
  have hl2 : SqL X.K H' p vs := .inl (.inl (at_ hIk S2))
  by_cases h : k < vs.length
  · have hx : vs[k]? = some vs[k] := List.getElem?_eq_getElem h
    refine .inr ⟨⟨vs, vs[k], hl2, hx⟩, fun σ3 H3 => ∃ B3 B4 H4 δ4, Sub B B3 ∧ I (k + 1) B4 H4 δ4 ∧ Ext B4 H4 B3 H3 ∧ SD X.K H4 B3 H3 σ3 δ4, fun σ3 H3 ⟨B3, B4, H4, δ4, q1, q2, q3, q4⟩ => ⟨vs.length - (k + 1), by omega, rfl, h, B3, B4, H4, δ4, q1, q2, q3, q4⟩, fun v H3 hy => ?_⟩
    obtain ⟨rfl, hv⟩ := hy
    have e : v = vs[k] := Option.some.inj ((hv vs hl2).symm.trans hx)
    rw [← e] at hx
    refine ⟨k, v, B1, H1, δ1, hx, hIk, B', E2, SD.set (a := .v v) S2 rfl rfl, ?_⟩
    exact ⟨fun B4 H4 δ4 σ4 B5 H5 q1 q2 q3 q4 => ⟨B5, B4, H4, δ4, sb.tr q2, q1, q3, q4⟩, z.rt, fun B4 H4 δ4 σ4 B5 H5 q1 q2 => z.nx B4 H4 δ4 σ4 B5 H5 q1 (sb.tr q2), fun B4 H4 δ4 σ4 B5 H5 q1 q2 q3 q4 => ⟨B5, B4, H4, δ4, sb.tr q2, q1, q3, q4⟩⟩
  · have e : k = vs.length := by omega
    subst e
    exact .inl ⟨⟨vs, hl2, Nat.le_refl _⟩, z.nx _ _ _ _ B' H' (hr _ _ _ hIk) sb E2 S2⟩
end
end GL

set_option Elab.async false
set_option linter.all false
set_option maxRecDepth 100000
set_option maxHeartbeats 4000000
/-! GD: lists of lists of ints -/
namespace GL
open PySem PySem.Spec L2
/-- new lists of ints -/
def ols (ls : List (List Int)) : List Fd := ls.map fun l => .o (l.map .int)
theorem ols_plain (ls : List (List Int)) : plainF (ols ls) = true := by
  unfold plainF ols
  rw [List.all_map]
  exact List.all_eq_true.mpr fun _ _ => rfl
theorem ols_dat (ls : List (List Int)) : (ols ls).map fdD = ls.map li := by
  unfold ols
  rw [List.map_map]
  rfl
theorem ols_get {ls : List (List Int)} {m : Nat} {l : List Int} (h : ls[m]? = some l) : (ols ls)[m]? = some (.o (l.map .int)) := by
  unfold ols
  rw [List.getElem?_map, h]
  rfl
theorem ols_len (ls : List (List Int)) : (ols ls).length = ls.length := List.length_map _
section
variable {X : Cx} {B0 H0 : Hp} {δ δ' : List (Option A)} {e e1 e2 o c : Expr} {es : List Expr} {a a' : A} {pos p1 p2 : Pos} {p : Addr} {vs : List V} {fs : List Fd} {t : Bool} {ls : List (List Int)}
theorem Pf.is (h : Pf X B0 H0 δ e a) (q : a = a') : Pf X B0 H0 δ e a' := q ▸ h
theorem Pf.opn (h : Pf X B0 H0 δ e (.nf false (ols ls))) : Pe X B0 H0 δ e (.d (.list (ls.map li))) := (h.dat (ols_plain ls)).is (by rw [ols_dat]; rfl)
/-- read for now -/
theorem p_np (i : Nat) {x : Str} (hd : δ[i]? = some (some (.np false p vs (ols ls)))) (hN : X.N[i]? = some x := by rfl) (hv : Vis X.env.scope x := by first | exact .inl rfl | exact .inr (.inl rfl) | exact .inr (.inr rfl)) (h1 : (x == ("__debug__" : Str)) = false := by decide) (h2 : (x == ("__classdict__" : Str)) = false := by decide) : Pe X B0 H0 δ (.Name x pos) (.t (.list (ls.map li))) :=
  Pe.imp (p_var i hd hN hv h1 h2) fun B H v s ⟨e, hb, hl, hw, _, _⟩ => by
    subst e
    have := dq_seq (t := false) hl (fdw_dqs s (ols_plain ls) hw fun i q u _ _ hq => hq)
    rw [ols_dat] at this
    exact this
end
end GL

set_option Elab.async false
set_option linter.all false
set_option maxRecDepth 100000
set_option maxHeartbeats 4000000
/-! GE: data of which a list is new, told so through calls; a list's items set; a part of one's own list walked -/
namespace GL
open PySem PySem.Spec L2
theorem small3 : (3 : Nat) ≤ sizeLine := Nat.le_of_lt (small1000 (by decide))
/-- a heap less one place -/
def wo (B : Hp) (p : Addr) : Hp := fun q => if q = p then none else B q
theorem wo_same {B : Hp} {p : Addr} : wo B p p = none := if_pos rfl
theorem wo_ne {B : Hp} {p q : Addr} (h : q ≠ p) : wo B p q = B q := if_neg h
theorem wo_le {B : Hp} {p : Addr} : Sub (wo B p) B := fun q u h => by
  by_cases e : q = p
  · subst e; rw [wo_same] at h; cases h
  · rwa [wo_ne e] at h
theorem dqs_intsN {B B' : Hp} : ∀ {vs : List V} {ns : List Int}, Dqs B vs (ns.map .int) → Dqs B' vs (ns.map .int)
  | _, [], .nil => .nil
  | _, _ :: _, .cons r t => .cons (by cases r; exact .int _) (dqs_intsN t)
theorem fdw_set {B H : Hp} {f : Fd} {v : V} : ∀ {vs : List V} {fs : List Fd} (m : Nat), FdW B H (nm vs) (nm fs) → FdR B H v f → FdW B H (nm (vs.set m v)) (nm (fs.set m f))
  | [], [], _, _, _ => .nil
  | [], _ :: _, _, w, _ => by cases w
  | _ :: _, [], _, w, _ => by cases w
  | _ :: vs, _ :: fs, 0, w, r => by
    have w : FdW B H (("", _) :: nm vs) (("", _) :: nm fs) := w
    cases w with
    | cons _ t => exact .cons r t
  | _ :: vs, _ :: fs, m + 1, w, r => by
    have w : FdW B H (("", _) :: nm vs) (("", _) :: nm fs) := w
    cases w with
    | cons q t => exact .cons q (fdw_set m t r)
/-- the value that a list's item tells -/
def fdV : Fd → A
  | .d x => .d x
  | .o xs => .o xs
  | .g _ => .d .none
section
variable {X : Cx} {B0 H0 : Hp} {δ δ' : List (Option A)} {e e1 e2 e3 o c : Expr} {es : List Expr} {a a0 a1 a2 : A} {xs ys : List PyData} {x y z : PyData} {pos p1 p2 p3 apos : Pos} {k i : Nat} {iter tg : Expr} {p q : Addr} {vs : List V} {fs : List Fd} {t : Bool} {N : Addr → Prop} {ns : List Int}
theorem p_nd (h : Pe X B0 H0 δ e (.nd N t x)) : Pe X B0 H0 δ e (.d x) := h.imp fun _ _ _ _ r => r.1
theorem Pn.nd (h : Pn X B0 H0 δ e xs) (hN : ∀ q, N q → H0 q ≠ none) : Pe X B0 H0 δ e (.nd N false (.list xs)) := pe_to h fun σ H Q ⟨B, E0, S, k⟩ => ⟨B, E0, S, fun p vs B' H' E hp hb hl hd =>
  k (.ref p) (upd B' p (.lst vs)) H' ⟨E.b.tr (sub_new hb), E.h, fun x u z => by
    by_cases q : x = p
    · subst q; rw [upd_same] at z; cases z; exact hl
    · rw [upd_ne q] at z; exact E.s x u z, fun x z => by
    have q : x ≠ p := fun q => z (by rw [q]; exact hp)
    rw [upd_ne q]; exact E.n x z⟩ ⟨.lst upd_same (dqs_sub (sub_new hb) _ _ hd), p, rfl, fun n => hN p n (sub_free E0.h hp)⟩⟩
/-- (x, y, a new list) -/
theorem p_tup3N {kt : Nat} (h1 : Pe X B0 H0 δ e1 (.d x)) (h2 : Pe X B0 H0 δ e2 (.d y)) (h3 : Pn X B0 H0 δ e3 xs) (hN : ∀ q, N q → H0 q ≠ none) (s1 : starEach [e1, e2, e3] X.env = (false, eval e1 X.env) :: starEach [e2, e3] X.env := by rfl) (s2 : starEach [e2, e3] X.env = (false, eval e2 X.env) :: starEach [e3] X.env := by rfl) (s3 : starEach [e3] X.env = (false, eval e3 X.env) :: starEach [] X.env := by rfl) : Pe X B0 H0 δ (.Tuple [e1, e2, e3] kt pos) (.nd N true (.tuple [x, y, .list xs])) :=
  pe_to (pe_tup (pas_cons h1 (pas_cons h2 (pas_cons (h3.nd hN) pas_nil s3) s2) s1)) fun σ H Q ⟨B, E0, S, k⟩ => ⟨B, E0, S, fun vs B1 H1 E1 r => by
    cases r with
    | cons r1 r =>
      cases r with
      | cons r2 r =>
        cases r with
        | cons r3 r =>
          cases r
          obtain ⟨d3, q, e, nq⟩ := r3
          subst e
          refine ⟨small3, fun t ht => k (.ref t) _ _ (E1.tr (.both E1.s ht)) ⟨.tup upd_same (dqs_sub (sub_new (sub_free E1.s ht)) _ _ (.cons r1 (.cons r2 (.cons d3 .nil)))), t, _, q, rfl, upd_same, rfl, nq⟩⟩⟩
/-- its third item -/
theorem p_at2N (ha : Pe X B0 H0 δ e1 (.nd N true (.tuple [x, y, z]))) (hb : Pe X B0 H0 δ e2 (.d (.int 2))) (hp : PlainIx e2 := by intro _ _; rfl) : Pe X B0 H0 δ (.Subscript e1 e2 pos) (.nd N false z) :=
  p_ix ix_seq ha hb hp fun B H v u Q s r1 r2 k => by
    obtain ⟨hd, p, vs, q, rfl, hB, h2, nq⟩ := r1
    have ei := ra_int r2
    have hd : Dq B (.ref p) (.tuple [x, y, z]) := hd
    cases hd with
    | tup hs hd =>
      rw [hB] at hs
      cases hs
      cases hd with
      | cons d1 hd =>
        cases hd with
        | cons d2 hd =>
          cases hd with
          | cons d3 hd =>
            cases hd
            cases h2
            exact .inr (.inl ⟨p, _, 2, _, rfl, ei, .inl (.inl (s p _ hB)), rfl, k _ B H (.rfl' s) ⟨d3, q, rfl, nq⟩⟩)
/-- return of a list of ints that is new -/
theorem ws_retI {E : AE} {rest : List Stmt} (s0 : Sub B0 H0) (he : Pe X B0 H0 δ e (.nd N false (.list (ns.map .int)))) (hN : ∀ q, H0 q ≠ none → N q) (h : ∀ δ', E.rt B0 H0 δ' (.o (ns.map .int))) : Ws X B0 H0 δ (.Return (some e) pos :: rest) E :=
  ws_cons (W := fun _ _ _ => False) (ps_ret he) (fun _ _ _ q => q.elim) fun D σ H B E0 S z => ⟨B, E0, S, fun v B' H' E1 r => by
    obtain ⟨hd, q, rfl, nq⟩ := r
    cases hd with
    | @lst _ vs _ hq hd =>
      have h0 : H0 q = none := Classical.byContradiction fun h => nq (hN q h)
      have b0 : B0 q = none := sub_free s0 h0
      have E2 := E0.tr E1
      refine z.rt _ _ (List.replicate σ.length none) _ σ (.ref q) (wo B' q) H' (h _) ⟨fun x u hx => ?_, E2.h, wo_le.tr E2.s, fun x hx => ?_⟩ ⟨wo_le.tr E2.s, by rw [List.length_replicate], fun i a h => ?_, fun i j a b v u r h => ?_, fun i a v r h => ?_, fun i a v h => ?_⟩ ⟨q, vs, rfl, wo_same, E2.s _ _ hq, dqs_intsN hd⟩ fun r f => ?_
      · rw [wo_ne (fun e => by rw [e, b0] at hx; cases hx)]
        exact E2.b x u hx
      · rw [wo_ne (fun e => hx (by rw [e]; exact h0))]
        exact E2.n x hx
      all_goals try
        rw [List.getElem?_replicate] at h
        split at h <;> cases h
      have f : V.ref q = V.ref r := f
      cases f
      exact h0⟩
/-- a value without things of one's own is as good as new -/
theorem Pe.pf (h : Pe X B0 H0 δ e a) (no : owns a = false := by rfl) : Pf X B0 H0 δ e a := pe_to h fun σ H Q ⟨B, E0, S, k⟩ => ⟨B, E0, S, fun v B' H' E r => k v B' H' E r fun q f => by rw [fp_owns f] at no; cases no⟩
/-- own[i] = e, e a new thing -/
theorem ws_putN {E : AE} {rest : List Stmt} {i j : Nat} {xn : Str} {n : Int} {f : Fd} {spos : Pos} (hδ : δ[i]? = some (some (.nf false fs))) (he : Pf X B0 H0 δ e (fdV f)) (hg' : ∀ ks, f ≠ .g ks) (hi : Pe X B0 H0 δ e2 (.d (.int n))) (hj : ixN fs.length n = some j) (hr : Ws X B0 H0 (δ.set i (some (.nf false (fs.set j f)))) rest E) (hN : X.N[i]? = some xn) (hv : Vis X.env.scope xn)
    (hg : PG X (.Subscript (.Name xn p1) e2 p2) (gSub (tVar i) (tPe X.K B0 H0 δ (.d (.int n))) rSetL))
    (hs : swapsWithSole [.Subscript (.Name xn p1) e2 p2] e spos.line X.env = pure false := by rfl) (hw : swappedStores [.Subscript (.Name xn p1) e2 p2] e X.env = pure none := by rfl) (h1 : (assignEach [.Subscript (.Name xn p1) e2 p2] X.env).map (·.2) = [assign (.Subscript (.Name xn p1) e2 p2) X.env] := by rfl) :
    Ws X B0 H0 δ (.Assign [.Subscript (.Name xn p1) e2 p2] e spos :: rest) E := by
  refine ws_cons (W := fun B H δ' => B = B0 ∧ H = H0 ∧ δ' = δ.set i (some (.nf false (fs.set j f)))) (ps_asg he hg hs hw h1) (fun B H δ' ⟨h1, h2, h3⟩ => by rw [h1, h2, h3]; exact hr) fun D σ H B E0 S z => ⟨B, E0, S, fun u B' H' E1 r fr => ?_⟩
  obtain ⟨v, hσ, p, vs, rfl, hb, hl, hw, hs, hn⟩ := (S.mono E1).rel i _ hδ
  refine ⟨_, hσ, B', E0.tr E1, S.mono E1, fun m B2 H2 E2 r2 => ?_⟩
  have S2 := S.mono (E1.tr E2)
  obtain ⟨v', hσ', r3⟩ := S2.rel i _ hδ
  rw [hσ] at hσ'
  cases hσ'
  have r3' := r3
  obtain ⟨p', vs', e', hb', hl', hw', hs', hn'⟩ := r3
  cases e'
  have hl2 := E2.h _ _ hl
  rw [hl2] at hl'
  have e := seqO_inj (Option.some.inj hl')
  subst e
  have lv : vs.length = fs.length := fdw_nlen hw'
  have hjl : j < fs.length := by
    unfold ixN at hj
    split at hj
    · split at hj
      · cases hj; omega
      · cases hj
    · split at hj
      · cases hj; omega
      · cases hj
  refine ⟨p, vs, n, j, rfl, ra_int r2, hl2, by rw [lv]; exact hj, ?_⟩
  have ru := r.mono E2
  -- what the new item owns
  have own : ∀ r, V.ref r = u → f.own = true → H r = none ∧ H2 r ≠ none ∧ B2 r = none := fun w e o => by
    cases f with
    | d x => cases o
    | g ks => exact absurd rfl (hg' ks)
    | o xs =>
      have q := fr w (show u = V.ref w from e.symm)
      obtain ⟨h1, h2⟩ := fp_at ru (show u = V.ref w from e.symm)
      exact ⟨q, h2, h1⟩
  have hp : H p ≠ none := by
    obtain ⟨v0, hσ0, r0⟩ := S.rel i _ hδ
    rw [hσ] at hσ0
    cases hσ0
    exact (fp_at r0 (.inl rfl)).2
  have old : ∀ {m r}, FdP (nm vs) (nm fs) m r → H r ≠ none := fun {m r} g => by
    obtain ⟨v0, hσ0, r0⟩ := S.rel i _ hδ
    rw [hσ] at hσ0
    cases hσ0
    have f2 : Fp H2 (.ref p) (.nf false fs) r := .inr ⟨p, vs, m, rfl, hl2, g⟩
    exact (fp_at r0 (f2.back (E1.tr E2) r0)).2
  have ru2 : FdR B2 H2 u f := by
    cases f with
    | d x => exact ru
    | g ks => exact absurd rfl (hg' ks)
    | o xs => exact ru
  have h0 := S2.fr i _ _ p hδ hσ (.inl rfl)
  -- places behind
  have at_ : ∀ {m r}, FdP (nm (vs.set j u)) (nm (fs.set j f)) m r → (m = j ∧ V.ref r = u ∧ f.own = true) ∨ (m ≠ j ∧ FdP (nm vs) (nm fs) m r) := fun {m r} g => by
    obtain ⟨g1, f', g2, g3⟩ := fdp_nm.mp g
    by_cases e : j = m
    · subst e
      rw [List.getElem?_set_self (by omega)] at g1 g2
      cases g2
      exact .inl ⟨rfl, (Option.some.inj g1).symm, g3⟩
    · rw [List.getElem?_set_ne e] at g1 g2
      exact .inr ⟨Ne.symm e, fdp_nm.mpr ⟨g1, f', g2, g3⟩⟩
  have fdr : FdR B2 (upd H2 p (.lst (vs.set j u))) u f := by
    refine fdr_to Sub.rfl' (fun q w e o hbq hq => ⟨hbq, ?_⟩) ru2
    have := (own q e.symm o).1
    rw [upd_ne (fun e2 => hp (by rw [← e2]; exact this))]
    exact hq
  have fdw : FdW B2 (upd H2 p (.lst (vs.set j u))) (nm vs) (nm fs) := fdw_to Sub.rfl' (fun m q w g hbq hq => ⟨hbq, by rw [upd_ne (hn' m q g)]; exact hq⟩) hw'
  have sub2 : Sub B2 (upd H2 p (.lst (vs.set j u))) := sub_upd S2.s hb'
  refine z.nx _ _ _ σ B2 _ ⟨rfl, rfl, rfl⟩ (E1.tr E2).b ⟨((E0.tr E1).tr E2).b, sub_upd ((E0.tr E1).tr E2).h h0, sub2, ((E0.tr E1).tr E2).n⟩ (S2.put ((E0.tr E1).tr E2).h hδ hσ (fun r w n hr => ?_) sub2 ⟨p, vs.set j u, rfl, hb', upd_same, fdw_set j fdw fdr, fun m l r g1 g2 => ?_, fun m r g => ?_⟩ (fun r g => ?_) rfl)
  · rw [upd_ne (fun e => n (.inl (by rw [e])))]
    exact hr
  · rcases at_ g1 with ⟨e1, e2, e3⟩ | ⟨n1, g1⟩
    · rcases at_ g2 with ⟨e4, _, _⟩ | ⟨n2, g2⟩
      · rw [e1, e4]
      · exact absurd (own r e2 e3).1 (old g2)
    · rcases at_ g2 with ⟨e4, e5, e6⟩ | ⟨n2, g2⟩
      · exact absurd (own r e5 e6).1 (old g1)
      · exact hs' m l r g1 g2
  · rcases at_ g with ⟨e1, e2, e3⟩ | ⟨n1, g⟩
    · exact fun e => hp (by rw [← e]; exact (own r e2 e3).1)
    · exact hn' m r g
  · rcases g with g | ⟨p'', vs'', m, g1, g2, g3⟩
    · exact .inl (.inl g)
    · cases g1
      rw [upd_same] at g2
      have e := seqO_inj (t := false) (Option.some.inj g2)
      subst e
      rcases at_ g3 with ⟨e1, e2, e3⟩ | ⟨n1, g⟩
      · have hr := (own r e2 e3).1
        exact .inr (S.apart E0.h (E1.tr E2) hr)
      · exact .inl (.inr ⟨p, vs, m, rfl, hl2, g⟩)
/-- None, or a name for one of the inner lists -/
theorem p_vn (j : Nat) {xn : Str} (hd : δ[j]? = some (some (.v .non))) (hN : X.N[j]? = some xn := by rfl) (hvis : Vis X.env.scope xn := by first | exact .inl rfl | exact .inr (.inl rfl) | exact .inr (.inr rfl)) (h1 : (xn == ("__debug__" : Str)) = false := by decide) (h2 : (xn == ("__classdict__" : Str)) = false := by decide) : Pe X B0 H0 δ (.Name xn pos) (.d .none) :=
  (p_var j hd hN hvis h1 h2).imp fun B H v s r => by
    have r : v = .non := r
    subst r
    exact .non
/-- for x in Y[1:], Y a list of one's own: its items are walked as they are -/
theorem ws_forVs {E : AE} {rest body : List Stmt} {i : Nat} {xn yn : Str} {ci : Nat} (j : Nat) (I : Nat → List (Option A) → Prop) (hI : ∀ k d, I k d → (∃ fs', d[j]? = some (some (.np false p vs fs'))) ∧ ∀ (l : Nat) (a : A), d[l]? = some (some a) → reads a = false) (h0 : I 0 δ)
    (hs : ∀ k v H1 δ', vs[k + 1]? = some v → I k δ' → Ws X B0 H1 (δ'.set i (some (.v v))) body { nx := fun B H d => B = B0 ∧ H = H1 ∧ I (k + 1) d, rt := fun _ _ _ _ => False })
    (hr : ∀ δ', I (vs.length - 1) δ' → Ws X B0 H0 δ' rest E) (hx : X.N[i]? = some xn) (hY : X.N[j]? = some yn) (hN : X.N.Nodup) (hl : Loc X.env.scope xn) (hvY : Vis X.env.scope yn) (hc : X.calm = true) (hp : PassesOwn (model X.prog X.w) X.A X.env X.xe)
    (hf : X.fn xn = true ∨ X.env.scope.names.lookup xn = some .local := by first | exact .inl rfl | exact .inr rfl | assumption) (hfs : ∀ x, foldedSetIterable (.Subscript (.Name yn p2) (.Slice (some (.Constant (.int 1) ci p3)) none none apos) pos) X.env x = pure x := by intro _; rfl) (d1 : (yn == ("__debug__" : Str)) = false := by decide) (d2 : (yn == ("__classdict__" : Str)) = false := by decide) {fp : Pos} : Ws X B0 H0 δ (.For (.Name xn p1) (.Subscript (.Name yn p2) (.Slice (some (.Constant (.int 1) ci p3)) none none apos) pos) body [] fp :: rest) E := by
  have hb : PSs X body (fun D σ H => ∃ k x H1 δ1, vs[k + 1]? = some x ∧ I k δ1 ∧ tWs X.K B0 H1 (δ1.set i (some (.v x))) { nx := fun B H d => B = B0 ∧ H = H1 ∧ I (k + 1) d, rt := fun _ _ _ _ => False } D σ H) :=
    ⟨fun pins s σ H D J ⟨k, x, H1, δ1, hx, hI, q⟩ => (hs k x H1 δ1 hx hI).run pins s σ H D J q⟩
  refine ws_cons (W := fun B H δ' => B = B0 ∧ H = H0 ∧ I (vs.length - 1) δ') (ps_for hp hc (pi_list (pe_slice sl_list (pe_var (i := j) hY hvY d1 d2) (po_some pe_int) po_none)) (pg_name hN hx hl hf) hb hfs) (fun B H d ⟨h1, h2, h3⟩ => by rw [h1, h2]; exact hr d h3) fun D σ H B E0 S z => ?_
  have at_ : ∀ {k : Nat} {H1 B' H' : Hp} {δ1 : List (Option A)} {σ' : L2.St}, I k δ1 → SD X.K H1 B' H' σ' δ1 → H' p = some (.lst vs) := fun h S => by
    obtain ⟨⟨fs', hd⟩, _⟩ := hI _ _ h
    obtain ⟨_, _, _, _, hl, _⟩ := S.rel j _ hd
    exact hl
  obtain ⟨⟨fs0, hd0⟩, nr0⟩ := hI _ _ h0
  obtain ⟨v0, hσ0, e0, _⟩ := S.rel j _ hd0
  subst e0
  have hl0 := at_ h0 S
  refine ⟨_, hσ0, ⟨1, rfl, p, vs, rfl, .inl (.inl hl0), fun l hfr => ?_⟩⟩
  have ec : cutV vs (some 1) none = vs.drop 1 := cut_from (by decide)
  rw [ec]
  have lb : B l = none := sub_free S.s hfr
  have l0 : H0 l = none := sub_free E0.h hfr
  have lb0 : B0 l = none := sub_free E0.b lb
  refine ⟨l, rfl, ⟨_, .inl (.inl upd_same)⟩, ?_⟩
  -- the heap in which the walk begins
  have E1 : Ext B H B (upd H l (.lst (vs.drop 1))) := .own S.s hfr
  have S1 := S.mono E1
  have lift : SD X.K (upd H0 l (.lst (vs.drop 1))) B (upd H l (.lst (vs.drop 1))) σ δ := by
    refine ⟨S1.s, S1.len, S1.rel, S1.dis, fun a b v q h1 h2 f => ?_, fun a b v h1 h2 h3 => by rw [nr0 a b h1] at h2; cases h2⟩
    have f2 := f.back E1 (S.rel' h1 h2)
    rw [upd_ne (fun e => (fp_at (S.rel' h1 h2) f2).2 (by rw [e]; exact hfr))]
    exact S1.fr a b v q h1 h2 f
  have ext : Ext B0 (upd H0 l (.lst (vs.drop 1))) B (upd H l (.lst (vs.drop 1))) := ⟨E0.b, fun x u hx => by
    by_cases e : x = l
    · subst e; rw [upd_same] at hx ⊢; exact hx
    · rw [upd_ne e] at hx ⊢; exact E0.h x u hx, S1.s, fun x hx => by
    by_cases e : x = l
    · rw [e, lb, lb0]
    · rw [upd_ne e] at hx; exact E0.n x hx⟩
  refine ⟨fun k m σ' H' => m = (vs.length - 1) - k ∧ k ≤ vs.length - 1 ∧ ∃ B' δ1, Sub B B' ∧ I k δ1 ∧ Ext B0 (upd H0 l (.lst (vs.drop 1))) B' H' ∧ SD X.K (upd H0 l (.lst (vs.drop 1))) B' H' σ' δ1, ⟨vs.length - 1, rfl, Nat.zero_le _, B, δ, Sub.rfl', h0, ext, lift⟩, ?_⟩
  rintro k m σ' H' ⟨rfl, hk, B', δ1, sb, hIk, E2, S2⟩
  have hl2 : SqL X.K H' l (vs.drop 1) := .inl (.inl (E2.h _ _ upd_same))
  have ld : (vs.drop 1).length = vs.length - 1 := List.length_drop
  by_cases h : k < vs.length - 1
  · have hx : (vs.drop 1)[k]? = some (vs.drop 1)[k] := List.getElem?_eq_getElem (by omega)
    refine .inr ⟨⟨_, _, hl2, hx⟩, fun σ3 H3 => ∃ B3 δ4, Sub B B3 ∧ I (k + 1) δ4 ∧ Ext B0 (upd H0 l (.lst (vs.drop 1))) B3 H3 ∧ SD X.K (upd H0 l (.lst (vs.drop 1))) B3 H3 σ3 δ4, fun σ3 H3 ⟨B3, δ4, q1, q2, q3, q4⟩ => ⟨(vs.length - 1) - (k + 1), by omega, rfl, h, B3, δ4, q1, q2, q3, q4⟩, fun v H3 hy => ?_⟩
    obtain ⟨rfl, hv⟩ := hy
    have e : v = (vs.drop 1)[k] := Option.some.inj ((hv _ hl2).symm.trans hx)
    rw [← e, List.getElem?_drop, Nat.add_comm] at hx
    refine ⟨k, v, _, δ1, hx, hIk, B', E2, SD.set (a := .v v) S2 rfl rfl, ?_⟩
    exact ⟨fun B4 H4 δ4 σ4 B5 H5 ⟨e1, e2, q1⟩ q2 q3 q4 => by subst e1 e2; exact ⟨B5, δ4, sb.tr q2, q1, q3, q4⟩, fun _ _ _ _ _ _ _ _ q => q.elim, fun _ _ _ _ _ _ q => q.elim, fun _ _ _ _ _ _ q => q.elim⟩
  · have e : k = vs.length - 1 := by omega
    subst e
    obtain ⟨_, nr⟩ := hI _ _ hIk
    have up : Sub H0 (upd H0 l (.lst (vs.drop 1))) := sub_new l0
    refine .inl ⟨⟨_, hl2, by omega⟩, z.nx _ _ _ _ B' H' ⟨rfl, rfl, hIk⟩ sb ⟨E2.b, up.tr E2.h, E2.s, fun x hx => E2.n x (fun e => hx (sub_free up e))⟩ ⟨S2.s, S2.len, S2.rel, S2.dis, fun a b v q h1 h2 f => sub_free up (S2.fr a b v q h1 h2 f), fun a b v h1 h2 h3 => by rw [nr a b h1] at h2; cases h2⟩⟩
end
end GL
namespace GL
open PySem PySem.Spec L2
def noR (d : List (Option A)) : Bool := d.all fun o => match o with | some a => !reads a | none => true
theorem noR_of {d : List (Option A)} (h : noR d = true) : ∀ (l : Nat) (a : A), d[l]? = some (some a) → reads a = false := fun l a e => by
  have := List.all_eq_true.mp h _ (List.mem_of_getElem? e)
  simpa using this
section
variable {X : Cx} {B0 H0 : Hp} {δ : List (Option A)} {fs : List Fd} {t : Bool}
theorem ws_forget {E : AE} {ss : List Stmt} (i : Nat) (h : Ws X B0 H0 (δ.set i none) ss E) : Ws X B0 H0 δ ss E := pss_to h fun D σ H ⟨B, E0, S, z⟩ => ⟨B, E0, sd_forget S i, z⟩
/-- its places are named; what is None is so -/
theorem ws_opn2 {E : AE} {ss : List Stmt} (i : Nat) (hδ : δ[i]? = some (some (.nf t fs))) (h : ∀ p vs, vs.length = fs.length → (∀ (m : Nat) (ys : List PyData), fs[m]? = some (.o ys) → ∃ q, vs[m]? = some (.ref q)) → (∀ m : Nat, fs[m]? = some (.d .none) → vs[m]? = some .non) → Ws X B0 H0 (δ.set i (some (.np t p vs fs))) ss E) : Ws X B0 H0 δ ss E := by
  refine ⟨fun pins s σ H D J ⟨B, E0, S, z⟩ => ?_⟩
  obtain ⟨v, hσ, r⟩ := S.rel i _ hδ
  obtain ⟨p, vs, rfl, hb, hl, hw, hs, hn⟩ := id r
  refine (h p vs (fdw_nlen hw) (fun m ys hm => ?_) (fun m hm => ?_)).run pins s σ H D J ⟨B, E0, S.conv E0.h hδ hσ ⟨rfl, hb, hl, hw, hs, hn⟩ (fun q f => ?_) rfl, z⟩
  · obtain ⟨v, h1, q, _, e, _⟩ := fdw_nget hw m _ hm
    exact ⟨q, by rw [h1, e]⟩
  · obtain ⟨v, h1, h2⟩ := fdw_nget hw m _ hm
    have h2 : Dq B v .none := h2
    cases h2
    exact h1
  · rcases f with f | ⟨i, f⟩
    · exact .inl f
    · exact .inr ⟨p, vs, i, rfl, hl, f⟩
end
end GL

set_option Elab.async false
set_option linter.all false
set_option maxHeartbeats 4000000
/-! GM7: a yard whose parcels are all by one load, plain Lean -/
namespace GM
structure ByL (S : YS) (ld : List (List Int)) : Prop where
  I : YInv S S.box.length
  g : S.gone = []
  l : (ld.length : Int) = S.many
  v : ∀ v ∈ ld, Val S.wide.toNat v
  b : ∀ p ∈ S.box, ByLoad S.wide.toNat ld p
  k : ∀ (i : Nat) d l, S.words[i]? = some (d, l) → kep d = true
section
variable {S : YS} {ld : List (List Int)} {qs : List Int} {p : Par}
theorem ByL.get (L : ByL S ld) {x : Int} (h : 0 ≤ x ∧ x < S.many) : ld[x.toNat]? = some (ld.getD x.toNat []) ∧ Val S.wide.toNat (ld.getD x.toNat []) := by
  have l := L.l
  have e := List.getElem?_eq_getElem (l := ld) (i := x.toNat) (by omega)
  rw [List.getD_eq_getElem?_getD, e]
  exact ⟨rfl, L.v _ (List.getElem_mem _)⟩
theorem byl_fit (L : ByL S ld) {p : Par} (hp : ParOk S.many S.wide.toNat p) (hb : ByLoad S.wide.toNat ld p) {j : Nat} (hj : j < S.wide.toNat) : fitP (bitsOf ld) j p = false :=
  sum_fits (fun x hx => (L.get (hp.set.2 x hx)).2) hb hj
theorem word_in {S : YS} {k i : Nat} {d : Wd × List Int} (I : YInv S k) (h : S.words[i]? = some d) : i < k := by
  have := (List.getElem?_eq_some_iff.mp h).1
  rwa [I.wl] at this
theorem byl_rows (L : ByL S ld) {j : Nat} (hj : j < S.wide.toNat) : ∀ o ∈ S.rows, fitR (bitsOf ld) j o = false :=
  L.I.gen _ (linS_fit j) fun i l h => by
    have hi := word_in L.I h
    have hm : pAt S.box i ∈ S.box := pAt_mem ⟨by omega, by omega⟩
    exact byl_fit L (L.I.ok _ hm) (L.b _ hm) hj
theorem bit_sumL (L : ByL S ld) (hq : SetOk S.many qs) {j : Nat} (hj : j < S.wide.toNat) : bitAt (lsum (qs.map fun x => ld.getD x.toNat []) S.wide.toNat) j = par (fun x => bitsOf ld x j) qs := by
  rw [bit_lsum (fun v hv => by
    obtain ⟨x, hx, rfl⟩ := List.mem_map.mp hv
    exact (L.get (hq.2 x hx)).2) hj, par_map]
  rfl
/-- what is told is the load's -/
theorem byl_told (L : ByL S ld) (hq : SetOk S.many qs) (hn : (askR S qs).1 = []) : (askR S qs).2.1 = lsum (qs.map fun x => ld.getD x.toNat []) S.wide.toNat :=
  val_ext (ask_closed L.I hq hn).val (val_lsum _ _) fun j hj => by
    rw [ask_load L.I hq hn (byl_rows L hj), bit_sumL L hq hj]
theorem lsum_one {w : Nat} {v : List Int} (h : Val w v) : lsum [v] w = v := val_ext (val_lsum _ _) h fun j hj => by
  rw [bit_lsum (fun u hu => by rw [List.mem_singleton.mp hu]; exact h) hj]
  simp [par]
theorem byl_new {many wide : Int} (hm : 1 ≤ many ∧ many ≤ 24) (hw : 1 ≤ wide ∧ wide ≤ 32) (hl : (ld.length : Int) = many) (hv : ∀ v ∈ ld, Val wide.toNat v) : ByL (newY many wide) ld :=
  ⟨yinv_new hm hw, rfl, hl, hv, fun _ h => (List.not_mem_nil h).elim, fun i d l h => by
    have h : ([] : List (Wd × List Int))[i]? = some (d, l) := h
    simp at h⟩
theorem byl_gathered (L : ByL S ld) (hp : ParOk S.many S.wide.toNat p) (hb : ByLoad S.wide.toNat ld p) (hl : S.box.length < 60) : ByL (gathered S p) ld := by
  obtain ⟨e1, e2, e3, e4⟩ := gathered_box (S := S) (p := p)
  refine ⟨yinv_gathered L.I hp hl, e4.trans L.g, by rw [e2]; exact L.l, by rw [e3]; exact L.v, fun q hq => ?_, ?_⟩
  · rw [e3]
    rw [e1] at hq
    rcases List.mem_append.mp hq with hq | hq
    · exact L.b q hq
    · rw [List.mem_singleton.mp hq]; exact hb
  · have IB := yinv_box L.I hp hl
    have D := red_of IB hp.set hp.val
    have last : pAt (S.box ++ [p]) S.box.length = p := pAt_last
    have e : gathered S p = judgeR { S with box := S.box ++ [p] } S.box.length (reduced S.rows (p.1, p.2, [])) := by
      unfold gathered judge rowOf
      show judgeR _ _ (reduced S.rows ((pAt (S.box ++ [p]) S.box.length).1, (pAt (S.box ++ [p]) S.box.length).2, [])) = _
      rw [last]
    have z : (reduced S.rows (p.1, p.2, [])).1 = [] → (reduced S.rows (p.1, p.2, [])).2.1 = nought S.wide.toNat := fun hn => by
      refine val_ext D.wf.val (val_nought _) fun j hj => ?_
      have := D.lin _ (linS_fit (L := bitsOf ld) j) (byl_rows L hj)
      have f := byl_fit L hp hb hj
      rw [show fitR (bitsOf ld) j (p.1, p.2, []) = fitP (bitsOf ld) j p from rfl, f] at this
      unfold fitR at this
      rw [hn] at this
      rw [bit_nought]
      simpa [par] using this
    have go : ∀ {w : List (Wd × List Int)} {x : Wd × List Int}, (gathered S p).words = S.words ++ [x] → kep x.1 = true → ∀ (i : Nat) d l, (gathered S p).words[i]? = some (d, l) → kep d = true := fun hw hx i d l h => by
      rw [hw] at h
      rcases word_last h with ⟨_, h⟩ | ⟨_, h⟩
      · exact L.k i d l h
      · have e := congrArg Prod.fst h
        rw [show d = _ from e]
        exact hx
    have ng : (S.box.length : Int) ∉ S.gone := by rw [L.g]; exact List.not_mem_nil
    unfold judgeR at e
    rw [if_neg ng] at e
    by_cases hn : (reduced S.rows (p.1, p.2, [])).1 = []
    · rw [if_neg (by simpa using hn), if_pos (z hn)] at e
      exact go (w := []) (by rw [e]) rfl
    · rw [if_pos hn] at e
      exact go (w := []) (by rw [e]) rfl
end
/-! ### the load with a bit turned -/
def flipAt (v : List Int) (i : Int) : List Int := v.take i.toNat ++ [1 - v.getD i.toNat 0] ++ v.drop (i.toNat + 1)
theorem flip_len {v : List Int} {i : Int} (h : i.toNat < v.length) : (flipAt v i).length = v.length := by
  unfold flipAt
  rw [List.length_append, List.length_append, List.length_take, List.length_drop, List.length_singleton]
  omega
theorem flip_get {v : List Int} {i : Int} (h : i.toNat < v.length) (j : Nat) : (flipAt v i).getD j 0 = if j = i.toNat then 1 - v.getD j 0 else v.getD j 0 := by
  unfold flipAt
  rw [List.getD_eq_getElem?_getD, List.getD_eq_getElem?_getD, List.append_assoc]
  by_cases h1 : j < i.toNat
  · rw [List.getElem?_append_left (by rw [List.length_take]; omega), List.getElem?_take_of_lt h1, if_neg (by omega), List.getD_eq_getElem?_getD]
  · rw [List.getElem?_append_right (by rw [List.length_take]; omega), List.length_take, Nat.min_eq_left (by omega)]
    by_cases h2 : j = i.toNat
    · subst h2
      rw [if_pos rfl, Nat.sub_self, List.getD_eq_getElem?_getD]
      rfl
    · obtain ⟨k, hk⟩ : ∃ k, j - i.toNat = k + 1 := ⟨j - i.toNat - 1, by omega⟩
      rw [if_neg h2, hk]
      show ((v.drop (i.toNat + 1))[k]?).getD 0 = _
      rw [List.getElem?_drop, show i.toNat + 1 + k = j by omega, List.getD_eq_getElem?_getD]
theorem flip_val {w : Nat} {v : List Int} {i : Int} (hv : Val w v) (h : i.toNat < w) : Val w (flipAt v i) := by
  refine ⟨(flip_len (by rw [hv.1]; exact h)).trans hv.1, fun x hx => ?_⟩
  obtain ⟨j, hj, rfl⟩ := List.mem_iff_getElem.mp hx
  have := flip_get (v := v) (i := i) (by rw [hv.1]; exact h) j
  rw [List.getD_eq_getElem?_getD, List.getElem?_eq_getElem hj] at this
  have this : (flipAt v i)[j] = _ := this
  rw [this]
  have b := val_bd hv j
  split
  · rcases b with b | b <;> rw [b] <;> simp
  · exact b
theorem flip_bit {w : Nat} {v : List Int} {i : Int} (hv : Val w v) (h : i.toNat < w) (j : Nat) : bitAt (flipAt v i) j = xor (bitAt v j) (decide (j = i.toNat)) := by
  have := flip_get (v := v) (i := i) (by rw [hv.1]; exact h) j
  unfold bitAt
  rw [this]
  have b := val_bd hv j
  by_cases e : j = i.toNat
  · rw [if_pos e, decide_eq_true e]
    rcases b with b | b <;> rw [b] <;> rfl
  · rw [if_neg e, decide_eq_false e, Bool.xor_false]
def otherOf (ld : List (List Int)) (u : List Int) (i : Int) : List (List Int) := u.foldl (fun acc x => acc.set x.toNat (flipAt (ld.getD x.toNat []) i)) ld
theorem other_go {ld : List (List Int)} {i : Int} : ∀ (u : List Int) (acc : List (List Int)), (∀ x ∈ u, 0 ≤ x ∧ x < acc.length) → u.Nodup → (u.foldl (fun acc x => acc.set x.toNat (flipAt (ld.getD x.toNat []) i)) acc).length = acc.length ∧
    ∀ y : Int, 0 ≤ y → (u.foldl (fun acc x => acc.set x.toNat (flipAt (ld.getD x.toNat []) i)) acc).getD y.toNat [] = if y ∈ u then flipAt (ld.getD y.toNat []) i else acc.getD y.toNat []
  | [], acc, _, _ => ⟨rfl, fun y _ => by simp⟩
  | x :: u, acc, h, nd => by
    obtain ⟨n1, n2⟩ := List.nodup_cons.mp nd
    have hx := h x List.mem_cons_self
    obtain ⟨a, b⟩ := other_go (ld := ld) (i := i) u (acc.set x.toNat (flipAt (ld.getD x.toNat []) i)) (fun y hy => by rw [List.length_set]; exact h y (List.mem_cons_of_mem _ hy)) n2
    refine ⟨a.trans List.length_set, fun y hy => ?_⟩
    rw [List.foldl_cons, b y hy]
    by_cases e : y = x
    · subst e
      rw [if_neg n1, if_pos List.mem_cons_self, List.getD_eq_getElem?_getD, List.getElem?_set_self (by omega)]
      rfl
    · have ne : x.toNat ≠ y.toNat := by omega
      by_cases m : y ∈ u
      · rw [if_pos m, if_pos (List.mem_cons_of_mem _ m)]
      · rw [if_neg m, if_neg fun q => by rcases List.mem_cons.mp q with q | q; exact e q; exact m q, List.getD_eq_getElem?_getD, List.getElem?_set_ne ne, ← List.getD_eq_getElem?_getD]
section
variable {S : YS} {ld : List (List Int)} {qs u : List Int} {i : Int}
theorem other_len (L : ByL S ld) (hu : SetOk S.many u) : (otherOf ld u i).length = ld.length := by
  have l := L.l
  exact (other_go u ld (fun x hx => by have := hu.2 x hx; omega) (ris_nodup hu.1)).1
theorem other_get (L : ByL S ld) (hu : SetOk S.many u) {y : Int} (hy : 0 ≤ y) : (otherOf ld u i).getD y.toNat [] = if y ∈ u then flipAt (ld.getD y.toNat []) i else ld.getD y.toNat [] := by
  have l := L.l
  exact (other_go u ld (fun x hx => by have := hu.2 x hx; omega) (ris_nodup hu.1)).2 y hy
theorem other_val (L : ByL S ld) (hu : SetOk S.many u) (hi : i.toNat < S.wide.toNat) {y : Int} (hy : 0 ≤ y ∧ y < S.many) : Val S.wide.toNat ((otherOf ld u i).getD y.toNat []) := by
  rw [other_get L hu hy.1]
  have v := (L.get hy).2
  split
  · exact flip_val v hi
  · exact v
/-- all that came are sums of it too -/
theorem other_fits (L : ByL S ld) (O : Opn S qs u) (hi : i.toNat < S.wide.toNat) : ∀ p ∈ S.box, lsum (p.1.map fun x => (otherOf ld u i).getD x.toNat []) S.wide.toNat = p.2 := by
  intro p hp
  have ok := L.I.ok p hp
  have hu := O.set
  refine val_ext (val_lsum _ _) ok.val fun j hj => ?_
  rw [bit_lsum (fun v hv => by
    obtain ⟨x, hx, rfl⟩ := List.mem_map.mp hv
    exact other_val L hu hi (ok.set.2 x hx)) hj, par_map]
  have e : ∀ x ∈ p.1, bitAt ((otherOf ld u i).getD x.toNat []) j = xor (bitsOf ld x j) (decide (j = i.toNat) && has u x) := fun x hx => by
    have bx := ok.set.2 x hx
    have v := (L.get bx).2
    rw [other_get L hu bx.1]
    unfold has bitsOf
    by_cases m : x ∈ u
    · rw [if_pos m, flip_bit v hi, decide_eq_true m, Bool.and_true]
    · rw [if_neg m, decide_eq_false m, Bool.and_false, Bool.xor_false]
  rw [par_congr e, par_xor]
  have f := byl_fit L ok (L.b p hp) hj
  unfold fitP at f
  have ev : par (has u) p.1 = false := by
    obtain ⟨n, hn, e⟩ := List.mem_iff_getElem.mp hp
    have hw : n < S.words.length := by rw [L.I.wl]; exact hn
    have g := O.even n S.words[n].1 S.words[n].2 (List.getElem?_eq_getElem hw) (fun z => by
      have := L.k n S.words[n].1 S.words[n].2 (List.getElem?_eq_getElem hw)
      rw [z] at this
      cases this)
    rwa [pAt_get (by rw [List.getElem?_eq_getElem hn, e])] at g
  have z : par (fun x => decide (j = i.toNat) && has u x) p.1 = false := by
    by_cases e : j = i.toNat
    · rw [par_congr (g := has u) fun x _ => by rw [decide_eq_true e, Bool.true_and]]
      exact ev
    · exact par_false fun x _ => by rw [decide_eq_false e, Bool.false_and]
  rw [z, Bool.xor_false]
  revert f
  cases par (fun x => bitsOf ld x j) p.1 <;> cases bitAt p.2 j <;> simp
/-- the place asked is shown -/
theorem opn_one {x : Int} (O : Opn S [x] u) : x ∈ u := by
  have := O.odd
  simpa [par, has] using this
end
end GM

set_option Elab.async false
set_option linter.all false
set_option maxHeartbeats 4000000
/-! GM8: two yards of the same parcels, plain Lean -/
namespace GM
section
variable {S S1 S2 : YS} {ld : List (List Int)} {qs u : List Int} {p : Par} {x : Int}
theorem byl_span (L : ByL S ld) {f : Rw → Bool} (hf : LinS S.many S.wide.toNat f) (h : ∀ o ∈ S.rows, f o = false) : ∀ p ∈ S.box, f (rowOf p) = false := fun p hp => by
  obtain ⟨n, hn, e⟩ := List.mem_iff_getElem.mp hp
  have hw : n < S.words.length := by rw [L.I.wl]; exact hn
  have g := L.I.span f hf h n S.words[n].1 S.words[n].2 (List.getElem?_eq_getElem hw) (L.k n S.words[n].1 S.words[n].2 (List.getElem?_eq_getElem hw))
  rwa [pAt_get (by rw [List.getElem?_eq_getElem hn, e])] at g
theorem byl_gen (L : ByL S ld) {f : Rw → Bool} (hf : LinS S.many S.wide.toNat f) (h : ∀ p ∈ S.box, f (rowOf p) = false) : ∀ o ∈ S.rows, f o = false :=
  L.I.gen f hf fun i l hi => h _ (pAt_mem ⟨by omega, by have := word_in L.I hi; omega⟩)
/-- of parcels that came nothing is open -/
theorem told_parcel (L : ByL S ld) (hp : p ∈ S.box) : (askR S p.1).1 = [] ∧ (askR S p.1).2.1 = p.2 := by
  have ok := L.I.ok p hp
  have c : (askR S p.1).1 = [] := Classical.byContradiction fun hn => by
    have D := red_of L.I ok.set (val_nought S.wide.toNat)
    have no : ∀ o ∈ S.rows, hd o.1 ≠ hd (askR S p.1).1 := fun o ho e => D.off o ho (e ▸ hd_mem hn)
    have z := byl_span L (linS_par (has (unseenBy S.rows (hd (askR S p.1).1)))) (uns_row L.I.ech no) p hp
    have o := (ask_open L.I ok.set hn).odd
    rw [show par (has (unseenBy S.rows (hd (askR S p.1).1))) p.1 = false from z] at o
    cases o
  exact ⟨c, by rw [byl_told L ok.set c]; exact L.b p hp⟩
structure Two (S1 S2 : YS) (ld : List (List Int)) : Prop where
  l1 : ByL S1 ld
  l2 : ByL S2 ld
  m : S1.many = S2.many
  w : S1.wide = S2.wide
  b : ∀ p, p ∈ S1.box ↔ p ∈ S2.box
theorem Two.sym (T : Two S1 S2 ld) : Two S2 S1 ld := ⟨T.l2, T.l1, T.m.symm, T.w.symm, fun p => (T.b p).symm⟩
theorem two_rows (T : Two S1 S2 ld) {f : Rw → Bool} (hf : LinS S1.many S1.wide.toNat f) (h : ∀ o ∈ S1.rows, f o = false) : ∀ o ∈ S2.rows, f o = false := by
  have hf2 : LinS S2.many S2.wide.toNat f := by rw [← T.m, ← T.w]; exact hf
  exact byl_gen T.l2 hf2 fun p hp => byl_span T.l1 hf h p ((T.b p).mpr hp)
theorem two_closed (T : Two S1 S2 ld) (hq : SetOk S1.many qs) (h : (askR S1 qs).1 = []) : (askR S2 qs).1 = [] := Classical.byContradiction fun hn => by
  have hq2 : SetOk S2.many qs := by rw [← T.m]; exact hq
  have D1 := red_of T.l1.I hq (val_nought S1.wide.toNat)
  have D2 := red_of T.l2.I hq2 (val_nought S2.wide.toNat)
  have no : ∀ o ∈ S2.rows, hd o.1 ≠ hd (askR S2 qs).1 := fun o ho e => D2.off o ho (e ▸ hd_mem hn)
  have r2 := uns_row T.l2.I.ech no
  have fU2 := linS_par (m := S2.many) (w := S2.wide.toNat) (has (unseenBy S2.rows (hd (askR S2 qs).1)))
  have fU1 := linS_par (m := S1.many) (w := S1.wide.toNat) (has (unseenBy S2.rows (hd (askR S2 qs).1)))
  have r1 := two_rows T.sym fU2 r2
  have e1 := D1.lin _ fU1 r1
  have o := (ask_open T.l2.I hq2 hn).odd
  have e1 : par (has (unseenBy S2.rows (hd (askR S2 qs).1))) (askR S1 qs).1 = par (has (unseenBy S2.rows (hd (askR S2 qs).1))) qs := e1
  rw [h, o] at e1
  cases e1
theorem uns_le {m : Int} {w : Nat} {n : Int} {rows : List Rw} {y : Int} (E : Ech m w n rows) (h : y ∈ unseenBy rows x) : y ≤ x := by
  rcases uns_mem.mp h with e | ⟨o, ho, hx, e⟩
  · omega
  · rw [← e]
    exact hd_le (E.wf o ho).set.1 x hx
theorem two_heads (T : Two S1 S2 ld) (h : x ∈ S1.rows.map fun o => hd o.1) : x ∈ S2.rows.map fun o => hd o.1 := Classical.byContradiction fun hn => by
  obtain ⟨o, ho, e⟩ := List.mem_map.mp h
  have no : ∀ q ∈ S2.rows, hd q.1 ≠ x := fun q hq e => hn (List.mem_map.mpr ⟨q, hq, e⟩)
  have r2 := uns_row T.l2.I.ech no
  have r1 := two_rows T.sym (linS_par (m := S2.many) (w := S2.wide.toNat) (has (unseenBy S2.rows x))) r2 o ho
  have so := (T.l1.I.ech.wf o ho).set
  have e2 : ∀ y ∈ o.1, has (unseenBy S2.rows x) y = decide (y = x) := fun y hy => by
    unfold has
    by_cases a : y = x
    · rw [decide_eq_true a, decide_eq_true (uns_mem.mpr (.inl a))]
    · rw [decide_eq_false a]
      refine decide_eq_false fun z => a ?_
      have := uns_le T.l2.I.ech z
      have := hd_le so.1 y hy
      omega
  have r1 : par (has (unseenBy S2.rows x)) o.1 = false := r1
  rw [par_congr e2, par_eq (ris_nodup so.1)] at r1
  have : x ∈ o.1 := e ▸ hd_mem (T.l1.I.ech.ne o ho)
  rw [show has o.1 x = true from decide_eq_true this] at r1
  cases r1
theorem two_len (T : Two S1 S2 ld) : S1.rows.length = S2.rows.length := by
  have a := sub_len (heads_nodup T.l1.I.ech) fun x hx => two_heads T hx
  have b := sub_len (heads_nodup T.l2.I.ech) fun x hx => two_heads T.sym hx
  rw [List.length_map, List.length_map] at a b
  omega
theorem two_told (T : Two S1 S2 ld) (hq : SetOk S1.many qs) : ((askR S1 qs).1 = [] ↔ (askR S2 qs).1 = []) ∧ ((askR S1 qs).1 = [] → (askR S1 qs).2.1 = (askR S2 qs).2.1) := by
  have hq2 : SetOk S2.many qs := by rw [← T.m]; exact hq
  refine ⟨⟨two_closed T hq, two_closed T.sym hq2⟩, fun h => ?_⟩
  rw [byl_told T.l1 hq h, byl_told T.l2 hq2 (two_closed T hq h), T.w]
end
/-! ### the law's order -/
def upL (n : Nat) : List Int := (List.range n).map fun (k : Nat) => (k : Int)
def popGo (st : Int) : Nat → List Int → Int → List Int
  | 0, _, _ => []
  | n + 1, l, a => l.getD ((a + st) % l.length).toNat 0 :: popGo st n (l.eraseIdx ((a + st) % l.length).toNat) ((a + st) % l.length)
theorem erase_perm : ∀ {l : List Int} {i : Nat} (h : i < l.length), (l[i] :: l.eraseIdx i).Perm l
  | _ :: _, 0, _ => List.Perm.refl _
  | a :: l, i + 1, h => by
    have ih := erase_perm (l := l) (i := i) (Nat.lt_of_succ_lt_succ h)
    show (l[i]'(Nat.lt_of_succ_lt_succ h) :: a :: l.eraseIdx i).Perm (a :: l)
    exact (List.Perm.swap _ _ _).trans (ih.cons a)
theorem popGo_perm (st : Int) : ∀ (n : Nat) (l : List Int) (a : Int), l.length = n → (popGo st n l a).Perm l
  | 0, l, a, h => by
    rw [List.eq_nil_of_length_eq_zero h]
    exact List.Perm.nil
  | n + 1, l, a, h => by
    have b1 := Int.emod_nonneg (a + st) (show (l.length : Int) ≠ 0 by omega)
    have b2 := Int.emod_lt_of_pos (a + st) (show (0 : Int) < l.length by omega)
    have hi : ((a + st) % l.length).toNat < l.length := by omega
    unfold popGo
    have e : l.getD ((a + st) % l.length).toNat 0 = l[((a + st) % l.length).toNat] := by rw [List.getD_eq_getElem?_getD, List.getElem?_eq_getElem hi]; rfl
    rw [e]
    exact ((popGo_perm st n (l.eraseIdx ((a + st) % l.length).toNat) _ (by rw [List.length_eraseIdx, if_pos hi, h]; rfl)).cons _).trans (erase_perm hi)
def orderOf (n : Nat) (c : Int) : List Int := if mix c 10331 3 = 0 then (List.range n).map fun (k : Nat) => (n : Int) - 1 - k else popGo (1 + mix c 10333 n) n (upL n) 0
theorem upL_mem {n : Nat} {x : Int} : x ∈ upL n ↔ 0 ≤ x ∧ x < n := placesUp_mem
theorem orderOf_ok (n : Nat) (c : Int) : (orderOf n c).length = n ∧ ∀ x, x ∈ orderOf n c ↔ 0 ≤ x ∧ x < n := by
  unfold orderOf
  split
  · refine ⟨by rw [List.length_map, List.length_range], fun x => ?_⟩
    rw [List.mem_map]
    constructor
    · rintro ⟨k, hk, rfl⟩
      have := List.mem_range.mp hk
      omega
    · rintro ⟨h1, h2⟩
      exact ⟨(n - 1 - x).toNat, List.mem_range.mpr (by omega), by omega⟩
  · have hl : (upL n).length = n := placesUp_len n
    have p := popGo_perm (1 + mix c 10333 n) n (upL n) 0 hl
    exact ⟨p.length_eq.trans hl, fun x => (p.mem_iff).trans upL_mem⟩
theorem order_box {ps : List Par} {ord : List Int} (hl : ∀ x, x ∈ ord ↔ 0 ≤ x ∧ x < ps.length) (p : Par) : p ∈ ps ↔ p ∈ ord.map (pAt ps) := by
  rw [List.mem_map]
  constructor
  · intro h
    obtain ⟨n, hn, e⟩ := List.mem_iff_getElem.mp h
    exact ⟨n, (hl n).mpr (by omega), pAt_get (by rw [List.getElem?_eq_getElem hn, e])⟩
  · rintro ⟨x, hx, rfl⟩
    exact pAt_mem ((hl x).mp hx)
end GM

set_option Elab.async false
set_option linter.all false
set_option maxHeartbeats 4000000
/-! GM9: a parcel's word, plain Lean -/
namespace GM
theorem red_indep (s v v' a : List Int) : ∀ rows : List Rw, (reduced rows (s, v, a)).1 = (reduced rows (s, v', a)).1 ∧ (reduced rows (s, v, a)).2.2 = (reduced rows (s, v', a)).2.2 := by
  have go : ∀ (rows : List Rw) (r r' : Rw), r.1 = r'.1 → r.2.2 = r'.2.2 → (reduced rows r).1 = (reduced rows r').1 ∧ (reduced rows r).2.2 = (reduced rows r').2.2 := by
    intro rows
    induction rows with
    | nil => intro r r' h1 h2; exact ⟨h1, h2⟩
    | cons o rows ih =>
      intro r r' h1 h2
      refine ih (redStep r o) (redStep r' o) ?_ ?_
      · unfold redStep
        rw [h1]
        split
        · show oddOnes r.1 o.1 = oddOnes r'.1 o.1
          rw [h1]
        · exact h1
      · unfold redStep
        rw [h1]
        split
        · show oddOnes r.2.2 o.2.2 = oddOnes r'.2.2 o.2.2
          rw [h2]
        · exact h2
  intro rows
  exact go rows _ _ rfl rfl
section
variable {S : YS} {k : Nat} {q : Par} {Q : List Int} {l : List Int}
/-- the word of one that comes -/
def comes (S : YS) (q : Par) : Wd × List Int := if (askR S q.1).1 ≠ [] then (.new, []) else (if (askR S q.1).2.1 = q.2 then .known else .against, (askR S q.1).2.2)
theorem comes_ok (I : YInv S S.box.length) (hq : ParOk S.many S.wide.toNat q) (hl : S.box.length < 60) (hg : (S.box.length : Int) ∉ S.gone) : (gathered S q).words = S.words ++ [comes S q] := by
  have IB := yinv_box I hq hl
  have D := red_of IB hq.set hq.val
  have last : pAt (S.box ++ [q]) S.box.length = q := pAt_last
  have e : gathered S q = judgeR { S with box := S.box ++ [q] } S.box.length (reduced S.rows (q.1, q.2, [])) := by
    unfold gathered judge rowOf
    show judgeR _ _ (reduced S.rows ((pAt (S.box ++ [q]) S.box.length).1, (pAt (S.box ++ [q]) S.box.length).2, [])) = _
    rw [last]
  obtain ⟨i1, i2⟩ := red_indep q.1 q.2 (nought S.wide.toNat) [] S.rows
  unfold judgeR at e
  rw [if_neg hg] at e
  unfold comes
  by_cases hn : (askR S q.1).1 = []
  · have hn' : (reduced S.rows (q.1, q.2, [])).1 = [] := i1.trans hn
    rw [if_neg (by simpa using hn')] at e
    rw [if_neg (by simpa using hn)]
    have C := ask_closed I hq.set hn
    -- the values
    have v : (reduced S.rows (q.1, q.2, [])).2.1 = nought S.wide.toNat ↔ (askR S q.1).2.1 = q.2 := by
      have key : ∀ j, bitAt (reduced S.rows (q.1, q.2, [])).2.1 j = xor (bitAt (askR S q.1).2.1 j) (bitAt q.2 j) := fun j => by
        have a := D.v j
        have b := C.v j
        have n2 : (reduced S.rows (q.1, q.2, [])).2.2 = (askR S q.1).2.2 := i2
        have pe : par (fun i => bitAt (pAt (S.box ++ [q]) i).2 j) (askR S q.1).2.2 = par (fun i => bitAt (pAt S.box i).2 j) (askR S q.1).2.2 := par_congr fun i hi => by rw [pAt_app (C.set.2 i hi)]
        have a : xor (bitAt (reduced S.rows (q.1, q.2, [])).2.1 j) (par (fun i => bitAt (pAt (S.box ++ [q]) i).2 j) (reduced S.rows (q.1, q.2, [])).2.2) = bitAt q.2 j := a
        rw [n2, pe, b] at a
        rw [← a]
        cases bitAt (reduced S.rows (q.1, q.2, [])).2.1 j <;> cases bitAt (askR S q.1).2.1 j <;> rfl
      constructor
      · intro h
        refine val_ext C.val hq.val fun j hj => ?_
        have := key j
        rw [h, bit_nought] at this
        revert this
        cases bitAt (askR S q.1).2.1 j <;> cases bitAt q.2 j <;> simp
      · intro h
        refine val_ext D.wf.val (val_nought _) fun j hj => ?_
        rw [key j, h, Bool.xor_self, bit_nought]
    by_cases hv : (askR S q.1).2.1 = q.2
    · rw [if_pos (v.mpr hv)] at e
      rw [if_pos hv, e]
      show S.words ++ [(Wd.known, (reduced S.rows (q.1, q.2, [])).2.2)] = S.words ++ [(Wd.known, (askR S q.1).2.2)]
      rw [i2]
    · rw [if_neg fun h => hv (v.mp h)] at e
      rw [if_neg hv, e]
      show S.words ++ [(Wd.against, (reduced S.rows (q.1, q.2, [])).2.2)] = S.words ++ [(Wd.against, (askR S q.1).2.2)]
      rw [i2]
  · have hn' : (reduced S.rows (q.1, q.2, [])).1 ≠ [] := fun h => hn (i1.symm.trans h)
    rw [if_pos hn'] at e
    rw [if_pos hn, e]
/-- what is told by the numbers -/
theorem cls_odd (C : Cls S k Q l nums) {m : Nat} (hQ : SetOk m Q) : lodd (nums.map fun i => (pAt S.box i).1) m = Q := by
  refine lodd_is hQ fun x _ => ?_
  rw [par_map]
  exact C.s x
theorem cls_sum (C : Cls S k Q l nums) (hk : k ≤ S.box.length) (ok : ∀ p ∈ S.box, Val S.wide.toNat p.2) : lsum (nums.map fun i => (pAt S.box i).2) S.wide.toNat = l := by
  refine val_ext (val_lsum _ _) C.val fun j hj => ?_
  rw [bit_lsum (fun v hv => by
    obtain ⟨i, hi, rfl⟩ := List.mem_map.mp hv
    have b := C.set.2 i hi
    exact ok _ (pAt_mem ⟨b.1, by omega⟩)) hj, par_map]
  exact C.v j
/-- the numbers of the kept ones -/
structure Kept (S : YS) (kept : List Int) : Prop where
  bd : ∀ j ∈ kept, 0 ≤ j ∧ j < S.box.length
  ok : ∀ j ∈ kept, ∃ d l, S.words[j.toNat]? = some (d, l) ∧ kep d = true
  all : ∀ (i : Nat) d l, S.words[i]? = some (d, l) → kep d = true → (i : Int) ∈ kept
  len : kept.length ≤ 60
theorem Kept.new {kept : List Int} (K : Kept S kept) {j : Int} (h0 : 0 ≤ j) {l : List Int} (h : S.words[j.toNat]? = some (.new, l)) : j ∈ kept := by
  have := K.all j.toNat .new l h rfl
  rwa [Int.toNat_of_nonneg h0] at this
theorem opn_kept {u kept : List Int} (O : Opn S Q u) (K : Kept S kept) : ∀ j ∈ kept, par (has u) (pAt S.box j).1 = false := fun j hj => by
  obtain ⟨d, l, h, hd⟩ := K.ok j hj
  have := O.even j.toNat d l h fun e => by rw [e] at hd; cases hd
  rwa [Int.toNat_of_nonneg (K.bd j hj).1] at this
end
end GM
namespace GM
/-! ### the law's orders of questions -/
def ways : List (List Int) := [[0, 1, 2], [0, 2, 1], [1, 0, 2], [1, 2, 0], [2, 0, 1], [2, 1, 0]]
def wayOf (t : Int) : List Int := ways.getD (t % 6).toNat []
theorem way_in (t : Int) : ways[(t % 6).toNat]? = some (wayOf t) := by
  have b1 := Int.emod_nonneg t (by decide : (6 : Int) ≠ 0)
  have b2 := Int.emod_lt_of_pos t (by decide : (0 : Int) < 6)
  unfold wayOf
  rw [List.getD_eq_getElem?_getD, List.getElem?_eq_getElem (show (t % 6).toNat < ways.length by show _ < 6; omega)]
  rfl
theorem way_ok (t : Int) : (∀ x ∈ wayOf t, x = 0 ∨ x = 1 ∨ x = 2) ∧ (0 : Int) ∈ wayOf t ∧ (1 : Int) ∈ wayOf t ∧ (2 : Int) ∈ wayOf t := by
  have h : ∀ w ∈ ways, (∀ x ∈ w, x = 0 ∨ x = 1 ∨ x = 2) ∧ (0 : Int) ∈ w ∧ (1 : Int) ∈ w ∧ (2 : Int) ∈ w := by decide
  exact h _ (List.mem_of_getElem? (way_in t))
end GM
namespace GM
theorem comes_kept {S S' : YS} {q : Par} {kept : List Int} (K : Kept S kept) (I' : YInv S' S'.box.length) (hb : S'.box = S.box ++ [q]) (hw : S'.words = S.words ++ [comes S q]) (wl : S.words.length = S.box.length) (hl : kept.length ≤ S.box.length) (h60 : S.box.length < 60) :
    Kept S' (if (comes S q).1 ≠ .against then kept ++ [(S.box.length : Int)] else kept) ∧ (if (comes S q).1 ≠ .against then kept ++ [(S.box.length : Int)] else kept).length ≤ S'.box.length := by
  have bl : S'.box.length = S.box.length + 1 := by rw [hb, List.length_append]; rfl
  have out : (comes S q).1 ≠ .out := by
    unfold comes
    split
    · exact fun h => by cases h
    · dsimp only
      split <;> exact fun h => by cases h
  have up : ∀ (i : Nat) d, S.words[i]? = some d → S'.words[i]? = some d := fun i d h => by rw [hw]; exact word_up h
  have last : S'.words[S.box.length]? = some (comes S q) := by
    rw [hw, List.getElem?_append_right (by omega), wl, Nat.sub_self]
    rfl
  have old : ∀ (i : Nat) d l, S'.words[i]? = some (d, l) → kep d = true → (i : Int) ∈ kept ∨ (i = S.box.length ∧ (d, l) = comes S q) := fun i d l h hd => by
    rw [hw] at h
    rcases word_last h with ⟨_, h⟩ | ⟨e, h⟩
    · exact .inl (K.all i d l h hd)
    · exact .inr ⟨by omega, h⟩
  have kb : ∀ j ∈ kept, 0 ≤ j ∧ j < S'.box.length := fun j hj => by have := K.bd j hj; omega
  have ko : ∀ j ∈ kept, ∃ d l, S'.words[j.toNat]? = some (d, l) ∧ kep d = true := fun j hj => let ⟨d, l, h1, h2⟩ := K.ok j hj; ⟨d, l, up _ _ h1, h2⟩
  by_cases h : (comes S q).1 ≠ .against
  · rw [if_pos h]
    have hk : kep (comes S q).1 = true := by
      cases e : (comes S q).1 with
      | out => exact absurd e out
      | new => rfl
      | known => rfl
      | against => exact absurd e h
    refine ⟨⟨fun j hj => ?_, fun j hj => ?_, fun i d l h1 h2 => ?_, ?_⟩, ?_⟩
    · rcases List.mem_append.mp hj with hj | hj
      · exact kb j hj
      · rw [List.mem_singleton.mp hj]; omega
    · rcases List.mem_append.mp hj with hj | hj
      · exact ko j hj
      · rw [List.mem_singleton.mp hj, Int.toNat_natCast]
        exact ⟨_, _, last, hk⟩
    · rcases old i d l h1 h2 with h3 | ⟨h3, _⟩
      · exact List.mem_append_left _ h3
      · exact List.mem_append_right _ (by rw [h3]; exact List.mem_cons_self)
    · rw [List.length_append]; show kept.length + 1 ≤ 60; omega
    · rw [List.length_append]; show kept.length + 1 ≤ _; omega
  · rw [if_neg h]
    have h : (comes S q).1 = .against := Decidable.byContradiction h
    refine ⟨⟨kb, ko, fun i d l h1 h2 => ?_, K.len⟩, by omega⟩
    rcases old i d l h1 h2 with h3 | ⟨_, h3⟩
    · exact h3
    · have e := congrArg Prod.fst h3
      rw [h] at e
      have e : d = .against := e
      rw [e] at h2
      cases h2
end GM
namespace GM
theorem word_len {S : YS} {k i : Nat} {d : Wd} {l : List Int} (I : YInv S k) (h : S.words[i]? = some (d, l)) : l.length ≤ 60 := by
  have hi := word_in I h
  have := I.kl
  have := I.len
  cases d with
  | out => rw [I.wnil i _ l h (.inl rfl)]; exact Nat.zero_le _
  | new => rw [I.wnil i _ l h (.inr rfl)]; exact Nat.zero_le _
  | known =>
    have := setOk_len (I.wnum i _ l h (.inl rfl)).1
    omega
  | against =>
    have := setOk_len (I.wnum i _ l h (.inr rfl)).1
    omega
end GM
namespace GM
theorem comes_not {S : YS} {q : Par} : (comes S q).1 ≠ .out := by
  unfold comes
  split
  · exact fun h => by cases h
  · dsimp only
    split <;> exact fun h => by cases h
theorem comes_kep {S : YS} {q : Par} : kep (comes S q).1 = decide ((comes S q).1 ≠ .against) := by
  have := comes_not (S := S) (q := q)
  cases h : (comes S q).1 <;> rw [h] at this <;> first | exact absurd rfl this | rfl
end GM

set_option Elab.async false
set_option linter.all false
set_option maxHeartbeats 4000000
/-! GM10: parcels gathered by a law, plain Lean -/
namespace GM
def wOf (S : YS) (n : Int) : Wd × List Int := S.words.getD n.toNat (.out, [])
structure GInv (S : YS) (kept : List Int) (ld : List (List Int)) : Prop where
  I : YInv S S.box.length
  g : S.gone = []
  K : Kept S kept
  kl : kept.length ≤ S.box.length
  l : (ld.length : Int) = S.many
  v : ∀ v ∈ ld, Val S.wide.toNat v
  nw : (kept.filter fun j => decide ((wOf S j).1 = .new)).length = S.rows.length
def keptNext (S : YS) (kept : List Int) (q : Par) : List Int := if (comes S q).1 ≠ .against then kept ++ [(S.box.length : Int)] else kept
theorem ginv_new {many wide : Int} {ld : List (List Int)} (hm : 1 ≤ many ∧ many ≤ 24) (hw : 1 ≤ wide ∧ wide ≤ 32) (hl : (ld.length : Int) = many) (hv : ∀ v ∈ ld, Val wide.toNat v) : GInv (newY many wide) [] ld :=
  ⟨yinv_new hm hw, rfl, ⟨fun _ h => (List.not_mem_nil h).elim, fun _ h => (List.not_mem_nil h).elim, fun i d l h => by
      have h : ([] : List (Wd × List Int))[i]? = some (d, l) := h
      simp at h, Nat.zero_le _⟩, Nat.zero_le _, hl, hv, rfl⟩
section
variable {S : YS} {kept : List Int} {ld : List (List Int)} {q : Par}
theorem gathered_rows (hg : S.gone = []) : (gathered S q).rows.length = S.rows.length + (if (comes S q).1 = .new then 1 else 0) := by
  have last : pAt (S.box ++ [q]) S.box.length = q := pAt_last
  have e : gathered S q = judgeR { S with box := S.box ++ [q] } S.box.length (reduced S.rows (q.1, q.2, [])) := by
    unfold gathered judge rowOf
    show judgeR _ _ (reduced S.rows ((pAt (S.box ++ [q]) S.box.length).1, (pAt (S.box ++ [q]) S.box.length).2, [])) = _
    rw [last]
  obtain ⟨i1, i2⟩ := red_indep q.1 q.2 (nought S.wide.toNat) [] S.rows
  unfold judgeR at e
  rw [if_neg (show (S.box.length : Int) ∉ S.gone by rw [hg]; exact List.not_mem_nil)] at e
  unfold comes
  by_cases hn : (askR S q.1).1 = []
  · have hn' : (reduced S.rows (q.1, q.2, [])).1 = [] := i1.trans hn
    rw [if_neg (by simpa using hn')] at e
    rw [if_neg (show ¬ (askR S q.1).1 ≠ [] by simpa using hn)]
    dsimp only
    have ne : ¬ (if (askR S q.1).2.1 = q.2 then Wd.known else Wd.against) = Wd.new := by split <;> exact fun h => by cases h
    rw [if_neg ne, e]
    split <;> rfl
  · have hn' : (reduced S.rows (q.1, q.2, [])).1 ≠ [] := fun h => hn (i1.symm.trans h)
    rw [if_pos hn'] at e
    rw [if_pos hn, if_pos rfl, e]
    exact withRow_len _ _
theorem ginv_step (G : GInv S kept ld) (hq : ParOk S.many S.wide.toNat q) (hl : S.box.length < 60) : GInv (gathered S q) (keptNext S kept q) ld := by
  obtain ⟨g1, g2, g3, g4⟩ := gathered_box (S := S) (p := q)
  have I' := yinv_gathered G.I hq hl
  have gw := comes_ok G.I hq hl (by rw [G.g]; exact List.not_mem_nil)
  obtain ⟨K', kl'⟩ := comes_kept G.K I' g1 gw G.I.wl G.kl hl
  refine ⟨I', g4.trans G.g, K', kl', by rw [g2]; exact G.l, by rw [g3]; exact G.v, ?_⟩
  rw [gathered_rows G.g, ← G.nw]
  have old : ∀ j ∈ kept, wOf (gathered S q) j = wOf S j := fun j hj => by
    have b := G.K.bd j hj
    unfold wOf
    rw [gw, List.getD_eq_getElem?_getD, List.getD_eq_getElem?_getD, List.getElem?_append_left (by rw [G.I.wl]; omega)]
  have last : wOf (gathered S q) ((S.box.length : Nat) : Int) = comes S q := by
    unfold wOf
    rw [gw, Int.toNat_natCast, List.getD_eq_getElem?_getD, List.getElem?_append_right (by rw [G.I.wl]; exact Nat.le_refl _), G.I.wl, Nat.sub_self]
    rfl
  have e1 : kept.filter (fun j => decide ((wOf (gathered S q) j).1 = .new)) = kept.filter (fun j => decide ((wOf S j).1 = .new)) := List.filter_congr fun j hj => by rw [old j hj]
  unfold keptNext
  by_cases h : (comes S q).1 = .against
  · rw [if_neg (by simpa using h), if_neg (by rw [h]; exact fun z => by cases z), e1]
    rfl
  · rw [if_pos h, List.filter_append, List.length_append, e1]
    congr 1
    by_cases hn : (comes S q).1 = .new
    · rw [if_pos hn]
      have : decide ((wOf (gathered S q) ((S.box.length : Nat) : Int)).1 = Wd.new) = true := decide_eq_true (by rw [last]; exact hn)
      simp [List.filter_cons, this]
    · rw [if_neg hn]
      have : decide ((wOf (gathered S q) ((S.box.length : Nat) : Int)).1 = Wd.new) = false := decide_eq_false (by rw [last]; exact hn)
      simp [List.filter_cons, this]
end
end GM

set_option Elab.async false
set_option linter.all false
set_option maxHeartbeats 4000000
/-! GM11: openings, plain Lean -/
namespace GM
def headsOf (rows : List Rw) : List Int := rows.map fun o => hd o.1
def freeOf (m : Nat) (rows : List Rw) : List Int := ((List.range m).filter fun (k : Nat) => !decide ((k : Int) ∈ headsOf rows)).map fun (k : Nat) => (k : Int)
def opensOf (S : YS) : List (List Int) := ((List.range S.many.toNat).filter fun (k : Nat) => !decide ((k : Int) ∈ headsOf S.rows)).map fun (k : Nat) => unseenBy S.rows (k : Int)
theorem opens_eq (S : YS) : opensOf S = (freeOf S.many.toNat S.rows).map (unseenBy S.rows) := by
  unfold opensOf freeOf
  rw [List.map_map]
  rfl
theorem free_mem {m : Nat} {rows : List Rw} {x : Int} : x ∈ freeOf m rows ↔ (0 ≤ x ∧ x < m) ∧ x ∉ headsOf rows := by
  unfold freeOf
  rw [List.mem_map]
  constructor
  · rintro ⟨k, hk, rfl⟩
    have h := List.mem_filter.mp hk
    have := List.mem_range.mp h.1
    exact ⟨by omega, by simpa using h.2⟩
  · rintro ⟨h1, h2⟩
    exact ⟨x.toNat, List.mem_filter.mpr ⟨List.mem_range.mpr (by omega), by rw [Int.toNat_of_nonneg h1.1]; simpa using h2⟩, by omega⟩
theorem free_ris (m : Nat) (rows : List Rw) : Rise (freeOf m rows) := by
  unfold freeOf
  exact List.pairwise_map.mpr ((List.pairwise_lt_range.sublist List.filter_sublist).imp fun h => by omega)
theorem opens_len {S : YS} {k : Nat} (I : YInv S k) : (opensOf S).length = S.many.toNat - S.rows.length := by
  rw [opens_eq, List.length_map]
  have E := I.ech
  have hn := heads_nodup E
  have fn := ris_nodup (free_ris S.many.toNat S.rows)
  have all : (headsOf S.rows ++ freeOf S.many.toNat S.rows).Nodup := List.nodup_append.mpr ⟨hn, fn, fun a ha b hb e => (free_mem.mp hb).2 (e ▸ ha)⟩
  have sub : ∀ x ∈ headsOf S.rows ++ freeOf S.many.toNat S.rows, x ∈ placesUp S.many.toNat := fun x hx => by
    rcases List.mem_append.mp hx with h | h
    · obtain ⟨o, ho, rfl⟩ := List.mem_map.mp h
      have := (E.wf o ho).set.2 _ (hd_mem (E.ne o ho))
      exact placesUp_mem.mpr (by omega)
    · exact placesUp_mem.mpr (free_mem.mp h).1
  have a := sub_len all sub
  have pn : (placesUp S.many.toNat).Nodup := by
    unfold placesUp
    exact List.pairwise_map.mpr (List.pairwise_lt_range.imp fun h e => by omega)
  have b := sub_len pn fun x hx => by
    by_cases h : x ∈ headsOf S.rows
    · exact List.mem_append_left (freeOf S.many.toNat S.rows) h
    · exact List.mem_append_right _ (free_mem.mpr ⟨placesUp_mem.mp hx, h⟩)
  rw [List.length_append, placesUp_len] at a b
  have : (headsOf S.rows).length = S.rows.length := List.length_map _
  omega
theorem opens_ok {S : YS} {k : Nat} (I : YInv S k) : ∀ u ∈ opensOf S, SetOk S.many u ∧ u ≠ [] ∧ ∀ (i : Nat) d l, S.words[i]? = some (d, l) → d ≠ .out → par (has u) (pAt S.box i).1 = false := by
  intro u hu
  rw [opens_eq] at hu
  obtain ⟨x, hx, rfl⟩ := List.mem_map.mp hu
  have h := free_mem.mp hx
  have no : ∀ o ∈ S.rows, hd o.1 ≠ x := fun o ho e => h.2 (List.mem_map.mpr ⟨o, ho, e⟩)
  refine ⟨uns_set I.ech (by omega) no, fun e => ?_, fun i d l h1 h2 => I.spanS _ (linS_par _) (fun _ _ _ _ => rfl) (uns_row I.ech no) i d l h1 h2⟩
  have : x ∈ unseenBy S.rows x := uns_mem.mpr (.inl rfl)
  rw [e] at this
  cases this
/-! ### none a sum of others -/
def Indep (L : List (List Int)) : Prop := ∀ c : Nat → Bool, (∀ x, par (fun i => c i && has (L.getD i []) x) (List.range L.length) = false) → ∀ i, i < L.length → c i = false
theorem par_one_at {n k : Nat} (hk : k < n) (f : Nat → Bool) (h : ∀ i, i < n → i ≠ k → f i = false) : par f (List.range n) = f k := by
  have e : ∀ i ∈ List.range n, f i = (decide (i = k) && f k) := fun i hi => by
    by_cases e : i = k
    · subst e; simp
    · rw [h i (List.mem_range.mp hi) e, decide_eq_false e]; rfl
  rw [par_congr e]
  cases f k with
  | false => exact par_false fun i _ => by simp
  | true =>
    have key : ∀ n : Nat, par (fun i => decide (i = k) && true) (List.range n) = decide (k < n) := fun n => by
      induction n with
      | zero => rfl
      | succ n ih =>
        rw [List.range_succ, par_append, ih]
        simp only [par, Bool.and_true, Bool.xor_false]
        by_cases a : n = k
        · subst a
          simp
        · by_cases b : k < n
          · rw [decide_eq_true b, decide_eq_false a, decide_eq_true (by omega)]; rfl
          · rw [decide_eq_false b, decide_eq_false a, decide_eq_false (by omega)]; rfl
    rw [key, decide_eq_true hk]
theorem indep_ne {L : List (List Int)} (h : Indep L) {k : Nat} (hk : k < L.length) : L.getD k [] ≠ [] := fun e => by
  have := h (fun i => decide (i = k)) (fun x => by
    rw [par_one_at hk _ fun i _ ne => by simp [ne], e]
    simp [has]) k hk
  simp at this
theorem indep_set {L : List (List Int)} {j k : Nat} {N : List Int} (h : Indep L) (hj : j < L.length) (hk : k < L.length) (ne : j ≠ k) (hN : ∀ x, has N x = xor (has (L.getD j []) x) (has (L.getD k []) x)) : Indep (L.set j N) := by
  intro c hc i hi
  rw [List.length_set] at hc hi
  have z := h (fun i => if i = k then xor (c k) (c j) else c i) (fun x => ?_)
  · have cj := z j hj
    rw [if_neg ne] at cj
    have ck := z k hk
    rw [if_pos rfl, cj, Bool.xor_false] at ck
    by_cases e : i = k
    · rw [e]; exact ck
    · have := z i hi
      rwa [if_neg e] at this
  · have e : ∀ i ∈ List.range L.length, ((if i = k then xor (c k) (c j) else c i) && has (L.getD i []) x) = xor (c i && has ((L.set j N).getD i []) x) (xor (decide (i = j) && (c j && has (L.getD k []) x)) (decide (i = k) && (c j && has (L.getD k []) x))) := fun i hi => by
      have hi := List.mem_range.mp hi
      by_cases a : i = k
      · subst a
        have e1 : (L.set j N).getD i [] = L.getD i [] := by rw [List.getD_eq_getElem?_getD, List.getD_eq_getElem?_getD, List.getElem?_set_ne ne]
        rw [if_pos rfl, e1, decide_eq_true rfl, decide_eq_false (fun z => ne z.symm)]
        cases c i <;> cases c j <;> cases has (L.getD i []) x <;> rfl
      · rw [if_neg a, decide_eq_false a]
        by_cases b : i = j
        · subst b
          have e1 : (L.set i N).getD i [] = N := by rw [List.getD_eq_getElem?_getD, List.getElem?_set_self hj]; rfl
          rw [e1, hN, decide_eq_true rfl]
          cases c i <;> cases has (L.getD i []) x <;> cases has (L.getD k []) x <;> rfl
        · have e1 : (L.set j N).getD i [] = L.getD i [] := by rw [List.getD_eq_getElem?_getD, List.getD_eq_getElem?_getD, List.getElem?_set_ne (fun z => b z.symm)]
          rw [e1, decide_eq_false b]
          cases c i <;> cases has (L.getD i []) x <;> rfl
    rw [par_congr e, par_xor, hc x, par_xor, par_one_at hj _ fun i _ ne => by simp [ne], par_one_at hk _ fun i _ ne => by simp [ne]]
    simp
theorem opens_indep {S : YS} {k : Nat} (I : YInv S k) : Indep (opensOf S) := by
  rw [opens_eq]
  intro c hc i hi
  rw [List.length_map] at hc hi
  have hx := hc ((freeOf S.many.toNat S.rows).getD i 0)
  have at_ : ∀ l, l < (freeOf S.many.toNat S.rows).length → ((freeOf S.many.toNat S.rows).map (unseenBy S.rows)).getD l [] = unseenBy S.rows ((freeOf S.many.toNat S.rows).getD l 0) := fun l hl => by
    rw [List.getD_eq_getElem?_getD, List.getD_eq_getElem?_getD, List.getElem?_map, List.getElem?_eq_getElem hl]
    rfl
  have inF : ∀ l, l < (freeOf S.many.toNat S.rows).length → (freeOf S.many.toNat S.rows).getD l 0 ∈ freeOf S.many.toNat S.rows := fun l hl => getD_in hl
  rw [par_one_at hi _ fun l hl ne => ?_] at hx
  · rw [at_ i hi, show has (unseenBy S.rows ((freeOf S.many.toNat S.rows).getD i 0)) ((freeOf S.many.toNat S.rows).getD i 0) = true from decide_eq_true (uns_mem.mpr (.inl rfl)), Bool.and_true] at hx
    exact hx
  · rw [at_ l hl]
    have : has (unseenBy S.rows ((freeOf S.many.toNat S.rows).getD l 0)) ((freeOf S.many.toNat S.rows).getD i 0) = false := decide_eq_false fun h => by
      rcases uns_mem.mp h with e | ⟨o, ho, _, e⟩
      · have r := free_ris S.many.toNat S.rows
        by_cases lt : i < l
        · have := rise_get r lt hl; omega
        · have := rise_get r (show l < i by omega) hi; omega
      · exact (free_mem.mp (inF i hi)).2 (List.mem_map.mpr ⟨o, ho, e⟩)
    rw [this, Bool.and_false]
theorem lodd_two {m : Int} {a b : List Int} (hm : 0 ≤ m) (ha : SetOk m a) (hb : SetOk m b) (x : Int) : has (lodd [a, b] m.toNat) x = xor (has a x) (has b x) := by
  by_cases h : 0 ≤ x ∧ x < (m.toNat : Int)
  · rw [has_lodd h]
    simp [par]
  · have n : ∀ {n : Int} {l : List Int}, n = (m.toNat : Int) → SetOk n l → has l x = false := fun e hl => decide_eq_false fun q => h (e ▸ hl.2 x q)
    rw [n rfl (lodd_set _ _), n (by omega) ha, n (by omega) hb]
    rfl
end GM

set_option Elab.async false
set_option linter.all false
set_option maxRecDepth 100000
set_option maxHeartbeats 4000000
/-! GF: what a yard tells of a sum, as new lists -/
namespace GL
open PySem PySem.Spec L2
instance (priority := 800) rd_nd {N t x} : RdR (.nd N t x) (.d x) := ⟨fun _ _ _ _ _ r => r.1⟩
def byF (S : GM.YS) (Q : List Int) : Fd := if (GM.askR S Q).1 ≠ [] then .d .none else .o ((GM.askR S Q).2.2.map .int)
def unsF (S : GM.YS) (Q : List Int) : Fd := if (GM.askR S Q).1 = [] then .d .none else .o ((GM.unseenBy S.rows (GM.hd (GM.askR S Q).1)).map .int)
theorem byF_ng (S : GM.YS) (Q : List Int) : ∀ ks, byF S Q ≠ .g ks := fun ks h => by
  unfold byF at h
  split at h <;> cases h
theorem unsF_ng (S : GM.YS) (Q : List Int) : ∀ ks, unsF S Q ≠ .g ks := fun ks h => by
  unfold unsF at h
  split at h <;> cases h
theorem byF_dat (S : GM.YS) (Q : List Int) : fdD (byF S Q) = byD S Q := by
  unfold byF byD
  split <;> rfl
theorem unsF_dat (S : GM.YS) (Q : List Int) : fdD (unsF S Q) = unsD S Q := by
  unfold unsF unsD
  split <;> rfl
theorem ans_plain (S : GM.YS) (Q : List Int) (x : PyData) : plainF [.d x, byF S Q, unsF S Q] = true := by
  unfold byF unsF
  by_cases h : (GM.askR S Q).1 = []
  · rw [if_neg (by simpa using h), if_pos h]; rfl
  · rw [if_pos h, if_neg h]; rfl
theorem ans_dat (S : GM.YS) (Q : List Int) (x : PyData) : seqD false ([Fd.d x, byF S Q, unsF S Q].map fdD) = .list [x, byD S Q, unsD S Q] := by
  show PyData.list [x, fdD (byF S Q), fdD (unsF S Q)] = _
  rw [byF_dat, unsF_dat]
/-- the list that tells it, of one way or the other -/
def ansL (S : GM.YS) (Q : List Int) : List Int := if (GM.askR S Q).1 ≠ [] then GM.unseenBy S.rows (GM.hd (GM.askR S Q).1) else (GM.askR S Q).2.2
section
variable {X : Cx} {B0 H0 : Hp} {δ δ' : List (Option A)} {e e1 e2 e3 o c : Expr} {es : List Expr} {a a0 a1 a2 : A} {xs ys : List PyData} {x y z : PyData} {pos p1 p2 p3 apos : Pos} {k i : Nat} {S : GM.YS} {Q : List Int}
theorem Pf.ans (h : Pf X B0 H0 δ e (.nf false [.d x, byF S Q, unsF S Q])) : Pe X B0 H0 δ e (.d (.list [x, byD S Q, unsD S Q])) := (h.dat (ans_plain S Q x)).is (by rw [ans_dat])
theorem p_ans (i : Nat) {x : Str} {u : PyData} (hd : δ[i]? = some (some (.nf false [.d u, byF S Q, unsF S Q]))) (hN : X.N[i]? = some x := by rfl) (hv : Vis X.env.scope x := by first | exact .inl rfl | exact .inr (.inl rfl) | exact .inr (.inr rfl)) (h1 : (x == ("__debug__" : Str)) = false := by decide) (h2 : (x == ("__classdict__" : Str)) = false := by decide) : Pe X B0 H0 δ (.Name x pos) (.t (.list [u, byD S Q, unsD S Q])) :=
  (p_varN i hd (ans_plain S Q u) hN hv h1 h2).is (by rw [ans_dat])
/-- a list of data, each of its items by itself -/
theorem fdw_of_dqs {B H : Hp} : ∀ {vs : List V} {xs : List PyData}, Dqs B vs xs → FdW B H (nm vs) (nm (xs.map Fd.d))
  | _, _, .nil => .nil
  | _, _, .cons r t => .cons r (fdw_of_dqs t)
theorem fdp_d {vs : List V} {xs : List PyData} {i : Nat} {q : Addr} (h : FdP (nm vs) (nm (xs.map Fd.d)) i q) : False := by
  obtain ⟨_, f, h1, h2⟩ := fdp_nm.mp h
  rw [List.getElem?_map] at h1
  cases e : xs[i]? with
  | none => rw [e] at h1; cases h1
  | some d => rw [e] at h1; cases h1; cases h2
theorem Pn.nf (h : Pn X B0 H0 δ e xs) : Pf X B0 H0 δ e (.nf false (xs.map .d)) := pe_to h fun σ H Q ⟨B, E, S, k⟩ => ⟨B, E, S, fun p vs B' H' E1 hp hb hl hd => k (.ref p) B' H' E1 ⟨p, vs, rfl, hb, hl, fdw_of_dqs hd, fun i j q g => (fdp_d g).elim, fun i q g => (fdp_d g).elim⟩ fun q f => by
  rcases f with f | ⟨p', vs', i, f1, f2, f3⟩
  · cases f
    exact hp
  · exact (fdp_d f3).elim⟩
theorem ws_putF {E : AE} {rest : List Stmt} {i j : Nat} {xn : Str} {n : Int} {f : Fd} {fs : List Fd} {spos : Pos} (hδ : δ[i]? = some (some (.nf false fs))) (he : Pf X B0 H0 δ e (fdV f)) (hg' : ∀ ks, f ≠ .g ks) (hi : Pe X B0 H0 δ e2 (.d (.int n))) (hj : ixN fs.length n = some j) (hr : Ws X B0 H0 (δ.set i (some (.nf false (fs.set j f)))) rest E) (hN : X.N[i]? = some xn) (hv : Vis X.env.scope xn)
    (h1 : (xn == ("__debug__" : Str)) = false := by decide) (h2 : (xn == ("__classdict__" : Str)) = false := by decide)
    (ha : ∀ v, assign (.Subscript (.Name xn p1) e2 p2) X.env v = (do
      let ov ← holding [v] (eval (.Name xn p1) X.env)
      let iv ← holding [v, ov] (eval e2 X.env)
      standAt p2
      holding [v, ov, iv] (setItem ov iv v)
      release [v, ov, iv] []) := by intro _; rfl)
    (hs : swapsWithSole [.Subscript (.Name xn p1) e2 p2] e spos.line X.env = pure false := by rfl) (hw : swappedStores [.Subscript (.Name xn p1) e2 p2] e X.env = pure none := by rfl) (h3 : (assignEach [.Subscript (.Name xn p1) e2 p2] X.env).map (·.2) = [assign (.Subscript (.Name xn p1) e2 p2) X.env] := by rfl) :
    Ws X B0 H0 δ (.Assign [.Subscript (.Name xn p1) e2 p2] e spos :: rest) E :=
  ws_putN hδ he hg' hi hj hr hN hv (pg_sub (pe_var (i := i) hN hv h1 h2) hi set_list ha) hs hw h3
end
end GL
namespace GL
open PySem PySem.Spec L2 GM
/-- each of these that is not None, with a copy of it -/
def heldOf (l : List PyData) : List PyData := (l.filter fun d => !isN d).map fun d => .tuple [d, d]
abbrev hdI (l : List Int) : PyData := .tuple [li l, li l]
theorem heldOf_ans (S : YS) (Q : List Int) : heldOf [byD S Q, unsD S Q] = [hdI (ansL S Q)] := by
  unfold byD unsD ansL
  by_cases h : (askR S Q).1 = []
  · rw [if_neg (by simpa using h), if_pos h, if_neg (by simpa using h)]; rfl
  · rw [if_pos h, if_neg h, if_pos h]; rfl
theorem ans_or (S : YS) (Q : List Int) : ∀ d ∈ [byD S Q, unsD S Q], d = .none ∨ ∃ l : List Int, d = li l := fun d hd => by
  rcases List.mem_cons.mp hd with rfl | hd
  · unfold byD
    split
    · exact .inl rfl
    · exact .inr ⟨_, rfl⟩
  · rw [List.mem_singleton.mp hd]
    unfold unsD
    split
    · exact .inl rfl
    · exact .inr ⟨_, rfl⟩
theorem ans_items {S : YS} {Q : List Int} {k : Nat} (I : YInv S k) (hQ : SetOk S.many Q) : ∀ f ∈ [byF S Q, unsF S Q], f = .d .none ∨ ∃ l : List Int, f = .o (l.map .int) ∧ l.length ≤ 100 := fun f hf => by
  have im := I.m
  have ik := I.kl
  have il := I.len
  rcases List.mem_cons.mp hf with rfl | hf
  · unfold byF
    by_cases h : (askR S Q).1 = []
    · rw [if_neg (by simpa using h)]
      have := setOk_len (ask_closed I hQ h).set
      exact .inr ⟨_, rfl, by omega⟩
    · rw [if_pos h]; exact .inl rfl
  · rw [List.mem_singleton.mp hf]
    unfold unsF
    by_cases h : (askR S Q).1 = []
    · rw [if_pos h]; exact .inl rfl
    · rw [if_neg h]
      have := setOk_len (ask_open I hQ h).set
      exact .inr ⟨_, rfl, by omega⟩
theorem sh_ans (S : YS) (Q : List Int) : Sh 4 (.list [toldD S Q, byD S Q, unsD S Q]) := sh_list (n := 3) fun d hd => by
  rcases List.mem_cons.mp hd with rfl | hd
  · exact sh_told _ _
  · rcases ans_or S Q d hd with rfl | ⟨l, rfl⟩
    · exact Sh.up (sh_none 0)
    · exact Sh.up (sh_li _)
theorem eqv_nil {α : Type} (f : α → PyData) (l : List α) : PyData.eqv (.list (l.map f)) (.list []) = l.isEmpty := by
  cases l with
  | nil => exact Sh.same (n := 1) (sh_list (n := 0) fun _ h => by cases h)
  | cons a l => first | rfl | (simp [PyData.eqv])
/-- the sums that are asked -/
def lookQ (many : Int) (ps : List Par) (c : Int) : List (List Int) := lset (c + 5) many :: (if ps ≠ [] then [(pAt ps (mix c 10267 ps.length)).1] else [])
end GL

set_option Elab.async false
set_option linter.all false
set_option maxRecDepth 100000
set_option maxHeartbeats 4000000
/-! GJ: while an error is handled: a list walked to its end -/
namespace GL
open PySem PySem.Spec PyProof.Rows HotX
theorem list_end_hot {prog : Program} {w : World} {A : Around} {E : Value → Shared → Prop} {s : Shared} {it l x1 : Addr} {i : Nat} {items} {Q : Option Value → Shared → Prop} (hot : HotAt A x1 s.heap)
    (hit : s.heap.IsListIter it l i) (hl : s.heap.IsList l items) (hx : items[i]? = none)
    (hQ : ∀ h', (∀ b o, b ≠ it → s.heap.get? b = some o → h'.get? b = some o) → Q none { s with heap := h' }) : wpAny (model prog w) A (pyNext (.ref it)) Q E s := by
  obtain ⟨o, ho, hc, hd⟩ := id hit
  obtain ⟨ol, hol, _, nl, hdl⟩ := hl
  obtain ⟨hh, o1, vs1, h1, d1, c1⟩ := hot
  have n1 : x1 ≠ it := fun e => by
    rw [e, ho] at h1
    cases h1
    rw [hd] at d1
    cases d1
    simp at c1
  unfold pyNext
  refine wpAny_bind (wpAny_attempt (wpAny_callSpecial?_slot (name := Str.ofString "__next__") hit.typeIs slot_listiter_next
    (wpAny_call_entry slot_listiter_next hit.typeIs entry_listiter_next ?_ (args_listiter_next _))))
  show wpAny _ _ (field (.ref it) 0 >>= _) _ _ s
  refine wpAny_bind (wpAny_field ho hd (x := .ref l) rfl ?_)
  show wpAny _ _ (if (Value.ref l == Value.none) = true then _ else _) _ _ s
  rw [if_neg (show ¬ ((Value.ref l == Value.none) = true) from Bool.false_ne_true)]
  show wpAny _ _ (field (.ref it) 1 >>= _) _ _ s
  refine wpAny_bind (wpAny_field ho hd (x := .int i 0) rfl ?_)
  show wpAny _ _ (seqItems? (.ref l) >>= _) _ _ s
  refine wpAny_bind (wpAny_seqItems hol hdl ?_)
  simp only [Int.toNat_natCast, hx]
  refine wpAny_bind (wpAny_rule (wpAny_bind (wpAny_setField ho hd (by simp) ?_)))
  show wpAny _ _ (newExc (.type "StopIteration") [] >>= _) _ _ _
  refine wpAny_bind ?_
  simp only [newExc, newTuple]
  refine wpAny_bind (wpAny_newObj_type ?_ (by size_fits))
  refine wpAny_bind (m := firstArgMember _ _) (wpAny_of_eq (a := Value.none) (by first | rfl | (simp only [firstArgMember]; rfl)) ?_)
  refine wpAny_newObj_type ?_ (by size_fits)
  refine raiseNew_hot ⟨hh, o1, vs1, Heap.get?_push_of_some _ (Heap.get?_push_of_some _ ((Heap.get?_update_other _ _ n1.symm).trans h1)), d1, c1⟩ (Nat.ne_of_lt (Heap.lt_size (Heap.get?_push_of_some _ ((Heap.get?_update_other _ _ n1.symm).trans h1)))) (Heap.get?_push_size _ rfl) rfl (by first | (simp; done) | (simp; omega) | (simp only [Array.size_append]; simp; omega)) ?_
  refine wpAny_bind (wpAny_isInstance (T := "StopIteration") (b := true) ⟨_, Heap.get?_update_self _ (Heap.get?_push_size _ rfl) rfl, rfl⟩ isSubtype_stop ?_)
  refine wpAny_pure (hQ _ fun b o2 nb e => ?_)
  rw [Heap.get?_update_other _ _ (Nat.ne_of_gt (Heap.lt_size (Heap.get?_push_of_some _ ((Heap.get?_update_other _ _ nb.symm).trans e))))]
  exact Heap.get?_push_of_some _ (Heap.get?_push_of_some _ ((Heap.get?_update_other _ _ nb.symm).trans e))
end GL
namespace GL
open PySem PySem.Spec PyProof.Rows L2 HotX
section
variable {X : Cx}
/-- [elt for tg in l], l a list, while an error is handled -/
theorem pe_lcH {elt tg iter : Expr} {scope : Scope} {own : List (Str × Nat)} {pos : Pos} {wi : TI} {tl : TE} {g : TG} {te : TE} (hc : L2H.HotC X) (hN : X.N.Nodup) (hi : PE X iter tl) (hw : ∀ σ H R, wi σ H R → iList X.K tl σ H R) (ok : BlkOk X.N X.env.scope scope own)
    (hg : ∀ (s : Shared) (H : Hp) (C : Addr) (cl : List (Str × Addr)) (fp : List Addr), PG (X.blk s H scope (compEnvC scope cl C X.env) fp) tg g)
    (he : ∀ (s : Shared) (H : Hp) (C : Addr) (cl : List (Str × Addr)) (fp : List Addr), PE (X.blk s H scope (compEnvC scope cl C X.env) fp) elt te) (hs : ∀ x, foldedSetIterable iter X.env x = pure x := by intro _; rfl) :
    PE X (.ListComp elt [⟨tg, iter, [], 0⟩] scope pos) (tLc wi g tYes te (own.map (·.2))) := by
  refine ⟨fun pins s σ H Q I h => ?_⟩
  rw [eval_ListComp]
  have hfree : ∀ y ∈ scope.names, y.2 = .free → ∃ c, X.env.cells.lookup y.1 = some c := fun y hy e => by
    rcases ok.free y hy e with k | k
    · exact I.ok.has _ (.inl k)
    · exact I.ok.has _ (.inr k)
  refine wpAny_comprehension_free rfl hs (closure_ok hfree) ok.kind (fun y hy e => by rw [ok.uniq y hy, e])
    (thn (hi.run pins s σ H _ I (hw _ _ _ h)) fun xv s1 hx => ?_)
  obtain ⟨xl, H1, I1, r1, a, e, ⟨xs, hq⟩, q⟩ := hx
  subst e
  cases r1
  obtain ⟨its, rv, pl, hz⟩ := I1.list hq
  refine wpAny_pyIter_list pl.isList ?_
  generalize hit : s1.heap.objs.size = it
  generalize hs2 : ({ s1 with heap := s1.heap.push { cls := .type "list_iterator", data := .fields #[.ref a, .int 0 0] } } : Shared) = s2
  have st2 : s2.heap.IsListIter it a 0 := by
    rw [← hs2, ← hit]
    exact ⟨_, Heap.get?_push_size _ rfl, rfl, rfl⟩
  have I2 : Inv X pins σ H1 s2 := by
    rw [← hs2]
    exact I1.kept (t' := s1.toks) fun b o e => Heap.get?_push_of_some _ e
  have f2 : FpOk X pins H1 it := by
    rw [← hit]
    exact I1.fpOk (Nat.le_refl _) (I1.hok.fresh (Nat.le_refl _))
  refine wpAny_newObj_type (newEnv_comp ?_) (by show 0 ≤ sizeLine; decide)
  generalize hD : s2.heap.objs.size = D
  have hDn : H1 D = none := I2.hok.fresh (Nat.le_of_eq hD)
  obtain ⟨W, ⟨m0, w0⟩, turn⟩ := q D hDn
  generalize hs3 : ({ s2 with heap := s2.heap.push { cls := .type "list", data := .seq ([] : List Value).toArray } } : Shared) = s3
  have I3 : Inv X pins σ (upd H1 D (.lst [])) s3 := by
    rw [← hs3]
    refine I2.laid (t' := s2.toks) (fun b o e => Heap.get?_push_of_some _ e) (Nat.le_of_eq hD) ⟨Nat.zero_le _, [], 0, .nil, ?_⟩
    rw [← hD]
    exact Heap.get?_push_size _ rfl
  have h3 : s3.heap = s2.heap.push { cls := .type "list", data := .seq ([] : List Value).toArray } := by rw [← hs3]
  have szit : it < s2.heap.objs.size := by
    obtain ⟨o, e, _⟩ := st2
    exact Heap.lt_size e
  have f3 : ∀ b ∈ [it], FpOk X pins (upd H1 D (.lst [])) b ∧ b < s3.heap.objs.size := fun b hb => by
    rw [List.mem_singleton.mp hb]
    refine ⟨⟨?_, f2.2⟩, by rw [h3, Heap.size_push]; exact Nat.lt_succ_of_lt szit⟩
    rw [upd_ne (by rw [← hD]; exact Nat.ne_of_lt szit)]
    exact f2.1
  have st3 : s3.heap.IsListIter it a 0 := st2.at fun o e => by rw [h3]; exact Heap.get?_push_of_some _ e
  have I4 := block_start I3 ok hN f3
  have pg := hg s3 (upd H1 D (.lst [])) s3.heap.objs.size (cellsFrom (s3.heap.objs.size + 1) scope.names (cloFrom X.env.cells scope.names [])) [it]
  have pe := he s3 (upd H1 D (.lst [])) s3.heap.objs.size (cellsFrom (s3.heap.objs.size + 1) scope.names (cloFrom X.env.cells scope.names [])) [it]
  show codeAny _ _ (.compStart (.ListComp elt [⟨tg, iter, [], 0⟩] scope pos) 0 (.ref it) (.ref D) (compEnvC scope (cellsFrom (s3.heap.objs.size + 1) scope.names (cloFrom X.env.cells scope.names [])) s3.heap.objs.size X.env)) _ { s3 with heap := pushCells (s3.heap.push { cls := .type "dict", data := .dict #[] }) scope.names }
  generalize hce : compEnvC scope (cellsFrom (s3.heap.objs.size + 1) scope.names (cloFrom X.env.cells scope.names [])) s3.heap.objs.size X.env = ce at I4 pg pe ⊢
  have cL : ce.locals = s3.heap.objs.size := by subst hce; rfl
  have nit : (upd H1 D (.lst [])) it = none := (f3 it (List.mem_singleton.mpr rfl)).1.1
  generalize hH3 : upd H1 D (.lst []) = H3 at I3 I4 pg pe w0 nit f3
  generalize hs4 : ({ s3 with heap := pushCells (s3.heap.push { cls := .type "dict", data := .dict #[] }) scope.names } : Shared) = s4 at I4 ⊢
  have st4 : s4.heap.IsListIter it a 0 := st3.at fun o e => by rw [← hs4]; exact pushCells_keeps _ _ _ _ (Heap.get?_push_of_some _ e)
  -- back in the def's context
  have back : ∀ {H5 : Hp} {s5 : Shared} {σ5 : L2.St}, Inv (X.blk s3 H3 scope ce [it]) [] σ5 H5 s5 → Inv X pins σ H5 s5 := fun {H5 s5 σ5} I5 =>
    I3.call' (ch := [it]) I5.os I5.base I5.hok I5.bare fun b hb => ⟨(f3 b hb).1.2.2.2.1, (f3 b hb).1.2.1, (f3 b hb).1.2.2.2.2.1, (f3 b hb).1.2.2.2.2.2⟩
  have stat : ∀ {σ' : L2.St} {H' : Hp} {s' : Shared}, Inv (X.blk s3 H3 scope ce [it]) [] σ' H' s' → H' it = none → FpOk (X.blk s3 H3 scope ce [it]) [] H' it := fun {σ' H' s'} I' hn =>
    have hb : it ∈ [it] := List.mem_singleton.mpr rfl
    ⟨hn, (I'.ok.exf it hb).1, I'.ok.exfs it hb, .inl hb, fun x c e => (I'.ok.exf it hb).2 x c e, fun p hp => absurd (show p ∈ ([] : List (Addr × Obj)) ++ [] from hp) (by simp)⟩
  have loop : codeAny (model X.prog X.w) X.A (.compLoop (.ListComp elt [⟨tg, iter, [], 0⟩] scope pos) 0 (.ref it) (.ref D) ce) (compPost (model X.prog X.w) X.A X.xe none (EP X pins σ Q) (.ref D) s3.heap.objs.size) s4 := by
    refine compLoop_any (fun n s' => ∃ i H', Inv (X.blk s3 H3 scope ce [it]) [] (wipe σ (own.map (·.2))) H' s' ∧ s'.heap.IsListIter it a i ∧ H' it = none ∧ W i n H') ?_ m0 ⟨0, H3, I4, st4, nit, w0⟩
    rintro n s5 ⟨i, H5, I5, st5, n5, w5⟩
    obtain ⟨f0, f1, f2', f3', f4, f5⟩ := stat I5 n5
    rcases turn i n H5 w5 with ⟨⟨ys, hys, hyl⟩, qq⟩ | ⟨⟨ys, y, hys, hyi⟩, Nx, hNx, step⟩
    · obtain ⟨its5, rv5, p5, hz5⟩ := I5.list hys
      have hl := rv5.length
      obtain ⟨x1, hot⟩ := hc.at (back I5)
      refine list_end_hot hot st5 p5.isList (by simp; omega) fun h' eb => ?_
      have I6 : Inv (X.blk s3 H3 scope ce [it]) [] (wipe σ (own.map (·.2))) H5 { s5 with heap := h' } := I5.turned (t' := s5.toks) (fun b o hb e => eb b o hb e) f0 f1 f3' f4 f5
      have I7 := back I6
      have nC : H5 s3.heap.objs.size = none := by
        have z : H5 ce.locals = none := I6.free
        rw [cL] at z
        exact z
      obtain ⟨m, hn, _⟩ := I6.loc
      have hn : ({ s5 with heap := h' } : Shared).heap.Ns ce.locals m := hn
      rw [cL] at hn
      have fC := I3.fpOk (Nat.le_refl _) nC
      refine ⟨m, hn, fun h'' sb => ?_⟩
      obtain ⟨g0, g1, g2, g3, g4, g5⟩ := fC
      exact ⟨.ref D, H5, I7.turned (t' := s5.toks) (fun b o hb e => (sb.2 b hb).trans e) g0 g1 g3 g4 g5, rfl, qq⟩
    · obtain ⟨its5, rv5, p5, hz5⟩ := I5.list hys
      obtain ⟨u, hu, ru⟩ := rv5.get hyi
      refine wpAny_pyNext_list_item st5 p5.isList (x := u) (by simpa using hu) fun h' st' sb => ?_
      have I6 : Inv (X.blk s3 H3 scope ce [it]) [] (wipe σ (own.map (·.2))) H5 { s5 with heap := h' } := I5.turned (t' := s5.toks) (fun b o hb e => (sb.2 b hb).trans e) f0 f1 f3' f4 f5
      obtain ⟨oi, ei, ci, di⟩ := id st'
      refine go_of (s := { s5 with heap := h' }) ei ci di (by decide) ?_
      have I6' := I6.pinned (fp := [it]) (fun b hb => by rw [List.mem_singleton.mp hb]; exact stat I6 n5) (fun b hb => by
        rw [List.mem_singleton.mp hb]
        exact ⟨oi, ei, fun v z => by rw [di] at z; cases z⟩)
      refine thnF (pg.run _ { s5 with heap := h' } _ H5 y u _ I6' ru (step y H5 ⟨rfl, fun zs hzs => by rw [I5.list_inj hzs hys]; exact hyi⟩)) fun _ s8 ⟨σ8, H8, I8, hw8, q8⟩ => ?_
      refine wpAny_tests_nil ?_
      simp only [if_true] at q8 ⊢
      have q8 := q8
      refine thnF (pe.run _ s8 σ8 H8 _ I8 q8) fun z s10 ⟨yv, H10, I10, r10, acc, hD10, hz10, nx⟩ => ?_
      refine app_ok (X := X.blk s3 H3 scope ce [it]) I10 hD10 hz10 r10 fun s11 I11 => ?_
      obtain ⟨m', hm, w'⟩ := hNx _ nx
      have pin' : ∀ o, h'.get? it = some o → s11.heap.get? it = some o ∧ (upd H10 D (.lst (acc ++ [yv]))) it = none := fun o e =>
        let z := I11.pin (it, o) (List.mem_append_right _ (List.mem_append_right _ (mem_pinsAt (List.mem_singleton.mpr rfl) e)))
        ⟨z.1, z.2.1⟩
      have hl : (wipe σ (own.map (·.2))).length = σ8.length := by rw [← hw8, wipe_length]
      refine ⟨m', hm, i + 1, _, (I11.unpinned (pins := [])).weak hl (fun j v e => ?_), st'.at fun o e => (pin' o e).1, (pin' oi ei).2, w'⟩
      rw [← hw8] at e
      exact (wipe_some e).1
  exact codeAny_compStart_list loop (wpAny_pyIter_listiter st4 loop)
end
end GL

set_option Elab.async false
set_option linter.all false
set_option maxRecDepth 100000
set_option maxHeartbeats 4000000
/-! GK: defs called while an error is handled, that know the error -/
namespace GL
open PySem PySem.Spec PyProof.Rows L2
/-- what a def promises that is called while p's object is the error that is handled -/
structure FnZ (P : Program) (w : World) (K : PySem.W.Frag) (mg : Str → Option Value) (base : Heap) (k : Nat) (f : Addr) (fd : FuncData) (ps : List Str) (sp : Addr × Obj → Sp) : Prop where
  len : ∀ p vs H Q E, sp p vs H Q E → vs.length = ps.length
  run : ∀ (A : Around) (outer : List Env) (s : Shared) (H : Hp) (args : Args) (us : List Value) (vs : List V) (Q : VK) (p : Addr × Obj), L2H.RoomH k A → L2H.Hot1 A p → L2H.PinOk outer H s p → Env0 P w K mg base A outer s H → BindsTo s fd args (ps.zip us) → Vals vs us → sp p vs H Q E0 →
    codeAny (model P w) A (.call (.ref f) args) (CR CX0 outer P w H s Q E0) s
section
variable {P : Program} {w : World} {K : PySem.W.Frag} {mg : Str → Option Value} {base : Heap}
theorem fun_okZ {x qual : Str} {st : Stmt} {f : Addr} {fd : FuncData} {N ps : List Str} {k : Nat} {sp : Addr × Obj → Sp} (F : Fun K x qual st f fd) (S : FnScope N ps (defScope st)) (len : ∀ p vs H Q E, sp p vs H Q E → vs.length = ps.length)
    (hbody : ∀ (cdv : Value) (A : Around) (outer : List Env) (s : Shared) (H : Hp) (vs : List V) (Q : VK) (p : Addr × Obj), L2H.Hot1 A p → L2H.RoomH k (A.deeper (envOfC qual (defScope st) s.heap.objs.size f cdv)) → sp p vs H Q E0 →
      ∃ t, PSs (L2H.cxH CX0 P w K mg base N qual (defScope st) f cdv A outer s H E0 p) (defBody st) t ∧ t { nx := fun _ H' => Q .non H', rt := Q } (L2.start N vs) H) : FnZ P w K mg base (k + 1) f fd ps sp := by
  obtain ⟨oc, od, kV, doc, pm, an, cdv, ct, osl, rfl, lk, hcd⟩ := F.ex
  refine ⟨len, fun A outer s H args us vs Q p hr hot hpin e0 hb r hsp => ?_⟩
  have hl := len _ _ _ _ _ hsp
  have KX : K.In s.heap := e0.mod.kin.keeps fun b o e => (e0.bs b o e).1
  have lim : s.heap.NoLimit := e0.mod.nolimit.keeps fun b o e => (e0.bs b o e).1
  refine codeAny_call_function hr.depth (KX _ _ lk) rfl S.co S.gen rfl (PySem.W.codeRec_of KX hcd) (hb _ _ _ _ ?_)
  refine wpAny_newFunctionEnv_cells S.kind (fun ⟨n, v⟩ hy => ?_) fun env he s1 x => ?_
  · rcases S.par n (List.of_mem_zip hy).1 with q | q
    · exact .inl q
    · exact .inr ⟨q, PySem.W.cellsFrom_some _ _ _ (.inl q)⟩
  subst he
  refine ⟨lim.keeps x.toInCall.keep, codeAny_func ?_⟩
  obtain ⟨t, ht, hq⟩ := hbody cdv A outer s H vs Q p hot (hr.deeper _) hsp
  have I : Inv (L2H.cxH CX0 P w K mg base N qual (defScope st) f cdv A outer s H E0 p) [] (L2.start N vs) H s1 := L2H.inv_startH S hpin e0 hl r x
  refine wpAny_mono (ht.run [] s1 (L2.start N vs) H _ I hq) (fun fl s' hs => ?_) fun e s' hs => hs
  cases fl with
  | ret u =>
    obtain ⟨v, σ', H', J, rv, q⟩ := hs
    exact ⟨v, H', J.os, J.bare, J.base, J.hok, rv, q⟩
  | next =>
    obtain ⟨σ', H', J, q⟩ := hs
    exact ⟨V.non, H', J.os, J.bare, J.base, J.hok, rfl, q⟩
  | brk => exact hs.elim fun _ z => z.elim fun _ z => z.2.elim
  | cont => exact hs.elim fun _ z => z.elim fun _ z => z.2.elim
end
section
variable {X : Cx} {k : Nat} {f C : Addr} {fd : FuncData} {ps : List Str} {sp : Addr × Obj → Sp} {p : Addr × Obj}
theorem run_fnZ {pins : List (Addr × Obj)} {σ : L2.St} {H : Hp} {s : Shared} {Q : VK} {us : List Value} {vs : List V} (F : FnZ X.prog X.w X.K X.mg X.base k f fd ps sp) (hr : L2H.RoomH k X.A) (hot : L2H.Hot1 X.A p) (hp : p ∈ X.pn) (hb : Binds X.K fd ps [])
    (I : Inv X pins σ H s) (r : Vals vs us) (h : sp p vs H Q E0) : wpAny (model X.prog X.w) X.A (call (.ref f) us) (EP X pins σ Q) X.xe s := by
  have hl : us.length = ps.length := by rw [← r.length]; exact F.len _ _ _ _ _ h
  have b := hb s us I.kIn (by rw [List.append_nil]; exact hl)
  rw [List.append_nil] at b
  have P1 := I.pin p (List.mem_append_left _ hp)
  have hpin : L2H.PinOk X.stack H s p := ⟨P1.1, P1.2.1, fun hm => (List.mem_cons.mp (I.stkSub p.1 hm)).elim P1.2.2.1 P1.2.2.2.1, P1.2.2.2.2⟩
  refine wpAny_call (codeAny_mono (F.run X.A X.stack s H ⟨us, []⟩ us vs Q p hr hot hpin I.env0 b r h) fun r s' hq => ?_)
  cases r with
  | error e => exact pass0 pins σ H s e s' I hq
  | ok fl =>
    cases fl with
    | ret u => exact I.after hq
    | next => exact False.elim hq
    | brk => exact False.elim hq
    | cont => exact False.elim hq
theorem pe_callZ {x : Str} {q pos : Pos} {e : Expr} {es : List Expr} {t : TA} (F : FnZ X.prog X.w X.K X.mg X.base k f fd ps sp) (hr : L2H.RoomH k X.A) (hot : L2H.Hot1 X.A p) (hp : p ∈ X.pn) (hg : Gl X x) (hm : X.mg x = some (.ref f)) (hk : PySem.W.keepIn X.K (.ref f) = true) (hb : Binds X.K fd ps [])
    (ha : PA X (e :: es) t) (hdb : (x == ("__debug__" : Str)) = false := by decide) (he : starEach (e :: es) X.env = (false, eval e X.env) :: starEach es X.env := by rfl) (hpl : (backTo pos (starEach es X.env)).any (·.1) = false := by rfl) :
    PE X (.Call (.Name x q) (e :: es) [] pos) (fun σ H Q => t σ H fun vs H' => sp p vs H' Q E0) := by
  refine ⟨fun pins s σ H Q I h => ?_⟩
  refine wpAny_Call_Name_kw (ld_glob I hg hm ?_ hdb)
  refine PySem.W.callWith_K (h₀ := X.base) I.ok.mod.kin hk (thn (ha.run pos pins s σ H _ I h) fun us s1 ⟨vs, H1, I1, r, q⟩ => ⟨I1.kIn, ?_⟩) he hpl
  exact run_fnZ F hr hot hp hb I1 r q
/-- isinstance(e, c), e the error that is handled -/
theorem call_isZ {D : Addr} (C : ExcC X.K D) (hp : p ∈ X.pn) (hz : L2N.Zn (.ref D) none p.2) (hf : ∃ vs, p.2.data = .fields vs) : CallR X (.builtin "isinstance") (rIsE X.K D p.1) := by
  intro pins s σ H xs us Q I r h
  obtain ⟨c, cv, b, rfl, hcv, e, q⟩ := h
  cases r with
  | cons rx rr =>
    cases rr with
    | cons rt rr =>
      cases rr
      cases rx
      have ec := hcv _ rt
      subst ec
      obtain ⟨hget, _⟩ := I.pin p (List.mem_append_left _ hp)
      obtain ⟨a, oe⟩ := p
      obtain ⟨vs, hv⟩ := hf
      have J : PySem.W.InstAt s.heap a oe D none := by
        obtain ⟨oc, od, oda, osl⟩ := oe
        obtain ⟨h1, h2, _⟩ := hz
        dsimp only at h1 h2 hv
        subst h1 h2 hv
        exact ⟨hget, rfl, rfl, trivial⟩
      exact PySem.W.kia_one (PySem.W.handS_kitx_exc C.hg C.hk C.hs C.hd C.ha C.hn C.ht C.hm) I.kIn J e (fun z => nomatch z) fun tk => ⟨.bl b, H, I.kept (t' := tk) fun _ _ z => z, rfl, q⟩
end
/-- a def known by name that is called while an error is handled -/
structure KnZ (P : Program) (w : World) (K : PySem.W.Frag) (mg : Str → Option Value) (base : Heap) (x : Str) (k : Nat) (rel : Addr × Obj → Hp → Hp → List A → R → Prop) : Prop where
  ex : ∃ f fd ps, FnZ P w K mg base k f fd ps (fun p => spG K (rel p)) ∧ mg x = some (.ref f) ∧ PySem.W.keepIn K (.ref f) = true ∧ Binds K fd ps []
section
variable {X : Cx} {B0 H0 : Hp} {δ : List (Option A)} {e e1 e2 iter elt : Expr} {es : List Expr} {a : A} {as : List A} {b : Bool} {pos p1 p2 : Pos} {nm : Str} {k : Nat} {p : Addr × Obj} {D : Addr}
theorem p_callZ {rel : Addr × Obj → Hp → Hp → List A → R → Prop} (F : KnZ X.prog X.w X.K X.mg X.base nm k rel) (hr : L2H.RoomH k X.A) (hot : L2H.Hot1 X.A p) (hp : p ∈ X.pn) (ha : Pa X B0 H0 δ (e :: es) as) (h : ∀ B H, Ext B0 H0 B H → Sub B H → rel p B H as (.ret a)) (hg : Gl X nm := by rfl) (hdb : (nm == ("__debug__" : Str)) = false := by decide)
    (he : starEach (e :: es) X.env = (false, eval e X.env) :: starEach es X.env := by rfl) (hpl : (backTo pos (starEach es X.env)).any (·.1) = false := by rfl) : Pe X B0 H0 δ (.Call (.Name nm p1) (e :: es) [] pos) a := by
  obtain ⟨f, fd, ps, F, hm, hk, hb⟩ := F.ex
  exact pe_to (pe_callZ F hr hot hp hg hm hk hb ha hdb he hpl) fun σ H Q ⟨B, E, S, q⟩ => ⟨B, E, S, fun vs B1 H1 E1 r1 => ⟨B1, as, .ret a, E1.s, r1, h B1 H1 (E.tr E1) E1.s, fun v B2 H2 E2 r2 _ => q v B2 H2 (E1.tr E2) r2⟩⟩
theorem p_isZ {v : V} {cv : Value} (Cc : ExcC X.K D) (hp : p ∈ X.pn) (hz : L2N.Zn (.ref D) none p.2) (hf : ∃ vs, p.2.data = .fields vs) (ha : Pe X B0 H0 δ e1 (.v (.ref p.1))) (hT : Pe X B0 H0 δ e2 (.v v)) (hv : ∀ u, RelV v u → u = cv) (hk : PySem.W.kitOne X.K (.ref D) cv = some b) (hm : X.mg "isinstance" = none)
    (hg : Gl X "isinstance" := by rfl) (he : starEach [e1, e2] X.env = (false, eval e1 X.env) :: starEach [e2] X.env := by rfl) (he2 : starEach [e2] X.env = (false, eval e2 X.env) :: starEach [] X.env := by rfl) (hpl : (backTo pos (starEach [e2] X.env)).any (·.1) = false := by rfl) :
    Pe X B0 H0 δ (.Call (.Name "isinstance" p1) [e1, e2] [] pos) (.d (.bool b)) :=
  g_callB we_mono (call_isZ Cc hp hz hf) (pas_cons ha (pas_cons hT pas_nil he2) he) (fun B H vs Q s rs k => by
    obtain ⟨u1, u2, rfl, r1, r2⟩ := ras_2 rs
    subst r1 r2
    exact ⟨_, cv, b, rfl, hv, hk, We.now k s (.bl _)⟩) hg hm PyProof.Rows.boot_isinstance (by decide) (by decide) he hpl
/-- [elt for x in l] while an error is handled -/
theorem n_lcH {α : Type} {zs : List α} {emb : α → PyData} {g : α → PyData} {i : Nat} {xn : Str} {scope : Scope} (hc : L2H.HotC X) (hi : Pe X B0 H0 δ iter (.d (.list (zs.map emb))))
    (he : ∀ z, z ∈ zs → ∀ (s : Shared) (H : Hp) (C : Addr) (cl : List (Str × Addr)) (fp : List Addr), Pe (X.blk s H scope (compEnvC scope cl C X.env) fp) B0 H0 ((δ.set i none).set i (some (.d (emb z)))) elt (.d (g z)))
    (hl : zs.length ≤ 1000) (hN : X.N.Nodup) (ok : blkC X.N X.env.scope scope [(xn, i)] = true)
    (hg : ∀ (s : Shared) (H : Hp) (C : Addr) (cl : List (Str × Addr)) (fp : List Addr), PG (X.blk s H scope (compEnvC scope cl C X.env) fp) (.Name xn p1) (gName i))
    (hs : ∀ x, foldedSetIterable iter X.env x = pure x := by intro _; rfl) : Pn X B0 H0 δ (.ListComp elt [⟨.Name xn p1, iter, [], 0⟩] scope pos) (zs.map g) := by
  have key := pe_lcH (X := X) (own := [(xn, i)]) (pos := pos) (wi := tPir X.K B0 H0 δ (zs.map emb)) (te := fun σ H Q => ∃ z, (z ∈ zs ∧ (fun _ => true) z = true) ∧ tPe X.K B0 H0 ((δ.set i none).set i (some (.d (emb z)))) (.d (g z)) σ H Q) hc hN hi (fun σ H R ⟨B, E0, S, k⟩ => ⟨B, E0, S, fun v B' H' E r => by
    have r : Dq B' v (.list (zs.map emb)) := r
    cases r with
    | @lst p vs _ hp hd =>
      have hp' := E.s _ _ hp
      refine ⟨p, rfl, ⟨vs, .inl (.inl hp')⟩, k _ B' H' E fun k B2 H2 s1 s2 s3 => ?_⟩
      have hl : SqL X.K H2 p vs := .inl (.inl (s3 _ _ hp'))
      refine ⟨fun x hx => ?_, fun hk => ⟨vs, hl, by rw [dqs_len hd]; omega⟩⟩
      obtain ⟨u, hu, du⟩ := dqs_get hd k x hx
      refine ⟨⟨vs, u, hl, hu⟩, fun v H3 hy => ?_⟩
      obtain ⟨rfl, hv⟩ := hy
      have e : v = u := Option.some.inj ((hv vs hl).symm.trans hu)
      subst e
      exact ⟨B2, .rfl' s2, dq_sub s1 _ _ du⟩⟩) (blkOk_by ok) hg (fun s H C cl fp => ⟨fun pins s2 σ H2 Q J ⟨z, hz, q⟩ => (he z hz.1 s H C cl fp).run pins s2 σ H2 Q J q⟩) hs
  refine (show Pn X B0 H0 δ _ ((zs.filter fun _ => true).map g) from pe_to key fun σ H Q h => ?_).is (by rw [filt_true])
  obtain ⟨B, E, S, q⟩ := lc_imp (K := X.K) (B0 := B0) (H0 := H0) (δ := δ) (emb := emb) (f := fun _ => true) (g := g) (i := i) hl σ H Q h
  refine ⟨B, E, S, fun J B' H' E1 w D hD => ?_⟩
  obtain ⟨W, w0, turn⟩ := q J B' H' E1 w D hD
  refine ⟨W, w0, fun n m H2 hw => ?_⟩
  rcases turn n m H2 hw with h1 | ⟨go, Nx, hNx, step⟩
  · exact .inl h1
  · refine .inr ⟨go, Nx, hNx, fun x H3 hy => ?_⟩
    obtain ⟨h1, z, hz, B3, E3, S3, k3⟩ := step x H3 hy
    exact ⟨h1, k3 B3 H3 (.rfl' S3.s)⟩
end
end GL
namespace GL
open PySem PySem.Spec PyProof.Rows L2
theorem hotS {A : Around} {a : Addr} {oe : Obj} {cls : Value} {d : Option Addr} (hz : L2N.Zn cls d oe) (hf : ∃ vs, oe.data = .fields vs) : L2H.Hot1 (A.mark (some (.ref a))) (a, oe) := let ⟨vs, hv⟩ := hf; ⟨rfl, vs, hv, hz.2.2 vs hv⟩
/-- THE RULE for a def that is called while an error is handled -/
theorem fn_wsZ {P : Program} {w : World} {K : PySem.W.Frag} {mg : Str → Option Value} {base : Heap} {x qual : Str} {st : Stmt} {f : Addr} {fd : FuncData} {N ps : List Str} {k : Nat} {rel : Addr × Obj → Hp → Hp → List A → R → Prop} (F : Fun K x qual st f fd) (S : FnScope N ps (defScope st))
    (h : ∀ p B H as r, Sub B H → rel p B H as r → (as.length = ps.length ∧ ∀ a ∈ as, keep a = true) ∧ ∃ a, r = .ret a ∧ ∀ cdv A outer s0 H0, L2H.Hot1 A p → L2H.RoomH k (A.deeper (envOfC qual (defScope st) s0.heap.objs.size f cdv)) → Ws (L2H.cxH CX0 P w K mg base N qual (defScope st) f cdv A outer s0 H0 E0 p) B H (startD N as) (defBody st) { nx := fun B' H' _ => Ext B H B' H' ∧ a = .d .none, rt := fun B' H' _ a' => Ext B H B' H' ∧ a' = a }) : FnZ P w K mg base (k + 1) f fd ps (fun p => spG K (rel p)) := by
  refine fun_okZ F S (fun p vs H Q E ⟨B, as, r, s, ra, hr, _⟩ => by rw [ra.len]; exact (h p B H as r s hr).1.1) fun cdv A outer s0 H vs Q p hot hroom ⟨B, as, r, s, ra, hr, q⟩ => ?_
  obtain ⟨⟨h1, h2⟩, a, rfl, h3⟩ := h p B H as r s hr
  refine ⟨_, h3 cdv A outer s0 H hot hroom, B, .rfl' s, sd_start s ra h2, ⟨fun B1 H1 δ σ B' H' ⟨e1, e2⟩ _ E1 S1 => ?_, fun B1 H1 _ a' _ v B' H' ⟨e1, e2⟩ E1 _ r1 f1 => ?_, fun _ _ _ _ _ _ z => z.elim, fun _ _ _ _ _ _ z => z.elim⟩⟩
  · subst e2
    exact q .non B' H' (e1.tr E1) .non fun _ z => z.elim
  · subst e2
    exact q v B' H' (e1.tr E1) r1 fun x f => sub_free e1.h (f1 x f)
end GL
theorem L2H.RoomH.units {k : Nat} {A : PySem.Around} (r : L2H.RoomH k A) : A.units + 64 < PySem.cLine := by have := r.un; omega
namespace GL
open PySem PySem.Spec PyProof.Rows L2
theorem dqs_bools {B : Hp} : ∀ {vs : List V} {bs : List Bool}, Dqs B vs (bs.map .bool) → vs = bs.map .bl
  | _, [], .nil => rfl
  | _, _ :: _, .cons r t => by
    cases r
    rw [dqs_bools t]
    rfl
section
variable {X : Cx} {B0 H0 : Hp} {δ : List (Option A)} {e e1 e2 iter elt : Expr} {es : List Expr} {a : A} {as : List A} {b : Bool} {pos p1 p2 apos cpos : Pos} {nm : Str} {k : Nat} {p : Addr × Obj} {D : Addr} {bs : List Bool} {j : Nat} {xn : Str} {i : Nat}
/-- x.index(True), x a list of truth values -/
theorem p_index (hδ : δ[i]? = some (some (.d (.list (bs.map .bool))))) (he : Pe X B0 H0 δ e (.d (.bool true))) (hj : bs[j]? = some true) (hm : ∀ m, m < j → bs[m]? ≠ some true) (hN : X.N[i]? = some xn := by rfl) (hv : Vis X.env.scope xn := by first | exact .inl rfl | exact .inr (.inl rfl) | exact .inr (.inr rfl))
    (hbase : attributeBase (.Name xn p1) "index" X.env (eval (.Name xn p1) X.env) = eval (.Name xn p1) X.env := by rfl)
    (hfew : ((backTo cpos (starEach [e] X.env)).all (fun x => !x.1) && (backToKw cpos (keywordEach [] X.env)).all (fun x => x.1.isSome) && decide ([e].length + ([] : List Keyword).length + (if ([] : List Keyword).isEmpty then 0 else 1) < 30)) = true := by rfl)
    (hline : (apos.endLine == cpos.line) = true := by rfl) (hs : starEach [e] X.env = (false, eval e X.env) :: starEach [] X.env := by rfl) (h1 : (xn == ("__debug__" : Str)) = false := by decide) (h2 : (xn == ("__classdict__" : Str)) = false := by decide) :
    Pe X B0 H0 δ (.Call (.Attribute (.Name xn p1) "index" apos) [e] [] cpos) (.d (.int (j : Nat))) :=
  pe_to (pe_bm PySem.F.plainAttrs_list PySem.F.slot_list_index PySem.F.type_list_index mt_index (pe_var (X := X) (i := i) (pos := p1) hN hv h1 h2) (pa_cons he pa_nil hs) hbase hfew hline hs rfl) fun σ H Q ⟨B, E0, S, k⟩ => by
    obtain ⟨v, hσ, r⟩ := S.rel i _ hδ
    have r : Dq B v (.list (bs.map .bool)) := r
    cases r with
    | @lst q vs _ hq hd =>
      have e := dqs_bools hd
      subst e
      refine ⟨_, hσ, .inl ⟨rfl, _, .inl (.inl (S.s _ _ hq))⟩, B, E0, S, fun u B' H' E1 r => ?_⟩
      have r : Dq B' u (.bool true) := r
      cases r
      refine ⟨q, bs.map .bl, .bl true, j, .bl true, rfl, rfl, .inl (.inl (E1.h _ _ (S.s _ _ hq))), rfl, ?_, by rw [List.getElem?_map, hj]; rfl, rfl, fun m z hlt hz => ?_, k _ B' H' E1 (.int _)⟩
      · rw [List.all_map]
        exact List.all_eq_true.mpr fun _ _ => rfl
      · rw [List.getElem?_map] at hz
        have := hm m hlt
        cases hb : bs[m]? with
        | none => rw [hb] at hz; cases hz
        | some b =>
          rw [hb] at hz this
          cases hz
          cases b
          · rfl
          · exact absurd rfl this
end
end GL
namespace GL
open PySem PySem.Spec PyProof.Rows L2 HotX
section
variable {prog : Program} {w : World} {A : Around} {E : Value → Shared → Prop} {s : Shared} {l x1 : Addr} {its : List Value} {ns : List Int} {Q : Value → Shared → Prop}
theorem walks_hot (I l x1 : Addr) (hne : l ≠ I) (n1 : x1 ≠ I) (hh : A.handled = some (.ref x1)) (items : Array Value) : Walks prog w A I [I, l, x1] [I] items.size (fun i v => items[i]? = some v) (fun i h => h.IsListIter I l i ∧ h.IsList l items ∧ HotAt A x1 h) where
  sub := fun b hb => by simp at hb; simp [hb]
  frame := fun i h h' st k => ⟨st.1.at fun o e => k I (by simp) o e, st.2.1.at fun o e => k l (by simp) o e, st.2.2.1, let ⟨o, vs, e, d, c⟩ := st.2.2.2; ⟨o, vs, k x1 (by simp) o e, d, c⟩⟩
  item := fun i s Q E hi st hQ => by
    refine wpAny_pyNext_list_item st.1 st.2.1 (x := items[i]) (Array.getElem?_eq_getElem hi) fun h' hit' hs' => ?_
    exact hQ _ h' s.toks (Array.getElem?_eq_getElem hi) ⟨hit', st.2.1.extBut hs'.extBut hne, st.2.2.1, let ⟨o, vs, e, d, c⟩ := st.2.2.2; ⟨o, vs, hs'.extBut x1 o n1 e, d, c⟩⟩ fun b o hb e => hs'.extBut b o (fun h => hb (by simp [h])) e
  done := fun s Q E st hQ => list_end_hot st.2.2 st.1 st.2.1 (by simp) fun h' he' => hQ h' s.toks fun b o hb e => he' b o (fun h => hb (by simp [h])) e
  self := fun _ _ _ _ st hQ => wpAny_pyIter_listiter st.1 hQ
theorem sum_hot (hot : HotAt A x1 s.heap) (hl : s.heap.IsList l its.toArray) (hi : IntsAre its ns)
    (h : ∀ h' tk t', (∀ b o, s.heap.get? b = some o → h'.get? b = some o) → Q (.int ns.sum t') { s with heap := h', toks := tk }) : wpAny (model prog w) A (call (.builtin "sum") [.ref l]) Q E s := by
  obtain ⟨xs, e⟩ := hi.allInts.items
  have hn : numsOf (intItems xs).toList = ns := by rw [← e]; exact hi.numsOf
  rw [nums_intItems] at hn
  rw [e] at hl
  refine call_sum_walkG (wpAny_pyIter_list hl ?_)
  obtain ⟨ol, hol, _⟩ := id hl
  have hlt := Heap.lt_size hol
  obtain ⟨hh, o1, vs1, h1, d1, c1⟩ := id hot
  have hlt1 := Heap.lt_size h1
  refine ⟨_, _, _, _, _, _, numAt xs, rfl, walks_hot (A := A.in1) s.heap.objs.size l x1 (Nat.ne_of_lt hlt) (Nat.ne_of_lt hlt1) hh (intItems xs), ⟨⟨_, Heap.get?_push_size _ rfl, rfl, rfl⟩, hl.at fun o e => Heap.get?_push_of_some _ e, hh, o1, vs1, Heap.get?_push_of_some _ h1, d1, c1⟩, fun b hb => ?_, (fun _ _ => intItems_at), fun h' tk t' hk => ?_⟩
  · show b < (s.heap.push _).objs.size
    rw [Heap.size_push]
    simp at hb
    rcases hb with rfl | rfl | rfl
    · exact Nat.lt_succ_self _
    · exact Nat.lt_succ_of_lt hlt
    · exact Nat.lt_succ_of_lt hlt1
  · have := h h' tk t' fun b o e => hk b o (fun hm => by
      rw [List.mem_singleton.mp hm] at e
      exact absurd (Heap.lt_size e) (Nat.lt_irrefl _)) (Heap.get?_push_of_some _ e)
    rw [← hn] at this
    have e2 : preSum (numAt xs) (intItems xs).size = ((xs.map (·.1)).toList).sum := by rw [preSum_eq, List.take_of_length_le (by simp [intItems])]; simp
    simpa [e2] using this
end
theorem cr_sumH {X : Cx} (hc : L2H.HotC X) : CallR X (.builtin "sum") (rSum X.K) := by
  intro pins s σ H vs us Q I r h
  obtain ⟨a, ns, rfl, hs, q⟩ := h
  obtain ⟨its, rv, hl, _⟩ := I.list hs
  rw [Vals.ref1 r]
  obtain ⟨x1, hot⟩ := hc.at I
  exact sum_hot hot hl.isList rv.ints fun h' tk t' hk => ⟨.int _, H, I.kept hk, ⟨_, rfl⟩, q⟩
theorem p_sumH {X : Cx} {B0 H0 : Hp} {δ : List (Option A)} {e : Expr} {pos p1 : Pos} {ns : List Int} (ha : Pa X B0 H0 δ [e] [.d (.list (ns.map .int))]) (hc : L2H.HotC X) (hm : X.mg "sum" = none) (hg : Gl X "sum" := by rfl) (he : starEach [e] X.env = (false, eval e X.env) :: starEach [] X.env := by rfl) : Pe X B0 H0 δ (.Call (.Name "sum" p1) [e] [] pos) (.d (.int ns.sum)) :=
  g_callB we_mono (cr_sumH hc) ha (fun B H vs Q s rs k => by
    obtain ⟨v, rfl, r⟩ := ras_1 rs
    cases r with
    | lst q d => exact ⟨_, ns, rfl, .inl (.inl (by rw [← GL.dqs_ints ns d]; exact s _ _ q)), We.now k s (.int _)⟩) hg hm (by decide +kernel) (by decide) (by decide) he rfl
end GL
namespace GL
open PySem PySem.Spec L2
theorem roomS {j : Nat} {A : Around} {x : Option Value} (r : Room j A) : L2H.RoomH j (A.mark x) := ⟨r.dp, r.un⟩
end GL
namespace GL
open PySem PySem.Spec PyProof.Rows L2
theorem rem_at {n : Int} : ∀ {ns : List Int}, ns.Nodup → n ∈ ns → ∃ j : Nat, ns[j]? = some n ∧ (∀ m : Nat, m < j → ns[m]? ≠ some n) ∧ ns.eraseIdx j = ns.filter fun x => decide (x ≠ n)
  | [], _, h => (List.not_mem_nil h).elim
  | x :: ns, nd, h => by
    rw [List.nodup_cons] at nd
    by_cases e : x = n
    · subst e
      refine ⟨0, rfl, fun m h => absurd h (Nat.not_lt_zero _), ?_⟩
      show ns = _
      rw [List.filter_cons]
      simp only [ne_eq, not_true, decide_false, Bool.false_eq_true, if_false]
      refine (List.filter_eq_self.mpr fun y hy => ?_).symm
      have : y ≠ x := fun e => nd.1 (by rw [← e]; exact hy)
      simpa using this
    · have hm : n ∈ ns := (List.mem_cons.mp h).resolve_left (Ne.symm e)
      obtain ⟨j, h1, h2, h3⟩ := rem_at nd.2 hm
      refine ⟨j + 1, h1, fun m hlt => ?_, ?_⟩
      · cases m with
        | zero => exact fun z => e (Option.some.inj z)
        | succ m => exact h2 m (by omega)
      · show x :: ns.eraseIdx j = _
        rw [h3, List.filter_cons, if_pos (decide_eq_true e)]
section
variable {X : Cx} {B0 H0 : Hp} {δ : List (Option A)} {e : Expr} {p1 : Pos} {p : Addr} {ns : List Int} {n : Int}
/-- x.remove(n), x a list of ints of one's own -/
theorem ws_remP {E : AE} {rest : List Stmt} {i : Nat} {xn : Str} {apos cpos epos : Pos} (hδ : δ[i]? = some (some (.op p (ns.map .int)))) (he : Pe X B0 H0 δ e (.d (.int n))) (hm : n ∈ ns) (hn : ns.Nodup) (hr : Ws X B0 H0 (δ.set i (some (.op p ((ns.filter fun x => decide (x ≠ n)).map .int)))) rest E) (hN : X.N[i]? = some xn) (hv : Vis X.env.scope xn)
    (hbase : attributeBase (.Name xn p1) "remove" X.env (eval (.Name xn p1) X.env) = eval (.Name xn p1) X.env := by rfl)
    (hfew : ((backTo cpos (starEach [e] X.env)).all (fun x => !x.1) && (backToKw cpos (keywordEach [] X.env)).all (fun x => x.1.isSome) && decide ([e].length + ([] : List Keyword).length + (if ([] : List Keyword).isEmpty then 0 else 1) < 30)) = true := by rfl)
    (hline : (apos.endLine == cpos.line) = true := by rfl) (hs : starEach [e] X.env = (false, eval e X.env) :: starEach [] X.env := by rfl) (hsw : swapsWith (.Call (.Attribute (.Name xn p1) "remove" apos) [e] [] cpos) none epos.line X.env = pure false := by rfl) (h1 : (xn == ("__debug__" : Str)) = false := by decide) (h2 : (xn == ("__classdict__" : Str)) = false := by decide) :
    Ws X B0 H0 δ (.Expr (.Call (.Attribute (.Name xn p1) "remove" apos) [e] [] cpos) epos :: rest) E := by
  have key := pe_bm PySem.F.plainAttrs_list PySem.F.slot_list_remove PySem.F.type_list_remove mt_remove (pe_var (X := X) (i := i) (pos := p1) hN hv h1 h2) (pa_cons he pa_nil hs) hbase hfew hline hs rfl
  refine ws_cons (W := fun B H δ' => B = B0 ∧ H = H0 ∧ δ' = δ.set i (some (.op p ((ns.filter fun x => decide (x ≠ n)).map .int)))) (ps_expr key hsw) (fun B H δ' ⟨h1, h2, h3⟩ => by rw [h1, h2, h3]; exact hr) fun D σ H B E0 S z => ?_
  obtain ⟨v, hσ, rfl, hb, vs, hl, hd⟩ := S.rel i _ hδ
  refine ⟨_, hσ, .inl ⟨rfl, _, .inl (.inl hl)⟩, B, E0, S, fun u B' H' E1 r => ?_⟩
  have hl' := E1.h _ _ hl
  have hb' : B' p = none := by rw [E1.n p (by rw [hl]; simp)]; exact hb
  have ev := GL.dqs_ints ns hd
  subst ev
  obtain ⟨j, j1, j2, j3⟩ := rem_at hn hm
  have r : Dq B' u (.int n) := r
  cases r
  refine ⟨p, ns, n, j, rfl, rfl, hl', j1, j2, ?_⟩
  rw [j3]
  have S1 := S.mono E1
  have h0 := S1.fr i _ _ p hδ hσ rfl
  have g2 := S1.put (a' := .op p ((ns.filter fun x => decide (x ≠ n)).map .int)) (H' := upd H' p (.lst ((ns.filter fun x => decide (x ≠ n)).map V.int))) (fun q w hq => E1.h q w (E0.h q w hq)) hδ hσ (fun q w n hq => by rw [upd_ne (fun e => n (by rw [e]; rfl))]; exact hq) (sub_upd S1.s hb') ⟨rfl, hb', _, upd_same, ints_dqs _⟩ (fun q f => .inl f) rfl
  have E2 := E0.tr E1
  exact z.nx _ _ _ σ B' _ ⟨rfl, rfl, rfl⟩ E1.b ⟨E2.b, sub_upd E2.h h0, sub_upd E2.s hb', E2.n⟩ g2
end
end GL
namespace GL
open PySem PySem.Spec PyProof.Rows L2
section
variable {X : Cx} {B0 H0 : Hp} {δ δ' : List (Option A)} {e1 e2 : Expr} {pos : Pos} {d1 d2 : PyData}
/-- f(..) != e, what is called changes what the slots hold -/
theorem tx_cmNe (h1 : Px X B0 H0 δ e1 δ' (.d d1)) (h2 : Pe X B0 H0 δ' e2 (.d d2)) (s : Sh 40 d1 ∧ Sh 40 d2) (hu : X.A.units + 64 < cLine) (hm : behindInMarks .NotEq e2 = false := by first | rfl | exact nomark _) : Ptx X B0 H0 δ (.Compare e1 [.NotEq] [e2] pos) δ' (!PyData.eqv d1 d2) :=
  pt_to (pt_cmpR (op_neD (by omega)) h1 h2 hm) fun σ H Q ⟨B, E0, S, k⟩ => ⟨B, E0, S, fun x B1 H1 b1 E1 S1 r1 => ⟨B1, E1, S1, fun y B2 H2 E2 r2 => ⟨d1, d2, dq_dp _ _ (dq_sub E2.h _ _ (dq_sub E1.s _ _ r1)), dq_dp _ _ (dq_sub E2.s _ _ r2), s.1.shaped, s.2.shaped, ⟨_, rfl, k B2 H2 (b1.tr E2.b) (E1.tr E2) (S1.mono E2)⟩⟩⟩⟩
end
end GL

set_option Elab.async false
set_option linter.all false
set_option maxRecDepth 100000
set_option maxHeartbeats 4000000
/-! GN: a class whose making is refused; one's own tuples with a list, let go -/
namespace GL
open PySem PySem.Spec PyProof.Rows L2
section
variable {X : Cx} {CX : CXT} {k : Nat} {f C : Addr} {fd : FuncData} {ps : List Str} {sp : Sp} {E : L2.St → XK}
theorem run_makeS {pins : List (Addr × Obj)} {σ : L2.St} {H : Hp} {s : Shared} {Q : VK} {us : List Value} {vs : List V} (M : Mk X.K C f) (F : FnOk X.prog X.w X.K X.mg X.base CX k f fd ps sp) (hr : Room (k + 1) X.A) (hb : Binds X.K fd ps [])
    (hx : PassesAt CX X σ (E σ)) (I : Inv X pins σ H s) (r : Vals vs us)
    (h : ∀ x dx, H x = none → H dx = none → dx ≠ x → sp (.ref x :: vs) (upd (upd H dx (.own x)) x (.ins C dx [])) (fun v H2 => v = .non ∧ Q (.ref x) H2) (E σ)) :
    wpAny (model X.prog X.w) X.A (call (.ref C) us) (EP X pins σ Q) X.xe s := by
  have hq := h (s.heap.objs.size + 1) s.heap.objs.size (I.hok.fresh (Nat.le_succ _)) (I.hok.fresh (Nat.le_refl _)) (Nat.ne_of_lt (Nat.lt_succ_self _))
  have I2 := Inv.made (C := C) I
  have r2 : Vals (V.ref (s.heap.objs.size + 1) :: vs) (Value.ref (s.heap.objs.size + 1) :: us) := .cons rfl r
  have hl : (Value.ref (s.heap.objs.size + 1) :: us).length = ps.length := by
    have e := r2.length
    rw [F.len _ _ _ _ hq] at e
    exact e.symm
  have b := hb _ (Value.ref (s.heap.objs.size + 1) :: us) I2.kIn (by rw [List.append_nil]; exact hl)
  rw [List.append_nil] at b
  refine wpAny_call (make_map (f := f) I.kIn M.makes M.init (beq_iff_eq.mp M.fn) (codeAny_mono (F.run _ X.stack _ _ ⟨Value.ref (s.heap.objs.size + 1) :: us, []⟩ (Value.ref (s.heap.objs.size + 1) :: us) _ _ (E σ) (hr.make C us [])
    (I2.env0.make C us []) b r2 hq) fun r s' hq' => ?_))
  cases r with
  | error e => exact hx pins _ _ e s' I2 hq'
  | ok fl =>
    cases fl with
    | ret u =>
      obtain ⟨v, H', I3, rv, ev, q3⟩ := I2.after hq'
      subst ev
      exact ⟨rv, ⟨V.ref (s.heap.objs.size + 1), H', I3, rfl, q3⟩⟩
    | next => exact False.elim hq'
    | brk => exact False.elim hq'
    | cont => exact False.elim hq'
theorem pe_makeS {x : Str} {p pos : Pos} {e : Expr} {es : List Expr} {t : TA} (M : Mk X.K C f) (F : FnOk X.prog X.w X.K X.mg X.base CX k f fd ps sp) (hr : Room (k + 1) X.A) (hg : Gl X x) (hm : X.mg x = some (.ref C)) (hb : Binds X.K fd ps []) (hx : ∀ σ, PassesAt CX X σ (E σ))
    (ha : PA X (e :: es) t) (hdb : (x == ("__debug__" : Str)) = false := by decide) (he : starEach (e :: es) X.env = (false, eval e X.env) :: starEach es X.env := by rfl) (hpl : (backTo pos (starEach es X.env)).any (·.1) = false := by rfl) :
    PE X (.Call (.Name x p) (e :: es) [] pos) (fun σ H Q => t σ H fun vs H1 => ∀ x dx, H1 x = none → H1 dx = none → dx ≠ x → sp (.ref x :: vs) (upd (upd H1 dx (.own x)) x (.ins C dx [])) (fun v H2 => v = .non ∧ Q (.ref x) H2) (E σ)) := by
  refine ⟨fun pins s σ H Q I h => ?_⟩
  refine wpAny_Call_Name_kw (ld_glob I hg hm ?_ hdb)
  refine PySem.W.callWith_K (h₀ := X.base) I.ok.mod.kin M.kp (thn (ha.run pos pins s σ H _ I h) fun us s1 ⟨vs, H1, I1, r, q⟩ => ⟨I1.kIn, ?_⟩) he hpl
  exact run_makeS M F hr hb (hx σ) I1 r q
end
section
variable {X : Cx} {B0 H0 : Hp} {δ δ' : List (Option A)} {e e1 e2 o c : Expr} {es : List Expr} {a a0 a1 a2 : A} {as as' : List A} {xs ys : List PyData} {x y : PyData} {pos p1 p2 p3 apos : Pos} {k i : Nat} {p q C D : Addr} {vs : List V} {fs : List Fd} {t : Bool} {nm : Str} {rel : Hp → Hp → List A → R → List A → Prop}
/-- C(..), refused -/
theorem ws_deadMk {E : AE} {rest : List Stmt} (F : KnMk X.prog X.w X.K X.mg X.base nm C k rel) (hr : Room (k + 1) X.A) (ha : Pa X B0 H0 δ (e :: es) as) (no : ∀ b ∈ as, owns b = false ∧ reads b = false) (h : ∀ x B H, Sub B H → rel B H (.ob x C [] :: as) (.exc D) (.ob x C [] :: as)) (r : Rz X B0 H0 δ D)
    (hg : Gl X nm := by rfl) (hdb : (nm == ("__debug__" : Str)) = false := by decide) (he : starEach (e :: es) X.env = (false, eval e X.env) :: starEach es X.env := by rfl) (hpl : (backTo pos (starEach es X.env)).any (·.1) = false := by rfl)
    (hs : swapsWith (.Call (.Name nm p2) (e :: es) [] pos) none apos.line X.env = pure false := by rfl) : Ws X B0 H0 δ (.Expr (.Call (.Name nm p2) (e :: es) [] pos) apos :: rest) E := by
  obtain ⟨f, fd, ps, F, hm, hb, hmg⟩ := F.ex
  obtain ⟨W, tk, hw⟩ := r
  refine ws_cons (W := fun _ _ _ => False) (ps_expr (pe_makeS (E := WE W) hm F hr hg hmg hb (fun σ => L2N.passAt tk σ) ha hdb he hpl) hs) (fun _ _ _ q => q.elim) fun D' σ H B E0 S z => ⟨B, E0, S, fun vs B1 H1 E1 rs x dx nx ndx ne => ?_⟩
  have bx := sub_free E1.s nx
  have hn : ∀ q u, H1 q = some u → (upd (upd H1 dx (.own x)) x (.ins C dx [])) q = some u := fun q u hq => by
    rw [upd_ne (ne_of_none hq nx), upd_ne (ne_of_none hq ndx)]; exact hq
  have rv : RA X.K B1 (upd (upd H1 dx (.own x)) x (.ins C dx [])) (.ref x) (.ob x C []) := ⟨rfl, bx, dx, [], upd_same, .nil, fun a b q g => by obtain ⟨_, _, h1, _⟩ := g; simp at h1⟩
  have ex : Ext B1 H1 B1 (upd (upd H1 dx (.own x)) x (.ins C dx [])) := ⟨Sub.rfl', hn, fun q u hq => hn q u (E1.s q u hq), fun _ _ => rfl⟩
  have sb : Sub B1 (less (upd (upd H1 dx (.own x)) x (.ins C dx [])) (.ref x) (.ob x C [])) := fun q u hq => by
    rw [less_yes (fun g => by rw [fp_empty g, bx] at hq; cases hq)]
    exact ex.s q u hq
  refine ⟨B1, less (upd (upd H1 dx (.own x)) x (.ins C dx [])) (.ref x) (.ob x C []), .ob x C [] :: as, .exc D, .ob x C [] :: as, sb, ⟨Sub.rfl', less_le, ex.s, fun _ _ => rfl⟩, ?_, h x _ _ sb, fun B3 H3 E3 S3 => ?_⟩
  · have rs2 : RAs X.K B1 (upd (upd H1 dx (.own x)) x (.ins C dx [])) vs as := rs.mono ex
    exact sd_args ex.s rv rs2 no rfl
  · have up : ∀ q u, H1 q = some u → less (upd (upd H1 dx (.own x)) x (.ins C dx [])) (.ref x) (.ob x C []) q = some u := fun q u hq => by
      rw [less_yes (fun g => by rw [fp_empty g, nx] at hq; cases hq)]
      exact hn q u hq
    have E4 : Ext B1 H1 B3 H3 := ⟨E3.b, fun q u hq => E3.h q u (up q u hq), E3.s, fun q hq => by
      cases w : H1 q with
      | none => exact absurd w hq
      | some u => exact E3.n q (by rw [up q u w]; exact fun z => nomatch z)⟩
    exact hw σ B3 H3 ((E0.tr E1).tr E4) ((S.mono E1).mono E4)
/-- a structure of one's own is let go: from here on it is data -/
theorem ws_letNP {E : AE} {ss : List Stmt} (i : Nat) (hδ : δ[i]? = some (some (.np t p vs fs))) (hp : plainF fs = true) (h : Ws X B0 H0 (δ.set i (some (.d (seqD t (fs.map fdD))))) ss E) : Ws X B0 H0 δ ss E := by
  refine pss_to h fun D σ H ⟨B, E0, S, z⟩ => ?_
  obtain ⟨v, hσ, r⟩ := S.rel i _ hδ
  obtain ⟨rfl, hb, hl, hw, hs, hn⟩ := id r
  have sB : Sub B (more B H (.ref p) (.np t p vs fs)) := more_b
  have sH : Sub (more B H (.ref p) (.np t p vs fs)) H := more_h S.s
  refine ⟨more B H (.ref p) (.np t p vs fs), ⟨E0.b.tr sB, E0.h, sH, fun y q => ?_⟩, ⟨sH, by rw [List.length_set]; exact S.len, fun j a hj => ?_, fun j k a b v u q h1 h2 h3 h4 f1 f2 => ?_, fun j a v q h1 h2 f => ?_, fun j a v h1 h2 h3 => ?_⟩, z.up sB⟩
  · rw [more_no fun g => q (S.fr i _ _ y hδ hσ g)]
    exact E0.n y q
  · rcases set_get hj with ⟨e, e2, _⟩ | ⟨ne, hj⟩
    · subst e e2
      have g0 : Fp H (.ref p) (.np t p vs fs) p := .inl rfl
      exact ⟨_, hσ, dq_seq (by rw [more_own hb g0]; exact hl) (fdw_dqs more_b hp hw fun i q u g hbq hq => by
        have g1 : Fp H (.ref p) (.np t p vs fs) q := .inr ⟨i, g⟩
        rw [more_own hbq g1]
        exact hq)⟩
    · obtain ⟨u, h1, h2⟩ := S.rel j a hj
      refine ⟨u, h1, ra_grow sB (fun q f => ?_) h2⟩
      rw [more_no fun g => ne (S.dis i j _ a _ u q hδ hj hσ h1 g f)]
      exact (fp_at h2 f).1
  · rcases set_get h1 with ⟨e, e2, _⟩ | ⟨ne, h1⟩
    · subst e2
      exact f1.elim
    · rcases set_get h2 with ⟨e, e2, _⟩ | ⟨ne2, h2⟩
      · subst e2
        exact f2.elim
      · exact S.dis j k a b v u q h1 h2 h3 h4 f1 f2
  · rcases set_get h1 with ⟨e, e2, _⟩ | ⟨ne, h1⟩
    · subst e2
      exact f.elim
    · exact S.fr j a v q h1 h2 f
  · rcases set_get h1 with ⟨e, e2, _⟩ | ⟨ne, h1⟩
    · subst e2
      cases h2
    · obtain ⟨Bz, sz, rz⟩ := S.rd j a v h1 h2 h3
      exact ⟨Bz, sz.tr sB, rz⟩
/-- its item at m, as it is -/
theorem p_npAt {v : V} {m : Nat} {xn : Str} (i : Nat) (hδ : δ[i]? = some (some (.np true p vs fs))) (hv : vs[m]? = some v) (hb : Pe X B0 H0 δ e2 (.d (.int (m : Nat)))) (hN : X.N[i]? = some xn := by rfl) (hvis : Vis X.env.scope xn := by first | exact .inl rfl | exact .inr (.inl rfl) | exact .inr (.inr rfl)) (h1 : (xn == ("__debug__" : Str)) = false := by decide) (h2 : (xn == ("__classdict__" : Str)) = false := by decide) (hp : PlainIx e2 := by intro _ _; rfl) : Pe X B0 H0 δ (.Subscript (.Name xn p1) e2 pos) (.v v) :=
  p_ix ix_seq (p_var i hδ hN hvis h1 h2) hb hp fun B H w u Q s r1 r2 k => by
    obtain ⟨rfl, _, hl, _⟩ := r1
    have ei := ra_int r2
    exact .inr (.inl ⟨p, vs, m, v, rfl, ei, .inl (.inl hl), atI_nat hv, k v B H (.rfl' s) rfl⟩)
end
end GL
namespace GL
open PySem PySem.Spec PyProof.Rows L2
section
variable {X : Cx} {B0 H0 : Hp} {δ δ' : List (Option A)} {e o c : Expr} {x : PyData} {xs : List PyData} {p1 : Pos} {i : Nat} {p q : Addr} {vs : List V} {fs : List Fd} {t : Bool}
/-- o.append(e), o one of the inner lists -/
theorem ws_appV {E : AE} {rest : List Stmt} {apos cpos epos : Pos} (i m : Nat) (ho : Pe X B0 H0 δ o (.v (.ref q))) (hδ : δ[i]? = some (some (.np t p vs fs))) (hvm : vs[m]? = some (.ref q)) (hfm : fs[m]? = some (.o xs)) (he : Pe X B0 H0 δ e (.d x)) (hz : xs.length < 1000) (hr : Ws X B0 H0 (δ.set i (some (.np t p vs (fs.set m (.o (xs ++ [x])))))) rest E)
    (hbase : attributeBase o "append" X.env (eval o X.env) = eval o X.env := by rfl)
    (hfew : ((backTo cpos (starEach [e] X.env)).all (fun x => !x.1) && (backToKw cpos (keywordEach [] X.env)).all (fun x => x.1.isSome) && decide ([e].length + ([] : List Keyword).length + (if ([] : List Keyword).isEmpty then 0 else 1) < 30)) = true := by rfl)
    (hline : (apos.endLine == cpos.line) = true := by rfl) (hs : starEach [e] X.env = (false, eval e X.env) :: starEach [] X.env := by rfl) (hsw : swapsWith (.Call (.Attribute o "append" apos) [e] [] cpos) none epos.line X.env = pure false := by rfl) :
    Ws X B0 H0 δ (.Expr (.Call (.Attribute o "append" apos) [e] [] cpos) epos :: rest) E := by
  have key := pe_bm PySem.F.plainAttrs_list PySem.F.slot_list_append PySem.F.type_list_append mt_append ho (pa_cons he pa_nil hs) hbase hfew hline hs rfl
  refine ws_cons (W := fun B H d => B = B0 ∧ H = H0 ∧ d = δ.set i (some (.np t p vs (fs.set m (.o (xs ++ [x])))))) (ps_expr key hsw) (fun B H d ⟨h1, h2, h3⟩ => by rw [h1, h2, h3]; exact hr) fun D σ H B E0 S z => ?_
  have inner : ∀ {B H : Hp}, SD X.K H0 B H σ δ → ∃ ws, H q = some (.lst ws) ∧ Dqs B ws xs := fun S => by
    obtain ⟨_, _, _, _, _, hw, _⟩ := S.rel i _ hδ
    obtain ⟨u, h3, q', ws, e, _, hq, hdq⟩ := fdw_nget hw m _ hfm
    rw [hvm] at h3
    cases h3
    cases e
    exact ⟨ws, hq, hdq⟩
  refine ⟨B, E0, S, fun v B1 H1 E1 r1 => ?_⟩
  have r1 : v = .ref q := r1
  subst r1
  have S1 := S.mono E1
  obtain ⟨ws0, hq0, _⟩ := inner S1
  refine ⟨.inl ⟨rfl, _, .inl (.inl hq0)⟩, B1, E0.tr E1, S1, fun u B' H' E2 r => ?_⟩
  have S2 := S1.mono E2
  obtain ⟨ws, hq, hdq⟩ := inner S2
  refine ⟨q, ws, u, rfl, rfl, hq, small1000 (by rw [dqs_len hdq]; omega), ?_⟩
  obtain ⟨g1, g2⟩ := np_put S2 ((E0.tr E1).tr E2) hδ hvm hfm (dqs_app hdq (.cons r .nil))
  exact z.nx _ _ _ σ B' _ ⟨rfl, rfl, rfl⟩ (E1.tr E2).b g1 g2
end
end GL
namespace GL
open PySem PySem.Spec PyProof.Rows L2
theorem p_par {X : Cx} {B0 H0 : Hp} {δ : List (Option A)} {pos : Pos} {xs : List PyData} {y : PyData} (i : Nat) {x : Str} (hd : δ[i]? = some (some (.nf true [.o xs, .d y]))) (hN : X.N[i]? = some x := by rfl) (hv : Vis X.env.scope x := by first | exact .inl rfl | exact .inr (.inl rfl) | exact .inr (.inr rfl)) (h1 : (x == ("__debug__" : Str)) = false := by decide) (h2 : (x == ("__classdict__" : Str)) = false := by decide) : Pe X B0 H0 δ (.Name x pos) (.t (.tuple [.list xs, y])) := p_varN i hd rfl hN hv h1 h2
end GL

set_option Elab.async false
set_option linter.all false
set_option maxHeartbeats 4000000
/-! GM12: parcels left out and taken back, plain Lean -/
namespace GM
/-- what all need that is judged anew -/
structure YB (S : YS) : Prop where
  m : 1 ≤ S.many ∧ S.many ≤ 24
  w : 1 ≤ S.wide ∧ S.wide ≤ 32
  len : S.box.length ≤ 60
  ok : ∀ p ∈ S.box, ParOk S.many S.wide.toNat p
  gone : ∀ g ∈ S.gone, 0 ≤ g ∧ g < S.box.length
theorem YInv.yb {S : YS} {k : Nat} (I : YInv S k) : YB S := ⟨I.m, I.w, I.len, I.ok, I.gone⟩
def clearY (S : YS) : YS := { S with words := [], rows := [] }
/-- the first k judged anew -/
def preJ (S : YS) (k : Nat) : YS := (List.range k).foldl (fun S (k : Nat) => judge S (k : Int)) (clearY S)
theorem preJ_succ (S : YS) (k : Nat) : preJ S (k + 1) = judge (preJ S k) k := by
  unfold preJ
  rw [List.range_succ, List.foldl_append]
  rfl
theorem preJ_all (S : YS) : judgeAll S = preJ S S.box.length := rfl
theorem preJ_box (S : YS) (k : Nat) : (preJ S k).box = S.box ∧ (preJ S k).many = S.many ∧ (preJ S k).wide = S.wide ∧ (preJ S k).gone = S.gone := by
  induction k with
  | zero => exact ⟨rfl, rfl, rfl, rfl⟩
  | succ k ih =>
    rw [preJ_succ]
    have := judge_box (S := preJ S k) (n := (k : Int))
    exact ⟨this.1.trans ih.1, this.2.1.trans ih.2.1, this.2.2.1.trans ih.2.2.1, this.2.2.2.trans ih.2.2.2⟩
theorem yinv_clear {S : YS} (Y : YB S) : YInv (clearY S) 0 := by
  have no : ∀ (i : Nat) (d : Wd × List Int), ¬ (clearY S).words[i]? = some d := fun i d h => by
    have h : ([] : List (Wd × List Int))[i]? = some d := h
    simp at h
  exact ⟨Y.m, Y.w, Y.len, Y.ok, Y.gone, Nat.zero_le _, rfl, Nat.le_refl _, ech_nil, fun _ h => (List.not_mem_nil h).elim, fun _ h => (List.not_mem_nil h).elim, fun _ _ _ i _ _ h => (no i _ h).elim, fun _ _ _ _ i _ _ h => (no i _ h).elim, fun _ _ _ _ h => (List.not_mem_nil h).elim, fun i _ _ h => (no i _ h).elim, fun i _ _ h => (no i _ h).elim, fun i _ _ h => (no i _ h).elim⟩
theorem yinv_pre {S : YS} (Y : YB S) : ∀ k : Nat, k ≤ S.box.length → YInv (preJ S k) k
  | 0, _ => yinv_clear Y
  | k + 1, h => by
    rw [preJ_succ]
    exact yinv_judge (yinv_pre Y k (by omega)) (by rw [(preJ_box S k).1]; omega)
/-- judged anew as it stands -/
structure Canon (S : YS) : Prop where
  y : YB S
  j : preJ S S.box.length = S
theorem Canon.inv {S : YS} (c : Canon S) : YInv S S.box.length := by
  have := yinv_pre c.y S.box.length (Nat.le_refl _)
  rwa [c.j] at this
theorem canon_all {S : YS} (Y : YB S) : Canon (judgeAll S) := by
  obtain ⟨h1, h2, h3, h4⟩ := preJ_box S S.box.length
  rw [preJ_all]
  refine ⟨⟨by rw [h2]; exact Y.m, by rw [h3]; exact Y.w, by rw [h1]; exact Y.len, by rw [h1, h2, h3]; exact Y.ok, by rw [h1, h4]; exact Y.gone⟩, ?_⟩
  have e : clearY (preJ S S.box.length) = clearY S := by
    unfold clearY
    have : ∀ a b : YS, a.box = b.box → a.many = b.many → a.wide = b.wide → a.gone = b.gone → ({ a with words := [], rows := [] } : YS) = { b with words := [], rows := [] } := fun a b => by
      cases a; cases b
      intro e1 e2 e3 e4
      cases e1; cases e2; cases e3; cases e4
      rfl
    exact this _ _ h1 h2 h3 h4
  show (List.range (preJ S S.box.length).box.length).foldl (fun S (k : Nat) => judge S (k : Int)) (clearY (preJ S S.box.length)) = _
  rw [e, h1]
  rfl
theorem canon_new {m w : Int} (hm : 1 ≤ m ∧ m ≤ 24) (hw : 1 ≤ w ∧ w ≤ 32) : Canon (newY m w) := ⟨(yinv_new hm hw).yb, rfl⟩
/-- a parcel more in the box changes no word ahead -/
theorem judge_app {S : YS} {k : Nat} {q : Par} (hk : k < S.box.length) : judge { S with box := S.box ++ [q] } k = { judge S k with box := S.box ++ [q] } := by
  unfold judge judgeR
  show (if (k : Int) ∈ S.gone then _ else _) = _
  rw [show pAt (S.box ++ [q]) (k : Int) = pAt S.box k from pAt_app ⟨by omega, by omega⟩]
  split
  · rfl
  · split
    · rfl
    · split <;> rfl
theorem pre_app {S : YS} {q : Par} : ∀ k : Nat, k ≤ S.box.length → preJ { S with box := S.box ++ [q] } k = { preJ S k with box := S.box ++ [q] }
  | 0, _ => rfl
  | k + 1, h => by
    have b := (preJ_box S k).1
    have e := judge_app (S := preJ S k) (k := k) (q := q) (by rw [b]; omega)
    rw [b] at e
    rw [preJ_succ, preJ_succ, pre_app k (by omega), e]
theorem canon_gathered {S : YS} {q : Par} (c : Canon S) (hq : ParOk S.many S.wide.toNat q) (hl : S.box.length < 60) : Canon (gathered S q) := by
  have I' := yinv_gathered c.inv hq hl
  refine ⟨I'.yb, ?_⟩
  have b := (gathered_box (S := S) (p := q)).1
  have e1 : preJ { S with box := S.box ++ [q] } (S.box.length + 1) = gathered S q := by
    rw [preJ_succ, pre_app _ (Nat.le_refl _), c.j]
    rfl
  obtain ⟨h1, h2, h3, h4⟩ := gathered_box (S := S) (p := q)
  have e2 : clearY (gathered S q) = clearY { S with box := S.box ++ [q] } := by
    unfold clearY
    have : ∀ a b : YS, a.box = b.box → a.many = b.many → a.wide = b.wide → a.gone = b.gone → ({ a with words := [], rows := [] } : YS) = { b with words := [], rows := [] } := fun a b => by
      cases a; cases b
      intro e1 e2 e3 e4
      cases e1; cases e2; cases e3; cases e4
      rfl
    exact this _ _ h1 h2 h3 h4
  rw [b, List.length_append]
  show preJ (gathered S q) (S.box.length + 1) = _
  unfold preJ
  rw [e2]
  exact e1
/-! ### set and value alone -/
def rv (r : Rw) : List Int × List Int := (r.1, r.2.1)
theorem rv_joined {a b c d : Rw} (h1 : rv a = rv b) (h2 : rv c = rv d) : rv (joined a c) = rv (joined b d) := by
  unfold rv at *
  have e1 := Prod.mk.inj h1
  have e2 := Prod.mk.inj h2
  unfold joined
  simp only [e1.1, e1.2, e2.1, e2.2]
theorem rv_step {a b c d : Rw} (h1 : rv a = rv b) (h2 : rv c = rv d) : rv (redStep a c) = rv (redStep b d) := by
  unfold redStep
  have e1 := (Prod.mk.inj h1).1
  have e2 := (Prod.mk.inj h2).1
  rw [e1, e2]
  split
  · exact rv_joined h1 h2
  · exact h1
theorem rv_reduced : ∀ {rs ss : List Rw} {a b : Rw}, rs.map rv = ss.map rv → rv a = rv b → rv (reduced rs a) = rv (reduced ss b)
  | [], [], _, _, _, h => h
  | [], _ :: _, _, _, h, _ => by cases h
  | _ :: _, [], _, _, h, _ => by cases h
  | r :: rs, s :: ss, a, b, h, h2 => by
    rw [List.map_cons, List.map_cons] at h
    have e := List.cons.inj h
    exact rv_reduced (rs := rs) (ss := ss) e.2 (rv_step h2 e.1)
theorem rv_with {rs ss : List Rw} {a b : Rw} (h : rs.map rv = ss.map rv) (h2 : rv a = rv b) : (withRow rs a).map rv = (withRow ss b).map rv := by
  unfold withRow
  rw [List.map_append, List.map_append]
  have e1 := (Prod.mk.inj h2).1
  congr 1
  · rw [List.map_map, List.map_map]
    have go : ∀ rs ss : List Rw, rs.map rv = ss.map rv → rs.map (rv ∘ putStep a) = ss.map (rv ∘ putStep b) := by
      intro rs
      induction rs with
      | nil =>
        intro ss h
        cases ss with
        | nil => rfl
        | cons _ _ => cases h
      | cons r rs ih =>
        intro ss h
        cases ss with
        | nil => cases h
        | cons s ss =>
          rw [List.map_cons, List.map_cons] at h
          have e := List.cons.inj h
          rw [List.map_cons, List.map_cons, ih ss e.2]
          congr 1
          show rv (putStep a r) = rv (putStep b s)
          unfold putStep
          rw [e1, (Prod.mk.inj e.1).1]
          split
          · exact rv_joined e.1 h2
          · exact e.1
    exact go rs ss h
  · exact congrArg (fun x => [x]) h2
end GM

set_option Elab.async false
set_option linter.all false
set_option maxHeartbeats 4000000
/-! GM13: the yard of just the others, plain Lean -/
namespace GM
/-- how many of the first k are not left out -/
def placeN (S : YS) (k : Nat) : Nat := ((List.range k).filter fun (j : Nat) => !decide ((j : Int) ∈ S.gone)).length
theorem place_out {S : YS} {k : Nat} (h : (k : Int) ∈ S.gone) : placeN S (k + 1) = placeN S k := by
  unfold placeN
  rw [List.range_succ, List.filter_append, List.filter_cons, decide_eq_true h]
  simp
theorem place_in {S : YS} {k : Nat} (h : (k : Int) ∉ S.gone) : placeN S (k + 1) = placeN S k + 1 := by
  unfold placeN
  rw [List.range_succ, List.filter_append, List.filter_cons, decide_eq_false h]
  simp
theorem place_le (S : YS) (k : Nat) : placeN S k ≤ k := by
  unfold placeN
  exact Nat.le_trans (List.length_filter_le _ _) (Nat.le_of_eq List.length_range)
theorem pre_words {S : YS} (Y : YB S) {k : Nat} (h : k ≤ S.box.length) : (preJ S k).words.length = k := (yinv_pre Y k h).wl
structure Sim (S : YS) (k : Nat) (O : YS) : Prop where
  rows : (preJ S k).rows.map rv = O.rows.map rv
  many : O.many = S.many
  wide : O.wide = S.wide
  gone : O.gone = []
  inv : YInv O O.box.length
  len : O.box.length = placeN S k
  words : ∀ j : Nat, j < k → (j : Int) ∉ S.gone → ∃ d l l', (preJ S k).words[j]? = some (d, l) ∧ O.words[placeN S j]? = some (d, l')
section
variable {S O : YS} {k : Nat}
theorem sim_zero (Y : YB S) : Sim S 0 (newY S.many S.wide) := ⟨rfl, rfl, rfl, rfl, yinv_new Y.m Y.w, rfl, fun j h => absurd h (Nat.not_lt_zero _)⟩
theorem sim_out (Y : YB S) (h : Sim S k O) (hk : k < S.box.length) (ho : (k : Int) ∈ S.gone) : Sim S (k + 1) O := by
  have e : preJ S (k + 1) = { preJ S k with words := (preJ S k).words ++ [(.out, [])] } := by
    rw [preJ_succ]
    unfold judge judgeR
    rw [if_pos (by rw [(preJ_box S k).2.2.2]; exact ho)]
  refine ⟨by rw [e]; exact h.rows, h.many, h.wide, h.gone, h.inv, by rw [place_out ho]; exact h.len, fun j hj hn => ?_⟩
  have hj2 : j < k := by
    rcases Nat.lt_succ_iff_lt_or_eq.mp hj with h | h
    · exact h
    · rw [h] at hn; exact absurd ho hn
  obtain ⟨d, l, l', h1, h2⟩ := h.words j hj2 hn
  exact ⟨d, l, l', by rw [e]; exact word_up h1, h2⟩
theorem sim_in (Y : YB S) (h : Sim S k O) (hk : k < S.box.length) (ho : (k : Int) ∉ S.gone) : Sim S (k + 1) (gathered O (pAt S.box k)) := by
  have I := yinv_pre Y k (Nat.le_of_lt hk)
  obtain ⟨b1, b2, b3, b4⟩ := preJ_box S k
  have hp : ParOk O.many O.wide.toNat (pAt S.box k) := by
    rw [h.many, h.wide]
    exact Y.ok _ (pAt_mem ⟨by omega, by omega⟩)
  have pl := place_le S k
  have hlen := h.len
  have yl := Y.len
  have hl : O.box.length < 60 := by omega
  have I' := yinv_gathered h.inv hp hl
  obtain ⟨g1, g2, g3, g4⟩ := gathered_box (S := O) (p := pAt S.box k)
  have last : pAt (O.box ++ [pAt S.box k]) O.box.length = pAt S.box k := pAt_last
  have eO : gathered O (pAt S.box k) = judgeR { O with box := O.box ++ [pAt S.box k] } O.box.length (reduced O.rows (rowOf (pAt S.box k))) := by
    unfold gathered judge
    show judgeR _ _ (reduced O.rows (rowOf (pAt (O.box ++ [pAt S.box k]) O.box.length))) = _
    rw [last]
  have eS : preJ S (k + 1) = judgeR (preJ S k) k (reduced (preJ S k).rows (rowOf (pAt S.box k))) := by
    rw [preJ_succ]
    unfold judge
    rw [b1]
  have er := rv_reduced (a := rowOf (pAt S.box k)) (b := rowOf (pAt S.box k)) h.rows rfl
  generalize reduced (preJ S k).rows (rowOf (pAt S.box k)) = R at er eS
  generalize reduced O.rows (rowOf (pAt S.box k)) = R' at er eO
  have e1 : R.1 = R'.1 := (Prod.mk.inj er).1
  have e2 : R.2.1 = R'.2.1 := (Prod.mk.inj er).2
  have wS : (preJ S k).words.length = k := I.wl
  have wO : O.words.length = placeN S k := by rw [h.inv.wl, h.len]
  -- one word more of either
  have fin : ∀ (d : Wd) (l l' : List Int), (preJ S (k + 1)).words = (preJ S k).words ++ [(d, l)] → (gathered O (pAt S.box k)).words = O.words ++ [(d, l')] → ∀ j : Nat, j < k + 1 → (j : Int) ∉ S.gone → ∃ d l l', (preJ S (k + 1)).words[j]? = some (d, l) ∧ (gathered O (pAt S.box k)).words[placeN S j]? = some (d, l') := fun d l l' h1 h2 j hj hn => by
    rcases Nat.lt_succ_iff_lt_or_eq.mp hj with hj | hj
    · obtain ⟨d, l, l', h3, h4⟩ := h.words j hj hn
      exact ⟨d, l, l', by rw [h1]; exact word_up h3, by rw [h2]; exact word_up h4⟩
    · refine ⟨d, l, l', ?_, ?_⟩
      · rw [h1, hj, List.getElem?_append_right (by omega), wS, Nat.sub_self]
        rfl
      · rw [h2, hj, List.getElem?_append_right (by omega), wO, Nat.sub_self]
        rfl
  have mk : ∀ (d : Wd) (l l' : List Int), (preJ S (k + 1)).words = (preJ S k).words ++ [(d, l)] → (gathered O (pAt S.box k)).words = O.words ++ [(d, l')] → (preJ S (k + 1)).rows.map rv = (gathered O (pAt S.box k)).rows.map rv → Sim S (k + 1) (gathered O (pAt S.box k)) := fun d l l' h1 h2 h3 =>
    ⟨h3, g2.trans h.many, g3.trans h.wide, g4.trans h.gone, I', by rw [g1, List.length_append, h.len, place_in ho]; rfl, fin d l l' h1 h2⟩
  have n1 : ¬ (k : Int) ∈ (preJ S k).gone := by rw [b4]; exact ho
  have n2 : ¬ (O.box.length : Int) ∈ ({ O with box := O.box ++ [pAt S.box k] } : YS).gone := by
    show ¬ _ ∈ O.gone
    rw [h.gone]; exact List.not_mem_nil
  unfold judgeR at eS eO
  rw [if_neg n1] at eS
  rw [if_neg n2] at eO
  by_cases hn : R.1 = []
  · have hn' : R'.1 = [] := e1 ▸ hn
    rw [if_neg (by simpa using hn)] at eS
    rw [if_neg (by simpa using hn')] at eO
    by_cases hv : R.2.1 = nought S.wide.toNat
    · rw [if_pos (by rw [b3]; exact hv)] at eS
      rw [if_pos (by show R'.2.1 = nought O.wide.toNat; rw [h.wide, ← e2]; exact hv)] at eO
      exact mk .known R.2.2 R'.2.2 (by rw [eS]) (by rw [eO]) (by rw [eS, eO]; exact h.rows)
    · rw [if_neg (by rw [b3]; exact hv)] at eS
      rw [if_neg (by show ¬ R'.2.1 = nought O.wide.toNat; rw [h.wide, ← e2]; exact hv)] at eO
      exact mk .against R.2.2 R'.2.2 (by rw [eS]) (by rw [eO]) (by rw [eS, eO]; exact h.rows)
  · have hn' : R'.1 ≠ [] := e1 ▸ hn
    rw [if_pos hn] at eS
    rw [if_pos hn'] at eO
    refine mk .new [] [] (by rw [eS]) (by rw [eO]) ?_
    rw [eS, eO]
    exact rv_with h.rows (show rv (newR R k) = rv (newR R' O.box.length) from er)
def otherJ (S : YS) : Nat → YS
  | 0 => newY S.many S.wide
  | k + 1 => if (k : Int) ∈ S.gone then otherJ S k else gathered (otherJ S k) (pAt S.box k)
theorem sim_other (Y : YB S) : ∀ k : Nat, k ≤ S.box.length → Sim S k (otherJ S k)
  | 0, _ => sim_zero Y
  | k + 1, h => by
    have ih := sim_other Y k (by omega)
    unfold otherJ
    split
    · rename_i hg
      exact sim_out Y ih (by omega) hg
    · rename_i hg
      exact sim_in Y ih (by omega) hg
/-- what both tell alike -/
theorem sim_ask (h : (S.rows.map rv) = O.rows.map rv) (hw : O.wide = S.wide) (Q : List Int) : (askR S Q).1 = (askR O Q).1 ∧ (askR S Q).2.1 = (askR O Q).2.1 := by
  unfold askR
  rw [hw]
  have := rv_reduced (a := (Q, nought S.wide.toNat, [])) (b := (Q, nought S.wide.toNat, [])) h rfl
  exact ⟨(Prod.mk.inj this).1, (Prod.mk.inj this).2⟩
theorem sim_len (h : (S.rows.map rv) = O.rows.map rv) : S.rows.length = O.rows.length := by
  have := congrArg List.length h
  rwa [List.length_map, List.length_map] at this
/-- the numbers that are kept -/
def keptOf (S : YS) (k : Nat) : List Int := ((List.range k).filter fun (j : Nat) => kep (S.words.getD j (.out, [])).1).map fun (j : Nat) => (j : Int)
theorem keptOf_mem {j : Int} : j ∈ keptOf S k ↔ ∃ i : Nat, i < k ∧ j = i ∧ kep (S.words.getD i (.out, [])).1 = true := by
  unfold keptOf
  rw [List.mem_map]
  constructor
  · rintro ⟨i, hi, rfl⟩
    have := List.mem_filter.mp hi
    exact ⟨i, List.mem_range.mp this.1, rfl, this.2⟩
  · rintro ⟨i, h1, rfl, h2⟩
    exact ⟨i, List.mem_filter.mpr ⟨List.mem_range.mpr h1, h2⟩, rfl⟩
theorem keptOf_len : (keptOf S k).length ≤ k := by
  unfold keptOf
  rw [List.length_map]
  exact Nat.le_trans (List.length_filter_le _ _) (Nat.le_of_eq List.length_range)
theorem kept_of (I : YInv S S.box.length) : Kept S (keptOf S S.box.length) := by
  have il := I.len
  refine ⟨fun j hj => ?_, fun j hj => ?_, fun i d l h hd => ?_, Nat.le_trans keptOf_len il⟩
  · obtain ⟨i, h1, rfl, _⟩ := keptOf_mem.mp hj
    omega
  · obtain ⟨i, h1, rfl, h2⟩ := keptOf_mem.mp hj
    have hw : i < S.words.length := by rw [I.wl]; exact h1
    refine ⟨S.words[i].1, S.words[i].2, by rw [Int.toNat_natCast, List.getElem?_eq_getElem hw], ?_⟩
    rw [List.getD_eq_getElem?_getD, List.getElem?_eq_getElem hw] at h2
    exact h2
  · have hi := (List.getElem?_eq_some_iff.mp h).1
    rw [I.wl] at hi
    refine keptOf_mem.mpr ⟨i, hi, rfl, ?_⟩
    rw [List.getD_eq_getElem?_getD, h]
    exact hd
end
end GM
namespace GM
theorem word_facts {S : YS} {k : Nat} {d : Wd} {l : List Int} (I : YInv S S.box.length) (h : S.words[k]? = some (d, l)) (hd : d = .known ∨ d = .against) :
    (Rise l ∧ (∀ x ∈ l, x ∈ keptOf S k) ∧ l.length ≤ 100) ∧ (∀ x ∈ l, 0 ≤ x ∧ x < S.box.length) ∧ (0 ≤ (24 : Int) ∧ (24 : Int) ≤ 100) ∧ lodd (l.map fun i => (pAt S.box i).1) ((24 : Int)).toNat = (pAt S.box k).1 := by
  obtain ⟨g1, g2, g3⟩ := I.wnum k d l h hd
  have hk := (List.getElem?_eq_some_iff.mp h).1
  rw [I.wl] at hk
  have il := I.len
  have im := I.m
  have ll := setOk_len g1
  refine ⟨⟨g1.1, fun x hx => ?_, by omega⟩, fun x hx => ?_, by decide, lodd_is (setOk_up (I.ok _ (pAt_mem ⟨by omega, by omega⟩)).set (by show S.many ≤ ((24 : Nat) : Int); omega)) fun x _ => ?_⟩
  · obtain ⟨b1, b2⟩ := g1.2 x hx
    obtain ⟨l', hl'⟩ := g2 x hx
    refine keptOf_mem.mpr ⟨x.toNat, by omega, by omega, ?_⟩
    rw [List.getD_eq_getElem?_getD, hl']
    rfl
  · have := g1.2 x hx
    omega
  · rw [par_map]
    exact g3 x
end GM

set_option Elab.async false
set_option linter.all false
set_option maxRecDepth 100000
set_option maxHeartbeats 4000000
/-! GT4: a list comprehension from which an error is let out -/
namespace GL
open PySem PySem.Spec PyProof.Rows
/-- behind a comprehension's block: its end, or an error -/
def cPost (M : Model) (A : Around) (E : Value → Shared → Prop) (use : Option (Value → Sem Unit)) (Q : Value → Shared → Prop) (acc : Value) (cenv : Env) : Result → Shared → Prop := fun r s' => match r with
  | .ok f => compPost M A E use Q acc cenv.locals (.ok f) s'
  | .error x => ∃ m, s'.heap.Ns cenv.locals m ∧ ∀ h', Heap.SameBut cenv.locals s'.heap h' → wpAny M A (passOn "comprehension.variables-let-go" x cenv : Sem Value) (fun _ _ => False) E { s' with heap := h' }
section
variable {M : Model} {A : Around} {E : Value → Shared → Prop} {s : Shared} {env : Env}
theorem comp_err {e : Expr} {scope : Scope} {pos : Pos} {newAcc first : Sem Value} {g : Comprehension} {gs : List Comprehension} {cl : List (Str × Addr)} {use : Option (Value → Sem Unit)} {Q : Value → Shared → Prop}
    (hcl : clausesOf e = g :: gs) (hs : ∀ x, foldedSetIterable g.iter env x = pure x) (hclos : closureFor scope env = pure cl)
    (hkind : scope.kind = .function) (hnames : ∀ x ∈ scope.names, x.2 = .local → scope.names.lookup x.1 = some .local)
    (h : wpAny M A first (fun x s₁ => wpAny M A (pyIter x) (fun it s₂ => wpAny M A newAcc (fun acc s₃ =>
      wpAny M A (newFunctionEnv scope env.globals cl [] env.qual none .none (some env)) (fun cenv s₄ =>
        codeAny M A (.compStart e 0 it acc { cenv with scope := relabel scope env }) (cPost M A E use Q acc { cenv with scope := relabel scope env }) s₄) E s₃) E s₂) E s₁) E s) :
    wpAny M A (comprehension e scope env pos newAcc false first use) Q E s := by
  unfold comprehension
  rw [hclos, hcl]
  refine wpAny_bind (wpAny_mono h (fun x s₁ h₁ => wpAny_bind (wpAny_standAt (wpAny_bind (wpAny_of_eq (hs x) (wpAny_bind (wpAny_holding (wpAny_mono h₁ (fun it s₂ h₂ =>
    wpAny_standIf (wpAny_bind (wpAny_mono h₂ (fun acc s₃ h₃ => wpAny_bind (wpAny_pure (wpAny_bind (wpAny_mono h₃ (fun cenv s₄ h₄ => ?_) fun _ _ h' => h')))) fun _ _ h' => h')))
      fun _ _ h' => h'))))))) fun _ _ h' => h')
  dsimp only
  have hv : ∀ x ∈ (scope.names.filter fun x => (x.2 == .local || x.2 == .cell) && x.1 != (".0" : Str)).reverse, x.2 = .local →
      Env.kindOf { cenv with scope := relabel scope env } x.1 = some .local := fun x hx hl => lookup_relabel_local (hnames x (List.mem_filter.mp (List.mem_reverse.mp hx)).1 hl)
  have hv' : ∀ x ∈ (scope.names.filter fun x => (x.2 == .local || x.2 == .cell) && x.1 != (".0" : Str)).reverse.drop 1 ++ (scope.names.filter fun x => (x.2 == .local || x.2 == .cell) && x.1 != (".0" : Str)).reverse.take 1,
      x.2 = .local → Env.kindOf { cenv with scope := relabel scope env } x.1 = some .local := fun x hx hl => by
    rcases List.mem_append.mp hx with h1 | h1
    · exact hv x (List.mem_of_mem_drop h1) hl
    · exact hv x (List.mem_of_mem_take h1) hl
  refine wpAny_holding (wpAny_bind (wpAny_attempt (wpAny_holding (wpAny_run (codeAny_mono h₄ fun r s' hr => ?_)))))
  cases r with
  | ok f =>
    cases use with
    | none =>
      obtain ⟨m, hn, hr⟩ := hr
      exact wpAny_bind (wpAny_holding (wpAny_comp_letGo (cenv := { cenv with scope := relabel scope env }) hkind _ s' m hv hn fun h' m' _ hs' => wpAny_pure (hr h' hs')))
    | some u =>
      refine wpAny_bind (wpAny_rule (wpAny_bind (wpAny_holding (wpAny_mono hr (fun _ s'' hr' => ?_) fun _ _ h' => h'))))
      obtain ⟨m, hn, hr'⟩ := hr'
      exact wpAny_bind (wpAny_comp_letGo (cenv := { cenv with scope := relabel scope env }) hkind _ s'' m hv' hn fun h' m' _ hs' => wpAny_pure (hr' h' hs'))
  | error x =>
    obtain ⟨m, hn, hr⟩ := hr
    exact wpAny_bind (wpAny_holding (wpAny_comp_letGo (cenv := { cenv with scope := relabel scope env }) hkind _ s' m hv hn fun h' m' _ hs' => wpAny_mono (hr h' hs') (fun _ _ f => f.elim) fun _ _ y => y))
end
end GL
namespace GL
open PySem PySem.Spec PyProof.Rows L2
theorem funFrames_but {C : Addr} {h h' base base' : Heap} (hb : ∀ b, base.get? b = none → base'.get? b = none) (k : ∀ b o, b ≠ C → h.get? b = some o → h'.get? b = some o) : ∀ {l : List Env}, (∀ env ∈ l, env.frame ≠ some C) → h.FunFrames base l → h'.FunFrames base' l
  | [], _, _ => trivial
  | env :: l, hne, ⟨hk, ⟨L, o, hf, hn, ho, hd⟩, hr⟩ =>
    ⟨hk, ⟨L, o, hf, hb L hn, k L o (fun e => hne env List.mem_cons_self (by rw [hf, e])) ho, hd⟩, funFrames_but hb k (fun env he => hne env (List.mem_cons_of_mem _ he)) hr⟩
theorem noteFrame_eq {u : Value} {e1 e2 : Env} (h : e1.frame = e2.frame) : noteFrame u e1 = noteFrame u e2 := by
  unfold noteFrame PySem.frameOf
  rw [h]
/-- an error that a call within a block lets out, let out of the block -/
theorem err_out {X : Cx} {W : WX} {pins : List (Addr × Obj)} {σ : L2.St} {H : Hp} {s s' : Shared} {E : XK} {ce : Env} {C : Addr} {m : Str → Option Value} {u : Value} {E1 : Value → Shared → Prop}
    (hs : X.stack = X.env :: X.outer) (hf : X.env.frame = some X.env.locals) (tk : L2N.Takes X W) (I : Inv X pins σ H s) (fC : FpOk X pins H C) (hn : s.heap.Ns C m) (cf : ce.frame = X.env.frame) (hW : ∀ cls d H', E cls d H' → W cls d σ H')
    (c : L2N.CX X.prog X.w X.stack H s E u s') :
    wpAny (model X.prog X.w) X.A (noteFrame u ce) (fun _ s1 => ∃ m, s1.heap.Ns C m ∧ ∀ h', Heap.SameBut C s1.heap h' → wpAny (model X.prog X.w) X.A (passOn "comprehension.variables-let-go" u ce : Sem Value) (fun _ _ => False) X.xe { s1 with heap := h' }) E1 s' := by
  obtain ⟨a, B, H', cls, d, rfl, fl, hok, ub, na, os, ag, hE⟩ := c
  obtain ⟨f0, f1, f2, f3, f4, f5⟩ := fC
  have hfr : X.A.frames = some (X.env :: X.outer) := by rw [I.ok.frames, hs]
  have nfr : C ∉ frs X.stack := fun hm => (List.mem_cons.mp (I.stkSub C hm)).elim f1 f2
  obtain ⟨oC, esC, epC, hoC, rC⟩ := id hn
  have bC : B.get? C = some oC := ub.keep C oC hoC f0 nfr
  have HC : H' C = none := ub.free C oC hoC f0
  rw [noteFrame_eq cf]
  rw [hs] at fl
  refine PXN.looks_onZ L2N.Zn.steady hfr hf fl fun h1 hh up1 => ?_
  obtain ⟨k1, k2, k3, k4⟩ := hh
  refine ⟨m, ⟨oC, esC, epC, k1 C oC bC, rC⟩, fun h' sb => ?_⟩
  -- the ground less the block's own record
  obtain ⟨B2, b1, b2⟩ := restrict B fun b => decide (b ≠ C)
  have B2C : B2.get? C = none := b2 C (by simp)
  have B2o : ∀ b, b ≠ C → B2.get? b = B.get? b := fun b hb => b1 b (by simpa using hb)
  have B2n : ∀ b, B.get? b = none → B2.get? b = none := fun b hb => by
    by_cases e : b = C
    · rw [e]; exact B2C
    · rw [B2o b e]; exact hb
  have keep' : ∀ b o, b ≠ C → h1.get? b = some o → h'.get? b = some o := fun b o hb e => (sb.2 b hb).trans e
  have st2 : B2.StaysIn h' := fun b o e => by
    have hb : b ≠ C := fun z => by rw [z, B2C] at e; cases e
    rw [B2o b hb] at e
    exact keep' b o hb (k1 b o e)
  have hok2 : HOk X.prog X.w H' B2 := fun p o e => (hok p o e).stay (fun b v hb q => by
    have hb2 : b ≠ C := fun z => by
      rcases hb with hb | hb
      · rw [← hb, z, HC] at e; cases e
      · rw [z, HC] at hb; cases hb
    rw [B2o b hb2]; exact q) (fun _ q => q) fun _ _ q => q
  have frC : ∀ env ∈ X.env :: X.outer, env.frame ≠ some C := fun env he z => nfr (by
    rw [hs]
    exact List.mem_filterMap.mpr ⟨env, he, z⟩)
  have ff2 : h'.FunFrames B2 (X.env :: X.outer) := funFrames_but B2n keep' frC k3
  have aC : a ≠ C := fun z => by rw [z, bC] at k2; cases k2
  have tr2 : HandSPX.TracedZ h' B2 a (L2N.Zn cls d) (rawInt X.env.locals) := by
    obtain ⟨oe, vs, T, oT, ts, he, hz, hd, hv1, hnT, hTe, hT, hdT, h3⟩ := k4
    have TC : T ≠ C := fun z => by rw [z, bC] at hnT; cases hnT
    exact ⟨oe, vs, T, oT, ts, keep' a oe aC he, hz, hd, hv1, B2n T hnT, hTe, keep' T oT TC hT, hdT, h3⟩
  unfold PySem.passOn
  obtain ⟨oe, vs, T, oT, ts, he, hz, hd, hv1, hnT, hTe, hT, hdT, h3⟩ := id tr2
  refine wpAny_bind (wpAny_field he hd hv1 ?_)
  rw [if_neg (show ¬ ((Value.ref T == Value.none) = true) from by simp), cf, hf]
  refine wpAny_bind (HandSPX.setFlight_anyZ (base := B2) (l := X.env :: X.outer) (e := a) (Z := L2N.Zn cls d) (fr := some X.env.locals) st2 ff2 tr2 fun h2 q1 q2 q3 up2 => wpAny_throw (tk _ _ ?_))
  obtain ⟨G, g1, g2⟩ := restrict h2 fun b => (B2.get? b).isSome || decide (b ∈ frs X.stack)
  have gB : ∀ b o, B2.get? b = some o → G.get? b = some o := fun b o e => by
    rw [g1 b (by simp [e])]
    exact q1 b o e
  have gF : ∀ b, b ∈ frs X.stack → G.get? b = h2.get? b := fun b hb => g1 b (by simp [hb])
  have og : ∀ b o, G.get? b = some o → h2.get? b = some o ∧ ((B2.get? b).isSome = true ∨ b ∈ frs X.stack) := fun b o e => by
    cases q : ((B2.get? b).isSome || decide (b ∈ frs X.stack)) with
    | false => rw [g2 b q] at e; cases e
    | true =>
      rw [g1 b q] at e
      exact ⟨e, by simpa [Bool.or_eq_true] using q⟩
  have slot : ∀ b o, s.heap.get? b = some o → b ∈ frs X.stack → ∃ sl, G.get? b = some { o with slots := sl } := fun b o e hb => by
    obtain ⟨sl, e1⟩ := ub.slot b o e hb
    have hb2 : b ∈ (X.env :: X.outer).filterMap (·.frame) := by rw [← hs]; exact hb
    obtain ⟨_, o1, e1', nf⟩ := fl.2.2.1.mem hb2
    rw [e1] at e1'
    cases e1'
    obtain ⟨sl2, e2⟩ := up1 b _ e1 nf
    have e3 := keep' b _ (fun z => nfr (z ▸ hb)) e2
    obtain ⟨sl3, e4⟩ := up2 b _ e3 nf
    exact ⟨sl3, by rw [gF b hb]; exact e4⟩
  have nC : ∀ b : Addr, b ∉ [C] → b ≠ C := fun b hb z => hb (by rw [z]; exact List.mem_singleton.mpr rfl)
  refine ⟨a, B2, { s with heap := G, gens := s'.gens, drawn := s'.drawn, toks := s'.toks }, pins, σ, H', cls, d, rfl, ?_, fun b o e hb => ?_, Heap.UpToSlots.of_keeps fun b o e => (og b o e).1, .inr (.inr (by rw [hs]; exact ⟨q1, B2n a k2, q2, q3⟩)), na, os, ag, hW _ _ _ hE⟩
  · refine I.call (ch := [C]) ⟨fun b o e n hb hc => gB b o (by rw [B2o b (nC b hc)]; exact ub.keep b o e n hb), fun b o e n hb _ => slot b o e hb, fun b o e n _ => ub.free b o e n, fun b o e hc => ?_, ub.tups, ub.frzs, ub.tbls⟩ (hok2.kept gB) ag fun b hb => ?_
    · by_cases hb : b ∈ frs X.stack
      · obtain ⟨sl, q⟩ := slot b o e hb
        exact ⟨_, q⟩
      · obtain ⟨o', q⟩ := ub.there b o e hb
        exact ⟨o', gB b o' (by rw [B2o b (nC b hc)]; exact q)⟩
    · rw [List.mem_singleton.mp hb]
      exact ⟨f3, f1, f4, f5⟩
  · obtain ⟨e', h⟩ := og b o e
    rcases h with h | h
    · obtain ⟨o', q⟩ := Option.isSome_iff_exists.mp h
      have z := q1 b o' q
      rw [e'] at z; cases z
      exact q
    · exact absurd h hb
end GL
namespace GL
open PySem PySem.Spec PyProof.Rows L2
section
variable {X : Cx}
/-- [elt for tg in l], l a list; an element may raise -/
theorem lc_coreE {pins : List (Addr × Obj)} {s : Shared} {σ : L2.St} {H : Hp} {Q : VK} {pos' : Pos} {use : Option (Value → Sem Unit)} {Qf : Value → Shared → Prop} {elt tg iter : Expr} {scope : Scope} {own : List (Str × Nat)} {pos : Pos} {wi : TI} {tl : TE} {g : TG} {te : XK → TE} {W' : WX} (hs0 : X.stack = X.env :: X.outer) (hf0 : X.env.frame = some X.env.locals) (tk : L2N.Takes X W') (hc : X.calm = true) (hN : X.N.Nodup) (hi : PE X iter tl) (hw : ∀ σ H R, wi σ H R → iList X.K tl σ H R) (ok : BlkOk X.N X.env.scope scope own)
    (hg : ∀ (s : Shared) (H : Hp) (C : Addr) (cl : List (Str × Addr)) (fp : List Addr), ∀ xe, PG { X.blk s H scope (compEnvC scope cl C X.env) fp with xe := xe } tg g)
    (he : ∀ (s : Shared) (H : Hp) (C : Addr) (cl : List (Str × Addr)) (fp : List Addr), ∀ xe E, (∀ σ, PassesAt (L2N.CX X.prog X.w) { X.blk s H scope (compEnvC scope cl C X.env) fp with xe := xe } σ E) → PE { X.blk s H scope (compEnvC scope cl C X.env) fp with xe := xe } elt (te E)) (hs : ∀ x, foldedSetIterable iter X.env x = pure x) (I : Inv X pins σ H s) (h : tLc wi g tYes (te fun cls d H' => W' cls d σ H') (own.map (·.2)) σ H Q)
    (hRR : ∀ D C s' m H', Inv X pins σ H' s' → Q (.ref D) H' → s'.heap.Ns C m → FpOk X pins H' C → compPost (model X.prog X.w) X.A X.xe use Qf (.ref D) C (.ok .next) s') :
    wpAny (model X.prog X.w) X.A (comprehension (.ListComp elt [⟨tg, iter, [], 0⟩] scope pos) scope X.env pos' (newList []) false (eval iter X.env) use) Qf X.xe s := by
  have hfree : ∀ y ∈ scope.names, y.2 = .free → ∃ c, X.env.cells.lookup y.1 = some c := fun y hy e => by
    rcases ok.free y hy e with k | k
    · exact I.ok.has _ (.inl k)
    · exact I.ok.has _ (.inr k)
  refine comp_err rfl hs (closure_ok hfree) ok.kind (fun y hy e => by rw [ok.uniq y hy, e])
    (thn (hi.run pins s σ H _ I (hw _ _ _ h)) fun xv s1 hx => ?_)
  obtain ⟨xl, H1, I1, r1, a, e, ⟨xs, hq⟩, q⟩ := hx
  subst e
  cases r1
  obtain ⟨its, rv, pl, hz⟩ := I1.list hq
  refine wpAny_pyIter_list pl.isList ?_
  generalize hit : s1.heap.objs.size = it
  generalize hs2 : ({ s1 with heap := s1.heap.push { cls := .type "list_iterator", data := .fields #[.ref a, .int 0 0] } } : Shared) = s2
  have st2 : s2.heap.IsListIter it a 0 := by
    rw [← hs2, ← hit]
    exact ⟨_, Heap.get?_push_size _ rfl, rfl, rfl⟩
  have I2 : Inv X pins σ H1 s2 := by
    rw [← hs2]
    exact I1.kept (t' := s1.toks) fun b o e => Heap.get?_push_of_some _ e
  have f2 : FpOk X pins H1 it := by
    rw [← hit]
    exact I1.fpOk (Nat.le_refl _) (I1.hok.fresh (Nat.le_refl _))
  refine wpAny_newObj_type (newEnv_comp ?_) (by show 0 ≤ sizeLine; decide)
  generalize hD : s2.heap.objs.size = D
  have hDn : H1 D = none := I2.hok.fresh (Nat.le_of_eq hD)
  obtain ⟨W, ⟨m0, w0⟩, turn⟩ := q D hDn
  generalize hs3 : ({ s2 with heap := s2.heap.push { cls := .type "list", data := .seq ([] : List Value).toArray } } : Shared) = s3
  have I3 : Inv X pins σ (upd H1 D (.lst [])) s3 := by
    rw [← hs3]
    refine I2.laid (t' := s2.toks) (fun b o e => Heap.get?_push_of_some _ e) (Nat.le_of_eq hD) ⟨Nat.zero_le _, [], 0, .nil, ?_⟩
    rw [← hD]
    exact Heap.get?_push_size _ rfl
  have h3 : s3.heap = s2.heap.push { cls := .type "list", data := .seq ([] : List Value).toArray } := by rw [← hs3]
  have szit : it < s2.heap.objs.size := by
    obtain ⟨o, e, _⟩ := st2
    exact Heap.lt_size e
  have f3 : ∀ b ∈ [it], FpOk X pins (upd H1 D (.lst [])) b ∧ b < s3.heap.objs.size := fun b hb => by
    rw [List.mem_singleton.mp hb]
    refine ⟨⟨?_, f2.2⟩, by rw [h3, Heap.size_push]; exact Nat.lt_succ_of_lt szit⟩
    rw [upd_ne (by rw [← hD]; exact Nat.ne_of_lt szit)]
    exact f2.1
  have st3 : s3.heap.IsListIter it a 0 := st2.at fun o e => by rw [h3]; exact Heap.get?_push_of_some _ e
  have I4 := block_start I3 ok hN f3
  have pg := hg s3 (upd H1 D (.lst [])) s3.heap.objs.size (cellsFrom (s3.heap.objs.size + 1) scope.names (cloFrom X.env.cells scope.names [])) [it]
  have pe := he s3 (upd H1 D (.lst [])) s3.heap.objs.size (cellsFrom (s3.heap.objs.size + 1) scope.names (cloFrom X.env.cells scope.names [])) [it]
  show codeAny _ _ (.compStart (.ListComp elt [⟨tg, iter, [], 0⟩] scope pos) 0 (.ref it) (.ref D) (compEnvC scope (cellsFrom (s3.heap.objs.size + 1) scope.names (cloFrom X.env.cells scope.names [])) s3.heap.objs.size X.env)) (cPost (model X.prog X.w) X.A X.xe use Qf (.ref D) (compEnvC scope (cellsFrom (s3.heap.objs.size + 1) scope.names (cloFrom X.env.cells scope.names [])) s3.heap.objs.size X.env)) { s3 with heap := pushCells (s3.heap.push { cls := .type "dict", data := .dict #[] }) scope.names }
  generalize hce : compEnvC scope (cellsFrom (s3.heap.objs.size + 1) scope.names (cloFrom X.env.cells scope.names [])) s3.heap.objs.size X.env = ce at I4 pg pe ⊢
  have cL : ce.locals = s3.heap.objs.size := by subst hce; rfl
  have cF : ce.frame = X.env.frame := by subst hce; rfl
  have nit : (upd H1 D (.lst [])) it = none := (f3 it (List.mem_singleton.mpr rfl)).1.1
  generalize hH3 : upd H1 D (.lst []) = H3 at I3 I4 pg pe w0 nit f3
  generalize hs4 : ({ s3 with heap := pushCells (s3.heap.push { cls := .type "dict", data := .dict #[] }) scope.names } : Shared) = s4 at I4 ⊢
  have st4 : s4.heap.IsListIter it a 0 := st3.at fun o e => by rw [← hs4]; exact pushCells_keeps _ _ _ _ (Heap.get?_push_of_some _ e)
  -- back in the def's context
  have back : ∀ {H5 : Hp} {s5 : Shared} {σ5 : L2.St} {pns : List (Addr × Obj)}, Inv (X.blk s3 H3 scope ce [it]) pns σ5 H5 s5 → Inv X pins σ H5 s5 := fun {H5 s5 σ5 pns} I5 =>
    I3.call' (ch := [it]) I5.os I5.base I5.hok I5.bare fun b hb => ⟨(f3 b hb).1.2.2.2.1, (f3 b hb).1.2.1, (f3 b hb).1.2.2.2.2.1, (f3 b hb).1.2.2.2.2.2⟩
  have stat : ∀ {σ' : L2.St} {H' : Hp} {s' : Shared}, Inv (X.blk s3 H3 scope ce [it]) [] σ' H' s' → H' it = none → FpOk (X.blk s3 H3 scope ce [it]) [] H' it := fun {σ' H' s'} I' hn =>
    have hb : it ∈ [it] := List.mem_singleton.mpr rfl
    ⟨hn, (I'.ok.exf it hb).1, I'.ok.exfs it hb, .inl hb, fun x c e => (I'.ok.exf it hb).2 x c e, fun p hp => absurd (show p ∈ ([] : List (Addr × Obj)) ++ [] from hp) (by simp)⟩
  have nCof : ∀ {H5 : Hp} {s5 : Shared} {σ5 : L2.St} {pns : List (Addr × Obj)}, Inv (X.blk s3 H3 scope ce [it]) pns σ5 H5 s5 → H5 ce.locals = none := fun I5 => I5.free
  have fCof : ∀ {H5 : Hp}, H5 ce.locals = none → FpOk X pins H5 ce.locals := fun {H5} h => by
    rw [cL] at h ⊢
    exact I3.fpOk (Nat.le_refl _) h
  -- what an element's call lets out
  have pas : ∀ σ5, PassesAt (L2N.CX X.prog X.w) { X.blk s3 H3 scope ce [it] with xe := notedBy (model X.prog X.w) X.A ce fun e s' => cPost (model X.prog X.w) X.A X.xe use Qf (.ref D) ce (.error e) s' } σ5 (fun cls d H' => W' cls d σ H') := fun σ5 pns H5 s5 e s' I5 c => by
    have I5 : Inv (X.blk s3 H3 scope ce [it]) pns σ5 H5 s5 := Inv.unwish (X := X.blk s3 H3 scope ce [it]) I5
    obtain ⟨m, hn, _⟩ := I5.loc
    exact err_out hs0 hf0 tk (back I5) (fCof (nCof I5)) hn cF (fun _ _ _ h => h) c
  have pg := pg (notedBy (model X.prog X.w) X.A ce fun e s' => cPost (model X.prog X.w) X.A X.xe use Qf (.ref D) ce (.error e) s')
  have pe := pe (notedBy (model X.prog X.w) X.A ce fun e s' => cPost (model X.prog X.w) X.A X.xe use Qf (.ref D) ce (.error e) s') _ pas
  have loop : codeAny (model X.prog X.w) X.A (.compLoop (.ListComp elt [⟨tg, iter, [], 0⟩] scope pos) 0 (.ref it) (.ref D) ce) (cPost (model X.prog X.w) X.A X.xe use Qf (.ref D) ce) s4 := by
    refine compLoop_any (fun n s' => ∃ i H', Inv (X.blk s3 H3 scope ce [it]) [] (wipe σ (own.map (·.2))) H' s' ∧ s'.heap.IsListIter it a i ∧ H' it = none ∧ W i n H') ?_ m0 ⟨0, H3, I4, st4, nit, w0⟩
    rintro n s5 ⟨i, H5, I5, st5, n5, w5⟩
    obtain ⟨f0, f1, f2', f3', f4, f5⟩ := stat I5 n5
    rcases turn i n H5 w5 with ⟨⟨ys, hys, hyl⟩, qq⟩ | ⟨⟨ys, y, hys, hyi⟩, Nx, hNx, step⟩
    · obtain ⟨its5, rv5, p5, hz5⟩ := I5.list hys
      have hl := rv5.length
      refine wpAny_pyNext_list_end (I5.ok.hd hc) st5 p5.isList (by simp; omega) fun h' eb => ?_
      have I6 : Inv (X.blk s3 H3 scope ce [it]) [] (wipe σ (own.map (·.2))) H5 { s5 with heap := h' } := I5.turned (t' := s5.toks) (fun b o hb e => eb b o hb e) f0 f1 f3' f4 f5
      have I7 := back I6
      obtain ⟨m, hn, _⟩ := I6.loc
      exact hRR D ce.locals _ m H5 I7 qq hn (fCof (nCof I6))
    · obtain ⟨its5, rv5, p5, hz5⟩ := I5.list hys
      obtain ⟨u, hu, ru⟩ := rv5.get hyi
      refine wpAny_pyNext_list_item st5 p5.isList (x := u) (by simpa using hu) fun h' st' sb => ?_
      have I6 : Inv (X.blk s3 H3 scope ce [it]) [] (wipe σ (own.map (·.2))) H5 { s5 with heap := h' } := I5.turned (t' := s5.toks) (fun b o hb e => (sb.2 b hb).trans e) f0 f1 f3' f4 f5
      obtain ⟨oi, ei, ci, di⟩ := id st'
      refine go_of (s := { s5 with heap := h' }) ei ci di (by decide) ?_
      have I6' := I6.pinned (fp := [it]) (fun b hb => by rw [List.mem_singleton.mp hb]; exact stat I6 n5) (fun b hb => by
        rw [List.mem_singleton.mp hb]
        exact ⟨oi, ei, fun v z => by rw [di] at z; cases z⟩)
      refine wpAny_mono (pg.run _ { s5 with heap := h' } _ H5 y u _ (Inv.wish I6' _) ru (step y H5 ⟨rfl, fun zs hzs => by rw [I5.list_inj hzs hys]; exact hyi⟩)) (fun _ s8 ⟨σ8, H8, I8, hw8, q8⟩ => ?_) fun _ _ z => z
      refine wpAny_tests_nil ?_
      simp only [if_true] at q8 ⊢
      have q8 := q8
      refine wpAny_mono (pe.run _ s8 σ8 H8 _ I8 q8) (fun z s10 ⟨yv, H10, I10, r10, acc, hD10, hz10, nx⟩ => ?_) fun _ _ z => z
      refine app_ok (X := X.blk s3 H3 scope ce [it]) (Inv.unwish (X := X.blk s3 H3 scope ce [it]) I10) hD10 hz10 r10 fun s11 I11 => ?_
      obtain ⟨m', hm, w'⟩ := hNx _ nx
      have pin' : ∀ o, h'.get? it = some o → s11.heap.get? it = some o ∧ (upd H10 D (.lst (acc ++ [yv]))) it = none := fun o e =>
        let z := I11.pin (it, o) (List.mem_append_right _ (List.mem_append_right _ (mem_pinsAt (List.mem_singleton.mpr rfl) e)))
        ⟨z.1, z.2.1⟩
      have hl : (wipe σ (own.map (·.2))).length = σ8.length := by rw [← hw8, wipe_length]
      refine ⟨m', hm, i + 1, _, (I11.unpinned (pins := [])).weak hl (fun j v e => ?_), st'.at fun o e => (pin' o e).1, (pin' oi ei).2, w'⟩
      rw [← hw8] at e
      exact (wipe_some e).1
  exact codeAny_compStart_list loop (wpAny_pyIter_listiter st4 loop)
/-- .. as a value -/
theorem pe_lcE {elt tg iter : Expr} {scope : Scope} {own : List (Str × Nat)} {pos : Pos} {wi : TI} {tl : TE} {g : TG} {te : XK → TE} {W' : WX} (hs0 : X.stack = X.env :: X.outer) (hf0 : X.env.frame = some X.env.locals) (tk : L2N.Takes X W') (hc : X.calm = true) (hN : X.N.Nodup) (hi : PE X iter tl) (hw : ∀ σ H R, wi σ H R → iList X.K tl σ H R) (ok : BlkOk X.N X.env.scope scope own)
    (hg : ∀ (s : Shared) (H : Hp) (C : Addr) (cl : List (Str × Addr)) (fp : List Addr), ∀ xe, PG { X.blk s H scope (compEnvC scope cl C X.env) fp with xe := xe } tg g)
    (he : ∀ (s : Shared) (H : Hp) (C : Addr) (cl : List (Str × Addr)) (fp : List Addr), ∀ xe E, (∀ σ, PassesAt (L2N.CX X.prog X.w) { X.blk s H scope (compEnvC scope cl C X.env) fp with xe := xe } σ E) → PE { X.blk s H scope (compEnvC scope cl C X.env) fp with xe := xe } elt (te E)) (hs : ∀ x, foldedSetIterable iter X.env x = pure x := by intro _; rfl) :
    PE X (.ListComp elt [⟨tg, iter, [], 0⟩] scope pos) (fun σ H Q => tLc wi g tYes (te fun cls d H' => W' cls d σ H') (own.map (·.2)) σ H Q) := by
  refine ⟨fun pins s σ H Q I h => ?_⟩
  rw [eval_ListComp]
  refine lc_coreE hs0 hf0 tk hc hN hi hw ok hg he hs I h fun D C s' m H' I' q hn f => ⟨m, hn, fun h'' sb => ?_⟩
  obtain ⟨f0, f1, f2, f3, f4, f5⟩ := f
  exact ⟨.ref D, H', I'.turned (t' := s'.toks) (fun b o hb e => (sb.2 b hb).trans e) f0 f1 f3 f4 f5, rfl, q⟩
/-- name = [..] on one line, the name a local; an element may raise -/
theorem ps_setLcE {i : Nat} {y : Str} {py : Pos} {elt tg iter : Expr} {scope : Scope} {own : List (Str × Nat)} {pos spos : Pos} {wi : TI} {tl : TE} {g : TG} {te : XK → TE} {W' : WX} (hs0 : X.stack = X.env :: X.outer) (hf0 : X.env.frame = some X.env.locals) (tk : L2N.Takes X W') (hc : X.calm = true) (hN : X.N.Nodup) (hy : X.N[i]? = some y) (hyl : X.env.scope.names.lookup y = some .local)
    (hsw : swapsWith (.ListComp elt [⟨tg, iter, [], 0⟩] scope pos) (some (.Name y py)) spos.line X.env = pure true) (hi : PE X iter tl) (hw : ∀ σ H R, wi σ H R → iList X.K tl σ H R) (ok : BlkOk X.N X.env.scope scope own)
    (hg : ∀ (s : Shared) (H : Hp) (C : Addr) (cl : List (Str × Addr)) (fp : List Addr), ∀ xe, PG { X.blk s H scope (compEnvC scope cl C X.env) fp with xe := xe } tg g)
    (he : ∀ (s : Shared) (H : Hp) (C : Addr) (cl : List (Str × Addr)) (fp : List Addr), ∀ xe E, (∀ σ, PassesAt (L2N.CX X.prog X.w) { X.blk s H scope (compEnvC scope cl C X.env) fp with xe := xe } σ E) → PE { X.blk s H scope (compEnvC scope cl C X.env) fp with xe := xe } elt (te E)) (hs : ∀ x, foldedSetIterable iter X.env x = pure x := by intro _; rfl) :
    PS X (.Assign [.Name y py] (.ListComp elt [⟨tg, iter, [], 0⟩] scope pos) spos) (tAsg (fun σ H Q => tLc wi g tYes (te fun cls d H' => W' cls d σ H') (own.map (·.2)) σ H Q) (gName i)) := by
  refine ⟨fun pins s σ H D I h => ?_⟩
  rw [exec_Assign_Name_used _ _ _ _ hsw]
  refine wpAny_bind (wpAny_standAt (wpAny_bind ?_))
  show wpAny _ X.A (do let _ ← comprehension (.ListComp elt [⟨tg, iter, [], 0⟩] scope pos) scope X.env (firstIterPos [⟨tg, iter, [], 0⟩] pos) (newList []) false (eval iter X.env) (some (assign (.Name y py) X.env))) _ _ s
  have h : tLc wi g tYes (te fun cls d H' => W' cls d σ H') (own.map (·.2)) σ H (fun x H1 => gName i x σ H1 D.nx) := h
  refine wpAny_bind (thn (lc_coreE (Qf := fun _ s' => SP X pins D .next s') hs0 hf0 tk hc hN hi hw ok hg he hs I h fun L C s' m H' I' q hn f => ?_) fun _ s' hq => wpAny_pure (wpAny_pure hq))
  show wpAny _ _ (assign (.Name y py) X.env (.ref L)) _ _ _
  refine wpAny_assign_Name (store_ok2 (v := V.ref L) I' hN hy (.inl hyl) rfl (fun s2 I2 ⟨a, sb, ha⟩ => ?_) (.inr hyl))
  obtain ⟨f0, f1, f2, f3, f4, f5⟩ := f
  have haC : C ≠ a := by
    rcases ha with z | z
    · rw [z]; exact f1
    · exact fun e => f4 y a z e.symm
  refine ⟨m, hn.sameBut sb haC, fun h3 sb3 => ?_⟩
  exact ⟨_, H', I2.turned (t' := s2.toks) (fun b o hb e => (sb3.2 b hb).trans e) f0 f1 f3 f4 f5, q⟩
end
end GL

set_option Elab.async false
set_option linter.all false
set_option maxRecDepth 100000
set_option maxHeartbeats 4000000
/-! GT5: texts -/
namespace GL
open PySem PySem.Spec PyProof.Rows L2
theorem strs_dqsT {B : Hp} : ∀ ws : List Str, Dqs B (ws.map V.str) (ws.map .str)
  | [] => .nil
  | w :: ws => .cons (.str w) (strs_dqsT ws)
section
variable {X : Cx} {B0 H0 : Hp} {δ : List (Option A)} {e e1 e2 : Expr} {a b : Str} {ws : List Str} {pos p1 apos : Pos} {i j : Int}
/-- sep.join(words) -/
theorem p_joinS (ho : Pe X B0 H0 δ e1 (.d (.str a))) (he : Pe X B0 H0 δ e2 (.d (.list (ws.map .str)))) (hz : (ws.map (·.length)).sum + ws.length * a.length ≤ 16777216)
    (hs : starEach [e2] X.env = [(false, eval e2 X.env)] := by rfl) (hbase : attributeBase e1 "join" X.env (eval e1 X.env) = eval e1 X.env := by rfl) (hline : (apos.endLine == pos.line) = true := by rfl) : Pe X B0 H0 δ (.Call (.Attribute e1 "join" apos) [e2] [] pos) (.d (.str (Txt.join a ws))) :=
  pe_to (pe_m1 F.slot_str_join F.type_str_join mt_join ho he hs hbase hline) fun σ H Q ⟨B, E0, S, k⟩ => ⟨B, E0, S, fun x B1 H1 E1 r1 => ⟨⟨a, ra_str r1⟩, B1, E0.tr E1, S.mono E1, fun y B2 H2 E2 r2 => by
    have r2 : Dq B2 y (.list (ws.map .str)) := r2
    cases r2 with
    | @lst p vs _ hp hd =>
      have e := dqs_strs _ hd
      subst e
      exact ⟨a, p, ws, ra_str r1, rfl, .inl (.inl (.inl (E2.s _ _ hp))), hz, k _ B2 H2 (E1.tr E2) (.str _)⟩⟩⟩
/-- text.split(sep) -/
theorem n_splitS (ho : Pe X B0 H0 δ e1 (.d (.str a))) (he : Pe X B0 H0 δ e2 (.d (.str b))) (hb : (b.length == 0) = false) (hz : a.length + 2 ≤ sizeLine)
    (hs : starEach [e2] X.env = [(false, eval e2 X.env)] := by rfl) (hbase : attributeBase e1 "split" X.env (eval e1 X.env) = eval e1 X.env := by rfl) (hline : (apos.endLine == pos.line) = true := by rfl) : Pn X B0 H0 δ (.Call (.Attribute e1 "split" apos) [e2] [] pos) ((Txt.split a b).map .str) :=
  pe_to (pe_m1 F.slot_str_split F.type_str_split mt_split ho he hs hbase hline) fun σ H Q ⟨B, E0, S, k⟩ => ⟨B, E0, S, fun x B1 H1 E1 r1 => ⟨⟨a, ra_str r1⟩, B1, E0.tr E1, S.mono E1, fun y B2 H2 E2 r2 =>
    ⟨a, b, ra_str r1, by rw [ra_str r2], hb, hz, fun p hp => Wn.lst (wn_mono _ _ _ _ _ k (E1.tr E2)) E2.s hp (strs_dqsT _)⟩⟩⟩
/-- text + text -/
theorem p_addS (ha : Pe X B0 H0 δ e1 (.d (.str a))) (hb : Pe X B0 H0 δ e2 (.d (.str b))) (hz : a.length + b.length ≤ sizeLine) : Pe X B0 H0 δ (.BinOp e1 .Add e2 pos) (.d (.str (a ++ b))) :=
  p_bin op_add_str ha hb fun B H x y Q s r1 r2 k => ⟨a, b, ra_str r1, ra_str r2, hz, k _ B H (.rfl' s) (.str _)⟩
/-- text[i] -/
theorem p_ixS {c : Nat} (ha : Pe X B0 H0 δ e1 (.d (.str a))) (hb : Pe X B0 H0 δ e2 (.d (.int i))) (hz : a.length ≤ sizeLine) (hc : atI a.cps.toList i = some c) (hs : PlainIx e2 := by intro _ _; rfl) : Pe X B0 H0 δ (.Subscript e1 e2 pos) (.d (.str ⟨#[c]⟩)) :=
  p_ix ix_str ha hb hs fun B H x y Q s r1 r2 k => ⟨a, i, c, ra_str r1, ra_int r2, hz, hc, k _ B H (.rfl' s) (.str _)⟩
/-- str(int) -/
theorem p_strI (ha : Pa X B0 H0 δ [e] [.d (.int i)]) (hz : i.natAbs.log2 < 1920) (hm : X.mg "str" = none) (hg : Gl X "str" := by rfl) (he : starEach [e] X.env = (false, eval e X.env) :: starEach [] X.env := by rfl) : Pe X B0 H0 δ (.Call (.Name "str" p1) [e] [] pos) (.d (.str (toString i))) :=
  g_callTy we_mono call_str_int ha (fun B H vs Q s rs k => by
    obtain ⟨v, rfl, r⟩ := ras_1 rs
    exact ⟨i, by rw [ra_int r], hz, We.now k s (.str _)⟩) hg hm PyProof.Rows.boot_str (by decide) (by decide) he rfl
/-- int(text) -/
theorem p_intS {n : Int} (ha : Pa X B0 H0 δ [e] [.d (.str a)]) (hn : PySem.intText? a = some n) (hz : a.length ≤ 640) (hm : X.mg "int" = none) (hg : Gl X "int" := by rfl) (he : starEach [e] X.env = (false, eval e X.env) :: starEach [] X.env := by rfl) : Pe X B0 H0 δ (.Call (.Name "int" p1) [e] [] pos) (.d (.int n)) :=
  g_callTy we_mono call_int_str ha (fun B H vs Q s rs k => by
    obtain ⟨v, rfl, r⟩ := ras_1 rs
    exact ⟨a, n, by rw [ra_str r], hn, hz, We.now k s (.int _)⟩) hg hm PyProof.Rows.boot_int (by decide) (by decide) he rfl
end
end GL

set_option Elab.async false
set_option linter.all false
set_option maxRecDepth 100000
set_option maxHeartbeats 4000000
/-! GT6: y = [f(x) for x in l], f may raise -/
namespace GL
open PySem PySem.Spec PyProof.Rows L2
/-- an element: a value, or an error of the class at C -/
def tEl (K : PySem.W.Frag) (B0 H0 : Hp) (δ : List (Option A)) {α : Type} (zs : List α) (emb g : α → PyData) (bad : α → Bool) (i : Nat) (C : Addr) (E : XK) : TE := fun σ H Q => ∃ z, z ∈ zs ∧ ∃ B, Ext B0 H0 B H ∧ SD K H0 B H σ ((δ.set i none).set i (some (.d (emb z)))) ∧
  (bad z = false → ∀ v B' H', Ext B H B' H' → Dq B' v (g z) → Q v H') ∧ (bad z = true → ∀ B' H', Ext B H B' H' → E (.ref C) none H')
theorem yesT {σ : L2.St} {H : Hp} {P R : Hp → Prop} (h : P H) : tYes σ H (fun b H3 => if b = true then P H3 else R H3) := by
  show (if true = true then P H else R H)
  rw [if_pos rfl]
  exact h
theorem lc_impE {K : PySem.W.Frag} {B0 H0 : Hp} {δ : List (Option A)} {α : Type} {zs : List α} {emb g : α → PyData} {bad : α → Bool} {i : Nat} {C : Addr} {W : WX} (hl : zs.length ≤ 1000) (σ : L2.St) (H : Hp) (Q : VK)
    (hok : (∀ z ∈ zs, bad z = false) → tPn K B0 H0 δ (zs.map g) σ H Q) (hst : ∃ B, Ext B0 H0 B H ∧ SD K H0 B H σ δ) (hbad : (∃ z ∈ zs, bad z = true) → ∀ B' H', Ext B0 H0 B' H' → SD K H0 B' H' σ δ → W (.ref C) none σ H') :
    tLc (tPir K B0 H0 δ (zs.map emb)) (gName i) tYes (tEl K B0 H0 δ zs emb g bad i C fun cls d H' => W cls d σ H') [i] σ H Q := by
  by_cases all : ∀ z ∈ zs, bad z = false
  · obtain ⟨B, E0, S, k⟩ := hok all
    refine ⟨B, E0, S, fun J Bs Hs E hw D hD => ?_⟩
    have Bsub : Sub Bs Hs := E.s
    have len : (zs.map emb).length = zs.length := List.length_map _
    have S0 : SD K H0 Bs Hs (wipe σ [i]) (wipeD δ [i]) := sd_wipe (S.mono E) [i]
    refine ⟨fun n m H' => m = zs.length - n ∧ n ≤ zs.length ∧ ∃ B' vs, Ext Bs Hs B' H' ∧ B' D = none ∧ H' D = some (.lst vs) ∧ Dqs B' vs ((zs.take n).map g), ⟨zs.length, rfl, Nat.zero_le _, Bs, [], .own Bsub hD, sub_free Bsub hD, upd_same, .nil⟩, ?_⟩
    rintro n m H' ⟨rfl, hn, B', vs, E1, hb, hl', hd⟩
    have vlen : vs.length ≤ zs.length := by
      rw [dqs_len hd, List.length_map, List.length_take]
      exact Nat.min_le_right _ _
    obtain ⟨w1, w2⟩ := hw n B' H' E1.b E1.s E1.h
    by_cases h : n < zs.length
    · have hz : zs[n]? = some zs[n] := List.getElem?_eq_getElem h
      have hmem : zs[n] ∈ zs := List.getElem_mem h
      obtain ⟨go, yl⟩ := w1 (emb zs[n]) (by rw [List.getElem?_map, hz]; rfl)
      have tk : zs.take (n + 1) = zs.take n ++ [zs[n]] := by rw [List.take_add_one, hz]; rfl
      refine .inr ⟨go, fun H2 => ∃ B' vs, Ext Bs Hs B' H2 ∧ B' D = none ∧ H2 D = some (.lst vs) ∧ Dqs B' vs ((zs.take (n + 1)).map g), fun H2 q => ⟨zs.length - (n + 1), by omega, rfl, h, q⟩, fun v H2 hy => ?_⟩
      obtain ⟨B2, E2, dv⟩ := yl v H2 hy
      have E12 := E1.tr E2
      have S2 : SD K H0 B2 H2 ((wipe σ [i]).set i (some v)) ((wipeD δ [i]).set i (some (.d (emb zs[n])))) := SD.set (S0.mono E12) dv rfl
      show wipe ((wipe σ [i]).set i (some v)) [i] = wipe σ [i] ∧ _
      refine ⟨?_, yesT ⟨zs[n], hmem, B2, (E0.tr E).tr E12, S2, fun _ u B4 H4 E4 du => ?_, fun q => by rw [all _ hmem] at q; cases q⟩⟩
      · show ((σ.set i none).set i (some v)).set i none = σ.set i none
        rw [List.set_set, List.set_set]
      · have hD3 : H2 D = some (.lst vs) := E2.h _ _ hl'
        have hB3 : B2 D = none := by
          rw [E2.n D (by rw [hl']; simp)]
          exact hb
        have hD4 : H4 D = some (.lst vs) := E4.h _ _ hD3
        have hB4 : B4 D = none := by rw [E4.n D (by rw [hD3]; simp)]; exact hB3
        refine ⟨vs, hD4, small1000 (by omega), B4, vs ++ [u], ?_, hB4, upd_same, ?_⟩
        · have e := E12.tr E4
          exact ⟨e.b, sub_upd e.h hD, sub_upd e.s hB4, e.n⟩
        · rw [tk, List.map_append]
          exact dqs_app (dqs_sub (E2.b.tr E4.b) _ _ hd) (.cons du .nil)
    · have e : n = zs.length := by omega
      subst e
      refine .inl ⟨w2 (by rw [len]), ?_⟩
      rw [List.take_length] at hd
      exact k D vs B' H' (E.tr E1) (sub_free E.h hD) hb hl' hd
  · have hex : ∃ z ∈ zs, bad z = true := Classical.byContradiction fun no => all fun z hz => Bool.eq_false_iff.mpr fun h => no ⟨z, hz, h⟩
    have hW := hbad hex
    obtain ⟨B, E0, S⟩ := hst
    refine ⟨B, E0, S, fun J Bs Hs E hw D hD => ?_⟩
    have Bsub : Sub Bs Hs := E.s
    have S0 : SD K H0 Bs Hs (wipe σ [i]) (wipeD δ [i]) := sd_wipe (S.mono E) [i]
    refine ⟨fun n m H' => m = zs.length - n ∧ n ≤ zs.length ∧ (∀ z ∈ zs.take n, bad z = false) ∧ ∃ B' vs, Ext Bs Hs B' H' ∧ B' D = none ∧ H' D = some (.lst vs) ∧ vs.length = n, ⟨zs.length, rfl, Nat.zero_le _, by simp, Bs, [], .own Bsub hD, sub_free Bsub hD, upd_same, rfl⟩, ?_⟩
    rintro n m H' ⟨rfl, hn, hg, B', vs, E1, hb, hl', hd⟩
    obtain ⟨w1, w2⟩ := hw n B' H' E1.b E1.s E1.h
    have h : n < zs.length := Classical.byContradiction fun h => by
      have e : n = zs.length := by omega
      rw [e, List.take_length] at hg
      exact all hg
    have hz : zs[n]? = some zs[n] := List.getElem?_eq_getElem h
    have hmem : zs[n] ∈ zs := List.getElem_mem h
    obtain ⟨go, yl⟩ := w1 (emb zs[n]) (by rw [List.getElem?_map, hz]; rfl)
    have tk : zs.take (n + 1) = zs.take n ++ [zs[n]] := by rw [List.take_add_one, hz]; rfl
    refine .inr ⟨go, fun H2 => bad zs[n] = false ∧ ∃ B' vs, Ext Bs Hs B' H2 ∧ B' D = none ∧ H2 D = some (.lst vs) ∧ vs.length = n + 1, fun H2 ⟨q0, q⟩ => ⟨zs.length - (n + 1), by omega, rfl, h, fun z hz2 => by
      rw [tk] at hz2
      rcases List.mem_append.mp hz2 with h1 | h1
      · exact hg z h1
      · rw [List.mem_singleton.mp h1]; exact q0, q⟩, fun v H2 hy => ?_⟩
    obtain ⟨B2, E2, dv⟩ := yl v H2 hy
    have E12 := E1.tr E2
    have S2 : SD K H0 B2 H2 ((wipe σ [i]).set i (some v)) ((wipeD δ [i]).set i (some (.d (emb zs[n])))) := SD.set (S0.mono E12) dv rfl
    show wipe ((wipe σ [i]).set i (some v)) [i] = wipe σ [i] ∧ _
    refine ⟨?_, yesT ⟨zs[n], hmem, B2, (E0.tr E).tr E12, S2, fun q0 u B4 H4 E4 du => ?_, fun q B4 H4 E4 => ?_⟩⟩
    · show ((σ.set i none).set i (some v)).set i none = σ.set i none
      rw [List.set_set, List.set_set]
    · have hD3 : H2 D = some (.lst vs) := E2.h _ _ hl'
      have hB3 : B2 D = none := by
        rw [E2.n D (by rw [hl']; simp)]
        exact hb
      have hD4 : H4 D = some (.lst vs) := E4.h _ _ hD3
      have hB4 : B4 D = none := by rw [E4.n D (by rw [hD3]; simp)]; exact hB3
      have e := E12.tr E4
      refine ⟨vs, hD4, small1000 (by omega), q0, B4, vs ++ [u], ⟨e.b, sub_upd e.h hD, sub_upd e.s hB4, e.n⟩, hB4, upd_same, by rw [List.length_append, hd]; rfl⟩
    · exact hW B4 H4 (((E0.tr E).tr E12).tr E4) (S.mono ((E.tr E12).tr E4))
section
variable {X : Cx} {B0 H0 : Hp} {δ : List (Option A)} {e iter elt : Expr} {es : List Expr} {a : A} {xs : List PyData} {pos p1 p2 : Pos} {nm : Str} {k : Nat} {rel : Hp → Hp → List A → R → Prop} {C : Addr}
/-- f(x) for an element: a value or an error -/
theorem p_callE {α : Type} {zs : List α} {emb g : α → PyData} {bad : α → Bool} {i : Nat} {as : α → List A} {E : XK} (F : KnX X.prog X.w X.K X.mg X.base nm k rel) (hr : Room k X.A) (hp : ∀ σ, PassesAt (L2N.CX X.prog X.w) X σ E)
    (ha : ∀ z, z ∈ zs → Pa X B0 H0 ((δ.set i none).set i (some (.d (emb z)))) (e :: es) (as z)) (h : ∀ z, z ∈ zs → ∀ B H, Ext B0 H0 B H → Sub B H → rel B H (as z) (if bad z = true then .exc C else .ret (.d (g z)))) (hg : Gl X nm := by rfl) (hdb : (nm == ("__debug__" : Str)) = false := by decide)
    (he : starEach (e :: es) X.env = (false, eval e X.env) :: starEach es X.env := by rfl) (hpl : (backTo pos (starEach es X.env)).any (·.1) = false := by rfl) : PE X (.Call (.Name nm p1) (e :: es) [] pos) (tEl X.K B0 H0 δ zs emb g bad i C E) := by
  obtain ⟨f, fd, ps, F, hm, hk, hb⟩ := F.ex
  refine ⟨fun pins s σ H Q I ⟨z, hz, B, E0, S, q1, q2⟩ => ?_⟩
  refine (pe_callS (E := fun _ => E) F hr hg hm hk hb hp (ha z hz) hdb he hpl).run pins s σ H Q I ?_
  refine ⟨B, E0, S, fun vs B1 H1 E1 r1 => ⟨B1, as z, if bad z = true then .exc C else .ret (.d (g z)), E1.s, r1, h z hz B1 H1 (E0.tr E1) E1.s, ?_⟩⟩
  cases hbz : bad z with
  | true =>
    simp only [if_true]
    exact fun B' H' E2 => q2 hbz B' H' (E1.tr E2)
  | false =>
    simp only [Bool.false_eq_true, if_false]
    exact fun v B' H' E2 r2 _ => q1 hbz v B' H' (E1.tr E2) r2
/-- y = [f(x) for x in l], f may raise -/
theorem ws_lcE {E : AE} {rest : List Stmt} {α : Type} {zs : List α} {emb g : α → PyData} {bad : α → Bool} {i j : Nat} {xn y : Str} {py spos : Pos} {scope : Scope} (hs0 : X.stack = X.env :: X.outer) (hf0 : X.env.frame = some X.env.locals) (hc : X.calm = true) (hN : X.N.Nodup)
    (hi : Pe X B0 H0 δ iter (.d (.list (zs.map emb))))
    (he : ∀ (s : Shared) (H : Hp) (C' : Addr) (cl : List (Str × Addr)) (fp : List Addr), ∀ xe E', (∀ σ, PassesAt (L2N.CX X.prog X.w) { X.blk s H scope (compEnvC scope cl C' X.env) fp with xe := xe } σ E') → PE { X.blk s H scope (compEnvC scope cl C' X.env) fp with xe := xe } elt (tEl X.K B0 H0 δ zs emb g bad i C E'))
    (hl : zs.length ≤ 1000) (ok : blkC X.N X.env.scope scope [(xn, i)] = true)
    (hg : ∀ (s : Shared) (H : Hp) (C : Addr) (cl : List (Str × Addr)) (fp : List Addr), ∀ xe, PG { X.blk s H scope (compEnvC scope cl C X.env) fp with xe := xe } (.Name xn p1) (gName i))
    (hy : X.N[j]? = some y) (hyl : X.env.scope.names.lookup y = some .local) (hsw : swapsWith (.ListComp elt [⟨.Name xn p1, iter, [], 0⟩] scope pos) (some (.Name y py)) spos.line X.env = pure true)
    (rz : (∃ z ∈ zs, bad z = true) → Rz X B0 H0 δ C)
    (hr : (∀ z ∈ zs, bad z = false) → Ws X B0 H0 (δ.set j (some (.d (.list (zs.map g))))) rest E)
    (hs : ∀ x, foldedSetIterable iter X.env x = pure x := by intro _; rfl) : Ws X B0 H0 δ (.Assign [.Name y py] (.ListComp elt [⟨.Name xn p1, iter, [], 0⟩] scope pos) spos :: rest) E := by
  obtain ⟨W, tk, hw⟩ : ∃ W : WX, L2N.Takes X W ∧ ((∃ z ∈ zs, bad z = true) → ∀ σ B' H', Ext B0 H0 B' H' → SD X.K H0 B' H' σ δ → W (.ref C) none σ H') := by
    by_cases h : ∃ z ∈ zs, bad z = true
    · obtain ⟨W, tk, hw⟩ := rz h
      exact ⟨W, tk, fun _ => hw⟩
    · exact ⟨_, takesN, fun q => absurd q h⟩
  have key := ps_setLcE (X := X) (own := [(xn, i)]) (pos := pos) (spos := spos) (wi := tPir X.K B0 H0 δ (zs.map emb)) (te := tEl X.K B0 H0 δ zs emb g bad i C) (W' := W) hs0 hf0 tk hc hN hy hyl hsw hi (fun σ H R ⟨B, E0, S, k⟩ => ⟨B, E0, S, fun v B' H' E r => by
    have r : Dq B' v (.list (zs.map emb)) := r
    cases r with
    | @lst p vs _ hp hd =>
      have hp' := E.s _ _ hp
      refine ⟨p, rfl, ⟨vs, .inl (.inl hp')⟩, k _ B' H' E fun k B2 H2 s1 s2 s3 => ?_⟩
      have hl : SqL X.K H2 p vs := .inl (.inl (s3 _ _ hp'))
      refine ⟨fun x hx => ?_, fun hk => ⟨vs, hl, by rw [dqs_len hd]; omega⟩⟩
      obtain ⟨u, hu, du⟩ := dqs_get hd k x hx
      refine ⟨⟨vs, u, hl, hu⟩, fun v H3 hy => ?_⟩
      obtain ⟨rfl, hv⟩ := hy
      have e : v = u := Option.some.inj ((hv vs hl).symm.trans hu)
      subst e
      exact ⟨B2, .rfl' s2, dq_sub s1 _ _ du⟩⟩) (blkOk_by ok) hg he hs
  refine ws_cons (W := fun B H δ' => (∀ z ∈ zs, bad z = false) ∧ B = B0 ∧ H = H0 ∧ δ' = δ.set j (some (.d (.list (zs.map g))))) key (fun B H δ' ⟨h0, h1, h2, h3⟩ => by rw [h1, h2, h3]; exact hr h0) fun D σ H B E0 S z => ?_
  show tLc (tPir X.K B0 H0 δ (zs.map emb)) (gName i) tYes (tEl X.K B0 H0 δ zs emb g bad i C fun cls d H' => W cls d σ H') [i] σ H (fun x H1 => gName j x σ H1 D.nx)
  refine lc_impE (K := X.K) (B0 := B0) (H0 := H0) (δ := δ) (emb := emb) (g := g) (bad := bad) (i := i) (C := C) (W := W) hl σ H (fun x H1 => gName j x σ H1 D.nx) (fun all => ⟨B, E0, S, fun p vs B' H' E1 hp hb hl hd => ?_⟩) ⟨B, E0, S⟩ fun ex B' H' E1 S1 => hw ex σ B' H' E1 S1
  have E2 : Ext B H (upd B' p (.lst vs)) H' := ⟨E1.b.tr (sub_new hb), E1.h, fun x u q => by
    by_cases h : x = p
    · subst h; rw [upd_same] at q; cases q; exact hl
    · rw [upd_ne h] at q; exact E1.s x u q, fun x q => by
    have h : x ≠ p := fun h => q (by rw [h]; exact hp)
    rw [upd_ne h]; exact E1.n x q⟩
  exact z.nx _ _ _ _ _ H' ⟨all, rfl, rfl, rfl⟩ E2.b (E0.tr E2) ((S.mono E2).set (.lst upd_same (dqs_sub (sub_new hb) _ _ hd)) rfl)
end
end GL

set_option Elab.async false
set_option linter.all false
set_option maxRecDepth 100000
set_option maxHeartbeats 4000000
/-! GT7: more of texts: slices, signs, what is walked -/
namespace GL
open PySem PySem.Spec PyProof.Rows L2
section
variable {X : Cx} {B0 H0 : Hp} {δ : List (Option A)} {e e1 e2 tg iter : Expr} {a b : Str} {pos p1 p2 : Pos}
/-- text[l:u] -/
theorem p_sliceS {lo hi : Option Expr} {l u : Option Int} (ha : Pe X B0 H0 δ e (.d (.str a))) (h1 : Po X B0 H0 δ lo l) (h2 : Po X B0 H0 δ hi u) (hz : a.length ≤ sizeLine) : Pe X B0 H0 δ (.Subscript e (.Slice lo hi none p2) pos) (.d (.str (cutS a l u))) :=
  pe_to (pe_slice sl_str ha h1 h2) fun σ H Q ⟨B, E0, S, k⟩ => ⟨B, E0, S, fun v B1 H1 E1 r1 => ⟨B1, E0.tr E1, S.mono E1, fun B2 H2 E2 => ⟨B2, (E0.tr E1).tr E2, S.mono (E1.tr E2), fun B3 H3 E3 =>
    ⟨a, ra_str (r1.mono (E2.tr E3)), hz, k _ B3 H3 ((E1.tr E2).tr E3) (.str _)⟩⟩⟩⟩
/-- sign in text -/
theorem c_inS {c : Nat} {z : Str} (ha : Pe X B0 H0 δ e1 (.d (.str ⟨#[c]⟩))) (hb : Pe X B0 H0 δ e2 (.d (.str z))) : (behindInMarks .In e2 = false → Pc X B0 H0 δ e1 .In e2 (decide (c ∈ z.cps.toList))) ∧ (behindInMarks .NotIn e2 = false → Pc X B0 H0 δ e1 .NotIn e2 (!decide (c ∈ z.cps.toList))) :=
  ⟨fun hm => ⟨_, _, _, op_inS, ha, hb, hm, fun B H u v Q s r1 r2 k => ⟨c, z, ra_str r1, ra_str r2, k⟩⟩, fun hm => ⟨_, _, _, op_notInS, ha, hb, hm, fun B H u v Q s r1 r2 k => ⟨c, z, ra_str r1, ra_str r2, k⟩⟩⟩
def sgn (c : Nat) : PyData := .str ⟨#[c]⟩
theorem wk_str {B : Hp} (x : Str) : Wk (Its x) B (x.cps.toList.map sgn) := fun k B' H' s1 s2 => by
  refine ⟨fun y hy => ?_, fun hk => by rw [List.length_map, Array.length_toList] at hk; exact Nat.le_of_eq hk.symm⟩
  rw [List.getElem?_map, Array.getElem?_toList] at hy
  cases hc : x.cps[k]? with
  | none => rw [hc] at hy; cases hy
  | some c =>
    rw [hc] at hy
    have e : sgn c = y := Option.some.inj hy
    subst e
    obtain ⟨hk, _⟩ := Array.getElem?_eq_some_iff.mp hc
    refine ⟨hk, fun v H2 hy => ?_⟩
    obtain ⟨rfl, c', h1, rfl⟩ := hy
    rw [hc] at h1
    cases h1
    exact ⟨B', .rfl' s2, .str _⟩
theorem i_str (h : Pe X B0 H0 δ iter (.d (.str a))) : Pi X B0 H0 δ tg iter (a.cps.toList.map sgn) :=
  pi_to (pi_str h) fun σ H R ⟨B, E0, S, k⟩ => ⟨B, E0, S, fun v B' H' E r => ⟨a, ra_str r, k _ B' H' E (wk_str a)⟩⟩
end
instance in_str {c : Nat} {z : Str} : InR (.d (.str ⟨#[c]⟩)) (.d (.str z)) (decide (c ∈ z.cps.toList)) := ⟨fun _ _ _ _ _ _ h1 h2 => c_inS h1 h2⟩
instance in_sgn {c : Nat} {z : Str} : InR (.d (sgn c)) (.d (.str z)) (decide (c ∈ z.cps.toList)) := ⟨fun _ _ _ _ _ _ h1 h2 => c_inS h1 h2⟩
instance it_str {a : Str} : IterR (.d (.str a)) (a.cps.toList.map sgn) := ⟨fun _ _ _ _ _ _ h => i_str h⟩
instance ad_str {a b : Str} : AddR (.d (.str a)) (.d (.str b)) (a.length + b.length ≤ sizeLine) (.d (.str (a ++ b))) := ⟨fun s _ _ _ _ _ _ _ h1 h2 => p_addS h1 h2 s⟩
section
variable {X : Cx} {B0 H0 : Hp} {δ : List (Option A)} {e1 e2 : Expr} {a1 : A} {xs : List PyData} {pos : Pos}
/-- list * int -/
theorem n_repL {n : Int} (ha : Pe X B0 H0 δ e1 a1) (hb : Pe X B0 H0 δ e2 (.d (.int n))) [la : Ls a1 xs] (hn : 1 ≤ n ∧ n ≤ 100) (hz : xs.length ≤ 100) : Pn X B0 H0 δ (.BinOp e1 .Mult e2 pos) (List.replicate n.toNat xs).flatten :=
  g_bin wn_mono op_rep ha hb fun B H u v Q s r1 r2 k => by
    obtain ⟨p, vs, rfl, hp, d1⟩ := la.at s r1
    have l := dqs_len d1
    refine ⟨p, n, vs, rfl, ra_int r2, hp, by omega, by omega, ?_, fun r hr => Wn.lst k s hr (dqs_flat d1 _)⟩
    have h1 : vs.length ≤ 100 := by omega
    have h2 : n.toNat ≤ 100 := by omega
    exact Nat.le_trans (Nat.mul_le_mul h1 h2) (by show 100 * 100 ≤ sizeLine; decide)
end
class DispS (as : List A) (ws : outParam (List Str)) : Prop where
  ok : as = (ws.map PyData.str).map .d
instance ds_nil : DispS [] [] := ⟨rfl⟩
instance ds_cons {n ns as} [h : DispS as ns] : DispS (.d (.str n) :: as) (n :: ns) := ⟨by rw [h.ok]; rfl⟩
instance (priority := high) dr_str {n : Str} {as ns} [h : DispS (.d (.str n) :: as) ns] : DispR (.d (.str n) :: as) (ns.map .str) := ⟨h.ok⟩
end GL

set_option Elab.async false
set_option linter.all false
set_option maxRecDepth 100000
set_option maxHeartbeats 4000000
/-! GT8: parcels written and read, plainly -/
namespace GL
open PySem PySem.Spec PyProof.Rows L2 GM
def ish (i : Int) : Str := Str.ofString (toString i)
def figs : Str := "0123456789"
def eqS : Str := "="
/-- a word that writes no place -/
def pbad (w : Str) : Bool := (decide (w = ("" : Str)) || decide (2 < w.length) || (decide (w.cps.toList[0]? = some 48) && decide (1 < w.length))) || w.cps.toList.any fun c => !decide (c ∈ figs.cps.toList)
def pval (w : Str) : Int := (NumText.digitsVal w.cps.toList : Nat)
def oneS : Str := "01"
/-- a word that writes no value of the width -/
def bbad (w : Str) (wide : Int) : Bool := decide ((w.length : Int) ≠ wide) || w.cps.toList.any fun c => !decide (c ∈ oneS.cps.toList)
def bval (w : Str) : List Int := w.cps.toList.map fun (c : Nat) => ((c : Int) - 48 : Int)
/-- what the words of a text write -/
def readW (ws : List Str) (many wide : Int) : Option (List Int × List Int) :=
  if ws.length < 2 then none
  else if ws[ws.length - 2]? ≠ some eqS then none
  else if (ws.take (ws.length - 2)).any pbad then none
  else if isSet ((ws.take (ws.length - 2)).map pval) many = false then none
  else match ws.getLast? with
    | none => none
    | some b => if bbad b wide then none else some ((ws.take (ws.length - 2)).map pval, bval b)
theorem readW_two {ps : List Str} {x b : Str} {many wide : Int} : readW (ps ++ [x, b]) many wide = if x ≠ eqS then none else if ps.any pbad then none else if isSet (ps.map pval) many = false then none else if bbad b wide then none else some (ps.map pval, bval b) := by
  have l : (ps ++ [x, b]).length - 2 = ps.length := by simp
  have l2 : ¬ (ps ++ [x, b]).length < 2 := by simp
  have g : (ps ++ [x, b])[ps.length]? = some x := by simp
  have t : (ps ++ [x, b]).take ps.length = ps := by simp
  have gl : (ps ++ [x, b]).getLast? = some b := by simp
  unfold readW
  rw [l, if_neg l2, g, t, gl]
  by_cases h : x = eqS
  · subst h; simp
  · simp [h]
theorem readW_short {ws : List Str} {many wide : Int} (h : ws.length < 2) : readW ws many wide = none := if_pos h
theorem readW_eq {ps : List Str} {x b : Str} {many wide : Int} (h : x ≠ eqS) : readW (ps ++ [x, b]) many wide = none := by rw [readW_two, if_pos h]
theorem readW_pl {ps : List Str} {x b : Str} {many wide : Int} {p : Str} (hp : p ∈ ps) (h : pbad p = true) : readW (ps ++ [x, b]) many wide = none := by
  have e : ps.any pbad = true := List.any_eq_true.mpr ⟨p, hp, h⟩
  rw [readW_two, e]
  split <;> simp
theorem readW_set {ps : List Str} {x b : Str} {many wide : Int} (h : isSet (ps.map pval) many = false) : readW (ps ++ [x, b]) many wide = none := by
  rw [readW_two, h]
  split
  · rfl
  · split <;> simp
theorem readW_bit {ps : List Str} {x b : Str} {many wide : Int} (h : bbad b wide = true) : readW (ps ++ [x, b]) many wide = none := by
  rw [readW_two, h]
  split
  · rfl
  · split
    · rfl
    · split <;> simp
theorem readW_ok {ps : List Str} {b : Str} {many wide : Int} (h1 : ps.any pbad = false) (h2 : isSet (ps.map pval) many = true) (h3 : bbad b wide = false) : readW (ps ++ [eqS, b]) many wide = some (ps.map pval, bval b) := by
  rw [readW_two, h1, h2, h3]
  simp
theorem ish_small : ∀ n : Fin 25, pbad (ish n.val) = false ∧ pval (ish n.val) = n.val ∧ ish n.val ≠ eqS ∧ 32 ∉ (ish n.val).cps.toList ∧ (ish n.val).length ≤ 2 := by decide +kernel
theorem ish_lt {n : Int} (h0 : 0 ≤ n) (h : n < 25) : pbad (ish n) = false ∧ pval (ish n) = n ∧ ish n ≠ eqS ∧ 32 ∉ (ish n).cps.toList ∧ (ish n).length ≤ 2 := by
  have := ish_small ⟨n.toNat, by omega⟩
  have e : ((n.toNat : Nat) : Int) = n := Int.toNat_of_nonneg h0
  simp only [e] at this
  exact this
theorem joinL_nil : ∀ ps : List (List Nat), TL.joinL [] ps = ps.flatten
  | [] => rfl
  | [p] => by simp [TL.joinL]
  | p :: q :: r => by
    show p ++ ([] ++ TL.joinL [] (q :: r)) = _
    rw [joinL_nil (q :: r)]; rfl
/-- the word of a value -/
def bword (v : List Int) : Str := Txt.join ("" : Str) (v.map ish)
theorem bword_cps {v : List Int} (h : ∀ b ∈ v, b = 0 ∨ b = 1) : (bword v).cps.toList = v.map fun b => 48 + b.toNat := by
  show TL.tl (bword v) = _
  unfold bword
  rw [TL.join_eq, TL.tl_join, show TL.tl ("" : Str) = [] from rfl, joinL_nil, List.map_map]
  induction v with
  | nil => rfl
  | cons b r ih =>
    rw [List.map_cons, List.flatten_cons, ih fun x hx => h x (List.mem_cons_of_mem _ hx), List.map_cons]
    rcases h b List.mem_cons_self with rfl | rfl <;> rfl
theorem bword_len {v : List Int} (h : ∀ b ∈ v, b = 0 ∨ b = 1) : (bword v).length = v.length := by
  show (bword v).cps.size = _
  rw [← Array.length_toList, bword_cps h, List.length_map]
theorem bword_ok {v : List Int} (h : ∀ b ∈ v, b = 0 ∨ b = 1) : bbad (bword v) v.length = false ∧ bval (bword v) = v := by
  unfold bbad bval
  rw [bword_len h, bword_cps h]
  constructor
  · rw [Bool.or_eq_false_iff]
    refine ⟨by simp, List.any_eq_false.mpr fun c hc => ?_⟩
    obtain ⟨b, hb, rfl⟩ := List.mem_map.mp hc
    rcases h b hb with rfl | rfl <;> decide
  · rw [List.map_map]
    refine (List.map_congr_left (g := id) fun b hb => ?_).trans (List.map_id v)
    rcases h b hb with rfl | rfl <;> rfl
theorem bword_free {v : List Int} (h : ∀ b ∈ v, b = 0 ∨ b = 1) : 32 ∉ (bword v).cps.toList := by
  rw [bword_cps h]
  intro hc
  obtain ⟨b, hb, e⟩ := List.mem_map.mp hc
  omega
theorem bword_ne {v : List Int} (h : ∀ b ∈ v, b = 0 ∨ b = 1) : bword v ≠ eqS := fun e => by
  have h1 := bword_cps h
  rw [e] at h1
  have h2 : (61 : Nat) ∈ v.map fun b => 48 + b.toNat := by rw [← h1]; decide
  obtain ⟨b, hb, e⟩ := List.mem_map.mp h2
  rcases h b hb with rfl | rfl <;> simp at e
def tailS (b : Str) : Str := cutS b (some 1) none
theorem tailS_cps (b : Str) : (tailS b).cps.toList = b.cps.toList.drop 1 := by
  unfold tailS cutS
  rw [six_nat (by decide)]
  show List.take (b.length - min 1 b.length) (b.cps.toList.drop (min 1 b.length)) = _
  have l : b.cps.toList.length = b.length := Array.length_toList
  by_cases h : 1 ≤ b.length
  · rw [Nat.min_eq_left h, List.take_of_length_le (by rw [List.length_drop, l]; exact Nat.le_refl _)]
  · rw [Nat.min_eq_right (by omega), List.drop_of_length_le (by omega), List.drop_of_length_le (by omega), List.take_nil]
theorem app_cps (x y : Str) : (x ++ y).cps.toList = x.cps.toList ++ y.cps.toList := TL.tl_append x y
theorem len_cps (x : Str) : x.length = x.cps.toList.length := TL.len_tl x
def spc : Str := " "
theorem split_words {ws : List Str} (hne : ws ≠ []) (h : ∀ w ∈ ws, 32 ∉ w.cps.toList) : Txt.split (Txt.join spc ws) spc = ws := TL.split_join (s := 32) (S := []) rfl (by decide +kernel) hne h
/-- the spoilt words -/
def spoil (ps : List Str) (b : Str) (many : Int) (at' : Nat) : List (List Str) :=
  [(ps ++ [eqS, b]).take at' ++ ([""] : List Str) ++ (ps ++ [eqS, b]).drop at', ps ++ [eqS, b] ++ ([""] : List Str), ([""] : List Str) ++ (ps ++ [eqS, b]), ps ++ [eqS, b] ++ (["1"] : List Str), ps ++ [eqS], ps ++ [b],
    ps ++ [eqS] ++ [b ++ ("0" : Str)], ps ++ [eqS] ++ [tailS b], ps ++ [eqS] ++ [("2" : Str) ++ tailS b], ps ++ [eqS] ++ [("+" : Str) ++ tailS b], ps ++ (["=="] : List Str) ++ [b], [ish many] ++ (ps ++ [eqS, b]),
    [ish (many - 1), ish (many - 1)] ++ [eqS, b], ([ish many, "="] : List Str) ++ [b], (["01"] : List Str) ++ [eqS, b], (["00"] : List Str) ++ [eqS, b], (["-0"] : List Str) ++ [eqS, b], (["+0"] : List Str) ++ [eqS, b], (["a"] : List Str) ++ [eqS, b], (["0 "] : List Str) ++ [eqS, b], (["0", "="] : List Str) ++ [eqS, b], (["1", "0"] : List Str) ++ [eqS, b], [], (["="] : List Str)]
theorem readW_end {ps : List Str} {x : Str} {many wide : Int} (h : ∀ p ∈ ps, p ≠ eqS) : readW (ps ++ [x]) many wide = none := by
  rcases List.eq_nil_or_concat ps with rfl | ⟨qs, y, rfl⟩
  · exact readW_short (by show 1 < 2; decide)
  · rw [List.concat_eq_append, List.append_assoc]
    exact readW_eq (h y (by simp))
theorem sp0_none {ps : List Str} {b : Str} {many wide : Int} {k : Nat} (hb : b ≠ eqS) : readW ((ps ++ [eqS, b]).take k ++ ([""] : List Str) ++ (ps ++ [eqS, b]).drop k) many wide = none := by
  have z1 : ("0" : Str).cps.toList.length = 1 := by decide +kernel
  have e0 : pbad ("" : Str) = true := by decide +kernel
  have n0 : ("" : Str) ≠ eqS := by decide +kernel
  by_cases h : k ≤ ps.length
  · rw [List.take_append_of_le_length h, List.drop_append_of_le_length h, ← List.append_assoc]
    exact readW_pl (p := "") (by simp) e0
  · by_cases h1 : k = ps.length + 1
    · subst h1
      have t : (ps ++ [eqS, b]).take (ps.length + 1) = ps ++ [eqS] := by rw [List.take_append, List.take_of_length_le (by omega), show ps.length + 1 - ps.length = 1 by omega]; rfl
      have d : (ps ++ [eqS, b]).drop (ps.length + 1) = [b] := by simp [List.drop_append]
      rw [t, d, List.append_assoc]
      exact readW_eq n0
    · have t : (ps ++ [eqS, b]).take k = ps ++ [eqS, b] := List.take_of_length_le (by simp; omega)
      have d : (ps ++ [eqS, b]).drop k = [] := List.drop_of_length_le (by simp; omega)
      rw [t, d, List.append_nil, show ps ++ [eqS, b] ++ ([""] : List Str) = (ps ++ [eqS]) ++ [b, ""] by simp]
      exact readW_eq hb
theorem any_not {w : Str} {c : Nat} (h : c ∈ w.cps.toList) (hc : c ∉ figs.cps.toList) : pbad w = true := by
  unfold pbad
  rw [Bool.or_eq_true]
  exact .inr (List.any_eq_true.mpr ⟨c, h, by simp [hc]⟩)
theorem bbad_not {w : Str} {wide : Int} {c : Nat} (h : c ∈ w.cps.toList) (hc : c ∉ oneS.cps.toList) : bbad w wide = true := by
  unfold bbad
  rw [Bool.or_eq_true]
  exact .inr (List.any_eq_true.mpr ⟨c, h, by simp [hc]⟩)
theorem bbad_len {w : Str} {wide : Int} (h : (w.length : Int) ≠ wide) : bbad w wide = true := by
  unfold bbad
  rw [Bool.or_eq_true]
  exact .inl (by simp [h])
theorem set_no {x : Int} {ps : List Int} {m : Int} (h : x ∈ ps) (hx : m ≤ x) : isSet ps m = false := by
  refine Bool.eq_false_iff.mpr fun e => ?_
  have := (isSet_iff.mp e).2 x h
  omega
theorem spoil_none {qs v : List Int} {many wide : Int} {k : Nat} (hq : isSet qs many = true) (hm : 1 ≤ many ∧ many ≤ 24) (hv : ∀ b ∈ v, b = 0 ∨ b = 1) (hw : (v.length : Int) = wide) (hw1 : 1 ≤ v.length) : ∀ x ∈ spoil (qs.map ish) (bword v) many k, readW (Txt.split (Txt.join spc x) spc) many wide = none := by
  have hp : ∀ p ∈ qs.map ish, p ≠ eqS ∧ 32 ∉ p.cps.toList := fun p hp => by
    obtain ⟨n, hn, rfl⟩ := List.mem_map.mp hp
    have := (isSet_iff.mp hq).2 n hn
    have h := ish_lt (n := n) (by omega) (by omega)
    exact ⟨h.2.2.1, h.2.2.2.1⟩
  have hqs : (qs.map ish).map pval = qs := by
    rw [List.map_map]
    refine (List.map_congr_left (g := id) fun n hn => ?_).trans (List.map_id qs)
    have := (isSet_iff.mp hq).2 n hn
    exact (ish_lt (n := n) (by omega) (by omega)).2.1
  have hb := bword_ne hv
  have fb := bword_free hv
  have lb : (bword v).cps.toList.length = v.length := by rw [← len_cps, bword_len hv]
  have hmm := ish_lt (n := many) (by omega) (by omega)
  have hm1 := ish_lt (n := many - 1) (by omega) (by omega)
  generalize hps : qs.map ish = ps at hp hqs
  generalize hB : bword v = b at hb fb lb
  have fe : 32 ∉ eqS.cps.toList := by decide +kernel
  have ft : 32 ∉ (tailS b).cps.toList := fun h => fb (by rw [tailS_cps] at h; exact List.mem_of_mem_drop h)
  have lt : (tailS b).length = v.length - 1 := by rw [len_cps, tailS_cps, List.length_drop, lb]
  have go : ∀ x : List Str, x ≠ [] → (∀ w ∈ x, 32 ∉ w.cps.toList) → readW x many wide = none → readW (Txt.split (Txt.join spc x) spc) many wide = none := fun x h1 h2 h3 => by rw [split_words h1 h2]; exact h3
  have fw : ∀ w ∈ ps ++ [eqS, b], 32 ∉ w.cps.toList := fun w hw => by
    rcases List.mem_append.mp hw with h | h
    · exact (hp w h).2
    · simp at h
      rcases h with rfl | rfl
      · exact fe
      · exact fb
  have fp : ∀ w ∈ ps, 32 ∉ w.cps.toList := fun w hw => (hp w hw).2
  have f0 : 32 ∉ ("" : Str).cps.toList := by decide +kernel
  have z1 : ("0" : Str).cps.toList.length = 1 := by decide +kernel
  have e0 : pbad ("" : Str) = true := by decide +kernel
  have fapp : ∀ x y : Str, 32 ∉ x.cps.toList → 32 ∉ y.cps.toList → 32 ∉ (x ++ y).cps.toList := fun x y h1 h2 h => by
    rw [app_cps] at h
    rcases List.mem_append.mp h with h | h
    · exact h1 h
    · exact h2 h
  have fm : 32 ∉ (ish many).cps.toList := hmm.2.2.2.1
  have fm1 : 32 ∉ (ish (many - 1)).cps.toList := hm1.2.2.2.1
  intro x hx
  unfold spoil at hx
  simp only [List.mem_cons, List.not_mem_nil, or_false] at hx
  rcases hx with rfl | rfl | rfl | rfl | rfl | rfl | rfl | rfl | rfl | rfl | rfl | rfl | rfl | rfl | rfl | rfl | rfl | rfl | rfl | rfl | rfl | rfl | rfl | rfl
  · refine go _ (by simp) (fun w hw => ?_) (sp0_none hb)
    simp only [List.mem_append, List.mem_cons, List.not_mem_nil, or_false] at hw
    rcases hw with (h | rfl) | h
    · exact fw w (List.mem_of_mem_take h)
    · exact f0
    · exact fw w (List.mem_of_mem_drop h)
  · exact go _ (by simp) (by simp only [List.forall_mem_append, List.forall_mem_cons, List.not_mem_nil, false_implies, implies_true, and_true]; (repeat' apply And.intro); all_goals first | assumption | exact fapp _ _ (by assumption) (by decide +kernel) | exact fapp _ _ (by decide +kernel) (by assumption) | decide +kernel) (by rw [show ps ++ [eqS, b] ++ ([""] : List Str) = (ps ++ [eqS]) ++ [b, ""] by simp]; exact readW_eq hb)
  · exact go _ (by simp) (by simp only [List.forall_mem_append, List.forall_mem_cons, List.not_mem_nil, false_implies, implies_true, and_true]; (repeat' apply And.intro); all_goals first | assumption | exact fapp _ _ (by assumption) (by decide +kernel) | exact fapp _ _ (by decide +kernel) (by assumption) | decide +kernel) (by rw [← List.append_assoc]; exact readW_pl (p := "") (by simp) e0)
  · exact go _ (by simp) (by simp only [List.forall_mem_append, List.forall_mem_cons, List.not_mem_nil, false_implies, implies_true, and_true]; (repeat' apply And.intro); all_goals first | assumption | exact fapp _ _ (by assumption) (by decide +kernel) | exact fapp _ _ (by decide +kernel) (by assumption) | decide +kernel) (by rw [show ps ++ [eqS, b] ++ (["1"] : List Str) = (ps ++ [eqS]) ++ [b, "1"] by simp]; exact readW_eq hb)
  · exact go _ (by simp) (by simp only [List.forall_mem_append, List.forall_mem_cons, List.not_mem_nil, false_implies, implies_true, and_true]; (repeat' apply And.intro); all_goals first | assumption | exact fapp _ _ (by assumption) (by decide +kernel) | exact fapp _ _ (by decide +kernel) (by assumption) | decide +kernel) (readW_end fun p h => (hp p h).1)
  · exact go _ (by simp) (by simp only [List.forall_mem_append, List.forall_mem_cons, List.not_mem_nil, false_implies, implies_true, and_true]; (repeat' apply And.intro); all_goals first | assumption | exact fapp _ _ (by assumption) (by decide +kernel) | exact fapp _ _ (by decide +kernel) (by assumption) | decide +kernel) (readW_end fun p h => (hp p h).1)
  · exact go _ (by simp) (by simp only [List.forall_mem_append, List.forall_mem_cons, List.not_mem_nil, false_implies, implies_true, and_true]; (repeat' apply And.intro); all_goals first | assumption | exact fapp _ _ (by assumption) (by decide +kernel) | exact fapp _ _ (by decide +kernel) (by assumption) | decide +kernel) (by rw [List.append_assoc]; exact readW_bit (bbad_len (by rw [len_cps, app_cps, List.length_append, lb, z1]; omega)))
  · exact go _ (by simp) (by simp only [List.forall_mem_append, List.forall_mem_cons, List.not_mem_nil, false_implies, implies_true, and_true]; (repeat' apply And.intro); all_goals first | assumption | exact fapp _ _ (by assumption) (by decide +kernel) | exact fapp _ _ (by decide +kernel) (by assumption) | decide +kernel) (by rw [List.append_assoc]; exact readW_bit (bbad_len (by rw [lt]; omega)))
  · exact go _ (by simp) (by simp only [List.forall_mem_append, List.forall_mem_cons, List.not_mem_nil, false_implies, implies_true, and_true]; (repeat' apply And.intro); all_goals first | assumption | exact fapp _ _ (by assumption) (by decide +kernel) | exact fapp _ _ (by decide +kernel) (by assumption) | decide +kernel) (by rw [List.append_assoc]; exact readW_bit (bbad_not (c := 50) (by rw [app_cps]; exact List.mem_append_left _ (by decide +kernel)) (by decide +kernel)))
  · exact go _ (by simp) (by simp only [List.forall_mem_append, List.forall_mem_cons, List.not_mem_nil, false_implies, implies_true, and_true]; (repeat' apply And.intro); all_goals first | assumption | exact fapp _ _ (by assumption) (by decide +kernel) | exact fapp _ _ (by decide +kernel) (by assumption) | decide +kernel) (by rw [List.append_assoc]; exact readW_bit (bbad_not (c := 43) (by rw [app_cps]; exact List.mem_append_left _ (by decide +kernel)) (by decide +kernel)))
  · exact go _ (by simp) (by simp only [List.forall_mem_append, List.forall_mem_cons, List.not_mem_nil, false_implies, implies_true, and_true]; (repeat' apply And.intro); all_goals first | assumption | exact fapp _ _ (by assumption) (by decide +kernel) | exact fapp _ _ (by decide +kernel) (by assumption) | decide +kernel) (by rw [List.append_assoc]; exact readW_eq (by decide +kernel))
  · exact go _ (by simp) (by simp only [List.forall_mem_append, List.forall_mem_cons, List.not_mem_nil, false_implies, implies_true, and_true]; (repeat' apply And.intro); all_goals first | assumption | exact fapp _ _ (by assumption) (by decide +kernel) | exact fapp _ _ (by decide +kernel) (by assumption) | decide +kernel) (by rw [← List.append_assoc]; exact readW_set (set_no (x := many) (by rw [List.map_append, List.map_cons, hmm.2.1]; simp) (Int.le_refl _)))
  · exact go _ (by simp) (by simp only [List.forall_mem_append, List.forall_mem_cons, List.not_mem_nil, false_implies, implies_true, and_true]; (repeat' apply And.intro); all_goals first | assumption | exact fapp _ _ (by assumption) (by decide +kernel) | exact fapp _ _ (by decide +kernel) (by assumption) | decide +kernel) (readW_set (by rw [List.map_cons, List.map_cons, hm1.2.1]; simp [isSet, setFrom]))
  · exact go _ (by simp) (by simp only [List.forall_mem_append, List.forall_mem_cons, List.not_mem_nil, false_implies, implies_true, and_true]; (repeat' apply And.intro); all_goals first | assumption | exact fapp _ _ (by assumption) (by decide +kernel) | exact fapp _ _ (by decide +kernel) (by assumption) | decide +kernel) (readW_set (ps := [ish many]) (set_no (x := many) (by rw [List.map_cons, hmm.2.1]; simp) (Int.le_refl _)))
  · exact go _ (by simp) (by simp only [List.forall_mem_append, List.forall_mem_cons, List.not_mem_nil, false_implies, implies_true, and_true]; (repeat' apply And.intro); all_goals first | assumption | exact fapp _ _ (by assumption) (by decide +kernel) | exact fapp _ _ (by decide +kernel) (by assumption) | decide +kernel) (readW_pl (p := "01") (by simp) (by decide +kernel))
  · exact go _ (by simp) (by simp only [List.forall_mem_append, List.forall_mem_cons, List.not_mem_nil, false_implies, implies_true, and_true]; (repeat' apply And.intro); all_goals first | assumption | exact fapp _ _ (by assumption) (by decide +kernel) | exact fapp _ _ (by decide +kernel) (by assumption) | decide +kernel) (readW_pl (p := "00") (by simp) (by decide +kernel))
  · exact go _ (by simp) (by simp only [List.forall_mem_append, List.forall_mem_cons, List.not_mem_nil, false_implies, implies_true, and_true]; (repeat' apply And.intro); all_goals first | assumption | exact fapp _ _ (by assumption) (by decide +kernel) | exact fapp _ _ (by decide +kernel) (by assumption) | decide +kernel) (readW_pl (p := "-0") (by simp) (by decide +kernel))
  · exact go _ (by simp) (by simp only [List.forall_mem_append, List.forall_mem_cons, List.not_mem_nil, false_implies, implies_true, and_true]; (repeat' apply And.intro); all_goals first | assumption | exact fapp _ _ (by assumption) (by decide +kernel) | exact fapp _ _ (by decide +kernel) (by assumption) | decide +kernel) (readW_pl (p := "+0") (by simp) (by decide +kernel))
  · exact go _ (by simp) (by simp only [List.forall_mem_append, List.forall_mem_cons, List.not_mem_nil, false_implies, implies_true, and_true]; (repeat' apply And.intro); all_goals first | assumption | exact fapp _ _ (by assumption) (by decide +kernel) | exact fapp _ _ (by decide +kernel) (by assumption) | decide +kernel) (readW_pl (p := "a") (by simp) (by decide +kernel))
  · have e : Txt.join spc ((["0 "] : List Str) ++ [eqS, b]) = Txt.join spc ((["0", ""] : List Str) ++ [eqS, b]) := by
      rw [TL.join_eq, TL.join_eq]
      refine TL.ext_tl ?_
      rw [TL.tl_join, TL.tl_join]
      rfl
    rw [e]
    exact go _ (by simp) (by simp only [List.forall_mem_append, List.forall_mem_cons, List.not_mem_nil, false_implies, implies_true, and_true]; (repeat' apply And.intro); all_goals first | assumption | exact fapp _ _ (by assumption) (by decide +kernel) | exact fapp _ _ (by decide +kernel) (by assumption) | decide +kernel) (readW_pl (p := "") (by simp) e0)
  · exact go _ (by simp) (by simp only [List.forall_mem_append, List.forall_mem_cons, List.not_mem_nil, false_implies, implies_true, and_true]; (repeat' apply And.intro); all_goals first | assumption | exact fapp _ _ (by assumption) (by decide +kernel) | exact fapp _ _ (by decide +kernel) (by assumption) | decide +kernel) (readW_pl (p := "=") (by simp) (by decide +kernel))
  · exact go _ (by simp) (by simp only [List.forall_mem_append, List.forall_mem_cons, List.not_mem_nil, false_implies, implies_true, and_true]; (repeat' apply And.intro); all_goals first | assumption | exact fapp _ _ (by assumption) (by decide +kernel) | exact fapp _ _ (by decide +kernel) (by assumption) | decide +kernel) (readW_set (by rw [show (["1", "0"] : List Str).map pval = [1, 0] by decide +kernel]; unfold isSet setFrom setFrom; split <;> rfl))
  · have e : Txt.join spc [] = Txt.join spc ([""] : List Str) := by decide +kernel
    rw [e]
    exact go _ (by simp) (by simp only [List.forall_mem_append, List.forall_mem_cons, List.not_mem_nil, false_implies, implies_true, and_true]; (repeat' apply And.intro); all_goals first | assumption | exact fapp _ _ (by assumption) (by decide +kernel) | exact fapp _ _ (by decide +kernel) (by assumption) | decide +kernel) (readW_short (by show 1 < 2; decide))
  · exact go _ (by simp) (by simp only [List.forall_mem_append, List.forall_mem_cons, List.not_mem_nil, false_implies, implies_true, and_true]; (repeat' apply And.intro); all_goals first | assumption | exact fapp _ _ (by assumption) (by decide +kernel) | exact fapp _ _ (by decide +kernel) (by assumption) | decide +kernel) (readW_short (by show 1 < 2; decide))
theorem sgn0 {w : Str} (h : decide (w = ("" : Str)) = false) : atI w.cps.toList 0 = some (w.cps.toList.getD 0 0) := by
  have ne : w.cps.toList ≠ [] := fun e => by
    have : w = ("" : Str) := TL.ext_tl e
    rw [decide_eq_true this] at h
    cases h
  cases hl : w.cps.toList with
  | nil => exact absurd hl ne
  | cons c r => exact at_k 0 rfl
/-- the first test of place_of -/
def hbad (w : Str) : Bool := decide (w = ("" : Str)) || (decide ((2 : Int) < w.length) || decide ((⟨#[w.cps.toList.getD 0 0]⟩ : Str) = ("0" : Str)) && decide ((1 : Int) < w.length))
theorem one_eq {c : Nat} : decide ((⟨#[c]⟩ : Str) = ("0" : Str)) = decide (c = 48) := by
  have e : ("0" : Str) = ⟨#[48]⟩ := by decide +kernel
  rw [e]
  by_cases h : c = 48
  · subst h; rfl
  · have : (⟨#[c]⟩ : Str) ≠ ⟨#[48]⟩ := fun q => h (by cases q; rfl)
    rw [decide_eq_false this, decide_eq_false h]
theorem pbad_head (w : Str) : pbad w = (hbad w || w.cps.toList.any fun c => !decide (c ∈ figs.cps.toList)) := by
  unfold pbad hbad
  rw [one_eq]
  congr 1
  have e2 : decide ((2 : Int) < w.length) = decide (2 < w.length) := by rw [decide_eq_decide]; omega
  have e1 : decide ((1 : Int) < w.length) = decide (1 < w.length) := by rw [decide_eq_decide]; omega
  rw [e1, e2]
  cases hl : w.cps.toList with
  | nil =>
    have l : w.length = 0 := by rw [len_cps, hl]; rfl
    simp [l]
  | cons c r => simp [Bool.or_assoc]
theorem pbad_no {w : Str} (h : hbad w = false) (h2 : ∀ z ∈ w.cps.toList, z ∈ figs.cps.toList) : pbad w = false := by
  rw [pbad_head, h, Bool.false_or]
  exact List.any_eq_false.mpr fun z hz => by simp [h2 z hz]
theorem pbad_len {w : Str} (h : hbad w = false) : w.length ≤ 640 := by
  unfold hbad at h
  simp only [Bool.or_eq_false_iff, decide_eq_false_iff_not] at h
  have := h.2.1
  omega
theorem pbad_int {w : Str} (h : hbad w = false) (h2 : ∀ z ∈ w.cps.toList, z ∈ figs.cps.toList) : PySem.intText? w = some (pval w) := by
  refine intText_digits (fun z hz => ?_) (fun e => ?_) (Nat.le_trans (pbad_len h) (by decide))
  · have h := h2 z hz
    rw [show figs.cps.toList = [48, 49, 50, 51, 52, 53, 54, 55, 56, 57] by decide +kernel] at h
    simp at h
    omega
  · unfold hbad at h
    have : w = ("" : Str) := TL.ext_tl e
    rw [decide_eq_true this] at h
    cases h
end GL

set_option Elab.async false
set_option linter.all false
set_option maxRecDepth 100000
set_option maxHeartbeats 4000000
/-! GT9: lists of texts, lists of such; bounds of texts -/
namespace GL
open PySem PySem.Spec PyProof.Rows L2 GM
theorem spl_len {c : Nat} : ∀ (l acc : List Nat), (∀ p ∈ TL.spl [c] 0 acc l, p.length ≤ acc.length + l.length) ∧ (TL.spl [c] 0 acc l).length ≤ l.length + 1
  | [], acc => by rw [TL.spl_nil]; simp
  | d :: r, acc => by
    cases h : TL.pre [c] (d :: r) with
    | true =>
      rw [TL.spl_hit h]
      obtain ⟨i1, i2⟩ := spl_len (c := c) r ([] : List Nat)
      show (∀ p ∈ acc :: TL.spl [c] 0 [] r, _) ∧ (acc :: TL.spl [c] 0 [] r).length ≤ _
      simp only [List.length_cons, List.length_nil] at *
      refine ⟨fun p hp => ?_, by omega⟩
      rcases List.mem_cons.mp hp with rfl | hp
      · omega
      · have := i1 p hp
        omega
    | false =>
      rw [TL.spl_miss h]
      obtain ⟨i1, i2⟩ := spl_len (c := c) r (acc ++ [d])
      simp only [List.length_cons, List.length_nil, List.length_append] at *
      refine ⟨fun p hp => ?_, by omega⟩
      have := i1 p hp
      omega
theorem split_len (t : Str) : (∀ w ∈ Txt.split t spc, w.length ≤ t.length) ∧ (Txt.split t spc).length ≤ t.length + 1 := by
  have e := TL.split_spl t spc (by decide +kernel) (TL.kind_ok (by decide +kernel))
  have k := spl_len (c := 32) t.cps.toList []
  have e2 : (Txt.split t spc).map TL.tl = TL.spl [32] 0 [] t.cps.toList := e
  rw [← e2] at k
  obtain ⟨k1, k2⟩ := k
  rw [List.length_map, ← len_cps] at k2
  refine ⟨fun w hw => ?_, k2⟩
  have := k1 (TL.tl w) (List.mem_map.mpr ⟨w, hw, rfl⟩)
  rw [← len_cps t, show (TL.tl w).length = w.length from (len_cps w).symm, List.length_nil, Nat.zero_add] at this
  exact this
/-- what the words take -/
def sz (ws : List Str) : Nat := (ws.map fun w => w.length + 1).sum
theorem sz_nil : sz [] = 0 := rfl
theorem sz_cons (w : Str) (ws : List Str) : sz (w :: ws) = w.length + 1 + sz ws := rfl
theorem sz_app (a b : List Str) : sz (a ++ b) = sz a + sz b := by
  unfold sz
  rw [List.map_append, List.sum_append]
theorem sz_td (k : Nat) (a : List Str) : sz (a.take k) + sz (a.drop k) = sz a := by rw [← sz_app, List.take_append_drop]
theorem sz_sum : ∀ ws : List Str, sz ws = (ws.map (·.length)).sum + ws.length * 1
  | [] => rfl
  | w :: ws => by
    have := sz_sum ws
    rw [sz_cons, List.map_cons, List.sum_cons, List.length_cons]
    omega
theorem sz_le {k : Nat} : ∀ ws : List Str, (∀ w ∈ ws, w.length ≤ k) → sz ws ≤ ws.length * (k + 1)
  | [], _ => Nat.zero_le _
  | w :: ws, h => by
    have h1 := sz_le ws fun x hx => h x (List.mem_cons_of_mem _ hx)
    have h2 := h w List.mem_cons_self
    rw [sz_cons, List.length_cons, Nat.succ_mul]
    omega
theorem join_len (ws : List Str) : (Txt.join spc ws).length ≤ sz ws := by
  rw [TL.join_eq, sz_sum]
  exact StrLaws.join_length_le spc ws
theorem tailS_len (b : Str) : (tailS b).length ≤ b.length := by
  rw [len_cps, tailS_cps, List.length_drop, len_cps b]
  omega
theorem app_len (a b : Str) : (a ++ b).length = a.length + b.length := by rw [len_cps, app_cps, List.length_append, ← len_cps, ← len_cps]
theorem spoil_sz {ps : List Str} {b : Str} {many : Int} {k : Nat} (h1 : sz ps ≤ 200) (h2 : b.length ≤ 100) (hm : 1 ≤ many ∧ many ≤ 24) : ∀ x ∈ spoil ps b many k, sz x ≤ 600 := by
  have hmm := (ish_lt (n := many) (by omega) (by omega)).2.2.2.2
  have hm1 := (ish_lt (n := many - 1) (by omega) (by omega)).2.2.2.2
  have ht := tailS_len b
  have td := sz_td k (ps ++ [eqS, b])
  have e1 : eqS.length = 1 := by decide +kernel
  have k0 : ("" : Str).length = 0 := by decide +kernel
  have k1 : ("1" : Str).length = 1 := by decide +kernel
  have k2 : ("0" : Str).length = 1 := by decide +kernel
  have k3 : ("2" : Str).length = 1 := by decide +kernel
  have k4 : ("+" : Str).length = 1 := by decide +kernel
  have k5 : ("==" : Str).length = 2 := by decide +kernel
  have k6 : ("01" : Str).length = 2 := by decide +kernel
  have k7 : ("00" : Str).length = 2 := by decide +kernel
  have k8 : ("-0" : Str).length = 2 := by decide +kernel
  have k9 : ("+0" : Str).length = 2 := by decide +kernel
  have ka : ("a" : Str).length = 1 := by decide +kernel
  have kb : ("0 " : Str).length = 2 := by decide +kernel
  have kc : ("=" : Str).length = 1 := by decide +kernel
  simp only [sz_app, sz_cons, sz_nil] at td
  intro x hx
  unfold spoil at hx
  simp only [List.mem_cons, List.not_mem_nil, or_false] at hx
  rcases hx with rfl | rfl | rfl | rfl | rfl | rfl | rfl | rfl | rfl | rfl | rfl | rfl | rfl | rfl | rfl | rfl | rfl | rfl | rfl | rfl | rfl | rfl | rfl | rfl <;> simp only [sz_app, sz_cons, sz_nil, app_len] <;> omega
/-- rules for lists of texts -/
instance ad_ls {a1 a2} {xs ys : List Str} [Ls a1 (xs.map .str)] [Ls a2 (ys.map .str)] : AddR a1 a2 (xs.length + ys.length ≤ 1000) (.d (.list ((xs ++ ys).map .str))) := ⟨fun s _ _ _ _ _ _ _ h1 h2 => (n_cat h1 h2 (by rw [List.length_map, List.length_map]; exact s)).dat.is (by simp only [List.map_append])⟩
instance sl_ls {a} {ns : List Str} [Ls a (ns.map .str)] : SliceR a (fun l u => .d (.list ((cut ns l u).map .str))) := ⟨fun X _ _ _ _ _ _ _ _ _ _ h h1 h2 => (n_slice h h1 h2 (fun B H v s r => ls_sl X.K B H v s r)).dat.is (by simp only [cutD, map_cut])⟩
def lsS (ws : List Str) : PyData := .list (ws.map .str)
class DispL (as : List A) (ws : outParam (List (List Str))) : Prop where
  ok : as = (ws.map lsS).map .d
instance dl_nil : DispL [] [] := ⟨rfl⟩
instance dl_cons {n ns as} [h : DispL as ns] : DispL (.d (.list (List.map PyData.str n)) :: as) (n :: ns) := ⟨by rw [h.ok]; rfl⟩
instance dl_none {ns as} [h : DispL as ns] : DispL (.d (.list (List.map PyData.int [])) :: as) ([] :: ns) := ⟨by rw [h.ok]; rfl⟩
instance (priority := high) dr_ls {n : List Str} {as ns} [h : DispL (.d (.list (List.map PyData.str n)) :: as) ns] : DispR (.d (.list (List.map PyData.str n)) :: as) (ns.map lsS) := ⟨h.ok⟩
instance ad_ll {a1 a2} {xs ys : List (List Str)} [Ls a1 (xs.map lsS)] [Ls a2 (ys.map lsS)] : AddR a1 a2 (xs.length + ys.length ≤ 1000) (.d (.list ((xs ++ ys).map lsS))) := ⟨fun s _ _ _ _ _ _ _ h1 h2 => (n_cat h1 h2 (by rw [List.length_map, List.length_map]; exact s)).dat.is (by simp only [List.map_append])⟩
section
variable {X : Cx} {B0 H0 : Hp} {δ : List (Option A)} {e e1 e2 : Expr} {a1 : A} {x y : PyData} {pos : Pos}
/-- a text that stands in the module -/
theorem p_gstr {x a : Str} (hm : ∃ t, X.mg x = some (.str a t)) (hg : Gl X x := by rfl) (hd : (x == ("__debug__" : Str)) = false := by decide) : Pe X B0 H0 δ (.Name x pos) (.d (.str a)) := by
  obtain ⟨t, hm⟩ := hm
  exact p_c (pe_glob (v := .str a) hg hm ⟨t, rfl⟩ hd) fun _ _ => .str a
/-- list of texts * 2 -/
theorem n_rep2S {xs : List Str} (ha : Pe X B0 H0 δ e1 a1) (hb : Pe X B0 H0 δ e2 (.d (.int 2))) [la : Ls a1 (xs.map .str)] (hz : xs.length ≤ 100) : Pn X B0 H0 δ (.BinOp e1 .Mult e2 pos) ((xs ++ xs).map .str) :=
  (n_repL ha hb ⟨by decide, by decide⟩ (by rw [List.length_map]; exact hz)).is (by simp [List.replicate])
/-- return (x, y), where making y raises -/
theorem ws_retDead {E : AE} {rest : List Stmt} (he : Pe X B0 H0 δ e (.d (.tuple [x, .dict []]))) : Ws X B0 H0 δ (.Return (some e) pos :: rest) E :=
  ws_cons (W := fun _ _ _ => False) (ps_ret he) (fun _ _ _ q => q.elim) fun D σ H B E0 S z => ⟨B, E0, S, fun v B' H' E1 r => by
    have r : Dq B' v (.tuple [x, .dict []]) := r
    cases r with
    | tup _ hd =>
      cases hd with
      | cons _ t =>
        cases t with
        | cons q _ => cases q⟩
end
/-- places from the end -/
theorem at_m {α : Type} {xs : List α} {f : α → PyData} {k : Nat} {z : α} (hk : 1 ≤ k ∧ k ≤ xs.length) (h : xs[xs.length - k]? = some z) : atI (xs.map f) (-(k : Int)) = some (f z) := by
  unfold atI ixN
  rw [List.length_map, if_neg (by omega), if_pos (by omega), show (-(k : Int) + (xs.length : Nat)).toNat = xs.length - k by omega]
  show (xs.map f)[xs.length - k]? = _
  rw [List.getElem?_map, h]
  rfl
theorem cut_m {α : Type} {xs : List α} {k : Nat} (hk : 1 ≤ k ∧ k ≤ xs.length) : cut xs none (some (-(k : Int))) = xs.take (xs.length - k) ∧ cut xs (some (-(k : Int))) none = xs.drop (xs.length - k) := by
  have e : ∀ d, HT.sIx xs.length d (some (-(k : Int))) = xs.length - k := fun d => by
    show (if -(k : Int) < 0 then (-(k : Int) + (xs.length : Int)).toNat else min (-(k : Int)).toNat xs.length) = _
    rw [if_pos (by omega)]
    omega
  unfold cut
  rw [e, e]
  constructor
  · show List.take (xs.length - k - 0) (xs.drop 0) = _
    rw [List.drop_zero, Nat.sub_zero]
  · show List.take (xs.length - (xs.length - k)) (xs.drop (xs.length - k)) = _
    rw [List.take_of_length_le (by rw [List.length_drop]; omega)]
theorem lt_ish (ps : List Int) : ps.map (fun z => PyData.str (toString z)) = (ps.map ish).map PyData.str := by
  rw [List.map_map]
  rfl
theorem cut_2 (ps : List Str) (x b : Str) : cut (ps ++ [x, b]) none (some (-2)) = ps := by
  have h := (cut_m (xs := ps ++ [x, b]) (k := 2) ⟨by decide, by simp⟩).1
  have e : (ps ++ [x, b]).length - 2 = ps.length := by simp
  rw [e, List.take_left] at h
  exact h
theorem cut_1 (ps : List Str) (x b : Str) : cut (ps ++ [x, b]) none (some (-1)) = ps ++ [x] := by
  have h := (cut_m (xs := ps ++ [x, b]) (k := 1) ⟨by decide, by simp⟩).1
  have e : (ps ++ [x, b]).length - 1 = (ps ++ [x]).length := by simp
  have e2 : ps ++ [x, b] = (ps ++ [x]) ++ [b] := by simp
  rw [e, e2, List.take_left, ← e2] at h
  exact h
theorem cut_1f (ps : List Str) (x b : Str) : cut (ps ++ [x, b]) (some (-1)) none = [b] := by
  have h := (cut_m (xs := ps ++ [x, b]) (k := 1) ⟨by decide, by simp⟩).2
  have e : (ps ++ [x, b]).length - 1 = (ps ++ [x]).length := by simp
  have e2 : ps ++ [x, b] = (ps ++ [x]) ++ [b] := by simp
  rw [e, e2, List.drop_left, ← e2] at h
  exact h
theorem cut_2f (ps : List Str) (x b : Str) : cut (ps ++ [x, b]) (some (-2)) none = [x, b] := by
  have h := (cut_m (xs := ps ++ [x, b]) (k := 2) ⟨by decide, by simp⟩).2
  have e : (ps ++ [x, b]).length - 2 = ps.length := by simp
  rw [e, List.drop_left] at h
  exact h
theorem long2 {ws : List Str} (h : decide ((ws.length : Int) < 2) = false) : 2 ≤ ws.length := by
  have := of_decide_eq_false h
  omega
theorem get_m {ws : List Str} {k : Nat} (hk : 1 ≤ k) (h : k ≤ ws.length) : ws[ws.length - k]? = some (ws.getD (ws.length - k) ("" : Str)) := by
  rw [List.getD_eq_getElem?_getD, List.getElem?_eq_getElem (by omega)]
  rfl
theorem readW_head {ws : List Str} {m w : Int} (h : (decide ((ws.length : Int) < 2) || !decide (ws.getD (ws.length - 2) ("" : Str) = eqS)) = true) : readW ws m w = none := by
  by_cases h1 : ws.length < 2
  · exact readW_short h1
  · have h2 : decide ((ws.length : Int) < 2) = false := decide_eq_false (by omega)
    rw [h2, Bool.false_or, Bool.not_eq_true', decide_eq_false_iff_not] at h
    unfold readW
    rw [if_neg h1, get_m (by decide) (by omega), if_pos fun e => h (Option.some.inj e)]
theorem words_end {ws : List Str} (h : (decide ((ws.length : Int) < 2) || !decide (ws.getD (ws.length - 2) ("" : Str) = eqS)) = false) : ∃ ps b, ws = ps ++ [eqS, b] := by
  rw [Bool.or_eq_false_iff, Bool.not_eq_false', decide_eq_true_eq] at h
  obtain ⟨h1, h2⟩ := h
  have l := long2 h1
  refine ⟨ws.take (ws.length - 2), ws.getD (ws.length - 1) ("" : Str), ?_⟩
  have g2 := get_m (k := 2) (by decide) l
  have g1 := get_m (ws := ws) (k := 1) (by decide) (by omega)
  obtain ⟨p2, q2⟩ := List.getElem?_eq_some_iff.mp g2
  obtain ⟨p1, q1⟩ := List.getElem?_eq_some_iff.mp g1
  have d : ws.drop (ws.length - 2) = [eqS, ws.getD (ws.length - 1) ("" : Str)] := by
    rw [List.drop_eq_getElem_cons p2, q2, h2, show ws.length - 2 + 1 = ws.length - 1 by omega, List.drop_eq_getElem_cons p1, q1, List.drop_of_length_le (by omega)]
  rw [← d, List.take_append_drop]
theorem log_fit {z : Int} (h : 0 ≤ z ∧ z < 100) : z.natAbs.log2 < 1920 := Nat.lt_of_le_of_lt (Nat.log2_le_self _) (by omega)
theorem p25 {z : Int} (h : 0 ≤ z ∧ z < 25) : 0 ≤ z ∧ z < 100 := by omega
theorem p01 {z : Int} (h : z = 0 ∨ z = 1) : 0 ≤ z ∧ z < 100 := by omega
theorem join_fit {ws : List Str} {a : Str} {k n : Nat} (h : ∀ w ∈ ws, w.length ≤ k) (hn : ws.length ≤ n) (ha : a.length ≤ 1) (hk : n * (k + 1) ≤ 16777216) : (ws.map (·.length)).sum + ws.length * a.length ≤ 16777216 := by
  have h1 := sz_sum ws
  have h2 := sz_le ws h
  have h3 : ws.length * (k + 1) ≤ n * (k + 1) := Nat.mul_le_mul_right _ hn
  have h4 : ws.length * a.length ≤ ws.length * 1 := Nat.mul_le_mul_left _ ha
  omega
theorem bword_fit {v : List Int} (h : v.length ≤ 100) (hv : ∀ b ∈ v, b = 0 ∨ b = 1) : ((v.map ish).map (·.length)).sum + (v.map ish).length * ("" : Str).length ≤ 16777216 := by
  refine join_fit (k := 2) (n := 100) (fun w hw => ?_) (by rw [List.length_map]; exact h) (by decide +kernel) (by decide)
  obtain ⟨b, hb, rfl⟩ := List.mem_map.mp hw
  have := hv b hb
  exact (ish_lt (n := b) (by omega) (by omega)).2.2.2.2
theorem words_fit {ps v : List Int} (h1 : ps.length ≤ 100) (h2 : v.length ≤ 100) (h3 : ∀ p ∈ ps, 0 ≤ p ∧ p < 25) (hv : ∀ b ∈ v, b = 0 ∨ b = 1) : ((ps.map ish ++ [eqS] ++ [bword v]).map (·.length)).sum + (ps.map ish ++ [eqS] ++ [bword v]).length * spc.length ≤ 16777216 := by
  refine join_fit (k := 100) (n := 102) (fun w hw => ?_) (by simp; omega) (by decide +kernel) (by decide)
  simp only [List.mem_append, List.mem_singleton] at hw
  rcases hw with (hw | rfl) | rfl
  · obtain ⟨p, hp, rfl⟩ := List.mem_map.mp hw
    have := h3 p hp
    have := (ish_lt (n := p) (by omega) (by omega)).2.2.2.2
    omega
  · decide +kernel
  · rw [bword_len hv]
    exact h2
theorem split_fit {t : Str} (h : t.length ≤ 900) : t.length + 2 ≤ sizeLine := Nat.le_trans (show t.length + 2 ≤ 1000 by omega) (by decide)
theorem sz_ish {ps : List Int} (h3 : ∀ p ∈ ps, 0 ≤ p ∧ p < 25) : sz (ps.map ish) ≤ ps.length * 3 := by
  have := sz_le (k := 2) (ps.map ish) fun w hw => by
    obtain ⟨p, hp, rfl⟩ := List.mem_map.mp hw
    have := h3 p hp
    exact (ish_lt (n := p) (by omega) (by omega)).2.2.2.2
  rwa [List.length_map] at this
theorem sz_fit {ws : List Str} {k : Nat} (h : sz ws ≤ k) (hk : k ≤ 16777216 := by decide) : (ws.map (·.length)).sum + ws.length * spc.length ≤ 16777216 := by
  have h1 := sz_sum ws
  rw [show spc.length = 1 by decide +kernel]
  omega
theorem spoil_at {ps : List Str} {b : Str} {many : Int} {k j : Nat} (h : j < 24) : (spoil ps b many k).getD j [] ∈ spoil ps b many k := by
  have ls : j < (spoil ps b many k).length := h
  rw [List.getD_eq_getElem?_getD, List.getElem?_eq_getElem ls]
  exact List.getElem_mem ls
/-- what is written is read again -/
theorem read_back {qs v : List Int} {many wide : Int} (hq : isSet qs many = true) (hm : 1 ≤ many ∧ many ≤ 24) (hv : ∀ b ∈ v, b = 0 ∨ b = 1) (hw : (v.length : Int) = wide) : readW (Txt.split (Txt.join spc (qs.map ish ++ [eqS, bword v])) spc) many wide = some (qs, v) := by
  have lt : ∀ n ∈ qs, 0 ≤ n ∧ n < 25 := fun n hn => by
    have := (isSet_iff.mp hq).2 n hn
    omega
  have hqs : (qs.map ish).map pval = qs := by
    rw [List.map_map]
    refine (List.map_congr_left (g := id) fun n hn => ?_).trans (List.map_id qs)
    exact (ish_lt (n := n) (lt n hn).1 (lt n hn).2).2.1
  rw [split_words (by simp) fun w hw => ?_]
  · have hb := bword_ok hv
    rw [hw] at hb
    rw [readW_ok (List.any_eq_false.mpr fun w hw => ?_) (by rw [hqs]; exact hq) hb.1, hqs, hb.2]
    obtain ⟨n, hn, rfl⟩ := List.mem_map.mp hw
    rw [(ish_lt (n := n) (lt n hn).1 (lt n hn).2).1]
    exact Bool.false_ne_true
  · simp only [List.mem_append, List.mem_cons, List.not_mem_nil, or_false] at hw
    rcases hw with hw | rfl | rfl
    · obtain ⟨n, hn, rfl⟩ := List.mem_map.mp hw
      exact (ish_lt (n := n) (lt n hn).1 (lt n hn).2).2.2.2.1
    · decide +kernel
    · exact bword_free hv
theorem sh_tup2 (qs v : List Int) : Sh 2 (.tuple [li qs, ti v]) := sh_tuple fun d hd => by
  rcases List.mem_cons.mp hd with rfl | hd
  · exact sh_li qs
  · rw [List.mem_singleton.mp hd]
    exact sh_ti v
end GL

set_option Elab.async false
set_option linter.all false
set_option maxRecDepth 100000
set_option maxHeartbeats 8000000
namespace K04
open PySem PySem.Spec GL GM
open L2 hiding prD
local macro_rules | `(tactic| walk_at "s") => `(tactic| first | trivial | assumption | omega | decide | (simp only [List.length_map, List.length_append, List.length_range, List.length_cons, List.length_nil]; omega))
def topS (i : Nat) : Stmt := PySem.Challenge.pw_rainparcels_k04_parcels_written.main.body.getD i (.Pass ⟨0, 0, 0, 0⟩)
/-- built-in names that stand -/
structure Bi (mg : Str → Option Value) : Prop where
  b_str : mg "str" = none
  b_int : mg "int" = none
  b_len : mg "len" = none
  b_tuple : mg "tuple" = none
  b_isinstance : mg "isinstance" = none
  b_bool : mg "bool" = none
  b_range : mg "range" = none
  b_sorted : mg "sorted" = none
  b_set : mg "set" = none
  b_ValueError : mg "ValueError" = none
  b_list : mg "list" = none
  c_MOST_FIGURES : ∃ t, mg "MOST_FIGURES" = some (.int 2 t)
  c_FIGURES : ∃ t, mg "FIGURES" = some (.str "0123456789" t)
/-- the error classes -/
structure Ca where
  BadText : Addr
  RainError : Addr
  BadPlaces : Addr
  BadValue : Addr
  Full : Addr
  IsOut : Addr
  NoParcel : Addr
  NoYard : Addr
  NotOut : Addr
structure Cs (K : PySem.W.Frag) (mg : Str → Option Value) (c : Ca) : Prop where
  g_BadText : mg "BadText" = some (.ref c.BadText)
  g_RainError : mg "RainError" = some (.ref c.RainError)
  g_BadPlaces : mg "BadPlaces" = some (.ref c.BadPlaces)
  g_BadValue : mg "BadValue" = some (.ref c.BadValue)
  g_Full : mg "Full" = some (.ref c.Full)
  g_IsOut : mg "IsOut" = some (.ref c.IsOut)
  g_NoParcel : mg "NoParcel" = some (.ref c.NoParcel)
  g_NoYard : mg "NoYard" = some (.ref c.NoYard)
  g_NotOut : mg "NotOut" = some (.ref c.NotOut)
  e_BadText : Er K mg "BadText" c.BadText
  m_BadText_RainError : PySem.W.exmOne K (.ref c.BadText) (.ref c.RainError) = some true
  i_BadText : ExcC K c.BadText
  k_BadText_BadPlaces : PySem.W.kitOne K (.ref c.BadText) (.ref c.BadPlaces) = some false
  k_BadText_BadValue : PySem.W.kitOne K (.ref c.BadText) (.ref c.BadValue) = some false
  k_BadText_Full : PySem.W.kitOne K (.ref c.BadText) (.ref c.Full) = some false
  k_BadText_IsOut : PySem.W.kitOne K (.ref c.BadText) (.ref c.IsOut) = some false
  k_BadText_BadText : PySem.W.kitOne K (.ref c.BadText) (.ref c.BadText) = some true
  k_BadText_NoParcel : PySem.W.kitOne K (.ref c.BadText) (.ref c.NoParcel) = some false
  k_BadText_NoYard : PySem.W.kitOne K (.ref c.BadText) (.ref c.NoYard) = some false
  k_BadText_NotOut : PySem.W.kitOne K (.ref c.BadText) (.ref c.NotOut) = some false
  v_BadText : PySem.W.kitOne K (.ref c.BadText) (.type "ValueError") = some true
abbrev Rel := Hp → Hp → List A → R → Prop
abbrev RelM := Hp → Hp → List A → R → List A → Prop
/-! ### _law_mix -/
abbrev s_l_mix : Stmt := topS 22
theorem sc_l_mix : FnScope ["_law_cell", "_law_prime", "_law_many"] ["_law_cell", "_law_prime", "_law_many"] (defScope s_l_mix) := ⟨rfl, rfl, rfl, by decide +kernel, rfl, by decide +kernel, by decide +kernel⟩
def rel_l_mix : Rel := fun _ _ as r => ∃ c p m, as = [.d (.int c), .d (.int p), .d (.int m)] ∧ (0 < p ∧ 0 < m) ∧ r = .ret (.d (.int (mix c p m)))
theorem ok_l_mix {P : Program} {w : World} {K : PySem.W.Frag} {mg : Str → Option Value} {base : Heap} {f : Addr} {fd : FuncData} (F : Fun K "_law_mix" "_law_mix" s_l_mix f fd) (T : Bi mg) : FnOk P w K mg base CX0 1 f fd ["_law_cell", "_law_prime", "_law_many"] (spG K rel_l_mix) := by
  refine fn_ws F sc_l_mix fun B H as r s h => ?_
  obtain ⟨c, p, m, rfl, ⟨hp, hm⟩, rfl⟩ := h
  refine ⟨⟨rfl, by simp [keep]⟩, _, rfl, fun cdv A outer s0 H0 E hr => ?_⟩
  refine ws_ret (p_mod (p_mod (p_mul (p_var 0 rfl) p_int (.inr (by decide))) (p_var 1 rfl) (by walk_at "s")) (p_var 2 rfl) (by walk_at "s")) ⟨.rfl' s, rfl⟩
/-! ### _law_sizes -/
abbrev s_l_sizes : Stmt := topS 26
theorem sc_l_sizes : FnScope ["_law_one", "_law_other", "_law_many", "_law_wide"] ["_law_one", "_law_other"] (defScope s_l_sizes) := ⟨rfl, rfl, rfl, by decide +kernel, rfl, by decide +kernel, by decide +kernel⟩
def rel_l_sizes : Rel := fun _ _ as r => ∃ (c d : Int), as = [.d (.int c), .d (.int d)] ∧ r = .ret (.d (.list [.int (sizeMany c), .int (sizeWide d)]))
theorem ok_l_sizes {P : Program} {w : World} {K : PySem.W.Frag} {mg : Str → Option Value} {base : Heap} {f : Addr} {fd : FuncData} (F : Fun K "_law_sizes" "_law_sizes" s_l_sizes f fd) (T : Bi mg) (k_l_mix : Kn P w K mg base "_law_mix" 1 rel_l_mix) : FnOk P w K mg base CX0 2 f fd ["_law_one", "_law_other"] (spG K rel_l_sizes) := by
  refine fn_ws F sc_l_sizes fun B H as r s h => ?_
  obtain ⟨c, d, rfl, rfl⟩ := h
  refine ⟨⟨rfl, by simp [keep]⟩, _, rfl, fun cdv A outer s0 H0 E hr => ?_⟩
  have h3 := mix_lt (c := c) (p := 10103) (m := 3) (by decide)
  have h4 := mix_lt (c := d) (p := 10111) (m := 2) (by decide)
  refine ws_set (a := .d ((.list ([1 + mix c 10079 7, 1 + mix c 10079 7, 1 + mix c 10091 24].map .int)))) (i := 2) rfl (q_list (pas_cons (q_add p_int (p_call k_l_mix (hr.mono (by decide)) (pas_cons (p_rd 0 rfl) (pas_cons p_int (pas_cons p_int pas_nil))) (fun _ _ eC _ => ⟨_, _, _, rfl, ⟨by decide, by decide⟩, rfl⟩)) (by walk_at "s")) (pas_cons (q_add p_int (p_call k_l_mix (hr.mono (by decide)) (pas_cons (p_rd 0 rfl) (pas_cons p_int (pas_cons p_int pas_nil))) (fun _ _ eC _ => ⟨_, _, _, rfl, ⟨by decide, by decide⟩, rfl⟩)) (by walk_at "s")) (pas_cons (q_add p_int (p_call k_l_mix (hr.mono (by decide)) (pas_cons (p_rd 0 rfl) (pas_cons p_int (pas_cons p_int pas_nil))) (fun _ _ eC _ => ⟨_, _, _, rfl, ⟨by decide, by decide⟩, rfl⟩)) (by walk_at "s")) pas_nil))) (by walk_at "s")) rfl ?_ sc_l_sizes.nd (.inl rfl)
  refine ws_set (a := .d ((.list ([1 + mix d 10093 4, 1 + mix d 10099 32].map .int)))) (i := 3) rfl (q_list (pas_cons (q_add p_int (p_call k_l_mix (hr.mono (by decide)) (pas_cons (p_rd 1 rfl) (pas_cons p_int (pas_cons p_int pas_nil))) (fun _ _ eC _ => ⟨_, _, _, rfl, ⟨by decide, by decide⟩, rfl⟩)) (by walk_at "s")) (pas_cons (q_add p_int (p_call k_l_mix (hr.mono (by decide)) (pas_cons (p_rd 1 rfl) (pas_cons p_int (pas_cons p_int pas_nil))) (fun _ _ eC _ => ⟨_, _, _, rfl, ⟨by decide, by decide⟩, rfl⟩)) (by walk_at "s")) pas_nil)) (by walk_at "s")) rfl ?_ sc_l_sizes.nd (.inl rfl)
  refine ws_ret (q_list (pas_cons (p_at (p_var 2 rfl) (p_call k_l_mix (hr.mono (by decide)) (pas_cons (p_rd 0 rfl) (pas_cons p_int (pas_cons p_int pas_nil))) (fun _ _ eC _ => ⟨_, _, _, rfl, ⟨by decide, by decide⟩, rfl⟩)) (at_i ⟨h3.1, by show _ < (3 : Int); exact h3.2⟩)) (pas_cons (p_at (p_var 3 rfl) (p_call k_l_mix (hr.mono (by decide)) (pas_cons (p_rd 1 rfl) (pas_cons p_int (pas_cons p_int pas_nil))) (fun _ _ eC _ => ⟨_, _, _, rfl, ⟨by decide, by decide⟩, rfl⟩)) (at_i ⟨h4.1, by show _ < (2 : Int); exact h4.2⟩)) pas_nil)) (by walk_at "s")) ⟨.rfl' s, rfl⟩
/-! ### _law_cell_at -/
abbrev s_l_cell_at : Stmt := topS 21
theorem sc_l_cell_at : FnScope ["_law_script", "_law_k"] ["_law_script", "_law_k"] (defScope s_l_cell_at) := ⟨rfl, rfl, rfl, by decide +kernel, rfl, by decide +kernel, by decide +kernel⟩
def rel_l_cell_at : Rel := fun _ _ as r => ∃ (ns : List Int) (k : Int), as = [.s ns, .d (.int k)] ∧ 0 ≤ k ∧ r = .ret (.d (.int (cellAt ns k)))
theorem ok_l_cell_at {P : Program} {w : World} {K : PySem.W.Frag} {mg : Str → Option Value} {base : Heap} {f : Addr} {fd : FuncData} (F : Fun K "_law_cell_at" "_law_cell_at" s_l_cell_at f fd) (T : Bi mg) : FnOk P w K mg base CX0 1 f fd ["_law_script", "_law_k"] (spG K rel_l_cell_at) := by
  refine fn_ws F sc_l_cell_at fun B H as r s h => ?_
  obtain ⟨ns, k, rfl, hk, rfl⟩ := h
  refine ⟨⟨rfl, by simp [keep]⟩, _, rfl, fun cdv A outer s0 H0 E hr => ?_⟩
  refine ws_if (t_cm (c_lt (p_var 1 rfl) (q_len (pas_cons (p_var 0 rfl) pas_nil) T.b_len))) (fun hc => ?_) (fun hc => ?_)
  · have hl : k < ns.length := by simpa using hc
    refine ws_ret (p_at (p_var 0 rfl) (p_var 1 rfl) (at_i ⟨hk, hl⟩)) ⟨.rfl' s, rfl⟩
  · have hl : ¬ k < ns.length := by simpa using hc
    refine ws_nil ?_
    refine ws_ret p_int ⟨.rfl' s, ?_⟩
    unfold cellAt
    rw [List.getD_eq_getElem?_getD, List.getElem?_eq_none (by omega)]
    rfl
/-! ### _law_mixed -/
abbrev s_l_mixed : Stmt := topS 23
theorem sc_l_mixed : FnScope ["_law_cell", "_law_k", "_law_many", "_law_m"] ["_law_cell", "_law_k", "_law_many"] (defScope s_l_mixed) := ⟨rfl, rfl, rfl, by decide +kernel, rfl, by decide +kernel, by decide +kernel⟩
def rel_l_mixed : Rel := fun _ _ as r => ∃ c k m, as = [.d (.int c), .d (.int k), .d (.int m)] ∧ 0 < m ∧ r = .ret (.d (.int (mixed c k m)))
theorem ok_l_mixed {P : Program} {w : World} {K : PySem.W.Frag} {mg : Str → Option Value} {base : Heap} {f : Addr} {fd : FuncData} (F : Fun K "_law_mixed" "_law_mixed" s_l_mixed f fd) (T : Bi mg) : FnOk P w K mg base CX0 1 f fd ["_law_cell", "_law_k", "_law_many"] (spG K rel_l_mixed) := by
  refine fn_ws F sc_l_mixed fun B H as r s h => ?_
  obtain ⟨c, k, m, rfl, hm, rfl⟩ := h
  refine ⟨⟨rfl, by simp [keep]⟩, _, rfl, fun cdv A outer s0 H0 E hr => ?_⟩
  refine ws_set (i := 3) rfl (p_mod (p_mul (q_add (q_add (p_var 0 rfl) (p_mul p_int (p_var 1 rfl) (.inl (by decide))) (by walk_at "s")) p_int (by walk_at "s")) p_int (.inr (by decide))) p_int (by decide)) rfl ?_ sc_l_mixed.nd (.inl rfl)
  have b := Int.emod_lt_of_pos ((c + 7919 * k + 11) * 48271) (by decide : (0 : Int) < 2147483647)
  have b2 := Int.emod_nonneg ((c + 7919 * k + 11) * 48271) (by decide : (2147483647 : Int) ≠ 0)
  refine ws_ret (p_mod (p_fdiv (p_mod (p_mul (p_var 3 rfl) (p_var 3 rfl) (.inl ⟨by omega, by omega⟩)) p_int (by decide)) p_int ⟨by decide, by decide⟩) (p_var 2 rfl) (by walk_at "s")) ⟨.rfl' s, rfl⟩
/-! ### _law_set -/
abbrev s_l_set : Stmt := topS 25
theorem sc_l_set : FnScope ["_law_cell", "_law_many", "_law_way", "_law_place"] ["_law_cell", "_law_many"] (defScope s_l_set) := ⟨rfl, rfl, rfl, by decide +kernel, rfl, by decide +kernel, by decide +kernel⟩
def rel_l_set : Rel := fun _ _ as r => ∃ (c m : Int), as = [.d (.int c), .d (.int m)] ∧ (0 < m ∧ m ≤ 100) ∧ r = .ret (.d (li (lset c m)))
theorem ok_l_set {P : Program} {w : World} {K : PySem.W.Frag} {mg : Str → Option Value} {base : Heap} {f : Addr} {fd : FuncData} (F : Fun K "_law_set" "_law_set" s_l_set f fd) (T : Bi mg) (k_l_mix : Kn P w K mg base "_law_mix" 1 rel_l_mix) (k_l_mixed : Kn P w K mg base "_law_mixed" 1 rel_l_mixed) : FnOk P w K mg base CX0 2 f fd ["_law_cell", "_law_many"] (spG K rel_l_set) := by
  refine fn_ws F sc_l_set fun B H as r s h => ?_
  obtain ⟨c, m, rfl, ⟨h1, h2⟩, rfl⟩ := h
  refine ⟨⟨rfl, by simp [keep]⟩, _, rfl, fun cdv A outer s0 H0 E hr => ?_⟩
  refine ws_set (i := 2) rfl (p_call k_l_mix (hr.mono (by decide)) (pas_cons (p_rd 0 rfl) (pas_cons p_int (pas_cons p_int pas_nil))) (fun _ _ eC _ => ⟨_, _, _, rfl, ⟨by decide, by decide⟩, rfl⟩)) rfl ?_ sc_l_set.nd (.inl rfl)
  refine ws_if (t_cm (q_eq (p_var 2 rfl) p_int (by walk_at "s") hr.units)) (fun hc => ?_) (fun hc => ?_)
  · have e : mix c 10037 4 = 0 := by simpa using hc
    refine ws_ret (q_list (pas_cons (p_call k_l_mix (hr.mono (by decide)) (pas_cons (p_rd 0 rfl) (pas_cons p_int (pas_cons (p_rd 1 rfl) pas_nil))) (fun _ _ eC _ => ⟨_, _, _, rfl, ⟨by decide, by omega⟩, rfl⟩)) pas_nil) (by walk_at "s")) ⟨.rfl' s, ?_⟩
    unfold lset
    rw [if_pos e]
  · have e : ¬ mix c 10037 4 = 0 := by simpa using hc
    refine ws_nil ?_
    refine ws_if (t_cm (q_eq (p_var 2 rfl) p_int (by walk_at "s") hr.units)) (fun hc => ?_) (fun hc => ?_)
    · have e2 : mix c 10037 4 = 1 := by simpa using hc
      refine ws_ret (n_sortedSet (q_list (pas_cons (p_call k_l_mix (hr.mono (by decide)) (pas_cons (p_rd 0 rfl) (pas_cons p_int (pas_cons (p_rd 1 rfl) pas_nil))) (fun _ _ eC _ => ⟨_, _, _, rfl, ⟨by decide, by omega⟩, rfl⟩)) (pas_cons (p_call k_l_mix (hr.mono (by decide)) (pas_cons (p_rd 0 rfl) (pas_cons p_int (pas_cons (p_rd 1 rfl) pas_nil))) (fun _ _ eC _ => ⟨_, _, _, rfl, ⟨by decide, by omega⟩, rfl⟩)) pas_nil)) (by walk_at "s")) (by show 2 < 60; decide) (sset_uniq (l := [mix c 10067 m, mix c 10069 m])) rfl T.b_sorted T.b_set).dat ⟨.rfl' s, ?_⟩
      unfold lset
      rw [if_neg e, if_pos e2]
    · have e2 : ¬ mix c 10037 4 = 1 := by simpa using hc
      refine ws_nil ?_
      refine ws_ret (n_lcI (em := PyData.int) (i := 3) (i_range (p_var 1 rfl) (by omega) (by omega) T.b_range).r rfl (fun z hz s H C cl fp => (ts_one (t_cm (q_eq (p_call k_l_mixed (hr.mono (by decide)) (pas_cons (p_rd 0 rfl) (pas_cons (q_add p_int (p_var 3 rfl) (by walk_at "s")) (pas_cons p_int pas_nil))) (fun _ _ eC _ => ⟨_, _, _, rfl, (by decide), rfl⟩)) p_int (by walk_at "s") hr.units)))) (fun z hz hf s H C cl fp => (p_var 3 rfl)) (by rw [List.length_range]; omega) rfl sc_l_set.nd (by kernel_rfl) (fun _ _ _ _ _ => pg_name (i := 3) sc_l_set.nd rfl (.inl rfl))).dat ⟨.rfl' s, ?_⟩
      unfold lset
      rw [if_neg e, if_neg e2]
/-! ### _law_bits -/
abbrev s_l_bits : Stmt := topS 24
theorem sc_l_bits : FnScope ["_law_cell", "_law_wide", "_law_k"] ["_law_cell", "_law_wide"] (defScope s_l_bits) := ⟨rfl, rfl, rfl, by decide +kernel, rfl, by decide +kernel, by decide +kernel⟩
def rel_l_bits : Rel := fun _ _ as r => ∃ (c w : Int), as = [.d (.int c), .d (.int w)] ∧ (0 ≤ w ∧ w ≤ 100) ∧ r = .ret (.d (ti (bits c w.toNat)))
theorem ok_l_bits {P : Program} {w : World} {K : PySem.W.Frag} {mg : Str → Option Value} {base : Heap} {f : Addr} {fd : FuncData} (F : Fun K "_law_bits" "_law_bits" s_l_bits f fd) (T : Bi mg) (k_l_mixed : Kn P w K mg base "_law_mixed" 1 rel_l_mixed) : FnOk P w K mg base CX0 2 f fd ["_law_cell", "_law_wide"] (spG K rel_l_bits) := by
  refine fn_ws F sc_l_bits fun B H as r s h => ?_
  obtain ⟨c, w, rfl, ⟨h1, h2⟩, rfl⟩ := h
  refine ⟨⟨rfl, by simp [keep]⟩, _, rfl, fun cdv A outer s0 H0 E hr => ?_⟩
  refine ws_ret (q_tup1 (n_lcAI (em := PyData.int) (i := 2) (i_range (p_var 1 rfl) (by omega) h1 T.b_range).r rfl (fun z hz s H C cl fp => (p_call k_l_mixed (hr.mono (by decide)) (pas_cons (p_rd 0 rfl) (pas_cons (p_rd 2 rfl) (pas_cons p_int pas_nil))) (fun _ _ eC _ => ⟨_, _, _, rfl, (by decide), rfl⟩))) (by rw [List.length_range]; omega) rfl sc_l_bits.nd (by kernel_rfl) (fun _ _ _ _ _ => pg_name (i := 2) sc_l_bits.nd rfl (.inl rfl))).dat T.b_tuple) ⟨.rfl' s, rfl⟩
/-! ### shown -/
abbrev s_shown : Stmt := topS 15
theorem sc_shown : FnScope ["places", "value", "place", "bit"] ["places", "value"] (defScope s_shown) := ⟨rfl, rfl, rfl, by decide +kernel, rfl, by decide +kernel, by decide +kernel⟩
def rel_shown : Rel := fun _ _ as r => ∃ (ps v : List Int), as = [.d (li ps), .d (ti v)] ∧ (ps.length ≤ 100 ∧ v.length ≤ 100 ∧ (∀ p ∈ ps, 0 ≤ p ∧ p < 25) ∧ ∀ b ∈ v, b = 0 ∨ b = 1) ∧ r = .ret (.d (.str (Txt.join spc (ps.map ish ++ [eqS, bword v]))))
theorem ok_shown {P : Program} {w : World} {K : PySem.W.Frag} {mg : Str → Option Value} {base : Heap} {f : Addr} {fd : FuncData} (F : Fun K "shown" "shown" s_shown f fd) (T : Bi mg) : FnOk P w K mg base CX0 1 f fd ["places", "value"] (spG K rel_shown) := by
  refine fn_ws F sc_shown fun B H as r s h => ?_
  obtain ⟨ps, v, rfl, ⟨h1, h2, h3, h4⟩, rfl⟩ := h
  refine ⟨⟨rfl, by simp [keep]⟩, _, rfl, fun cdv A outer s0 H0 E hr => ?_⟩
  refine ws_ret (p_joinS p_str (q_add (q_add (n_lcAI (em := PyData.str) (i := 2) (q_iterR (p_var 0 rfl)) rfl (fun z hz s H C cl fp => (p_strI (pas_cons (p_var 2 rfl) pas_nil) (log_fit (p25 (h3 z hz))) T.b_str)) (by omega) rfl sc_shown.nd (by kernel_rfl) (fun _ _ _ _ _ => pg_name (i := 2) sc_shown.nd rfl (.inl rfl))).dat (q_list (pas_cons p_str pas_nil) (by walk_at "s")) (by walk_at "s")) (q_list (pas_cons (p_joinS p_str (n_lcAI (em := PyData.str) (i := 3) (q_iterR (p_var 1 rfl)) rfl (fun z hz s H C cl fp => (p_strI (pas_cons (p_var 3 rfl) pas_nil) (log_fit (p01 (h4 z hz))) T.b_str)) (by omega) rfl sc_shown.nd (by kernel_rfl) (fun _ _ _ _ _ => pg_name (i := 3) sc_shown.nd rfl (.inl rfl))).dat (bword_fit h2 h4)) pas_nil) (by walk_at "s")) (by walk_at "s")) (words_fit h1 h2 h3 h4)) ⟨.rfl' s, ?_⟩
  rw [List.append_assoc]
  rfl
/-! ### place_of -/
abbrev s_place_of : Stmt := topS 16
theorem sc_place_of : FnScope ["word", "sign"] ["word"] (defScope s_place_of) := ⟨rfl, rfl, rfl, by decide +kernel, rfl, by decide +kernel, by decide +kernel⟩
def rel_place_of (c : Ca) : Rel := fun _ _ as r => ∃ w : Str, as = [.d (.str w)] ∧ w.length ≤ 1000 ∧ r = if pbad w = true then .exc c.BadText else .ret (.d (.int (pval w)))
theorem ok_place_of {P : Program} {w : World} {K : PySem.W.Frag} {mg : Str → Option Value} {base : Heap} {f : Addr} {fd : FuncData} (F : Fun K "place_of" "place_of" s_place_of f fd) (T : Bi mg) {c : Ca} (Q : Cs K mg c) : FnOk P w K mg base (L2N.CX P w) 1 f fd ["word"] (spG K (rel_place_of c)) := by
  refine fn_wsX F sc_place_of fun B H as r s h => ?_
  obtain ⟨w, rfl, hl, rfl⟩ := h
  refine ⟨⟨rfl, by simp [keep]⟩, fun cdv A outer s0 H0 E hr hz => ?_⟩
  refine ws_if (t_w (w_or (t_cm (q_eq (p_var 0 rfl) p_str (by walk_at "s") hr.units)) (fun hb => (w_or (t_cm (c_gt (p_lenS (pas_cons (p_var 0 rfl) pas_nil) hl T.b_len) (p_gint T.c_MOST_FIGURES.choose_spec))) (fun hb => (w_or1 (t_w (w_and (t_cm (q_eq (p_ixS (p_var 0 rfl) p_int (show w.length ≤ sizeLine from Nat.le_trans hl (by decide)) (sgn0 (by assumption))) p_str (by walk_at "s") hr.units)) (fun hb => (w_and1 (t_cm (c_gt (p_lenS (pas_cons (p_var 0 rfl) pas_nil) hl T.b_len) p_int)))))))))))) (fun hc => ?_) (fun hc => ?_)
  · have hb : pbad w = true := by
      rw [pbad_head, show hbad w = true from hc]
      rfl
    refine ws_raise (hz c.BadText (by rw [hb]; rfl) _) Q.e_BadText rfl
  have hh : hbad w = false := hc
  refine ws_nil ?_
  refine ws_for (i := 1) (fun k B' H' δ' => B = B' ∧ H = H' ∧ ∃ o : Option GL.A, (∀ j < k, ∀ c, w.cps.toList[j]? = some c → c ∈ figs.cps.toList) ∧ δ' = [some (.d (.str w)), o]) (q_iter (p_var 0 rfl)) ?_ ?_ ?_ rfl sc_place_of.nd (.inl rfl) rfl (passes_of rfl)
  · exact ⟨rfl, rfl, none, fun j hj => by omega, rfl⟩
  · rintro k z _ _ _ hk ⟨rfl, rfl, o, hall, rfl⟩
    obtain ⟨sg, hsm, hm, rfl⟩ := map_get hk
    refine ws_if (t_cm (q_notIn (p_var 1 rfl) (p_gstr T.c_FIGURES))) (fun hc => ?_) (fun hc => ?_)
    · have hb : pbad w = true := by
        rw [pbad_head, Bool.or_eq_true]
        exact .inr (List.any_eq_true.mpr ⟨sg, hm, by simpa [figs] using hc⟩)
      refine ws_raise (hz c.BadText (by rw [hb]; rfl) _) Q.e_BadText rfl
    · have ho : sg ∈ figs.cps.toList := by simpa [figs] using hc
      refine ws_nil (ws_nil ⟨rfl, rfl, _, fun j hj c2 h2 => ?_, rfl⟩)
      rcases Nat.lt_succ_iff_lt_or_eq.mp hj with h | rfl
      · exact hall j h c2 h2
      · rw [hsm] at h2
        cases h2
        exact ho
  · rintro _ _ _ ⟨rfl, rfl, o, hall, rfl⟩
    have hal : ∀ z ∈ w.cps.toList, z ∈ figs.cps.toList := fun z hz => by
      obtain ⟨j, hj, hz⟩ := List.getElem_of_mem hz
      exact hall j (by simpa using hj) z (by rw [List.getElem?_eq_getElem hj, hz])
    refine ws_ret (p_intS (pas_cons (p_var 0 rfl) pas_nil) (pbad_int hh hal) (pbad_len hh) T.b_int) ⟨.rfl' s, ?_⟩
    rw [pbad_no hh hal]
    rfl
/-! ### is_set -/
abbrev s_is_set : Stmt := topS 11
theorem sc_is_set : FnScope ["places", "many", "last", "place"] ["places", "many"] (defScope s_is_set) := ⟨rfl, rfl, rfl, by decide +kernel, rfl, by decide +kernel, by decide +kernel⟩
def rel_is_set : Rel := fun _ _ as r => ∃ (ps : List Int) (m : Int), as = [.d (li ps), .d (.int m)] ∧ r = .ret (.d (.bool (isSet ps m)))
theorem ok_is_set {P : Program} {w : World} {K : PySem.W.Frag} {mg : Str → Option Value} {base : Heap} {f : Addr} {fd : FuncData} (F : Fun K "is_set" "is_set" s_is_set f fd) (T : Bi mg) : FnOk P w K mg base CX0 1 f fd ["places", "many"] (spG K rel_is_set) := by
  refine fn_ws F sc_is_set fun B H as r s h => ?_
  obtain ⟨ps, m, rfl, rfl⟩ := h
  refine ⟨⟨rfl, by simp [keep]⟩, _, rfl, fun cdv A outer s0 H0 E hr => ?_⟩
  refine ws_set (i := 2) rfl (p_neg p_int) rfl ?_ sc_is_set.nd (.inl rfl)
  refine ws_for (i := 3) (fun k B' H' δ' => B = B' ∧ H = H' ∧ ∃ (last : Int) (o : Option GL.A), isSet ps m = setFrom last m (ps.drop k) ∧ δ' = [some (.d (li ps)), some (.d (.int m)), some (.d (.int last)), o]) (q_iter (p_var 0 rfl)) ?_ ?_ ?_ rfl sc_is_set.nd (.inl rfl) rfl PassesOwn.never
  · exact ⟨rfl, rfl, -1, none, rfl, rfl⟩
  · rintro k z _ _ _ hk ⟨rfl, rfl, last, o, hs, rfl⟩
    obtain ⟨p, hp, _, rfl⟩ := map_get hk
    have hd : ps.drop k = p :: ps.drop (k + 1) := by
      obtain ⟨h1, h2⟩ := List.getElem?_eq_some_iff.mp hp
      rw [List.drop_eq_getElem_cons h1, h2]
    rw [hd] at hs
    unfold setFrom at hs
    refine ws_if (t_w (w_or (t_cm (c_le (p_var 3 rfl) (p_var 2 rfl))) (fun hb => (w_or1 (t_cm (c_ge (p_var 3 rfl) (p_var 1 rfl))))))) (fun hc => ?_) (fun hc => ?_)
    · have hc' : p ≤ last ∨ m ≤ p := by simpa using hc
      rw [if_pos hc'] at hs
      refine ws_ret p_bl ⟨.rfl' s, ?_⟩
      rw [hs]
    · have hc' : ¬ (p ≤ last ∨ m ≤ p) := by simpa using hc
      rw [if_neg hc'] at hs
      refine ws_nil ?_
      refine ws_set (i := 2) rfl (p_var 3 rfl) rfl ?_ sc_is_set.nd (.inl rfl)
      exact ws_nil ⟨rfl, rfl, p, _, hs, rfl⟩
  · rintro _ _ _ ⟨rfl, rfl, last, o, hs, rfl⟩
    refine ws_ret p_bl ⟨.rfl' s, ?_⟩
    rw [hs, List.length_map, List.drop_length]
    rfl
/-! ### bits_of -/
abbrev s_bits_of : Stmt := topS 17
theorem sc_bits_of : FnScope ["word", "wide", "sign"] ["word", "wide"] (defScope s_bits_of) := ⟨rfl, rfl, rfl, by decide +kernel, rfl, by decide +kernel, by decide +kernel⟩
def rel_bits_of (c : Ca) : Rel := fun _ _ as r => ∃ (w : Str) (n : Int), as = [.d (.str w), .d (.int n)] ∧ w.length ≤ 1000 ∧ r = if bbad w n = true then .exc c.BadText else .ret (.d (ti (bval w)))
theorem ok_bits_of {P : Program} {w : World} {K : PySem.W.Frag} {mg : Str → Option Value} {base : Heap} {f : Addr} {fd : FuncData} (F : Fun K "bits_of" "bits_of" s_bits_of f fd) (T : Bi mg) {c : Ca} (Q : Cs K mg c) : FnOk P w K mg base (L2N.CX P w) 1 f fd ["word", "wide"] (spG K (rel_bits_of c)) := by
  refine fn_wsX F sc_bits_of fun B H as r s h => ?_
  obtain ⟨w, n, rfl, hl, rfl⟩ := h
  refine ⟨⟨rfl, by simp [keep]⟩, fun cdv A outer s0 H0 E hr hz => ?_⟩
  refine ws_if (t_cm (q_ne (p_lenS (pas_cons (p_var 0 rfl) pas_nil) hl T.b_len) (p_var 1 rfl) (by walk_at "s") hr.units)) (fun hc => ?_) (fun hc => ?_)
  · have hb : bbad w n = true := bbad_len (by simpa using hc)
    refine ws_raise (hz c.BadText (by rw [hb]; rfl) _) Q.e_BadText rfl
  refine ws_nil ?_
  refine ws_for (i := 2) (fun k B' H' δ' => B = B' ∧ H = H' ∧ ∃ o : Option GL.A, (∀ j < k, ∀ c, w.cps.toList[j]? = some c → c ∈ oneS.cps.toList) ∧ δ' = [some (.d (.str w)), some (.d (.int n)), o]) (q_iter (p_var 0 rfl)) ?_ ?_ ?_ rfl sc_bits_of.nd (.inl rfl) rfl (passes_of rfl)
  · exact ⟨rfl, rfl, none, fun j hj => by omega, rfl⟩
  · rintro k z _ _ _ hk ⟨rfl, rfl, o, hall, rfl⟩
    obtain ⟨sg, hsm, hm, rfl⟩ := map_get hk
    refine ws_if (t_cm (q_notIn (p_var 2 rfl) p_str)) (fun hc => ?_) (fun hc => ?_)
    · have hb : bbad w n = true := bbad_not hm (by simpa [oneS] using hc)
      refine ws_raise (hz c.BadText (by rw [hb]; rfl) _) Q.e_BadText rfl
    · have ho : sg ∈ oneS.cps.toList := by simpa [oneS] using hc
      refine ws_nil (ws_nil ⟨rfl, rfl, _, fun j hj c2 h2 => ?_, rfl⟩)
      rcases Nat.lt_succ_iff_lt_or_eq.mp hj with h | rfl
      · exact hall j h c2 h2
      · rw [hsm] at h2
        cases h2
        exact ho
  · rintro _ _ _ ⟨rfl, rfl, o, hall, rfl⟩
    have hone : ∀ z ∈ w.cps.toList, PySem.intText? ⟨#[z]⟩ = some ((z : Int) - 48) := fun z hz => by
      obtain ⟨j, hj, hz⟩ := List.getElem_of_mem hz
      have hm := hall j (by simpa using hj) z (by rw [List.getElem?_eq_getElem hj, hz])
      have hm : z = 48 ∨ z = 49 := by
        rw [show oneS.cps.toList = [48, 49] by decide +kernel] at hm
        simpa using hm
      rcases hm with rfl | rfl <;> decide +kernel
    refine ws_ret (q_tup1 (n_lcAI (em := PyData.int) (i := 2) (q_iterR (p_var 0 rfl)) rfl (fun z hz s H C cl fp => (p_intS (pas_cons (p_var 2 rfl) pas_nil) (hone z hz) (by show 1 ≤ 640; decide) T.b_int)) (show w.cps.toList.length ≤ 1000 from by rw [← len_cps]; exact hl) rfl sc_bits_of.nd (by kernel_rfl) (fun _ _ _ _ _ => pg_name (i := 2) sc_bits_of.nd rfl (.inl rfl))).dat T.b_tuple) ⟨.rfl' s, ?_⟩
    have hw : (w.length : Int) = n := by simpa using hc
    have hb : bbad w n = false := by
      unfold bbad
      rw [Bool.or_eq_false_iff]
      refine ⟨by simp [hw], List.any_eq_false.mpr fun z hz => ?_⟩
      obtain ⟨j, hj, hz⟩ := List.getElem_of_mem hz
      have hm := hall j (by simpa using hj) z (by rw [List.getElem?_eq_getElem hj, hz])
      simp [hm]
    rw [hb]
    rfl
/-! ### read -/
abbrev s_read : Stmt := topS 18
theorem sc_read : FnScope ["text", "many", "wide", "words", "places", "word"] ["text", "many", "wide"] (defScope s_read) := ⟨rfl, rfl, rfl, by decide +kernel, rfl, by decide +kernel, by decide +kernel⟩
def resR (c : Ca) : Option (List Int × List Int) → R
  | none => .exc c.BadText
  | some (qs, v) => .ret (.d (.tuple [li qs, ti v]))
def rel_read (c : Ca) : Rel := fun _ _ as r => ∃ (t : Str) (m w : Int), as = [.d (.str t), .d (.int m), .d (.int w)] ∧ t.length ≤ 900 ∧ r = resR c (readW (Txt.split t spc) m w)
theorem ok_read {P : Program} {w : World} {K : PySem.W.Frag} {mg : Str → Option Value} {base : Heap} {f : Addr} {fd : FuncData} (F : Fun K "read" "read" s_read f fd) (T : Bi mg) {c : Ca} (Q : Cs K mg c) (k_place_of : KnX P w K mg base "place_of" 1 (rel_place_of c)) (k_is_set : Kn P w K mg base "is_set" 1 rel_is_set) (k_bits_of : KnX P w K mg base "bits_of" 1 (rel_bits_of c)) : FnOk P w K mg base (L2N.CX P w) 2 f fd ["text", "many", "wide"] (spG K (rel_read c)) := by
  refine fn_wsX F sc_read fun B H as r s h => ?_
  obtain ⟨t, m, w, rfl, hl, rfl⟩ := h
  refine ⟨⟨rfl, by simp [keep]⟩, fun cdv A outer s0 H0 E hr hz => ?_⟩
  obtain ⟨wl, wn⟩ := split_len t
  refine ws_set (a := .d (.list ((Txt.split t spc).map .str))) (i := 3) rfl (n_splitS (p_var 0 rfl) p_str rfl (split_fit hl)).dat rfl ?_ sc_read.nd (.inl rfl)
  generalize Txt.split t spc = ws at hz wl wn ⊢
  refine ws_if (t_w (w_or (t_cm (c_lt (q_len (pas_cons (p_var 3 rfl) pas_nil) T.b_len) p_int)) (fun hb => (w_or1 (t_cm (q_ne (p_at (p_var 3 rfl) (p_neg p_int) (at_m (k := 2) (z := ws.getD (ws.length - 2) ("" : Str)) ⟨by decide, long2 (by assumption)⟩ (get_m (by decide) (long2 (by assumption))))) p_str (by walk_at "s") hr.units)))))) (fun hc => ?_) (fun hc => ?_)
  · have hb : readW ws m w = none := readW_head hc
    refine ws_raise (hz c.BadText (by rw [hb]; rfl) _) Q.e_BadText rfl
  obtain ⟨ps, b, rfl⟩ := words_end hc
  refine ws_nil ?_
  have c2 : cut (ps ++ [eqS, b]) none (some (-2)) = ps := cut_2 ps eqS b
  have hpl : ∀ p ∈ ps, p.length ≤ 1000 := fun p hp => Nat.le_trans (wl p (List.mem_append_left _ hp)) (by omega)
  have hbl : b.length ≤ 1000 := Nat.le_trans (wl b (by simp)) (by omega)
  have hpn : ps.length ≤ 1000 := by
    rw [List.length_append] at wn
    omega
  have hr2 := readW_two (ps := ps) (x := eqS) (b := b) (many := m) (wide := w)
  rw [if_neg (by simp)] at hr2
  refine ws_lcE (zs := ps) (emb := PyData.str) (g := (fun z => .int (pval z))) (bad := pbad) (i := 5) (j := 4) rfl rfl rfl sc_read.nd (Pe.is (q_slice (p_var 3 rfl) o_none (o_some (p_neg p_int))) (by rw [c2])) (fun s H C2 cl fp xe E2 hp => p_callE k_place_of (hr.mono (by decide)) hp (fun z hz => (pas_cons (p_var 5 rfl) pas_nil)) (fun z hz _ _ eC _ => ⟨_, rfl, hpl z hz, rfl⟩)) hpn (by kernel_rfl) (fun _ _ _ _ _ _ => pg_name (i := 5) sc_read.nd rfl (.inl rfl)) rfl rfl (sw_true rfl rfl rfl (by kernel_rfl)) (fun ex => hz c.BadText (by rw [hr2, List.any_eq_true.mpr ex]; rfl) _) (fun hgood => ?_)
  have hany : ps.any pbad = false := List.any_eq_false.mpr fun p hp => by rw [hgood p hp]; exact Bool.false_ne_true
  rw [hany, if_neg Bool.false_ne_true] at hr2
  have em : (ps.map fun z => PyData.int (pval z)) = (ps.map pval).map .int := by
    rw [List.map_map]
    rfl
  rw [em]
  refine ws_if (t_not (t_of (p_call k_is_set (hr.mono (by decide)) (pas_cons (p_rd 4 rfl) (pas_cons (p_rd 1 rfl) pas_nil)) (fun _ _ eC _ => ⟨_, _, rfl, rfl⟩)))) (fun hc => ?_) (fun hc => ?_)
  · have hs : isSet (ps.map pval) m = false := by simpa using hc
    refine ws_raise (hz c.BadText (by rw [hr2, if_pos hs]; rfl) _) Q.e_BadText rfl
  have hs : isSet (ps.map pval) m = true := by simpa using hc
  rw [if_neg (by rw [hs]; decide)] at hr2
  refine ws_nil ?_
  have hat : atI ((ps ++ [eqS, b]).map PyData.str) (-1) = some (.str b) := at_m (k := 1) ⟨by decide, by simp⟩ (by simp)
  by_cases hb : bbad b w = true
  · rw [if_pos hb] at hr2
    exact ws_retDead (p_tuple (pas_cons (p_var 4 rfl) (pas_cons (p_exc k_bits_of (hr.mono (by decide)) (pas_cons (p_at (p_var 3 rfl) (p_neg p_int) hat) (pas_cons (p_var 2 rfl) pas_nil)) (fun _ _ _ _ => ⟨b, w, rfl, hbl, by rw [if_pos hb]⟩) (hz c.BadText (by rw [hr2]; rfl) _)) pas_nil)) (by show 2 ≤ 1000; decide))
  · rw [if_neg hb] at hr2
    refine ws_ret (q_tuple (pas_cons (p_var 4 rfl) (pas_cons (p_call k_bits_of.kn (hr.mono (by decide)) (pas_cons (p_at (p_var 3 rfl) (p_neg p_int) hat) (pas_cons (p_rd 2 rfl) pas_nil)) (fun _ _ eC _ => ⟨b, w, rfl, hbl, (if_neg hb).symm⟩)) pas_nil)) (by walk_at "s")) ⟨.rfl' s, ?_⟩
    rw [hr2]
    rfl
/-! ### _law_whole -/
abbrev s_l_whole : Stmt := topS 20
theorem sc_l_whole : FnScope ["_law_found"] ["_law_found"] (defScope s_l_whole) := ⟨rfl, rfl, rfl, by decide +kernel, rfl, by decide +kernel, by decide +kernel⟩
def rel_l_whole : Rel := fun _ _ as r => ∃ x : PyData, as = [.d x] ∧ r = .ret (.d (.bool (isK x "int" && !isK x "bool")))
theorem ok_l_whole {P : Program} {w : World} {K : PySem.W.Frag} {mg : Str → Option Value} {base : Heap} {f : Addr} {fd : FuncData} (F : Fun K "_law_whole" "_law_whole" s_l_whole f fd) (T : Bi mg) : FnOk P w K mg base CX0 1 f fd ["_law_found"] (spG K rel_l_whole) := by
  refine fn_ws F sc_l_whole fun B H as r s h => ?_
  obtain ⟨x, rfl, rfl⟩ := h
  refine ⟨⟨rfl, by simp [keep]⟩, _, rfl, fun cdv A outer s0 H0 E hr => ?_⟩
  refine ws_ret (p_and (q_isi (p_var 0 rfl) T.b_int PyProof.Rows.boot_int T.b_isinstance) (fun hb => (p_one (p_not (q_isi (p_var 0 rfl) T.b_bool PyProof.Rows.boot_bool T.b_isinstance))))) ⟨.rfl' s, rfl⟩
/-! ### _law_kinds_good -/
abbrev s_l_kinds_good : Stmt := topS 29
theorem sc_l_kinds_good : FnScope ["_law_found", "_law_one"] ["_law_found"] (defScope s_l_kinds_good) := ⟨rfl, rfl, rfl, by decide +kernel, rfl, by decide +kernel, by decide +kernel⟩
def rel_l_kinds_good : Rel := fun _ _ as r => ∃ (qs v : List Int), as = [.d (.tuple [li qs, ti v])] ∧ (qs.length ≤ 100 ∧ v.length ≤ 100) ∧ r = .ret (.d (.bool true))
theorem ok_l_kinds_good {P : Program} {w : World} {K : PySem.W.Frag} {mg : Str → Option Value} {base : Heap} {f : Addr} {fd : FuncData} (F : Fun K "_law_kinds_good" "_law_kinds_good" s_l_kinds_good f fd) (T : Bi mg) (k_l_whole : Kn P w K mg base "_law_whole" 1 rel_l_whole) : FnOk P w K mg base CX0 2 f fd ["_law_found"] (spG K rel_l_kinds_good) := by
  refine fn_ws F sc_l_kinds_good fun B H as r s h => ?_
  obtain ⟨qs, v, rfl, ⟨h1, h2⟩, rfl⟩ := h
  refine ⟨⟨rfl, by simp [keep]⟩, _, rfl, fun cdv A outer s0 H0 E hr => ?_⟩
  refine ws_if (t_w (w_or (t_not (t_of (q_isi (p_var 0 rfl) T.b_tuple PyProof.Rows.boot_tuple T.b_isinstance))) (fun hb => (w_or (t_cm (q_ne (q_len (pas_cons (p_var 0 rfl) pas_nil) T.b_len) p_int (by walk_at "s") hr.units)) (fun hb => (w_or1 (t_not (t_of (q_isi (p_at (p_var 0 rfl) p_int (at_k 0 rfl)) T.b_list PyProof.Rows.boot_list T.b_isinstance))))))))) (fun hc => ?_) (fun hc => ?_)
  · exfalso
    simp [isK, tn] at hc
  refine ws_nil ?_
  refine ws_if (t_not (t_of (q_isi (p_at (p_var 0 rfl) p_int (at_k 1 rfl)) T.b_tuple PyProof.Rows.boot_tuple T.b_isinstance))) (fun hc => ?_) (fun hc => ?_)
  · exfalso
    simp [isK, tn] at hc
  refine ws_nil ?_
  refine ws_ret (p_cm (q_eq (n_lcI (em := PyData.int) (i := 1) (q_iterR (q_add (p_at (p_var 0 rfl) p_int (at_k 0 rfl)) (n_list1 (pas_cons (p_at (p_var 0 rfl) p_int (at_k 1 rfl)) pas_nil) T.b_list).dat (by walk_at "s"))) rfl (fun z hz s H C cl fp => (ts_one (t_not (t_of (p_call k_l_whole (hr.mono (by decide)) (pas_cons (p_rd 1 rfl) pas_nil) (fun _ _ eC _ => ⟨_, rfl, rfl⟩)))))) (fun z hz hf s H C cl fp => (p_var 1 rfl)) (by rw [List.length_append]; omega) rfl sc_l_kinds_good.nd (by kernel_rfl) (fun _ _ _ _ _ => pg_name (i := 1) sc_l_kinds_good.nd rfl (.inl rfl))).dat (q_list pas_nil (by walk_at "s")) (by walk_at "s") hr.units)) ⟨.rfl' s, ?_⟩
  simp [isK, tn]
/-! ### _law_refused -/
abbrev s_l_refused : Stmt := topS 27
theorem sc_l_refused : FnScope ["_law_text", "_law_many", "_law_wide", "e", "_law_some"] ["_law_text", "_law_many", "_law_wide"] (defScope s_l_refused) := ⟨rfl, rfl, rfl, by decide +kernel, rfl, by decide +kernel, by decide +kernel⟩
def rel_l_refused (c : Ca) : Rel := fun _ _ as r => ∃ (t : Str) (m w : Int), as = [.d (.str t), .d (.int m), .d (.int w)] ∧ (t.length ≤ 900 ∧ readW (Txt.split t spc) m w = none) ∧ r = .ret (.d (.bool true))
theorem ok_l_refused {P : Program} {w : World} {K : PySem.W.Frag} {mg : Str → Option Value} {base : Heap} {f : Addr} {fd : FuncData} (F : Fun K "_law_refused" "_law_refused" s_l_refused f fd) (T : Bi mg) {c : Ca} (Q : Cs K mg c) (k_read : KnX P w K mg base "read" 2 (rel_read c)) : FnOk P w K mg base CX0 3 f fd ["_law_text", "_law_many", "_law_wide"] (spG K (rel_l_refused c)) := by
  refine fn_ws F sc_l_refused fun B H as r s h => ?_
  obtain ⟨t, m, w, rfl, ⟨hl, hs⟩, rfl⟩ := h
  refine ⟨⟨rfl, by simp [keep]⟩, _, rfl, fun cdv A outer s0 H0 E hr => ?_⟩
  refine ws_try (i := 3) (fun C => C = c.BadText) rfl rfl sc_l_refused.nd rfl rfl ⟨rfl, by decide, .inl Q.g_RainError⟩ takesN (fun C h => by rw [h]; exact Q.m_BadText_RainError) ?_ ?_
  · intro B1 H1 e1 s1 pn xe po hz
    exact ws_dead (p_exc k_read (hr.mono (by decide)) (pas_cons (p_rd 0 rfl) (pas_cons (p_rd 1 rfl) (pas_cons (p_rd 2 rfl) pas_nil))) (fun _ _ _ _ => ⟨t, m, w, rfl, hl, by rw [hs]; rfl⟩) (hz c.BadText rfl))
  · intro B1 H1 e1 s1 C a oe pn hC hz hf
    subst hC
    refine ws_set (i := 4) rfl (q_list (pas_cons (p_isE Q.i_BadText hz hf (p_var 3 rfl) (p_glob (v := .ref c.BadPlaces) Q.g_BadPlaces rfl) (fun _ h => h) Q.k_BadText_BadPlaces T.b_isinstance) (pas_cons (p_isE Q.i_BadText hz hf (p_var 3 rfl) (p_glob (v := .ref c.BadValue) Q.g_BadValue rfl) (fun _ h => h) Q.k_BadText_BadValue T.b_isinstance) (pas_cons (p_isE Q.i_BadText hz hf (p_var 3 rfl) (p_glob (v := .ref c.Full) Q.g_Full rfl) (fun _ h => h) Q.k_BadText_Full T.b_isinstance) (pas_cons (p_isE Q.i_BadText hz hf (p_var 3 rfl) (p_glob (v := .ref c.IsOut) Q.g_IsOut rfl) (fun _ h => h) Q.k_BadText_IsOut T.b_isinstance) pas_nil)))) (by walk_at "s")) rfl ?_ sc_l_refused.nd (.inl rfl)
    refine ws_set (i := 4) rfl (q_add (p_var 4 rfl) (q_list (pas_cons (p_isE Q.i_BadText hz hf (p_var 3 rfl) (p_glob (v := .ref c.NoParcel) Q.g_NoParcel rfl) (fun _ h => h) Q.k_BadText_NoParcel T.b_isinstance) (pas_cons (p_isE Q.i_BadText hz hf (p_var 3 rfl) (p_glob (v := .ref c.NoYard) Q.g_NoYard rfl) (fun _ h => h) Q.k_BadText_NoYard T.b_isinstance) (pas_cons (p_isE Q.i_BadText hz hf (p_var 3 rfl) (p_glob (v := .ref c.NotOut) Q.g_NotOut rfl) (fun _ h => h) Q.k_BadText_NotOut T.b_isinstance) pas_nil))) (by walk_at "s")) (by walk_at "s")) rfl ?_ sc_l_refused.nd (.inl rfl)
    refine ws_ret (p_and (p_isE Q.i_BadText hz hf (p_var 3 rfl) (p_glob (v := .ref c.BadText) Q.g_BadText rfl) (fun _ h => h) Q.k_BadText_BadText T.b_isinstance) (fun hb => (p_and (p_isE Q.i_BadText hz hf (p_var 3 rfl) (p_c (v := .ty "ValueError") (pe_bltn rfl T.b_ValueError (by decide +kernel) rfl) fun _ _ => rfl) (fun _ h => h) Q.v_BadText T.b_isinstance) (fun hb => (p_one (p_cm (q_notIn p_bl (p_var 4 rfl)))))))) ⟨e1, ?_⟩
    rfl
/-! ### _law_spoilt -/
abbrev s_l_spoilt : Stmt := topS 28
theorem sc_l_spoilt : FnScope ["_law_words", "_law_way", "_law_at", "_law_many", "_law_head", "_law_tail", "_law_some"] ["_law_words", "_law_way", "_law_at", "_law_many"] (defScope s_l_spoilt) := ⟨rfl, rfl, rfl, by decide +kernel, rfl, by decide +kernel, by decide +kernel⟩
def rel_l_spoilt : Rel := fun _ _ as r => ∃ (ps : List Str) (b : Str) (way at' many : Int), as = [.d (.list ((ps ++ [eqS, b]).map .str)), .d (.int way), .d (.int at'), .d (.int many)] ∧ (ps.length ≤ 100 ∧ b.length ≤ 100 ∧ (1 ≤ many ∧ many ≤ 24) ∧ (0 ≤ way ∧ way < 24) ∧ 0 ≤ at') ∧ r = .ret (.d (.list (((spoil ps b many at'.toNat).getD way.toNat []).map .str)))
theorem ok_l_spoilt {P : Program} {w : World} {K : PySem.W.Frag} {mg : Str → Option Value} {base : Heap} {f : Addr} {fd : FuncData} (F : Fun K "_law_spoilt" "_law_spoilt" s_l_spoilt f fd) (T : Bi mg) : FnOk P w K mg base CX0 1 f fd ["_law_words", "_law_way", "_law_at", "_law_many"] (spG K rel_l_spoilt) := by
  refine fn_ws F sc_l_spoilt fun B H as r s h => ?_
  obtain ⟨ps, b, way, at', many, rfl, ⟨h1, h2, hm, hw, ha⟩, rfl⟩ := h
  refine ⟨⟨rfl, by simp [keep]⟩, _, rfl, fun cdv A outer s0 H0 E hr => ?_⟩
  have lw : (ps ++ [eqS, b]).length ≤ 102 := by simp; omega
  have l0 : (List.take at'.toNat (ps ++ [eqS, b])).length ≤ 102 := by rw [List.length_take]; omega
  have l1 : (List.drop at'.toNat (ps ++ [eqS, b])).length ≤ 102 := by rw [List.length_drop]; omega
  have l2 : (cut (ps ++ [eqS, b]) none (some (-1))).length ≤ 102 := by rw [cut_1]; simp; omega
  have l3 : (cut (ps ++ [eqS, b]) none (some (-2))).length ≤ 102 := by rw [cut_2]; omega
  have l4 : (cut (ps ++ [eqS, b]) (some (-1)) none).length ≤ 102 := by rw [cut_1f]; show 1 ≤ 102; decide
  have l5 : (cut (ps ++ [eqS, b]) (some (-2)) none).length ≤ 102 := by rw [cut_2f]; show 2 ≤ 102; decide
  have hat : atI ((ps ++ [eqS, b]).map PyData.str) (-1) = some (.str b) := at_m (k := 1) ⟨by decide, by simp⟩ (by simp)
  have hb : b.length ≤ sizeLine := Nat.le_trans h2 (by decide)
  have ht : (tailS b).length ≤ b.length := tailS_len b
  have small : ∀ n : Nat, n ≤ 1000 → n ≤ sizeLine := fun n h => Nat.le_trans h (by decide)
  refine ws_par (i := 4) (j := 5) (pas_cons (q_slice (p_var 0 rfl) o_none (o_some (p_var 2 rfl))) (pas_cons (q_slice (p_var 0 rfl) (o_some (p_var 2 rfl)) o_none) pas_nil)) rfl rfl ?_ sc_l_spoilt.nd rfl rfl (by decide) rfl rfl rfl (by kernel_rfl)
  rw [cut_to (xs := ps ++ [eqS, b]) ha, cut_from (xs := ps ++ [eqS, b]) ha]
  refine ws_set (i := 6) rfl (q_list (pas_cons (q_add (q_add (p_var 4 rfl) (q_list (pas_cons p_str pas_nil) (by walk_at "s")) (by walk_at "s")) (p_var 5 rfl) (by walk_at "s")) (pas_cons (q_add (p_var 0 rfl) (q_list (pas_cons p_str pas_nil) (by walk_at "s")) (by walk_at "s")) (pas_cons (q_add (q_list (pas_cons p_str pas_nil) (by walk_at "s")) (p_var 0 rfl) (by walk_at "s")) (pas_cons (q_add (p_var 0 rfl) (q_list (pas_cons p_str pas_nil) (by walk_at "s")) (by walk_at "s")) (pas_cons (q_slice (p_var 0 rfl) o_none (o_some (p_neg p_int))) (pas_cons (q_add (q_slice (p_var 0 rfl) o_none (o_some (p_neg p_int))) (q_slice (p_var 0 rfl) (o_some (p_neg p_int)) o_none) (by walk_at "s")) pas_nil)))))) (by walk_at "s")) rfl ?_ sc_l_spoilt.nd (.inl rfl)
  rw [cut_1, cut_2, cut_1f]
  refine ws_set (i := 6) rfl (q_add (p_var 6 rfl) (q_list (pas_cons (q_add (q_slice (p_var 0 rfl) o_none (o_some (p_neg p_int))) (q_list (pas_cons (q_add (p_at (p_var 0 rfl) (p_neg p_int) hat) p_str (small _ (by rw [show ("0" : Str).length = 1 by decide +kernel]; omega))) pas_nil) (by walk_at "s")) (by walk_at "s")) (pas_cons (q_add (q_slice (p_var 0 rfl) o_none (o_some (p_neg p_int))) (q_list (pas_cons (p_sliceS (p_at (p_var 0 rfl) (p_neg p_int) hat) (o_some p_int) o_none hb) pas_nil) (by walk_at "s")) (by walk_at "s")) (pas_cons (q_add (q_slice (p_var 0 rfl) o_none (o_some (p_neg p_int))) (q_list (pas_cons (q_add p_str (p_sliceS (p_at (p_var 0 rfl) (p_neg p_int) hat) (o_some p_int) o_none hb) (small _ (by rw [show ("2" : Str).length = 1 by decide +kernel, show cutS b (some 1) none = tailS b from rfl]; omega))) pas_nil) (by walk_at "s")) (by walk_at "s")) pas_nil))) (by walk_at "s")) (by walk_at "s")) rfl ?_ sc_l_spoilt.nd (.inl rfl)
  rw [cut_1, show cutS b (some 1) none = tailS b from rfl]
  refine ws_set (i := 6) rfl (q_add (p_var 6 rfl) (q_list (pas_cons (q_add (q_slice (p_var 0 rfl) o_none (o_some (p_neg p_int))) (q_list (pas_cons (q_add p_str (p_sliceS (p_at (p_var 0 rfl) (p_neg p_int) hat) (o_some p_int) o_none hb) (small _ (by rw [show ("+" : Str).length = 1 by decide +kernel, show cutS b (some 1) none = tailS b from rfl]; omega))) pas_nil) (by walk_at "s")) (by walk_at "s")) (pas_cons (q_add (q_add (q_slice (p_var 0 rfl) o_none (o_some (p_neg p_int))) (q_list (pas_cons p_str pas_nil) (by walk_at "s")) (by walk_at "s")) (q_slice (p_var 0 rfl) (o_some (p_neg p_int)) o_none) (by walk_at "s")) (pas_cons (q_add (q_list (pas_cons (p_strI (pas_cons (p_var 3 rfl) pas_nil) (log_fit ⟨by omega, by omega⟩) T.b_str) pas_nil) (by walk_at "s")) (p_var 0 rfl) (by walk_at "s")) pas_nil))) (by walk_at "s")) (by walk_at "s")) rfl ?_ sc_l_spoilt.nd (.inl rfl)
  rw [cut_1, cut_2, cut_1f, show cutS b (some 1) none = tailS b from rfl]
  refine ws_set (i := 6) rfl (q_add (p_var 6 rfl) (q_list (pas_cons (q_add (n_rep2S (q_list (pas_cons (p_strI (pas_cons (p_sub (p_var 3 rfl) p_int) pas_nil) (log_fit ⟨by omega, by omega⟩) T.b_str) pas_nil) (by walk_at "s")) p_int (by show 1 ≤ 100; decide)).dat (q_slice (p_var 0 rfl) (o_some (p_neg p_int)) o_none) (by walk_at "s")) (pas_cons (q_add (q_list (pas_cons (p_strI (pas_cons (p_var 3 rfl) pas_nil) (log_fit ⟨by omega, by omega⟩) T.b_str) (pas_cons p_str pas_nil)) (by walk_at "s")) (q_slice (p_var 0 rfl) (o_some (p_neg p_int)) o_none) (by walk_at "s")) (pas_cons (q_add (q_list (pas_cons p_str pas_nil) (by walk_at "s")) (q_slice (p_var 0 rfl) (o_some (p_neg p_int)) o_none) (by walk_at "s")) pas_nil))) (by walk_at "s")) (by walk_at "s")) rfl ?_ sc_l_spoilt.nd (.inl rfl)
  rw [cut_1f, cut_2f]
  refine ws_set (i := 6) rfl (q_add (p_var 6 rfl) (q_list (pas_cons (q_add (q_list (pas_cons p_str pas_nil) (by walk_at "s")) (q_slice (p_var 0 rfl) (o_some (p_neg p_int)) o_none) (by walk_at "s")) (pas_cons (q_add (q_list (pas_cons p_str pas_nil) (by walk_at "s")) (q_slice (p_var 0 rfl) (o_some (p_neg p_int)) o_none) (by walk_at "s")) (pas_cons (q_add (q_list (pas_cons p_str pas_nil) (by walk_at "s")) (q_slice (p_var 0 rfl) (o_some (p_neg p_int)) o_none) (by walk_at "s")) (pas_cons (q_add (q_list (pas_cons p_str pas_nil) (by walk_at "s")) (q_slice (p_var 0 rfl) (o_some (p_neg p_int)) o_none) (by walk_at "s")) pas_nil)))) (by walk_at "s")) (by walk_at "s")) rfl ?_ sc_l_spoilt.nd (.inl rfl)
  rw [cut_2f]
  refine ws_set (i := 6) rfl (q_add (p_var 6 rfl) (q_list (pas_cons (q_add (q_list (pas_cons p_str pas_nil) (by walk_at "s")) (q_slice (p_var 0 rfl) (o_some (p_neg p_int)) o_none) (by walk_at "s")) (pas_cons (q_add (q_list (pas_cons p_str (pas_cons p_str pas_nil)) (by walk_at "s")) (q_slice (p_var 0 rfl) (o_some (p_neg p_int)) o_none) (by walk_at "s")) (pas_cons (q_add (q_list (pas_cons p_str (pas_cons p_str pas_nil)) (by walk_at "s")) (q_slice (p_var 0 rfl) (o_some (p_neg p_int)) o_none) (by walk_at "s")) (pas_cons (q_list pas_nil (by walk_at "s")) (pas_cons (q_list (pas_cons p_str pas_nil) (by walk_at "s")) pas_nil))))) (by walk_at "s")) (by walk_at "s")) rfl ?_ sc_l_spoilt.nd (.inl rfl)
  rw [cut_2f]
  refine ws_ret (p_at (p_var 6 rfl) (p_var 1 rfl) (at_d (f := lsS) (ns := spoil ps b many at'.toNat) (z := (spoil ps b many at'.toNat).getD way.toNat []) hw.1 ?_)) ⟨.rfl' s, rfl⟩
  have ls : way.toNat < (spoil ps b many at'.toNat).length := by
    show way.toNat < 24
    omega
  rw [List.getD_eq_getElem?_getD, List.getElem?_eq_getElem ls]
  rfl
/-! ### law -/
abbrev s_law : Stmt := topS 30
theorem sc_law : FnScope ["_law_script", "_law_many", "_law_wide", "_law_places", "_law_value", "_law_words", "_law_copied", "_law_text", "_law_found", "_law_way", "_law_at", "_law_place", "_law_bit"] ["_law_script"] (defScope s_law) := ⟨rfl, rfl, rfl, by decide +kernel, rfl, by decide +kernel, by decide +kernel⟩
def rel_law : Rel := fun _ _ as r => ∃ ns : List Int, as = [.s ns] ∧ ns.length ≤ 63 ∧ r = .ret (.d (.bool true))
theorem ok_law {P : Program} {w : World} {K : PySem.W.Frag} {mg : Str → Option Value} {base : Heap} {f : Addr} {fd : FuncData} (F : Fun K "law" "law" s_law f fd) (T : Bi mg) {c : Ca} (Q : Cs K mg c) (k_l_sizes : Kn P w K mg base "_law_sizes" 2 rel_l_sizes) (k_l_cell_at : Kn P w K mg base "_law_cell_at" 1 rel_l_cell_at) (k_l_set : Kn P w K mg base "_law_set" 2 rel_l_set) (k_l_bits : Kn P w K mg base "_law_bits" 2 rel_l_bits) (k_shown : Kn P w K mg base "shown" 1 rel_shown) (k_read : KnX P w K mg base "read" 2 (rel_read c)) (k_l_kinds_good : Kn P w K mg base "_law_kinds_good" 2 rel_l_kinds_good) (k_l_mix : Kn P w K mg base "_law_mix" 1 rel_l_mix) (k_l_refused : Kn P w K mg base "_law_refused" 3 (rel_l_refused c)) (k_l_spoilt : Kn P w K mg base "_law_spoilt" 1 rel_l_spoilt) : FnOk P w K mg base CX0 4 f fd ["_law_script"] (spG K rel_law) := by
  refine fn_ws F sc_law fun B H as r s h => ?_
  obtain ⟨ns, rfl, hn, rfl⟩ := h
  refine ⟨⟨rfl, by simp [keep]⟩, _, rfl, fun cdv A outer s0 H0 E hr => ?_⟩
  have hm := sizeMany_bd (cellAt ns 0)
  have hw := sizeWide_bd (cellAt ns 1)
  generalize hM : sizeMany (cellAt ns 0) = many at hm
  generalize hW : sizeWide (cellAt ns 1) = wide at hw
  have ew : ((wide.toNat : Nat) : Int) = wide := Int.toNat_of_nonneg (by omega)
  refine ws_twoL (i := 1) (j := 2) (p_call k_l_sizes (hr.mono (by decide)) (pas_cons (p_call k_l_cell_at (hr.mono (by decide)) (pas_cons (p_rd 0 rfl) (pas_cons p_int pas_nil)) (fun _ _ eC _ => ⟨_, _, rfl, (by decide), rfl⟩)) (pas_cons (p_call k_l_cell_at (hr.mono (by decide)) (pas_cons (p_rd 0 rfl) (pas_cons p_int pas_nil)) (fun _ _ eC _ => ⟨_, _, rfl, (by decide), rfl⟩)) pas_nil)) (fun _ _ eC _ => ⟨_, _, rfl, rfl⟩)) ?_ sc_law.nd rfl rfl (.inl rfl) (.inl rfl) rfl
  rw [hM, hW]
  refine ws_set (i := 3) rfl (p_call k_l_set (hr.mono (by decide)) (pas_cons (p_call k_l_cell_at (hr.mono (by decide)) (pas_cons (p_rd 0 rfl) (pas_cons p_int pas_nil)) (fun _ _ eC _ => ⟨_, _, rfl, (by decide), rfl⟩)) (pas_cons (p_rd 1 rfl) pas_nil)) (fun _ _ eC _ => ⟨_, _, rfl, (by omega), rfl⟩)) rfl ?_ sc_law.nd (.inl rfl)
  refine ws_set (i := 4) rfl (p_call k_l_bits (hr.mono (by decide)) (pas_cons (p_call k_l_cell_at (hr.mono (by decide)) (pas_cons (p_rd 0 rfl) (pas_cons p_int pas_nil)) (fun _ _ eC _ => ⟨_, _, rfl, (by decide), rfl⟩)) (pas_cons (p_rd 2 rfl) pas_nil)) (fun _ _ eC _ => ⟨_, _, rfl, (by omega), rfl⟩)) rfl ?_ sc_law.nd (.inl rfl)
  have hset := lset_set (c := cellAt ns 2) (m := many) (by omega)
  have hlen := set_len hset
  obtain ⟨vl, hv⟩ := val_bits (cellAt ns 3) wide.toNat
  generalize lset (cellAt ns 2) many = qs at hset hlen ⊢
  generalize bits (cellAt ns 3) wide.toNat = v at vl hv ⊢
  have hq : ∀ p ∈ qs, 0 ≤ p ∧ p < 25 := fun p hp => by
    have := (isSet_iff.mp hset).2 p hp
    omega
  have ql : qs.length ≤ 24 := by omega
  have vl2 : v.length ≤ 32 := by omega
  have vl1 : 1 ≤ v.length := by omega
  have vw : (v.length : Int) = wide := by omega
  have szw : sz (qs.map ish ++ [eqS, bword v]) ≤ 400 := by
    have h1 := sz_ish hq
    have h2 := bword_len hv
    have h3 : eqS.length = 1 := by decide +kernel
    simp only [sz_app, sz_cons, sz_nil]
    omega
  have wf : ((qs.map ish ++ [eqS, bword v]).map (·.length)).sum + (qs.map ish ++ [eqS, bword v]).length * spc.length ≤ 16777216 := sz_fit szw
  refine ws_set (a := .d (.list ((qs.map ish ++ [eqS, bword v]).map .str))) (i := 5) rfl (q_add (n_lcAI (em := PyData.str) (i := 11) (q_iterR (p_var 3 rfl)) rfl (fun z hz s H C cl fp => (p_strI (pas_cons (p_var 11 rfl) pas_nil) (log_fit (p25 (hq z hz))) T.b_str)) (by omega) rfl sc_law.nd (by kernel_rfl) (fun _ _ _ _ _ => pg_name (i := 11) sc_law.nd rfl (.inl rfl))).dat (q_list (pas_cons p_str (pas_cons (p_joinS p_str (n_lcAI (em := PyData.str) (i := 12) (q_iterR (p_var 4 rfl)) rfl (fun z hz s H C cl fp => (p_strI (pas_cons (p_var 12 rfl) pas_nil) (log_fit (p01 (hv z hz))) T.b_str)) (by omega) rfl sc_law.nd (by kernel_rfl) (fun _ _ _ _ _ => pg_name (i := 12) sc_law.nd rfl (.inl rfl))).dat (bword_fit (by omega) hv)) pas_nil)) (by walk_at "s")) (by walk_at "s")) rfl ?_ sc_law.nd (.inl rfl)
  refine ws_set (i := 6) rfl (n_list1 (pas_cons (p_var 3 rfl) pas_nil) T.b_list).dat rfl ?_ sc_law.nd (.inl rfl)
  refine ws_set (i := 7) rfl (p_call k_shown (hr.mono (by decide)) (pas_cons (p_rd 6 rfl) (pas_cons (p_rd 4 rfl) pas_nil)) (fun _ _ eC _ => ⟨_, _, rfl, ⟨by omega, by omega, hq, hv⟩, rfl⟩)) rfl ?_ sc_law.nd (.inl rfl)
  refine ws_if (t_w (w_or (t_not (t_of (q_isi (p_var 7 rfl) T.b_str PyProof.Rows.boot_str T.b_isinstance))) (fun hb => (w_or (t_cm (q_ne (p_var 7 rfl) (p_joinS p_str (p_var 5 rfl) wf) (by walk_at "s") hr.units)) (fun hb => (w_or1 (t_cm (q_ne (p_var 6 rfl) (p_var 3 rfl) (by walk_at "s") hr.units)))))))) (fun hc => ?_) (fun hc => ?_)
  · exfalso
    simp [isK, tn] at hc
    exact hc rfl
  refine ws_nil ?_
  have hgood := read_back hset hm hv vw
  have tl := Nat.le_trans (join_len (qs.map ish ++ [eqS, bword v])) szw
  refine ws_set (i := 8) rfl (p_call k_read.kn (hr.mono (by decide)) (pas_cons (p_rd 7 rfl) (pas_cons (p_rd 1 rfl) (pas_cons (p_rd 2 rfl) pas_nil))) (fun _ _ eC _ => ⟨_, _, _, rfl, by omega, by rw [hgood]; rfl⟩)) rfl ?_ sc_law.nd (.inl rfl)
  have sh : Sh 40 (.tuple [li qs, ti v]) := Sh.up (sh_tup2 qs v)
  refine ws_if (t_w (w_or (t_not (t_of (p_call k_l_kinds_good (hr.mono (by decide)) (pas_cons (p_rd 8 rfl) pas_nil) (fun _ _ eC _ => ⟨_, _, rfl, ⟨by omega, by omega⟩, rfl⟩)))) (fun hb => (w_or1 (t_cm (q_ne (p_var 8 rfl) (q_tuple (pas_cons (p_var 3 rfl) (pas_cons (p_var 4 rfl) pas_nil)) (by walk_at "s")) ⟨sh, sh⟩ hr.units)))))) (fun hc => ?_) (fun hc => ?_)
  · exfalso
    rw [sh.same] at hc
    simp at hc
  refine ws_nil ?_
  refine ws_set (i := 9) rfl (p_call k_l_mix (hr.mono (by decide)) (pas_cons (p_call k_l_cell_at (hr.mono (by decide)) (pas_cons (p_rd 0 rfl) (pas_cons p_int pas_nil)) (fun _ _ eC _ => ⟨_, _, rfl, (by decide), rfl⟩)) (pas_cons p_int (pas_cons p_int pas_nil))) (fun _ _ eC _ => ⟨_, _, _, rfl, ⟨by decide, by decide⟩, rfl⟩)) rfl ?_ sc_law.nd (.inl rfl)
  have hway := mix_lt (c := cellAt ns 4) (p := 10133) (m := 36) (by decide)
  refine ws_if (t_cm (c_gt (p_var 9 rfl) p_int)) (fun hc => ?_) (fun hc => ?_)
  · refine ws_ret p_bl ⟨.rfl' s, rfl⟩
  refine ws_nil ?_
  have hway2 := of_decide_eq_false hc
  refine ws_set (i := 10) rfl (p_call k_l_mix (hr.mono (by decide)) (pas_cons (p_call k_l_cell_at (hr.mono (by decide)) (pas_cons (p_rd 0 rfl) (pas_cons p_int pas_nil)) (fun _ _ eC _ => ⟨_, _, rfl, (by decide), rfl⟩)) (pas_cons p_int (pas_cons (q_add (q_len (pas_cons (p_var 5 rfl) pas_nil) T.b_len) p_int (by walk_at "s")) pas_nil))) (fun _ _ eC _ => ⟨_, _, _, rfl, ⟨by decide, by omega⟩, rfl⟩)) rfl ?_ sc_law.nd (.inl rfl)
  have hat := mix_lt (c := cellAt ns 5) (p := 10139) (m := (((qs.map ish ++ [eqS, bword v]).length : Nat) : Int) + 1) (by omega)
  have hx := spoil_at (ps := qs.map ish) (b := bword v) (many := many) (k := (mix (cellAt ns 5) 10139 (((qs.map ish ++ [eqS, bword v]).length : Nat) + 1)).toNat) (j := (mix (cellAt ns 4) 10133 36).toNat) (by omega)
  have hno := spoil_none hset hm hv vw vl1 _ hx
  have hsz := spoil_sz (by have := sz_ish hq; omega) (by rw [bword_len hv]; omega) hm _ hx
  refine ws_ret (p_call k_l_refused (hr.mono (by decide)) (pas_cons (p_joinS p_str (p_call k_l_spoilt (hr.mono (by decide)) (pas_cons (p_rd 5 rfl) (pas_cons (p_rd 9 rfl) (pas_cons (p_rd 10 rfl) (pas_cons (p_rd 1 rfl) pas_nil)))) (fun _ _ eC _ => ⟨_, _, _, _, _, rfl, ⟨by rw [List.length_map]; omega, by rw [bword_len hv]; omega, hm, ⟨hway.1, by omega⟩, hat.1⟩, rfl⟩)) (sz_fit hsz)) (pas_cons (p_rd 1 rfl) (pas_cons (p_rd 2 rfl) pas_nil))) (fun _ _ eC _ => ⟨_, _, _, rfl, ⟨Nat.le_trans (join_len _) (by omega), hno⟩, rfl⟩)) ⟨.rfl' s, rfl⟩
theorem all_mk {l : PySem.W.OpenLaw} {w : World} {K : PySem.W.Frag} {h : Heap} {mg : Str → Option Value} {fa f1 f2 f3 f4 f5 f6 f7 f8 f9 f10 f11 f12 f13 f14 f15 f16 : Addr} {c_BadText c_RainError c_BadPlaces c_BadValue c_Full c_IsOut c_NoParcel c_NoYard c_NotOut : Addr} {t_MOST_FIGURES t_FIGURES : Tok} (X : K.In h) (G : h.Ns mainGlobals mg) (hfa : mg "law" = some (.ref fa))
    {od1 an1 od2 an2 od3 an3 od4 an4 od5 an5 od6 an6 od7 an7 od8 an8 od9 an9 od10 an10 od11 an11 od12 an12 od13 an13 od14 an14 od15 an15 od16 an16 : Option Addr} {sl1 sl2 sl3 sl4 sl5 sl6 sl7 sl8 sl9 sl10 sl11 sl12 sl13 sl14 sl15 sl16 : Array (Option Value)} {oc1 kV1 dc1 pm1 cd1 ct1 oc2 kV2 dc2 pm2 cd2 ct2 oc3 kV3 dc3 pm3 cd3 ct3 oc4 kV4 dc4 pm4 cd4 ct4 oc5 kV5 dc5 pm5 cd5 ct5 oc6 kV6 dc6 pm6 cd6 ct6 oc7 kV7 dc7 pm7 cd7 ct7 oc8 kV8 dc8 pm8 cd8 ct8 oc9 kV9 dc9 pm9 cd9 ct9 oc10 kV10 dc10 pm10 cd10 ct10 oc11 kV11 dc11 pm11 cd11 ct11 oc12 kV12 dc12 pm12 cd12 ct12 oc13 kV13 dc13 pm13 cd13 ct13 oc14 kV14 dc14 pm14 cd14 ct14 oc15 kV15 dc15 pm15 cd15 ct15 oc16 kV16 dc16 pm16 cd16 ct16 : Value}
    (a1 : PySem.W.nsIn K mainGlobals "is_set" = some (some (.ref f1)))
    (l1 : K.lookup f1 = some ⟨oc1, od1, .func (PySem.W.fnOf "is_set" "is_set" (defArgs s_is_set) (defBody s_is_set) (defScope s_is_set) .none kV1 dc1 pm1 an1 cd1 ct1), sl1⟩) (c1 : PySem.W.codeIn K cd1 "is_set" = true) (k1 : PySem.W.keepIn K (.ref f1) = true)
    (a2 : PySem.W.nsIn K mainGlobals "shown" = some (some (.ref f2)))
    (l2 : K.lookup f2 = some ⟨oc2, od2, .func (PySem.W.fnOf "shown" "shown" (defArgs s_shown) (defBody s_shown) (defScope s_shown) .none kV2 dc2 pm2 an2 cd2 ct2), sl2⟩) (c2 : PySem.W.codeIn K cd2 "shown" = true) (k2 : PySem.W.keepIn K (.ref f2) = true)
    (a3 : PySem.W.nsIn K mainGlobals "place_of" = some (some (.ref f3)))
    (l3 : K.lookup f3 = some ⟨oc3, od3, .func (PySem.W.fnOf "place_of" "place_of" (defArgs s_place_of) (defBody s_place_of) (defScope s_place_of) .none kV3 dc3 pm3 an3 cd3 ct3), sl3⟩) (c3 : PySem.W.codeIn K cd3 "place_of" = true) (k3 : PySem.W.keepIn K (.ref f3) = true)
    (a4 : PySem.W.nsIn K mainGlobals "bits_of" = some (some (.ref f4)))
    (l4 : K.lookup f4 = some ⟨oc4, od4, .func (PySem.W.fnOf "bits_of" "bits_of" (defArgs s_bits_of) (defBody s_bits_of) (defScope s_bits_of) .none kV4 dc4 pm4 an4 cd4 ct4), sl4⟩) (c4 : PySem.W.codeIn K cd4 "bits_of" = true) (k4 : PySem.W.keepIn K (.ref f4) = true)
    (a5 : PySem.W.nsIn K mainGlobals "read" = some (some (.ref f5)))
    (l5 : K.lookup f5 = some ⟨oc5, od5, .func (PySem.W.fnOf "read" "read" (defArgs s_read) (defBody s_read) (defScope s_read) .none kV5 dc5 pm5 an5 cd5 ct5), sl5⟩) (c5 : PySem.W.codeIn K cd5 "read" = true) (k5 : PySem.W.keepIn K (.ref f5) = true)
    (a6 : PySem.W.nsIn K mainGlobals "_law_whole" = some (some (.ref f6)))
    (l6 : K.lookup f6 = some ⟨oc6, od6, .func (PySem.W.fnOf "_law_whole" "_law_whole" (defArgs s_l_whole) (defBody s_l_whole) (defScope s_l_whole) .none kV6 dc6 pm6 an6 cd6 ct6), sl6⟩) (c6 : PySem.W.codeIn K cd6 "_law_whole" = true) (k6 : PySem.W.keepIn K (.ref f6) = true)
    (a7 : PySem.W.nsIn K mainGlobals "_law_cell_at" = some (some (.ref f7)))
    (l7 : K.lookup f7 = some ⟨oc7, od7, .func (PySem.W.fnOf "_law_cell_at" "_law_cell_at" (defArgs s_l_cell_at) (defBody s_l_cell_at) (defScope s_l_cell_at) .none kV7 dc7 pm7 an7 cd7 ct7), sl7⟩) (c7 : PySem.W.codeIn K cd7 "_law_cell_at" = true) (k7 : PySem.W.keepIn K (.ref f7) = true)
    (a8 : PySem.W.nsIn K mainGlobals "_law_mix" = some (some (.ref f8)))
    (l8 : K.lookup f8 = some ⟨oc8, od8, .func (PySem.W.fnOf "_law_mix" "_law_mix" (defArgs s_l_mix) (defBody s_l_mix) (defScope s_l_mix) .none kV8 dc8 pm8 an8 cd8 ct8), sl8⟩) (c8 : PySem.W.codeIn K cd8 "_law_mix" = true) (k8 : PySem.W.keepIn K (.ref f8) = true)
    (a9 : PySem.W.nsIn K mainGlobals "_law_mixed" = some (some (.ref f9)))
    (l9 : K.lookup f9 = some ⟨oc9, od9, .func (PySem.W.fnOf "_law_mixed" "_law_mixed" (defArgs s_l_mixed) (defBody s_l_mixed) (defScope s_l_mixed) .none kV9 dc9 pm9 an9 cd9 ct9), sl9⟩) (c9 : PySem.W.codeIn K cd9 "_law_mixed" = true) (k9 : PySem.W.keepIn K (.ref f9) = true)
    (a10 : PySem.W.nsIn K mainGlobals "_law_bits" = some (some (.ref f10)))
    (l10 : K.lookup f10 = some ⟨oc10, od10, .func (PySem.W.fnOf "_law_bits" "_law_bits" (defArgs s_l_bits) (defBody s_l_bits) (defScope s_l_bits) .none kV10 dc10 pm10 an10 cd10 ct10), sl10⟩) (c10 : PySem.W.codeIn K cd10 "_law_bits" = true) (k10 : PySem.W.keepIn K (.ref f10) = true)
    (a11 : PySem.W.nsIn K mainGlobals "_law_set" = some (some (.ref f11)))
    (l11 : K.lookup f11 = some ⟨oc11, od11, .func (PySem.W.fnOf "_law_set" "_law_set" (defArgs s_l_set) (defBody s_l_set) (defScope s_l_set) .none kV11 dc11 pm11 an11 cd11 ct11), sl11⟩) (c11 : PySem.W.codeIn K cd11 "_law_set" = true) (k11 : PySem.W.keepIn K (.ref f11) = true)
    (a12 : PySem.W.nsIn K mainGlobals "_law_sizes" = some (some (.ref f12)))
    (l12 : K.lookup f12 = some ⟨oc12, od12, .func (PySem.W.fnOf "_law_sizes" "_law_sizes" (defArgs s_l_sizes) (defBody s_l_sizes) (defScope s_l_sizes) .none kV12 dc12 pm12 an12 cd12 ct12), sl12⟩) (c12 : PySem.W.codeIn K cd12 "_law_sizes" = true) (k12 : PySem.W.keepIn K (.ref f12) = true)
    (a13 : PySem.W.nsIn K mainGlobals "_law_refused" = some (some (.ref f13)))
    (l13 : K.lookup f13 = some ⟨oc13, od13, .func (PySem.W.fnOf "_law_refused" "_law_refused" (defArgs s_l_refused) (defBody s_l_refused) (defScope s_l_refused) .none kV13 dc13 pm13 an13 cd13 ct13), sl13⟩) (c13 : PySem.W.codeIn K cd13 "_law_refused" = true) (k13 : PySem.W.keepIn K (.ref f13) = true)
    (a14 : PySem.W.nsIn K mainGlobals "_law_spoilt" = some (some (.ref f14)))
    (l14 : K.lookup f14 = some ⟨oc14, od14, .func (PySem.W.fnOf "_law_spoilt" "_law_spoilt" (defArgs s_l_spoilt) (defBody s_l_spoilt) (defScope s_l_spoilt) .none kV14 dc14 pm14 an14 cd14 ct14), sl14⟩) (c14 : PySem.W.codeIn K cd14 "_law_spoilt" = true) (k14 : PySem.W.keepIn K (.ref f14) = true)
    (a15 : PySem.W.nsIn K mainGlobals "_law_kinds_good" = some (some (.ref f15)))
    (l15 : K.lookup f15 = some ⟨oc15, od15, .func (PySem.W.fnOf "_law_kinds_good" "_law_kinds_good" (defArgs s_l_kinds_good) (defBody s_l_kinds_good) (defScope s_l_kinds_good) .none kV15 dc15 pm15 an15 cd15 ct15), sl15⟩) (c15 : PySem.W.codeIn K cd15 "_law_kinds_good" = true) (k15 : PySem.W.keepIn K (.ref f15) = true)
    (a16 : PySem.W.nsIn K mainGlobals "law" = some (some (.ref f16)))
    (l16 : K.lookup f16 = some ⟨oc16, od16, .func (PySem.W.fnOf "law" "law" (defArgs s_law) (defBody s_law) (defScope s_law) .none kV16 dc16 pm16 an16 cd16 ct16), sl16⟩) (c16 : PySem.W.codeIn K cd16 "law" = true) (k16 : PySem.W.keepIn K (.ref f16) = true)
    (z_str : PySem.W.nsIn K mainGlobals "str" = some none)
    (z_int : PySem.W.nsIn K mainGlobals "int" = some none)
    (z_len : PySem.W.nsIn K mainGlobals "len" = some none)
    (z_tuple : PySem.W.nsIn K mainGlobals "tuple" = some none)
    (z_isinstance : PySem.W.nsIn K mainGlobals "isinstance" = some none)
    (z_bool : PySem.W.nsIn K mainGlobals "bool" = some none)
    (z_range : PySem.W.nsIn K mainGlobals "range" = some none)
    (z_sorted : PySem.W.nsIn K mainGlobals "sorted" = some none)
    (z_set : PySem.W.nsIn K mainGlobals "set" = some none)
    (z_ValueError : PySem.W.nsIn K mainGlobals "ValueError" = some none)
    (z_list : PySem.W.nsIn K mainGlobals "list" = some none)
    (q_MOST_FIGURES : PySem.W.nsIn K mainGlobals "MOST_FIGURES" = some (some (.int 2 t_MOST_FIGURES)))
    (q_FIGURES : PySem.W.nsIn K mainGlobals "FIGURES" = some (some (.str "0123456789" t_FIGURES)))
    (n_BadText : PySem.W.nsIn K mainGlobals "BadText" = some (some (.ref c_BadText)))
    (n_RainError : PySem.W.nsIn K mainGlobals "RainError" = some (some (.ref c_RainError)))
    (n_BadPlaces : PySem.W.nsIn K mainGlobals "BadPlaces" = some (some (.ref c_BadPlaces)))
    (n_BadValue : PySem.W.nsIn K mainGlobals "BadValue" = some (some (.ref c_BadValue)))
    (n_Full : PySem.W.nsIn K mainGlobals "Full" = some (some (.ref c_Full)))
    (n_IsOut : PySem.W.nsIn K mainGlobals "IsOut" = some (some (.ref c_IsOut)))
    (n_NoParcel : PySem.W.nsIn K mainGlobals "NoParcel" = some (some (.ref c_NoParcel)))
    (n_NoYard : PySem.W.nsIn K mainGlobals "NoYard" = some (some (.ref c_NoYard)))
    (n_NotOut : PySem.W.nsIn K mainGlobals "NotOut" = some (some (.ref c_NotOut)))
    (x_BadText : PySem.W.excIn K c_BadText [.type "ValueError", .type "Exception", .type "BaseException", .type "object"] "ValueError.__new__" = true)
    (kk_BadText : PySem.W.keepIn K (.ref c_BadText) = true)
    (sb_BadText : PySem.W.subIn K (.ref c_BadText) (.type "BaseException") = some true)
    (ty_BadText : PySem.W.typeIn K (.ref c_BadText) = some (.type "type"))
    (hd_RainError : PySem.W.hasDictIn K c_RainError = true)
    (ty_RainError : PySem.W.typeIn K (.ref c_RainError) = some (.type "type"))
    (sb_RainError : PySem.W.subIn K (.ref c_RainError) (.type "BaseException") = some true)
    (su_BadText_RainError : PySem.W.subIn K (.ref c_BadText) (.ref c_RainError) = some true)
    (xa_BadText : PySem.W.findIn K (.ref c_BadText) "__getattribute__" = some (some (.builtin "BaseException.__getattribute__")))
    (xb_BadText : PySem.W.findIn K (.ref c_BadText) "__getattr__" = some none)
    (xe_BadText : PySem.W.findIn K (.ref c_BadText) "__class__" = some (some (.builtin "object.__class__")))
    (xh_BadText : PySem.W.mroIn K c_BadText (.type "object") = some true)
    (hd_BadText : PySem.W.hasDictIn K c_BadText = true)
    (su_BadText_BadText : PySem.W.subIn K (.ref c_BadText) (.ref c_BadText) = some true)
    (xf : PySem.W.specialIn K (.builtin "object.__class__") "__get__" = some (some (.builtin "getset_descriptor.__get__")))
    (xg : PySem.W.takesIn K (.builtin "object.__class__") = some true)
    (hd_BadPlaces : PySem.W.hasDictIn K c_BadPlaces = true)
    (ty_BadPlaces : PySem.W.typeIn K (.ref c_BadPlaces) = some (.type "type"))
    (su_BadText_BadPlaces : PySem.W.subIn K (.ref c_BadText) (.ref c_BadPlaces) = some false)
    (hd_BadValue : PySem.W.hasDictIn K c_BadValue = true)
    (ty_BadValue : PySem.W.typeIn K (.ref c_BadValue) = some (.type "type"))
    (su_BadText_BadValue : PySem.W.subIn K (.ref c_BadText) (.ref c_BadValue) = some false)
    (hd_Full : PySem.W.hasDictIn K c_Full = true)
    (ty_Full : PySem.W.typeIn K (.ref c_Full) = some (.type "type"))
    (su_BadText_Full : PySem.W.subIn K (.ref c_BadText) (.ref c_Full) = some false)
    (hd_IsOut : PySem.W.hasDictIn K c_IsOut = true)
    (ty_IsOut : PySem.W.typeIn K (.ref c_IsOut) = some (.type "type"))
    (su_BadText_IsOut : PySem.W.subIn K (.ref c_BadText) (.ref c_IsOut) = some false)
    (hd_NoParcel : PySem.W.hasDictIn K c_NoParcel = true)
    (ty_NoParcel : PySem.W.typeIn K (.ref c_NoParcel) = some (.type "type"))
    (su_BadText_NoParcel : PySem.W.subIn K (.ref c_BadText) (.ref c_NoParcel) = some false)
    (hd_NoYard : PySem.W.hasDictIn K c_NoYard = true)
    (ty_NoYard : PySem.W.typeIn K (.ref c_NoYard) = some (.type "type"))
    (su_BadText_NoYard : PySem.W.subIn K (.ref c_BadText) (.ref c_NoYard) = some false)
    (hd_NotOut : PySem.W.hasDictIn K c_NotOut = true)
    (ty_NotOut : PySem.W.typeIn K (.ref c_NotOut) = some (.type "type"))
    (su_BadText_NotOut : PySem.W.subIn K (.ref c_BadText) (.ref c_NotOut) = some false)
    (sv_BadText : PySem.W.subIn K (.ref c_BadText) (.type "ValueError") = some true) : ∃ fd : FuncData, (∀ (s : Shared) (v : Value), BindsTo s fd ⟨[v], []⟩ [("_law_script", v)]) ∧ ∀ base : Heap, K.In base → base.Ns mainGlobals mg → FnOk l.prog w K mg base CX0 4 fa fd ["_law_script"] (spG K rel_law) := by
  have e := hfa.symm.trans (PySem.W.mg_of X G a16)
  cases e
  have T : Bi mg := ⟨PySem.W.mg_none_of X G z_str, PySem.W.mg_none_of X G z_int, PySem.W.mg_none_of X G z_len, PySem.W.mg_none_of X G z_tuple, PySem.W.mg_none_of X G z_isinstance, PySem.W.mg_none_of X G z_bool, PySem.W.mg_none_of X G z_range, PySem.W.mg_none_of X G z_sorted, PySem.W.mg_none_of X G z_set, PySem.W.mg_none_of X G z_ValueError, PySem.W.mg_none_of X G z_list, ⟨_, PySem.W.mg_of X G q_MOST_FIGURES⟩, ⟨_, PySem.W.mg_of X G q_FIGURES⟩⟩
  obtain ⟨c, ec⟩ : ∃ c : Ca, c = ⟨c_BadText, c_RainError, c_BadPlaces, c_BadValue, c_Full, c_IsOut, c_NoParcel, c_NoYard, c_NotOut⟩ := ⟨_, rfl⟩
  have Q : Cs K mg c := by subst ec; exact ⟨PySem.W.mg_of X G n_BadText, PySem.W.mg_of X G n_RainError, PySem.W.mg_of X G n_BadPlaces, PySem.W.mg_of X G n_BadValue, PySem.W.mg_of X G n_Full, PySem.W.mg_of X G n_IsOut, PySem.W.mg_of X G n_NoParcel, PySem.W.mg_of X G n_NoYard, PySem.W.mg_of X G n_NotOut, ⟨PySem.W.mg_of X G n_BadText, x_BadText, kk_BadText, sb_BadText, ty_BadText⟩, PySem.W.exm_ref sb_RainError hd_RainError ty_RainError su_BadText_RainError, ⟨xa_BadText, xb_BadText, sb_BadText, hd_BadText, xe_BadText, xf, xg, xh_BadText⟩, kit_own hd_BadPlaces ty_BadPlaces su_BadText_BadPlaces su_BadText_BadText, kit_own hd_BadValue ty_BadValue su_BadText_BadValue su_BadText_BadText, kit_own hd_Full ty_Full su_BadText_Full su_BadText_BadText, kit_own hd_IsOut ty_IsOut su_BadText_IsOut su_BadText_BadText, kit_own hd_BadText ty_BadText su_BadText_BadText su_BadText_BadText, kit_own hd_NoParcel ty_NoParcel su_BadText_NoParcel su_BadText_BadText, kit_own hd_NoYard ty_NoYard su_BadText_NoYard su_BadText_BadText, kit_own hd_NotOut ty_NotOut su_BadText_NotOut su_BadText_BadText, kit_ve sv_BadText⟩
  refine ⟨PySem.W.fnOf "law" "law" (defArgs s_law) (defBody s_law) (defScope s_law) .none kV16 dc16 pm16 an16 cd16 ct16, fun s v => .of_eq rfl, fun base _ _ => ?_⟩
  have F8 := fun_mk (st := s_l_mix) l8 c8 k8
  have k_l_mix : Kn l.prog w K mg base "_law_mix" 1 rel_l_mix := kn_of (ok_l_mix F8 T ) (PySem.W.mg_of X G a8) k8 (F8.binds (ps := ["_law_cell", "_law_prime", "_law_many"]) fun _ _ _ _ _ _ us hl => match us, hl with | [_, _, _], _ => rfl)
  have F12 := fun_mk (st := s_l_sizes) l12 c12 k12
  have k_l_sizes : Kn l.prog w K mg base "_law_sizes" 2 rel_l_sizes := kn_of (ok_l_sizes F12 T k_l_mix) (PySem.W.mg_of X G a12) k12 (F12.binds (ps := ["_law_one", "_law_other"]) fun _ _ _ _ _ _ us hl => match us, hl with | [_, _], _ => rfl)
  have F7 := fun_mk (st := s_l_cell_at) l7 c7 k7
  have k_l_cell_at : Kn l.prog w K mg base "_law_cell_at" 1 rel_l_cell_at := kn_of (ok_l_cell_at F7 T ) (PySem.W.mg_of X G a7) k7 (F7.binds (ps := ["_law_script", "_law_k"]) fun _ _ _ _ _ _ us hl => match us, hl with | [_, _], _ => rfl)
  have F9 := fun_mk (st := s_l_mixed) l9 c9 k9
  have k_l_mixed : Kn l.prog w K mg base "_law_mixed" 1 rel_l_mixed := kn_of (ok_l_mixed F9 T ) (PySem.W.mg_of X G a9) k9 (F9.binds (ps := ["_law_cell", "_law_k", "_law_many"]) fun _ _ _ _ _ _ us hl => match us, hl with | [_, _, _], _ => rfl)
  have F11 := fun_mk (st := s_l_set) l11 c11 k11
  have k_l_set : Kn l.prog w K mg base "_law_set" 2 rel_l_set := kn_of (ok_l_set F11 T k_l_mix k_l_mixed) (PySem.W.mg_of X G a11) k11 (F11.binds (ps := ["_law_cell", "_law_many"]) fun _ _ _ _ _ _ us hl => match us, hl with | [_, _], _ => rfl)
  have F10 := fun_mk (st := s_l_bits) l10 c10 k10
  have k_l_bits : Kn l.prog w K mg base "_law_bits" 2 rel_l_bits := kn_of (ok_l_bits F10 T k_l_mixed) (PySem.W.mg_of X G a10) k10 (F10.binds (ps := ["_law_cell", "_law_wide"]) fun _ _ _ _ _ _ us hl => match us, hl with | [_, _], _ => rfl)
  have F2 := fun_mk (st := s_shown) l2 c2 k2
  have k_shown : Kn l.prog w K mg base "shown" 1 rel_shown := kn_of (ok_shown F2 T ) (PySem.W.mg_of X G a2) k2 (F2.binds (ps := ["places", "value"]) fun _ _ _ _ _ _ us hl => match us, hl with | [_, _], _ => rfl)
  have F3 := fun_mk (st := s_place_of) l3 c3 k3
  have k_place_of : KnX l.prog w K mg base "place_of" 1 (rel_place_of c) := ⟨⟨_, _, _, (ok_place_of F3 T Q ), PySem.W.mg_of X G a3, k3, (F3.binds (ps := ["word"]) fun _ _ _ _ _ _ us hl => match us, hl with | [_], _ => rfl)⟩⟩
  have F1 := fun_mk (st := s_is_set) l1 c1 k1
  have k_is_set : Kn l.prog w K mg base "is_set" 1 rel_is_set := kn_of (ok_is_set F1 T ) (PySem.W.mg_of X G a1) k1 (F1.binds (ps := ["places", "many"]) fun _ _ _ _ _ _ us hl => match us, hl with | [_, _], _ => rfl)
  have F4 := fun_mk (st := s_bits_of) l4 c4 k4
  have k_bits_of : KnX l.prog w K mg base "bits_of" 1 (rel_bits_of c) := ⟨⟨_, _, _, (ok_bits_of F4 T Q ), PySem.W.mg_of X G a4, k4, (F4.binds (ps := ["word", "wide"]) fun _ _ _ _ _ _ us hl => match us, hl with | [_, _], _ => rfl)⟩⟩
  have F5 := fun_mk (st := s_read) l5 c5 k5
  have k_read : KnX l.prog w K mg base "read" 2 (rel_read c) := ⟨⟨_, _, _, (ok_read F5 T Q k_place_of k_is_set k_bits_of), PySem.W.mg_of X G a5, k5, (F5.binds (ps := ["text", "many", "wide"]) fun _ _ _ _ _ _ us hl => match us, hl with | [_, _, _], _ => rfl)⟩⟩
  have F6 := fun_mk (st := s_l_whole) l6 c6 k6
  have k_l_whole : Kn l.prog w K mg base "_law_whole" 1 rel_l_whole := kn_of (ok_l_whole F6 T ) (PySem.W.mg_of X G a6) k6 (F6.binds (ps := ["_law_found"]) fun _ _ _ _ _ _ us hl => match us, hl with | [_], _ => rfl)
  have F15 := fun_mk (st := s_l_kinds_good) l15 c15 k15
  have k_l_kinds_good : Kn l.prog w K mg base "_law_kinds_good" 2 rel_l_kinds_good := kn_of (ok_l_kinds_good F15 T k_l_whole) (PySem.W.mg_of X G a15) k15 (F15.binds (ps := ["_law_found"]) fun _ _ _ _ _ _ us hl => match us, hl with | [_], _ => rfl)
  have F13 := fun_mk (st := s_l_refused) l13 c13 k13
  have k_l_refused : Kn l.prog w K mg base "_law_refused" 3 (rel_l_refused c) := kn_of (ok_l_refused F13 T Q k_read) (PySem.W.mg_of X G a13) k13 (F13.binds (ps := ["_law_text", "_law_many", "_law_wide"]) fun _ _ _ _ _ _ us hl => match us, hl with | [_, _, _], _ => rfl)
  have F14 := fun_mk (st := s_l_spoilt) l14 c14 k14
  have k_l_spoilt : Kn l.prog w K mg base "_law_spoilt" 1 rel_l_spoilt := kn_of (ok_l_spoilt F14 T ) (PySem.W.mg_of X G a14) k14 (F14.binds (ps := ["_law_words", "_law_way", "_law_at", "_law_many"]) fun _ _ _ _ _ _ us hl => match us, hl with | [_, _, _, _], _ => rfl)
  have F16 := fun_mk (st := s_law) l16 c16 k16
  exact ok_law F16 T Q k_l_sizes k_l_cell_at k_l_set k_l_bits k_shown k_read k_l_kinds_good k_l_mix k_l_refused k_l_spoilt
end K04
open PySem PySem.W PyProof.Rows in
set_option maxRecDepth 100000 in
set_option maxHeartbeats 0 in
theorem PySem.Challenge.cw_rainparcels_k04_parcels_written_holds : PySem.Challenge.rw_rainparcels_k04_parcels_written.Holds := by
  w_on; o_law; k_head; (case hw => w_witness2)
  k_fill
  refine L2.walk_of (l := PySem.Challenge.rw_rainparcels_k04_parcels_written) (n := 63) (k := 4) (x := "_law_script") (CX := fun _ => L2.CX0) (sp := fun w => GL.spG _ K04.rel_law) rfl (by decide) rfl ⟨rfl, by decide, by decide⟩ (fun w h Y => PySem.W.kIn_of Y) ?F (fun w H a ns hl _ hS => GL.law_in hl hS fun _ _ => ⟨ns, rfl, hl, rfl⟩) (fun _ _ _ _ _ z => z)
  case F =>
    intro w mg fa h KX G hmg
    refine' K04.all_mk KX G hmg ?a1 ?l1 ?c1 ?k1 ?a2 ?l2 ?c2 ?k2 ?a3 ?l3 ?c3 ?k3 ?a4 ?l4 ?c4 ?k4 ?a5 ?l5 ?c5 ?k5 ?a6 ?l6 ?c6 ?k6 ?a7 ?l7 ?c7 ?k7 ?a8 ?l8 ?c8 ?k8 ?a9 ?l9 ?c9 ?k9 ?a10 ?l10 ?c10 ?k10 ?a11 ?l11 ?c11 ?k11 ?a12 ?l12 ?c12 ?k12 ?a13 ?l13 ?c13 ?k13 ?a14 ?l14 ?c14 ?k14 ?a15 ?l15 ?c15 ?k15 ?a16 ?l16 ?c16 ?k16 ?z_str ?z_int ?z_len ?z_tuple ?z_isinstance ?z_bool ?z_range ?z_sorted ?z_set ?z_ValueError ?z_list ?q_MOST_FIGURES ?q_FIGURES ?n_BadText ?n_RainError ?n_BadPlaces ?n_BadValue ?n_Full ?n_IsOut ?n_NoParcel ?n_NoYard ?n_NotOut ?x_BadText ?kk_BadText ?sb_BadText ?ty_BadText ?hd_RainError ?ty_RainError ?sb_RainError ?su_BadText_RainError ?xa_BadText ?xb_BadText ?xe_BadText ?xh_BadText ?hd_BadText ?su_BadText_BadText ?xf ?xg ?hd_BadPlaces ?ty_BadPlaces ?su_BadText_BadPlaces ?hd_BadValue ?ty_BadValue ?su_BadText_BadValue ?hd_Full ?ty_Full ?su_BadText_Full ?hd_IsOut ?ty_IsOut ?su_BadText_IsOut ?hd_NoParcel ?ty_NoParcel ?su_BadText_NoParcel ?hd_NoYard ?ty_NoYard ?su_BadText_NoYard ?hd_NotOut ?ty_NotOut ?su_BadText_NotOut ?sv_BadText
    (case a1 => k_is)
    (case l1 => k_is)
    (case c1 => k_is)
    (case k1 => k_is)
    (case a2 => k_is)
    (case l2 => k_is)
    (case c2 => k_is)
    (case k2 => k_is)
    (case a3 => k_is)
    (case l3 => k_is)
    (case c3 => k_is)
    (case k3 => k_is)
    (case a4 => k_is)
    (case l4 => k_is)
    (case c4 => k_is)
    (case k4 => k_is)
    (case a5 => k_is)
    (case l5 => k_is)
    (case c5 => k_is)
    (case k5 => k_is)
    (case a6 => k_is)
    (case l6 => k_is)
    (case c6 => k_is)
    (case k6 => k_is)
    (case a7 => k_is)
    (case l7 => k_is)
    (case c7 => k_is)
    (case k7 => k_is)
    (case a8 => k_is)
    (case l8 => k_is)
    (case c8 => k_is)
    (case k8 => k_is)
    (case a9 => k_is)
    (case l9 => k_is)
    (case c9 => k_is)
    (case k9 => k_is)
    (case a10 => k_is)
    (case l10 => k_is)
    (case c10 => k_is)
    (case k10 => k_is)
    (case a11 => k_is)
    (case l11 => k_is)
    (case c11 => k_is)
    (case k11 => k_is)
    (case a12 => k_is)
    (case l12 => k_is)
    (case c12 => k_is)
    (case k12 => k_is)
    (case a13 => k_is)
    (case l13 => k_is)
    (case c13 => k_is)
    (case k13 => k_is)
    (case a14 => k_is)
    (case l14 => k_is)
    (case c14 => k_is)
    (case k14 => k_is)
    (case a15 => k_is)
    (case l15 => k_is)
    (case c15 => k_is)
    (case k15 => k_is)
    (case a16 => k_is)
    (case l16 => k_is)
    (case c16 => k_is)
    (case k16 => k_is)
    (case z_str => k_is)
    (case z_int => k_is)
    (case z_len => k_is)
    (case z_tuple => k_is)
    (case z_isinstance => k_is)
    (case z_bool => k_is)
    (case z_range => k_is)
    (case z_sorted => k_is)
    (case z_set => k_is)
    (case z_ValueError => k_is)
    (case z_list => k_is)
    (case q_MOST_FIGURES => k_is)
    (case q_FIGURES => k_is)
    (case n_BadText => k_is)
    (case n_RainError => k_is)
    (case n_BadPlaces => k_is)
    (case n_BadValue => k_is)
    (case n_Full => k_is)
    (case n_IsOut => k_is)
    (case n_NoParcel => k_is)
    (case n_NoYard => k_is)
    (case n_NotOut => k_is)
    (case x_BadText => k_exc)
    (case kk_BadText => k_is)
    (case sb_BadText => k_is)
    (case ty_BadText => k_is)
    (case hd_RainError => k_is)
    (case ty_RainError => k_is)
    (case sb_RainError => k_is)
    (case su_BadText_RainError => k_is)
    (case xa_BadText => k_is)
    (case xb_BadText => k_is)
    (case xe_BadText => k_is)
    (case xh_BadText => k_is)
    (case hd_BadText => k_is)
    (case su_BadText_BadText => k_is)
    (case xf => k_is)
    (case xg => k_is)
    (case hd_BadPlaces => k_is)
    (case ty_BadPlaces => k_is)
    (case su_BadText_BadPlaces => k_is)
    (case hd_BadValue => k_is)
    (case ty_BadValue => k_is)
    (case su_BadText_BadValue => k_is)
    (case hd_Full => k_is)
    (case ty_Full => k_is)
    (case su_BadText_Full => k_is)
    (case hd_IsOut => k_is)
    (case ty_IsOut => k_is)
    (case su_BadText_IsOut => k_is)
    (case hd_NoParcel => k_is)
    (case ty_NoParcel => k_is)
    (case su_BadText_NoParcel => k_is)
    (case hd_NoYard => k_is)
    (case ty_NoYard => k_is)
    (case su_BadText_NoYard => k_is)
    (case hd_NotOut => k_is)
    (case ty_NotOut => k_is)
    (case su_BadText_NotOut => k_is)
    (case sv_BadText => k_is)

