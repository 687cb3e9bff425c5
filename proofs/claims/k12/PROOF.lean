import PyProof.Rows.All
import Wide.All
import OpenK.AllK
import Wide.FinOn
import HandS.ForMost
import HandS.Exc
import HandS.TryOnly
import HandS.ExcOwn
import HandS.WordsExc
import HandS.Conv
import HandS.IsInst
import HandS.TupAny
import HandS.TupMul
import HandS.SortInts
import HandS.SetFor
import HandS.Zip
import HandS.Strs
import HandS.ExcIs
import PySem.Challenge.RW_rainparcels_k12_suspects
set_option Elab.async false
set_option linter.all false
set_option maxRecDepth 100000
set_option maxHeartbeats 4000000
/-! GL: a layer of one's own: what a def reckons is told over plain data, the heap kept out of sight. -/
namespace GL
open PySem PySem.Spec L2

/-- the second heap holds all of the first -/
abbrev Sub (H H' : Hp) : Prop := ∀ a o, H a = some o → H' a = some o
theorem Sub.rfl' {H : Hp} : Sub H H := fun _ _ h => h
theorem Sub.tr {H H1 H2 : Hp} (p : Sub H H1) (q : Sub H1 H2) : Sub H H2 := fun a o h => q a o (p a o h)
theorem sub_rd {H H' : Hp} {a : Addr} {u : HO} (e : Sub H H') (h : Rd H a u) : Rd H' a u := h.elim (fun z => .inl (e a _ z)) fun ⟨o, z⟩ => .inr ⟨o, e a _ z⟩
theorem sub_l {K : PySem.W.Frag} {H H' : Hp} {a : Addr} {xs : List V} (e : Sub H H') (h : SqL K H a xs) : SqL K H' a xs := h.elim (fun z => .inl (sub_rd e z)) .inr
theorem sub_t {K : PySem.W.Frag} {H H' : Hp} {a : Addr} {xs : List V} (e : Sub H H') (h : SqT K H a xs) : SqT K H' a xs := h.elim (fun z => .inl (sub_rd e z)) .inr
theorem sub_free {H H' : Hp} {p : Addr} (e : Sub H H') (h : H' p = none) : H p = none := by
  cases q : H p with
  | none => rfl
  | some o => rw [e p o q] at h; cases h
theorem sub_new {H : Hp} {p : Addr} {o : HO} (h : H p = none) : Sub H (upd H p o) := fun a u e => by
  rw [upd_ne (ne_of_none e h)]; exact e
theorem sub_upd {B H : Hp} {p : Addr} {o : HO} (e : Sub B H) (h : B p = none) : Sub B (upd H p o) := fun a u z => by
  rw [upd_ne (ne_of_none z h)]; exact e a u z
theorem sub_upd2 {B H : Hp} {p : Addr} {o : HO} (e : Sub B H) (h : H p = none) : Sub (upd B p o) (upd H p o) := fun a u z => by
  by_cases q : a = p
  · subst q; rw [upd_same] at z ⊢; exact z
  · rw [upd_ne q] at z ⊢; exact e a u z

mutual
/-- the value v is the data d: its lists and tuples stand in H -/
inductive Dq (H : Hp) : V → PyData → Prop
  | non : Dq H .non .none
  | bl (b : Bool) : Dq H (.bl b) (.bool b)
  | int (i : Int) : Dq H (.int i) (.int i)
  | str (x : Str) : Dq H (.str x) (.str x)
  | lst {p : Addr} {vs : List V} {ds : List PyData} : H p = some (.lst vs) → Dqs H vs ds → Dq H (.ref p) (.list ds)
  | tup {p : Addr} {vs : List V} {ds : List PyData} : H p = some (.tup vs) → Dqs H vs ds → Dq H (.ref p) (.tuple ds)
inductive Dqs (H : Hp) : List V → List PyData → Prop
  | nil : Dqs H [] []
  | cons {v : V} {vs : List V} {d : PyData} {ds : List PyData} : Dq H v d → Dqs H vs ds → Dqs H (v :: vs) (d :: ds)
end
mutual
theorem dq_sub {H H' : Hp} (e : Sub H H') : ∀ (d : PyData) (v : V), Dq H v d → Dq H' v d
  | .none, _, h => by cases h; exact .non
  | .bool b, _, h => by cases h; exact .bl b
  | .int i, _, h => by cases h; exact .int i
  | .str x, _, h => by cases h; exact .str x
  | .list ds, _, h => by
    cases h with
    | lst hs ha => exact .lst (e _ _ hs) (dqs_sub e ds _ ha)
  | .tuple ds, _, h => by
    cases h with
    | tup hs ha => exact .tup (e _ _ hs) (dqs_sub e ds _ ha)
  | .dict _, _, h => by cases h
theorem dqs_sub {H H' : Hp} (e : Sub H H') : ∀ (ds : List PyData) (vs : List V), Dqs H vs ds → Dqs H' vs ds
  | [], _, h => by cases h; exact .nil
  | d :: ds, _, h => by
    cases h with
    | cons h1 h2 => exact .cons (dq_sub e d _ h1) (dqs_sub e ds _ h2)
end
mutual
theorem dq_dp {K : PySem.W.Frag} {H : Hp} : ∀ (d : PyData) (v : V), Dq H v d → Dp K H v d
  | .none, _, h => by cases h; exact .non
  | .bool b, _, h => by cases h; exact .bl b
  | .int i, _, h => by cases h; exact .int i
  | .str x, _, h => by cases h; exact .str x
  | .list ds, _, h => by
    cases h with
    | lst hs ha => exact .lst (.inl (.inl hs)) (dqs_dps ds _ ha)
  | .tuple ds, _, h => by
    cases h with
    | tup hs ha => exact .tup (.inl (.inl hs)) (dqs_dps ds _ ha)
  | .dict _, _, h => by cases h
theorem dqs_dps {K : PySem.W.Frag} {H : Hp} : ∀ (ds : List PyData) (vs : List V), Dqs H vs ds → DpAll K H vs ds
  | [], _, h => by cases h; exact .nil
  | d :: ds, _, h => by
    cases h with
    | cons h1 h2 => exact .cons (dq_dp d _ h1) (dqs_dps ds _ h2)
end

/-- what is known of a value: data for good, the value itself, data for now, a list of one's own -/
inductive A where
  | d (x : PyData)
  | v (x : V)
  | t (x : PyData)
  | o (xs : List PyData)
  | s (ns : List Int)
  | r (xs : List PyData)

def RA (K : PySem.W.Frag) (B H : Hp) (v : V) : A → Prop
  | .d x => Dq B v x
  | .v x => v = x
  | .t x => Dq H v x
  | .o xs => ∃ p vs, v = .ref p ∧ B p = none ∧ H p = some (.lst vs) ∧ Dqs B vs xs
  | .s ns => ∃ p, v = .ref p ∧ SqL K B p (ns.map V.int)
  | .r xs => ∃ p vs, v = .ref p ∧ H p = some (.lst vs) ∧ Dqs B vs xs

/-- from (B, H) to (B', H'): both have grown, what H had beside B stays beside B' -/
structure Ext (B H B' H' : Hp) : Prop where
  b : Sub B B'
  h : Sub H H'
  s : Sub B' H'
  n : ∀ a, H a ≠ none → B' a = B a
theorem Ext.rfl' {B H : Hp} (s : Sub B H) : Ext B H B H := ⟨Sub.rfl', Sub.rfl', s, fun _ _ => rfl⟩
theorem Ext.tr {B H B1 H1 B2 H2 : Hp} (p : Ext B H B1 H1) (q : Ext B1 H1 B2 H2) : Ext B H B2 H2 := ⟨p.b.tr q.b, p.h.tr q.h, q.s, fun a h => by
  have h1 : H1 a ≠ none := fun z => h (sub_free p.h z)
  rw [q.n a h1, p.n a h]⟩
/-- a new object, in both -/
theorem Ext.both {B H : Hp} {p : Addr} {o : HO} (s : Sub B H) (h : H p = none) : Ext B H (upd B p o) (upd H p o) :=
  ⟨sub_new (sub_free s h), sub_new h, sub_upd2 s h, fun a z => upd_ne fun q => z (by rw [q]; exact h)⟩
/-- a new object, beside -/
theorem Ext.own {B H : Hp} {p : Addr} {o : HO} (s : Sub B H) (h : H p = none) : Ext B H B (upd H p o) :=
  ⟨Sub.rfl', sub_new h, sub_upd s (sub_free s h), fun _ _ => rfl⟩

theorem RA.mono {K : PySem.W.Frag} {B H B' H' : Hp} {v : V} {a : A} (e : Ext B H B' H') (r : RA K B H v a) : RA K B' H' v a := by
  cases a with
  | d x => exact dq_sub e.b _ _ r
  | v x => exact r
  | t x => exact dq_sub e.h _ _ r
  | o xs =>
    obtain ⟨p, vs, rfl, hb, hp, hd⟩ := r
    exact ⟨p, vs, rfl, by rw [e.n p (by rw [hp]; simp)]; exact hb, e.h _ _ hp, dqs_sub e.b _ _ hd⟩
  | s ns =>
    obtain ⟨p, rfl, h⟩ := r
    exact ⟨p, rfl, sub_l e.b h⟩
  | r xs =>
    obtain ⟨p, vs, rfl, hp, hd⟩ := r
    exact ⟨p, vs, rfl, e.h _ _ hp, dqs_sub e.b _ _ hd⟩

/-- the slots -/
structure SD (K : PySem.W.Frag) (H0 B H : Hp) (σ : L2.St) (δ : List (Option A)) : Prop where
  s : Sub B H
  len : σ.length = δ.length
  rel : ∀ (i : Nat) (a : A), δ[i]? = some (some a) → ∃ v, σ[i]? = some (some v) ∧ RA K B H v a
  dis : ∀ (i j : Nat) (p : Addr) (xs ys : List PyData), δ[i]? = some (some (.o xs)) → δ[j]? = some (some (.o ys)) → σ[i]? = some (some (.ref p)) → σ[j]? = some (some (.ref p)) → i = j
  fr : ∀ (i : Nat) (p : Addr) (xs : List PyData), δ[i]? = some (some (.o xs)) → σ[i]? = some (some (.ref p)) → H0 p = none
theorem SD.mono {K : PySem.W.Frag} {H0 B H B' H' : Hp} {σ : L2.St} {δ : List (Option A)} (e : Ext B H B' H') (S : SD K H0 B H σ δ) : SD K H0 B' H' σ δ :=
  ⟨e.s, S.len, fun i a h => let ⟨v, h1, h2⟩ := S.rel i a h; ⟨v, h1, h2.mono e⟩, S.dis, S.fr⟩
theorem SD.get {K : PySem.W.Frag} {H0 B H : Hp} {σ : L2.St} {δ : List (Option A)} (S : SD K H0 B H σ δ) {i : Nat} {a : A} (h : δ[i]? = some (some a)) : ∃ v, σ[i]? = some (some v) ∧ RA K B H v a := S.rel i a h
/-- a slot gets what is no list of one's own -/
theorem SD.set {K : PySem.W.Frag} {H0 B H : Hp} {σ : L2.St} {δ : List (Option A)} (S : SD K H0 B H σ δ) {i : Nat} {a : A} {v : V} (h : RA K B H v a) (hn : ∀ xs, a ≠ .o xs) : SD K H0 B H (σ.set i (some v)) (δ.set i (some a)) := by
  refine ⟨S.s, by rw [List.length_set, List.length_set, S.len], fun j b hb => ?_, fun j k p xs ys h1 h2 h3 h4 => ?_, fun j p xs h1 h2 => ?_⟩
  · by_cases q : i = j
    · subst q
      by_cases hi : i < δ.length
      · rw [List.getElem?_set_self hi] at hb
        rw [List.getElem?_set_self (by rw [S.len]; exact hi)]
        cases hb
        exact ⟨v, rfl, h⟩
      · rw [List.getElem?_eq_none (by simpa using hi)] at hb; cases hb
    · rw [List.getElem?_set_ne q] at hb ⊢
      exact S.rel j b hb
  · have n : ∀ (j : Nat) (zs : List PyData), (δ.set i (some a))[j]? = some (some (A.o zs)) → i ≠ j := fun j zs z q => by
      subst q
      by_cases hi : i < δ.length
      · rw [List.getElem?_set_self hi] at z
        cases z
        exact hn zs rfl
      · rw [List.getElem?_eq_none (by simpa using hi)] at z; cases z
    have n1 := n j xs h1
    have n2 := n k ys h2
    rw [List.getElem?_set_ne n1] at h1 h3
    rw [List.getElem?_set_ne n2] at h2 h4
    exact S.dis j k p xs ys h1 h2 h3 h4
  · have n : ∀ (j : Nat) (zs : List PyData), (δ.set i (some a))[j]? = some (some (A.o zs)) → i ≠ j := fun j zs z q => by
      subst q
      by_cases hi : i < δ.length
      · rw [List.getElem?_set_self hi] at z
        cases z
        exact hn zs rfl
      · rw [List.getElem?_eq_none (by simpa using hi)] at z; cases z
    have n1 := n j xs h1
    rw [List.getElem?_set_ne n1] at h1 h2
    exact S.fr j p xs h1 h2
/-- a slot gets a new list of one's own -/
theorem SD.setO {K : PySem.W.Frag} {H0 B H : Hp} {σ : L2.St} {δ : List (Option A)} (S : SD K H0 B H σ δ) {i : Nat} {p : Addr} {xs : List PyData} (h : RA K B H (.ref p) (.o xs))
    (hn : ∀ (j : Nat) (ys : List PyData), j ≠ i → δ[j]? = some (some (A.o ys)) → σ[j]? ≠ some (some (.ref p))) (hf : H0 p = none) : SD K H0 B H (σ.set i (some (.ref p))) (δ.set i (some (.o xs))) := by
  refine ⟨S.s, by rw [List.length_set, List.length_set, S.len], fun j b hb => ?_, fun j k q us ws h1 h2 h3 h4 => ?_, fun j q us h1 h2 => ?_⟩
  · by_cases q : i = j
    · subst q
      by_cases hi : i < δ.length
      · rw [List.getElem?_set_self hi] at hb
        rw [List.getElem?_set_self (by rw [S.len]; exact hi)]
        cases hb
        exact ⟨_, rfl, h⟩
      · rw [List.getElem?_eq_none (by simpa using hi)] at hb; cases hb
    · rw [List.getElem?_set_ne q] at hb ⊢
      exact S.rel j b hb
  · have at_i : (σ.set i (some (V.ref p)))[i]? = some (some (.ref q)) → p = q := fun z => by
      by_cases hi : i < σ.length
      · rw [List.getElem?_set_self hi] at z
        cases z
        rfl
      · rw [List.getElem?_eq_none (by simpa using hi)] at z; cases z
    by_cases e1 : i = j
    · by_cases e2 : i = k
      · exact e1.symm.trans e2
      · subst e1
        have e := at_i h3
        subst e
        rw [List.getElem?_set_ne e2] at h2 h4
        exact absurd h4 (hn k ws (fun z => e2 z.symm) h2)
    · by_cases e2 : i = k
      · subst e2
        have e := at_i h4
        subst e
        rw [List.getElem?_set_ne e1] at h1 h3
        exact absurd h3 (hn j us (fun z => e1 z.symm) h1)
      · rw [List.getElem?_set_ne e1] at h1 h3
        rw [List.getElem?_set_ne e2] at h2 h4
        exact S.dis j k q us ws h1 h2 h3 h4
  · by_cases e1 : i = j
    · subst e1
      by_cases hi : i < σ.length
      · rw [List.getElem?_set_self hi] at h2
        cases h2
        exact hf
      · rw [List.getElem?_eq_none (by simpa using hi)] at h2; cases h2
    · rw [List.getElem?_set_ne e1] at h1 h2
      exact S.fr j q us h1 h2

/-! ### expressions -/
def tPe (K : PySem.W.Frag) (B0 H0 : Hp) (δ : List (Option A)) (a : A) : TE := fun σ H Q => ∃ B, Ext B0 H0 B H ∧ SD K H0 B H σ δ ∧ ∀ v B' H', Ext B H B' H' → RA K B' H' v a → Q v H'
def tPt (K : PySem.W.Frag) (B0 H0 : Hp) (δ : List (Option A)) (b : Bool) : TT := fun σ H Q => ∃ B, Ext B0 H0 B H ∧ SD K H0 B H σ δ ∧ ∀ B' H', Ext B H B' H' → Q b H'
def RAs (K : PySem.W.Frag) (B H : Hp) : List V → List A → Prop := Paired (RA K B H)
def tPa (K : PySem.W.Frag) (B0 H0 : Hp) (δ : List (Option A)) (as : List A) : TA := fun σ H Q => ∃ B, Ext B0 H0 B H ∧ SD K H0 B H σ δ ∧ ∀ vs B' H', Ext B H B' H' → RAs K B' H' vs as → Q vs H'
/-- a new list -/
def tPn (K : PySem.W.Frag) (B0 H0 : Hp) (δ : List (Option A)) (xs : List PyData) : TE := fun σ H Q => ∃ B, Ext B0 H0 B H ∧ SD K H0 B H σ δ ∧
  ∀ p vs B' H', Ext B H B' H' → H p = none → B' p = none → H' p = some (.lst vs) → Dqs B' vs xs → Q (.ref p) H'

theorem RAs.mono {K : PySem.W.Frag} {B H B' H' : Hp} (e : Ext B H B' H') : ∀ {vs : List V} {as : List A}, RAs K B H vs as → RAs K B' H' vs as
  | _, _, .nil => .nil
  | _, _, .cons r t => .cons (r.mono e) (RAs.mono e t)

section
variable {X : Cx} {B0 H0 : Hp} {δ : List (Option A)} {e e1 e2 e3 : Expr} {es : List Expr} {a a1 a2 a3 : A} {as : List A} {b c : Bool} {xs ys : List PyData} {pos : Pos}

def Pe (X : Cx) (B0 H0 : Hp) (δ : List (Option A)) (e : Expr) (a : A) : Prop := PE X e (tPe X.K B0 H0 δ a)
def Pt (X : Cx) (B0 H0 : Hp) (δ : List (Option A)) (e : Expr) (b : Bool) : Prop := PT X e (tPt X.K B0 H0 δ b)
def Pw (X : Cx) (B0 H0 : Hp) (δ : List (Option A)) (e : Expr) (b : Bool) : Prop := PW X e (tPt X.K B0 H0 δ b)
def Pa (X : Cx) (B0 H0 : Hp) (δ : List (Option A)) (es : List Expr) (as : List A) : Prop := PA X es (tPa X.K B0 H0 δ as)
def Pn (X : Cx) (B0 H0 : Hp) (δ : List (Option A)) (e : Expr) (xs : List PyData) : Prop := PE X e (tPn X.K B0 H0 δ xs)

theorem pe_to {t t' : TE} (h : PE X e t) (m : ∀ σ H Q, t' σ H Q → t σ H Q) : PE X e t' := ⟨fun pins s σ H Q J q => h.run pins s σ H Q J (m _ _ _ q)⟩
theorem pt_to {t t' : TT} (h : PT X e t) (m : ∀ σ H Q, t' σ H Q → t σ H Q) : PT X e t' := ⟨fun pins s σ H Q J q => h.run pins s σ H Q J (m _ _ _ q)⟩
theorem pw_to {t t' : TT} (h : PW X e t) (m : ∀ σ H Q, t' σ H Q → t σ H Q) : PW X e t' := ⟨fun wh pins s σ H Q J q => h.run wh pins s σ H Q J (m _ _ _ q)⟩
theorem pa_to {t t' : TA} (h : PA X es t) (m : ∀ σ H Q, t' σ H Q → t σ H Q) : PA X es t' := ⟨fun po pins s σ H Q J q => h.run po pins s σ H Q J (m _ _ _ q)⟩

theorem Pe.is {a' : A} (h : Pe X B0 H0 δ e a) (q : a = a') : Pe X B0 H0 δ e a' := q ▸ h
theorem Pt.is {b' : Bool} (h : Pt X B0 H0 δ e b) (q : b = b') : Pt X B0 H0 δ e b' := q ▸ h
theorem Pn.is {ys : List PyData} (h : Pn X B0 H0 δ e xs) (q : xs = ys) : Pn X B0 H0 δ e ys := q ▸ h
/-- the value known a little less -/
theorem Pe.imp {a' : A} (h : Pe X B0 H0 δ e a) (q : ∀ B H v, Sub B H → RA X.K B H v a → RA X.K B H v a') : Pe X B0 H0 δ e a' := pe_to h fun σ H Q ⟨B, E0, S, k⟩ => ⟨B, E0, S, fun v B' H' E r => k v B' H' E (q _ _ _ E.s r)⟩
theorem SD.low {K : PySem.W.Frag} {H0 H1 B H : Hp} {σ : L2.St} {δ : List (Option A)} (S : SD K H0 B H σ δ) (q : ∀ p, H0 p = none → H1 p = none) : SD K H1 B H σ δ := ⟨S.s, S.len, S.rel, S.dis, fun i p xs h1 h2 => q p (S.fr i p xs h1 h2)⟩
theorem Pe.low {B1 H1 : Hp} (h : Pe X B0 H0 δ e a) (q : Ext B0 H0 B1 H1) : Pe X B1 H1 δ e a := pe_to h fun σ H Q ⟨B, E0, S, k⟩ => ⟨B, q.tr E0, S.low fun p => sub_free q.h, k⟩

/-- a new list, let go -/
theorem Pn.dat (h : Pn X B0 H0 δ e xs) : Pe X B0 H0 δ e (.d (.list xs)) := pe_to h fun σ H Q ⟨B, E0, S, k⟩ => ⟨B, E0, S, fun p vs B' H' E hp hb hl hd =>
  k (.ref p) (upd B' p (.lst vs)) H' ⟨E.b.tr (sub_new hb), E.h, fun x u z => by
    by_cases q : x = p
    · subst q; rw [upd_same] at z; cases z; exact hl
    · rw [upd_ne q] at z; exact E.s x u z, fun x z => by
    have q : x ≠ p := fun q => z (by rw [q]; exact hp)
    rw [upd_ne q]; exact E.n x z⟩ (.lst upd_same (dqs_sub (sub_new hb) _ _ hd))⟩

theorem p_var (i : Nat) {x : Str} (hd : δ[i]? = some (some a)) (hN : X.N[i]? = some x := by rfl) (hv : Vis X.env.scope x := by first | exact .inl rfl | exact .inr (.inl rfl) | exact .inr (.inr rfl)) (h1 : (x == ("__debug__" : Str)) = false := by decide) (h2 : (x == ("__classdict__" : Str)) = false := by decide) : Pe X B0 H0 δ (.Name x pos) a :=
  pe_to (pe_var (i := i) hN hv h1 h2) fun σ H Q ⟨B, E0, S, k⟩ => let ⟨v, hv, r⟩ := S.get hd; ⟨v, hv, k v B H (.rfl' S.s) r⟩
/-- a list of one's own, read for now -/
theorem p_varO (i : Nat) {x : Str} (hd : δ[i]? = some (some (.o xs))) (hN : X.N[i]? = some x := by rfl) (hv : Vis X.env.scope x := by first | exact .inl rfl | exact .inr (.inl rfl) | exact .inr (.inr rfl)) (h1 : (x == ("__debug__" : Str)) = false := by decide) (h2 : (x == ("__classdict__" : Str)) = false := by decide) : Pe X B0 H0 δ (.Name x pos) (.t (.list xs)) :=
  Pe.imp (p_var i hd hN hv h1 h2) fun B H v s ⟨p, vs, e, _, hp, hd⟩ => by
    subst e
    exact .lst hp (dqs_sub s _ _ hd)
/-- a list of one's own, handed to another def that leaves it as it is -/
theorem p_varR (i : Nat) {x : Str} (hd : δ[i]? = some (some (.o xs))) (hN : X.N[i]? = some x := by rfl) (hv : Vis X.env.scope x := by first | exact .inl rfl | exact .inr (.inl rfl) | exact .inr (.inr rfl)) (h1 : (x == ("__debug__" : Str)) = false := by decide) (h2 : (x == ("__classdict__" : Str)) = false := by decide) : Pe X B0 H0 δ (.Name x pos) (.r xs) :=
  Pe.imp (p_var i hd hN hv h1 h2) fun B H v s ⟨p, vs, e, _, hp, hd⟩ => ⟨p, vs, e, hp, hd⟩
theorem p_c {v : V} (h : PE X e (tC v)) (r : ∀ B H, RA X.K B H v a) : Pe X B0 H0 δ e a := pe_to h fun σ H Q ⟨B, E0, S, k⟩ => k v B H (.rfl' S.s) (r B H)
theorem p_int {i : Int} {j} : Pe X B0 H0 δ (.Constant (.int i) j pos) (.d (.int i)) := p_c pe_int fun _ _ => .int i
theorem p_bl {i : Bool} {j} : Pe X B0 H0 δ (.Constant (.bool i) j pos) (.d (.bool i)) := p_c pe_bl fun _ _ => .bl i
theorem p_non {j} : Pe X B0 H0 δ (.Constant .none j pos) (.d .none) := p_c pe_non fun _ _ => .non
theorem p_str {x : Str} {j} : Pe X B0 H0 δ (.Constant (.str x) j pos) (.d (.str x)) := p_c pe_str fun _ _ => .str x
theorem p_glob {x : Str} {v : V} {u : Value} (hm : X.mg x = some u) (r : RelV v u) (hg : Gl X x := by rfl) (hd : (x == ("__debug__" : Str)) = false := by decide) : Pe X B0 H0 δ (.Name x pos) (.v v) := p_c (pe_glob hg hm r hd) fun _ _ => rfl
theorem p_gint {x : Str} {i : Int} {t : Tok} (hm : X.mg x = some (.int i t)) (hg : Gl X x := by rfl) (hd : (x == ("__debug__" : Str)) = false := by decide) : Pe X B0 H0 δ (.Name x pos) (.d (.int i)) := p_c (pe_glob (v := .int i) hg hm ⟨t, rfl⟩ hd) fun _ _ => .int i

/-- an operator of two values -/
theorem p_bin {op : Operator} {r : R2} (ho : OpR X (binaryOp op) r) (ha : Pe X B0 H0 δ e1 a1) (hb : Pe X B0 H0 δ e2 a2)
    (h : ∀ B H x y Q, Sub B H → RA X.K B H x a1 → RA X.K B H y a2 → (∀ v B' H', Ext B H B' H' → RA X.K B' H' v a → Q v H') → r x y H Q) : Pe X B0 H0 δ (.BinOp e1 op e2 pos) a :=
  pe_to (pe_op ho ha hb) fun σ H Q ⟨B, E0, S, k⟩ => ⟨B, E0, S, fun x B1 H1 E1 r1 => ⟨B1, E0.tr E1, S.mono E1, fun y B2 H2 E2 r2 => h B2 H2 x y Q E2.s (r1.mono E2) r2 fun v B3 H3 E3 r3 => k v B3 H3 ((E1.tr E2).tr E3) r3⟩⟩
theorem p_cmp {op : CmpOp} {r : R2} (ho : OpR X (compareOp op) r) (ha : Pe X B0 H0 δ e1 a1) (hb : Pe X B0 H0 δ e2 a2) (hm : behindInMarks op e2 = false)
    (h : ∀ B H x y Q, Sub B H → RA X.K B H x a1 → RA X.K B H y a2 → (∀ v B' H', Ext B H B' H' → RA X.K B' H' v a → Q v H') → r x y H Q) : Pe X B0 H0 δ (.Compare e1 [op] [e2] pos) a :=
  pe_to (pe_cmpR ho ha hb hm) fun σ H Q ⟨B, E0, S, k⟩ => ⟨B, E0, S, fun x B1 H1 E1 r1 => ⟨B1, E0.tr E1, S.mono E1, fun y B2 H2 E2 r2 => h B2 H2 x y Q E2.s (r1.mono E2) r2 fun v B3 H3 E3 r3 => k v B3 H3 ((E1.tr E2).tr E3) r3⟩⟩
theorem p_ix {r : R2} (hr : IxR X r) (ha : Pe X B0 H0 δ e1 a1) (hb : Pe X B0 H0 δ e2 a2) (hs : PlainIx e2)
    (h : ∀ B H x y Q, Sub B H → RA X.K B H x a1 → RA X.K B H y a2 → (∀ v B' H', Ext B H B' H' → RA X.K B' H' v a → Q v H') → r x y H Q) : Pe X B0 H0 δ (.Subscript e1 e2 pos) a :=
  pe_to (pe_ix hr ha hb hs) fun σ H Q ⟨B, E0, S, k⟩ => ⟨B, E0, S, fun x B1 H1 E1 r1 => ⟨B1, E0.tr E1, S.mono E1, fun y B2 H2 E2 r2 => h B2 H2 x y Q E2.s (r1.mono E2) r2 fun v B3 H3 E3 r3 => k v B3 H3 ((E1.tr E2).tr E3) r3⟩⟩
theorem p_un {op : UnaryOp} {r : V → Hp → VK → Prop} (ho : UnR X (unaryOp op) r) (ha : Pe X B0 H0 δ e1 a1)
    (h : ∀ B H x Q, Sub B H → RA X.K B H x a1 → (∀ v B' H', Ext B H B' H' → RA X.K B' H' v a → Q v H') → r x H Q) : Pe X B0 H0 δ (.UnaryOp op e1 pos) a :=
  pe_to (pe_un ho ha) fun σ H Q ⟨B, E0, S, k⟩ => ⟨B, E0, S, fun x B1 H1 E1 r1 => h B1 H1 x Q E1.s r1 fun v B3 H3 E3 r3 => k v B3 H3 (E1.tr E3) r3⟩

theorem ra_int {K : PySem.W.Frag} {B H : Hp} {v : V} {i : Int} (h : RA K B H v (.d (.int i))) : v = .int i := by cases h; rfl
theorem ra_bl {K : PySem.W.Frag} {B H : Hp} {v : V} {i : Bool} (h : RA K B H v (.d (.bool i))) : v = .bl i := by cases h; rfl
theorem ra_str {K : PySem.W.Frag} {B H : Hp} {v : V} {i : Str} (h : RA K B H v (.d (.str i))) : v = .str i := by cases h; rfl
theorem ra_non {K : PySem.W.Frag} {B H : Hp} {v : V} (h : RA K B H v (.d .none)) : v = .non := by cases h; rfl

theorem p_add {i j : Int} (ha : Pe X B0 H0 δ e1 (.d (.int i))) (hb : Pe X B0 H0 δ e2 (.d (.int j))) : Pe X B0 H0 δ (.BinOp e1 .Add e2 pos) (.d (.int (i + j))) :=
  p_bin op_add ha hb fun B H x y Q s r1 r2 k => ⟨i, j, ra_int r1, ra_int r2, k _ B H (.rfl' s) (.int _)⟩
theorem p_sub {i j : Int} (ha : Pe X B0 H0 δ e1 (.d (.int i))) (hb : Pe X B0 H0 δ e2 (.d (.int j))) : Pe X B0 H0 δ (.BinOp e1 .Sub e2 pos) (.d (.int (i - j))) :=
  p_bin op_sub ha hb fun B H x y Q s r1 r2 k => ⟨i, j, ra_int r1, ra_int r2, k _ B H (.rfl' s) (.int _)⟩
theorem p_mul {i j : Int} (ha : Pe X B0 H0 δ e1 (.d (.int i))) (hb : Pe X B0 H0 δ e2 (.d (.int j))) (hc : CMul i j) : Pe X B0 H0 δ (.BinOp e1 .Mult e2 pos) (.d (.int (i * j))) :=
  p_bin op_mul ha hb fun B H x y Q s r1 r2 k => ⟨i, j, ra_int r1, ra_int r2, hc, k _ B H (.rfl' s) (.int _)⟩
theorem p_mod {i j : Int} (ha : Pe X B0 H0 δ e1 (.d (.int i))) (hb : Pe X B0 H0 δ e2 (.d (.int j))) (hc : 0 < j) : Pe X B0 H0 δ (.BinOp e1 .Mod e2 pos) (.d (.int (i % j))) :=
  p_bin op_mod ha hb fun B H x y Q s r1 r2 k => ⟨i, j, ra_int r1, ra_int r2, hc, k _ B H (.rfl' s) (.int _)⟩
theorem p_fdiv {i j : Int} (ha : Pe X B0 H0 δ e1 (.d (.int i))) (hb : Pe X B0 H0 δ e2 (.d (.int j))) (hc : CDiv i j) : Pe X B0 H0 δ (.BinOp e1 .FloorDiv e2 pos) (.d (.int (i / j))) :=
  p_bin op_fdiv ha hb fun B H x y Q s r1 r2 k => ⟨i, j, ra_int r1, ra_int r2, hc, k _ B H (.rfl' s) (.int _)⟩
theorem p_pow {i j : Int} (ha : Pe X B0 H0 δ e1 (.d (.int i))) (hb : Pe X B0 H0 δ e2 (.d (.int j))) (hc : CPow i j) : Pe X B0 H0 δ (.BinOp e1 .Pow e2 pos) (.d (.int (i ^ j.toNat))) :=
  p_bin op_pow ha hb fun B H x y Q s r1 r2 k => ⟨i, j, ra_int r1, ra_int r2, hc, k _ B H (.rfl' s) (.int _)⟩
theorem p_neg {i : Int} (ha : Pe X B0 H0 δ e1 (.d (.int i))) : Pe X B0 H0 δ (.UnaryOp .USub e1 pos) (.d (.int (-i))) :=
  p_un un_neg ha fun B H x Q s r1 k => ⟨i, ra_int r1, k _ B H (.rfl' s) (.int _)⟩
/-- a comparison whose answer is b -/
def Pc (X : Cx) (B0 H0 : Hp) (δ : List (Option A)) (e1 : Expr) (op : CmpOp) (e2 : Expr) (b : Bool) : Prop :=
  ∃ (a1 a2 : A) (r : R2), OpR X (compareOp op) r ∧ Pe X B0 H0 δ e1 a1 ∧ Pe X B0 H0 δ e2 a2 ∧ behindInMarks op e2 = false ∧ ∀ B H x y Q, Sub B H → RA X.K B H x a1 → RA X.K B H y a2 → Q (.bl b) H → r x y H Q
theorem p_cm {op : CmpOp} (h : Pc X B0 H0 δ e1 op e2 b) : Pe X B0 H0 δ (.Compare e1 [op] [e2] pos) (.d (.bool b)) := by
  obtain ⟨a1, a2, r, ho, ha, hb, hm, hr⟩ := h
  exact p_cmp ho ha hb hm fun B H x y Q s r1 r2 k => hr B H x y Q s r1 r2 (k _ B H (.rfl' s) (.bl b))
theorem t_cm {op : CmpOp} (h : Pc X B0 H0 δ e1 op e2 b) : Pt X B0 H0 δ (.Compare e1 [op] [e2] pos) b := by
  obtain ⟨a1, a2, r, ho, ha, hb, hm, hr⟩ := h
  exact pt_to (pt_cmpR ho ha hb hm) fun σ H Q ⟨B, E0, S, k⟩ => ⟨B, E0, S, fun x B1 H1 E1 r1 => ⟨B1, E0.tr E1, S.mono E1, fun y B2 H2 E2 r2 => hr B2 H2 x y _ E2.s (r1.mono E2) r2 ⟨b, rfl, k B2 H2 (E1.tr E2)⟩⟩⟩
theorem Pc.is {op : CmpOp} {b' : Bool} (h : Pc X B0 H0 δ e1 op e2 b) (q : b = b') : Pc X B0 H0 δ e1 op e2 b' := q ▸ h
theorem c_lt {i j : Int} (ha : Pe X B0 H0 δ e1 (.d (.int i))) (hb : Pe X B0 H0 δ e2 (.d (.int j))) : Pc X B0 H0 δ e1 .Lt e2 (decide (i < j)) :=
  ⟨_, _, _, op_lt, ha, hb, nomark _, fun B H x y Q s r1 r2 k => ⟨i, j, ra_int r1, ra_int r2, k⟩⟩
theorem c_le {i j : Int} (ha : Pe X B0 H0 δ e1 (.d (.int i))) (hb : Pe X B0 H0 δ e2 (.d (.int j))) : Pc X B0 H0 δ e1 .LtE e2 (decide (i ≤ j)) :=
  ⟨_, _, _, op_le, ha, hb, nomark _, fun B H x y Q s r1 r2 k => ⟨i, j, ra_int r1, ra_int r2, k⟩⟩
theorem c_gt {i j : Int} (ha : Pe X B0 H0 δ e1 (.d (.int i))) (hb : Pe X B0 H0 δ e2 (.d (.int j))) : Pc X B0 H0 δ e1 .Gt e2 (decide (j < i)) :=
  ⟨_, _, _, op_gt, ha, hb, nomark _, fun B H x y Q s r1 r2 k => ⟨i, j, ra_int r1, ra_int r2, k⟩⟩
theorem c_ge {i j : Int} (ha : Pe X B0 H0 δ e1 (.d (.int i))) (hb : Pe X B0 H0 δ e2 (.d (.int j))) : Pc X B0 H0 δ e1 .GtE e2 (decide (j ≤ i)) :=
  ⟨_, _, _, op_ge, ha, hb, nomark _, fun B H x y Q s r1 r2 k => ⟨i, j, ra_int r1, ra_int r2, k⟩⟩

end
end GL

set_option Elab.async false
set_option linter.all false
set_option maxRecDepth 100000
set_option maxHeartbeats 4000000
namespace GL
open PySem PySem.Spec L2

/-! ### lists of data -/
theorem dqs_len {H : Hp} : ∀ {vs : List V} {xs : List PyData}, Dqs H vs xs → vs.length = xs.length
  | _, _, .nil => rfl
  | _, _, .cons _ t => congrArg (· + 1) (dqs_len t)
theorem dqs_get {H : Hp} : ∀ {vs : List V} {xs : List PyData}, Dqs H vs xs → ∀ (i : Nat) (x : PyData), xs[i]? = some x → ∃ u, vs[i]? = some u ∧ Dq H u x
  | _, _, .nil, _, _, h => by simp at h
  | _, _, .cons r t, 0, x, h => by
    have e := Option.some.inj h
    subst e
    exact ⟨_, rfl, r⟩
  | _, _, .cons r t, i + 1, x, h => dqs_get t i x (by simpa using h)
theorem dqs_app {H : Hp} : ∀ {vs ws : List V} {xs ys : List PyData}, Dqs H vs xs → Dqs H ws ys → Dqs H (vs ++ ws) (xs ++ ys)
  | _, _, _, _, .nil, s => s
  | _, _, _, _, .cons r t, s => .cons r (dqs_app t s)
theorem dqs_take {H : Hp} : ∀ (n : Nat) {vs : List V} {xs : List PyData}, Dqs H vs xs → Dqs H (vs.take n) (xs.take n)
  | 0, _, _, _ => .nil
  | _ + 1, _, _, .nil => .nil
  | n + 1, _, _, .cons r t => .cons r (dqs_take n t)
theorem dqs_drop {H : Hp} : ∀ (n : Nat) {vs : List V} {xs : List PyData}, Dqs H vs xs → Dqs H (vs.drop n) (xs.drop n)
  | 0, _, _, r => r
  | _ + 1, _, _, .nil => .nil
  | n + 1, _, _, .cons _ t => dqs_drop n t
theorem dqs_set {H : Hp} : ∀ {vs : List V} {xs : List PyData} (i : Nat) {v : V} {x : PyData}, Dqs H vs xs → Dq H v x → Dqs H (vs.set i v) (xs.set i x)
  | _, _, _, _, _, .nil, _ => .nil
  | _, _, 0, _, _, .cons _ t, q => .cons q t
  | _, _, i + 1, _, _, .cons r t, q => .cons r (dqs_set i t q)
theorem dqs_rep {H : Hp} {v : V} {x : PyData} (h : Dq H v x) : ∀ n : Nat, Dqs H (List.replicate n v) (List.replicate n x)
  | 0 => .nil
  | n + 1 => .cons h (dqs_rep h n)
theorem dqs_flat {H : Hp} {vs : List V} {xs : List PyData} (h : Dqs H vs xs) : ∀ n : Nat, Dqs H (List.replicate n vs).flatten (List.replicate n xs).flatten
  | 0 => .nil
  | n + 1 => by
    rw [List.replicate_succ, List.replicate_succ, List.flatten_cons, List.flatten_cons]
    exact dqs_app h (dqs_flat h n)
theorem dqs_ints {H : Hp} : ∀ {vs : List V} (ns : List Int), Dqs H vs (ns.map PyData.int) → vs = ns.map V.int
  | _, [], .nil => rfl
  | _, n :: ns, .cons r t => by
    cases r
    rw [dqs_ints ns t]
    rfl
theorem dqs_bls {H : Hp} : ∀ {vs : List V} (ns : List Bool), Dqs H vs (ns.map PyData.bool) → vs = ns.map V.bl
  | _, [], .nil => rfl
  | _, n :: ns, .cons r t => by
    cases r
    rw [dqs_bls ns t]
    rfl
theorem dqs_strs {H : Hp} : ∀ {vs : List V} (ns : List Str), Dqs H vs (ns.map PyData.str) → vs = ns.map V.str
  | _, [], .nil => rfl
  | _, n :: ns, .cons r t => by
    cases r
    rw [dqs_strs ns t]
    rfl
theorem ints_dqs {H : Hp} : ∀ ns : List Int, Dqs H (ns.map V.int) (ns.map PyData.int)
  | [] => .nil
  | _ :: ns => .cons (.int _) (ints_dqs ns)

/-- a is a list or tuple of xs; w: what is known of its items -/
class inductive Sq : A → outParam (List PyData) → outParam (PyData → A) → Prop
  | dl {xs} : Sq (.d (.list xs)) xs .d
  | dt {xs} : Sq (.d (.tuple xs)) xs .d
  | tl {xs} : Sq (.t (.list xs)) xs .t
  | tt {xs} : Sq (.t (.tuple xs)) xs .t
  | ol {xs} : Sq (.o xs) xs .d
  | sl {ns} : Sq (.s ns) (ns.map .int) .d
  | rl {xs} : Sq (.r xs) xs .d
instance sq_dl {xs} : Sq (.d (.list xs)) xs .d := .dl
instance sq_dt {xs} : Sq (.d (.tuple xs)) xs .d := .dt
instance sq_tl {xs} : Sq (.t (.list xs)) xs .t := .tl
instance sq_tt {xs} : Sq (.t (.tuple xs)) xs .t := .tt
instance sq_ol {xs} : Sq (.o xs) xs .d := .ol
instance sq_rl {xs} : Sq (.r xs) xs .d := .rl
instance sq_sl {ns} : Sq (.s ns) (ns.map .int) .d := .sl
/-- .. whose items stay -/
class inductive Sk : A → outParam (List PyData) → Prop
  | dl {xs} : Sk (.d (.list xs)) xs
  | dt {xs} : Sk (.d (.tuple xs)) xs
  | ol {xs} : Sk (.o xs) xs
  | sl {ns} : Sk (.s ns) (ns.map .int)
  | rl {xs} : Sk (.r xs) xs
instance sk_dl {xs} : Sk (.d (.list xs)) xs := .dl
instance sk_dt {xs} : Sk (.d (.tuple xs)) xs := .dt
instance sk_ol {xs} : Sk (.o xs) xs := .ol
instance sk_rl {xs} : Sk (.r xs) xs := .rl
instance sk_sl {ns} : Sk (.s ns) (ns.map .int) := .sl
theorem Sk.at {K : PySem.W.Frag} {B H : Hp} {v : V} {a : A} {xs : List PyData} (h : Sk a xs) (s : Sub B H) (r : RA K B H v a) : ∃ p vs, v = .ref p ∧ (SqL K H p vs ∨ SqT K H p vs) ∧ Dqs B vs xs := by
  cases h with
  | dl =>
    cases r with
    | lst q k => exact ⟨_, _, rfl, .inl (.inl (.inl (s _ _ q))), k⟩
  | dt =>
    cases r with
    | tup q k => exact ⟨_, _, rfl, .inr (.inl (.inl (s _ _ q))), k⟩
  | ol =>
    obtain ⟨p, vs, rfl, _, hp, k⟩ := r
    exact ⟨p, vs, rfl, .inl (.inl (.inl hp)), k⟩
  | @sl ns =>
    obtain ⟨p, rfl, h⟩ := r
    exact ⟨p, _, rfl, .inl (sub_l s h), ints_dqs ns⟩
  | rl =>
    obtain ⟨p, vs, rfl, hp, k⟩ := r
    exact ⟨p, vs, rfl, .inl (.inl (.inl hp)), k⟩
theorem Sq.at {K : PySem.W.Frag} {B H : Hp} {v : V} {a : A} {xs : List PyData} {w : PyData → A} (h : Sq a xs w) (s : Sub B H) (r : RA K B H v a) :
    ∃ p vs, v = .ref p ∧ (SqL K H p vs ∨ SqT K H p vs) ∧ Dqs H vs xs ∧ ∀ (i : Nat) (x : PyData), xs[i]? = some x → ∃ u, vs[i]? = some u ∧ RA K B H u (w x) := by
  cases h with
  | tl =>
    cases r with
    | lst q k => exact ⟨_, _, rfl, .inl (.inl (.inl q)), k, fun i x e => dqs_get k i x e⟩
  | tt =>
    cases r with
    | tup q k => exact ⟨_, _, rfl, .inr (.inl (.inl q)), k, fun i x e => dqs_get k i x e⟩
  | dl => obtain ⟨p, vs, e, q, k⟩ := Sk.at sk_dl s r; exact ⟨p, vs, e, q, dqs_sub s _ _ k, fun i x e => dqs_get k i x e⟩
  | dt => obtain ⟨p, vs, e, q, k⟩ := Sk.at sk_dt s r; exact ⟨p, vs, e, q, dqs_sub s _ _ k, fun i x e => dqs_get k i x e⟩
  | ol => obtain ⟨p, vs, e, q, k⟩ := Sk.at sk_ol s r; exact ⟨p, vs, e, q, dqs_sub s _ _ k, fun i x e => dqs_get k i x e⟩
  | sl => obtain ⟨p, vs, e, q, k⟩ := Sk.at sk_sl s r; exact ⟨p, vs, e, q, dqs_sub s _ _ k, fun i x e => dqs_get k i x e⟩
  | rl => obtain ⟨p, vs, e, q, k⟩ := Sk.at sk_rl s r; exact ⟨p, vs, e, q, dqs_sub s _ _ k, fun i x e => dqs_get k i x e⟩
theorem atI_dqs {H : Hp} {R : V → PyData → Prop} {vs : List V} {xs : List PyData} (h : Dqs H vs xs) (g : ∀ (i : Nat) (x : PyData), xs[i]? = some x → ∃ u, vs[i]? = some u ∧ R u x) {i : Int} {x : PyData} (e : atI xs i = some x) : ∃ u, atI vs i = some u ∧ R u x := by
  unfold atI at e ⊢
  rw [dqs_len h]
  cases q : ixN xs.length i with
  | none => rw [q] at e; cases e
  | some j => rw [q] at e; exact g j x e
/-- a list whose items stay -/
class inductive Ls : A → outParam (List PyData) → Prop
  | dl {xs} : Ls (.d (.list xs)) xs
  | ol {xs} : Ls (.o xs) xs
  | rl {xs} : Ls (.r xs) xs
instance ls_dl {xs} : Ls (.d (.list xs)) xs := .dl
instance ls_rl {xs} : Ls (.r xs) xs := .rl
instance ls_ol {xs} : Ls (.o xs) xs := .ol
theorem Ls.at {K : PySem.W.Frag} {B H : Hp} {v : V} {a : A} {xs : List PyData} (h : Ls a xs) (s : Sub B H) (r : RA K B H v a) : ∃ p vs, v = .ref p ∧ H p = some (.lst vs) ∧ Dqs B vs xs := by
  cases h with
  | dl =>
    cases r with
    | lst q k => exact ⟨_, _, rfl, s _ _ q, k⟩
  | ol =>
    obtain ⟨p, vs, rfl, _, hp, k⟩ := r
    exact ⟨p, vs, rfl, hp, k⟩
  | rl =>
    obtain ⟨p, vs, rfl, hp, k⟩ := r
    exact ⟨p, vs, rfl, hp, k⟩

/-! ### wishes -/
/-- what is wanted behind: a value of which a holds; a new list -/
def We (K : PySem.W.Frag) (a : A) (B H : Hp) (Q : VK) : Prop := ∀ v B' H', Ext B H B' H' → RA K B' H' v a → Q v H'
def Wn (xs : List PyData) (B H : Hp) (Q : VK) : Prop := ∀ p vs B' H', Ext B H B' H' → H p = none → B' p = none → H' p = some (.lst vs) → Dqs B' vs xs → Q (.ref p) H'
def Mono (C : Hp → Hp → VK → Prop) : Prop := ∀ B H B' H' Q, C B H Q → Ext B H B' H' → C B' H' Q
theorem we_mono {K : PySem.W.Frag} {a : A} : Mono (We K a) := fun B H B' H' Q k e v B2 H2 e2 r => k v B2 H2 (e.tr e2) r
theorem wn_mono {xs : List PyData} : Mono (Wn xs) := fun B H B' H' Q k e p vs B2 H2 e2 h1 h2 h3 h4 => k p vs B2 H2 (e.tr e2) (sub_free e.h h1) h2 h3 h4
def tG (K : PySem.W.Frag) (B0 H0 : Hp) (δ : List (Option A)) (C : Hp → Hp → VK → Prop) : TE := fun σ H Q => ∃ B, Ext B0 H0 B H ∧ SD K H0 B H σ δ ∧ C B H Q
theorem We.now {K : PySem.W.Frag} {a : A} {B H : Hp} {Q : VK} (k : We K a B H Q) {v : V} (s : Sub B H) (r : RA K B H v a) : Q v H := k v B H (.rfl' s) r
/-- a new object of data -/
theorem We.tup {K : PySem.W.Frag} {xs : List PyData} {B H : Hp} {Q : VK} (k : We K (.d (.tuple xs)) B H Q) {vs : List V} {p : Addr} (s : Sub B H) (h : H p = none) (r : Dqs B vs xs) : Q (.ref p) (upd H p (.tup vs)) :=
  k _ (upd B p (.tup vs)) _ (.both s h) (.tup upd_same (dqs_sub (sub_new (sub_free s h)) _ _ r))
theorem Wn.lst {xs : List PyData} {B H : Hp} {Q : VK} (k : Wn xs B H Q) {vs : List V} {p : Addr} (s : Sub B H) (h : H p = none) (r : Dqs B vs xs) : Q (.ref p) (upd H p (.lst vs)) :=
  k p vs B _ (.own s h) h (sub_free s h) upd_same r

/-! ### a tuple times an int from 1 on -/
section
open PyProof.Rows
theorem tuple_once (l : Addr) (its : Array Value) (n : Nat) (sl : Array (Option Value)) (dd : Option Addr) (u : Tok) (he : its.isEmpty = false) :
    Meets (Builtin.«tuple.__mul__» ⟨[.ref l, .int 1 u], []⟩) (fun _ R s => s.heap.get? l = some { cls := .type "tuple", dict := dd, data := .seq its n, slots := sl } ∧ R (.ok (.ret (Value.ref l))) s) :=
  .of_wp fun prog w A R s h => by
    obtain ⟨hp, g, d, tk, os⟩ := s
    obtain ⟨hl, h⟩ := h
    have f1 := AutoSeq1.idx_int
    wp_walk using wpAny_loadPart' hl
    exact ⟨_, rfl, h⟩
def rRep1 (K : PySem.W.Frag) : R2 := fun x y H Q => ∃ l k xs, x = .ref l ∧ y = .int k ∧ SqT K H l xs ∧ xs ≠ [] ∧ 1 ≤ k ∧ k ≤ 1000 ∧ xs.length ≤ 1000 ∧ (k = 1 → Q x H) ∧ (2 ≤ k → ∀ p, H p = none → Q (.ref p) (upd H p (.tup (List.replicate k.toNat xs).flatten)))
theorem op_rep1 {X : Cx} : OpR X (binaryOp .Mult) (rRep1 X.K) := by
  intro pins s σ H x y v u Q J rx ry ⟨l, k, xs, ex, ey, hT, hne, h1, h2, hz, q1, q2⟩
  by_cases h : 2 ≤ k
  · exact op_repT pins s σ H x y v u Q J rx ry ⟨l, k, xs, ex, ey, hT, hne, h, h2, hz, q2 h⟩
  · have hk : k = 1 := by omega
    subst ex ey hk
    cases rx
    obtain ⟨t, rfl⟩ := ry
    obtain ⟨its, r, ⟨⟨cls, dd, data, sl⟩, ho, hc, n, hd⟩, hs⟩ := J.tuple hT
    simp only at hc hd
    subst hc hd
    have hi : its.toArray.isEmpty = false := by
      cases its with
      | nil => exact absurd (List.eq_nil_of_length_eq_zero r.length) hne
      | cons p q => rfl
    exact wpAny_binaryOp_repeat_ref (T := "tuple") (U := "int") (by decide) ⟨_, ho, rfl⟩ (fun s' => typeIs_int s' 1 t) noFill_tuple_mul F.fills_int_mul F.slot_int_rmul repeat_tuple F.slot_int_index.lookup
      (call_meets F.slot_int_rmul (typeIs_int s 1 t) F.entry_int_rmul (F.args_int_rmul_2 _ _) (int_rmul_tuple 1 t l its.toArray n dd sl)
        ⟨ho, rfl, ⟨_, ho, rfl⟩, call_meets F.slot_tuple_mul ⟨_, ho, rfl⟩ F.entry_tuple_mul (F.args_tuple_mul_2 _ _) (tuple_once l its.toArray n sl dd t hi) ⟨ho, ⟨.ref l, H, J, rfl, q1 rfl⟩⟩⟩)
end

section
variable {X : Cx} {B0 H0 : Hp} {δ : List (Option A)} {e e1 e2 e3 : Expr} {es : List Expr} {a a1 a2 a3 : A} {as : List A} {b c : Bool} {xs ys : List PyData} {x y : PyData} {pos p1 p2 : Pos} {w : PyData → A} {C : Hp → Hp → VK → Prop}

theorem g_bin {op : Operator} {r : R2} (hC : Mono C) (ho : OpR X (binaryOp op) r) (ha : Pe X B0 H0 δ e1 a1) (hb : Pe X B0 H0 δ e2 a2) (h : ∀ B H x y Q, Sub B H → RA X.K B H x a1 → RA X.K B H y a2 → C B H Q → r x y H Q) : PE X (.BinOp e1 op e2 pos) (tG X.K B0 H0 δ C) :=
  pe_to (pe_op ho ha hb) fun σ H Q ⟨B, E0, S, k⟩ => ⟨B, E0, S, fun x B1 H1 E1 r1 => ⟨B1, E0.tr E1, S.mono E1, fun y B2 H2 E2 r2 => h B2 H2 x y Q E2.s (r1.mono E2) r2 (hC _ _ _ _ _ k (E1.tr E2))⟩⟩
theorem pas_nil : Pa X B0 H0 δ [] [] := pa_to pa_nil fun σ H Q ⟨B, E0, S, k⟩ => k [] B H (.rfl' S.s) .nil
theorem pas_cons (ha : Pe X B0 H0 δ e a) (hr : Pa X B0 H0 δ es as) (hs : starEach (e :: es) X.env = (false, eval e X.env) :: starEach es X.env := by rfl) : Pa X B0 H0 δ (e :: es) (a :: as) :=
  pa_to (pa_cons ha hr hs) fun σ H Q ⟨B, E0, S, k⟩ => ⟨B, E0, S, fun x B1 H1 E1 r1 => ⟨B1, E0.tr E1, S.mono E1, fun xs B2 H2 E2 r2 => k (x :: xs) B2 H2 (E1.tr E2) (.cons (r1.mono E2) r2)⟩⟩
/-- a list of data -/
theorem pds_nil : Pa X B0 H0 δ [] (([] : List PyData).map .d) := pas_nil
theorem pds_cons (ha : Pe X B0 H0 δ e (.d x)) (hr : Pa X B0 H0 δ es (xs.map .d)) (hs : starEach (e :: es) X.env = (false, eval e X.env) :: starEach es X.env := by rfl) : Pa X B0 H0 δ (e :: es) ((x :: xs).map .d) := pas_cons ha hr hs
theorem ras_d {K : PySem.W.Frag} {B H : Hp} : ∀ {vs : List V} {xs : List PyData}, RAs K B H vs (xs.map .d) → Dqs B vs xs
  | _, [], .nil => .nil
  | _, _ :: _, .cons r t => .cons r (ras_d t)
theorem p_tuple {k : Nat} (h : Pa X B0 H0 δ es (xs.map .d)) (hz : xs.length ≤ 1000 := by decide) : Pe X B0 H0 δ (.Tuple es k pos) (.d (.tuple xs)) :=
  pe_to (pe_tup h) fun σ H Q ⟨B, E0, S, k⟩ => ⟨B, E0, S, fun vs B1 H1 E1 r => ⟨Nat.le_of_lt (small1000 (by rw [dqs_len (ras_d r)]; exact hz)), fun p hp => (We.tup (K := X.K) (we_mono _ _ _ _ _ k E1) E1.s hp (ras_d r))⟩⟩
theorem n_list (h : Pa X B0 H0 δ es (xs.map .d)) (hz : xs.length ≤ 1000 := by decide) : Pn X B0 H0 δ (.List es pos) xs :=
  pe_to (pe_lst h) fun σ H Q ⟨B, E0, S, k⟩ => ⟨B, E0, S, fun vs B1 H1 E1 r => ⟨Nat.le_of_lt (small1000 (by rw [dqs_len (ras_d r)]; exact hz)), fun p hp => (Wn.lst (wn_mono _ _ _ _ _ k E1) E1.s hp (ras_d r))⟩⟩
theorem p_list (h : Pa X B0 H0 δ es (xs.map .d)) (hz : xs.length ≤ 1000 := by decide) : Pe X B0 H0 δ (.List es pos) (.d (.list xs)) := (n_list h hz).dat

/-- a[i] -/
theorem p_at {i : Int} (ha : Pe X B0 H0 δ e1 a1) (hb : Pe X B0 H0 δ e2 (.d (.int i))) [hs : Sq a1 xs w] (hi : atI xs i = some x) (hp : PlainIx e2 := by intro _ _; rfl) : Pe X B0 H0 δ (.Subscript e1 e2 pos) (w x) :=
  p_ix ix_seq ha hb hp fun B H v u Q s r1 r2 k => by
    obtain ⟨p, vs, rfl, hq, hd, g⟩ := hs.at s r1
    obtain ⟨z, e, r⟩ := atI_dqs (R := fun u x => RA X.K B H u (w x)) hd g hi
    have ei := ra_int r2
    rcases hq with hq | hq
    · exact .inl ⟨p, vs, i, z, rfl, ei, hq, e, k z B H (.rfl' s) r⟩
    · exact .inr (.inl ⟨p, vs, i, z, rfl, ei, hq, e, k z B H (.rfl' s) r⟩)
/-- list + list -/
theorem n_cat (ha : Pe X B0 H0 δ e1 a1) (hb : Pe X B0 H0 δ e2 a2) [la : Ls a1 xs] [lb : Ls a2 ys] (hz : xs.length + ys.length ≤ 1000) : Pn X B0 H0 δ (.BinOp e1 .Add e2 pos) (xs ++ ys) :=
  g_bin wn_mono op_cat ha hb fun B H u v Q s r1 r2 k => by
    obtain ⟨p, vs, rfl, hp, d1⟩ := la.at s r1
    obtain ⟨q, ws, rfl, hq, d2⟩ := lb.at s r2
    exact ⟨p, q, vs, ws, rfl, rfl, hp, hq, Nat.le_of_lt (small1000 (by rw [dqs_len d1, dqs_len d2]; exact hz)), fun r hr => Wn.lst k s hr (dqs_app d1 d2)⟩
/-- tuple + tuple -/
theorem p_catT (ha : Pe X B0 H0 δ e1 (.d (.tuple xs))) (hb : Pe X B0 H0 δ e2 (.d (.tuple ys))) (hz : xs.length + ys.length ≤ 1000) : Pe X B0 H0 δ (.BinOp e1 .Add e2 pos) (.d (.tuple (xs ++ ys))) :=
  g_bin we_mono op_catA ha hb fun B H u v Q s r1 r2 k => by
    have r1' : Dq B u (.tuple xs) := r1
    have r2' : Dq B v (.tuple ys) := r2
    cases r1 with
    | @tup p vs _ hp d1 =>
      cases r2 with
      | @tup q ws _ hq d2 =>
        have l1 := dqs_len d1
        have l2 := dqs_len d2
        refine ⟨p, q, vs, ws, rfl, rfl, .inl (.inl (s _ _ hp)), .inl (.inl (s _ _ hq)), Nat.le_of_lt (small1000 (by omega)), fun z => ?_, fun _ z => ?_, fun _ _ r hr => We.tup k s hr (dqs_app d1 d2)⟩
        · have : xs = [] := List.eq_nil_of_length_eq_zero (by rw [← l1, z]; rfl)
          rw [this] at k
          exact We.now k s r2'
        · have : ys = [] := List.eq_nil_of_length_eq_zero (by rw [← l2, z]; rfl)
          rw [this, List.append_nil] at k
          exact We.now k s r1'
/-- (x,) * n -/
theorem p_repT {n : Int} (ha : Pe X B0 H0 δ e1 (.d (.tuple xs))) (hb : Pe X B0 H0 δ e2 (.d (.int n))) (hn : 1 ≤ n ∧ n ≤ 1000) (hx : xs ≠ []) (hz : xs.length ≤ 1000) : Pe X B0 H0 δ (.BinOp e1 .Mult e2 pos) (.d (.tuple (List.replicate n.toNat xs).flatten)) :=
  g_bin we_mono op_rep1 ha hb fun B H u v Q s r1 r2 k => by
    have ei := ra_int r2
    have r1' : Dq B u (.tuple xs) := r1
    cases r1 with
    | @tup p vs _ hp d1 =>
      have l1 := dqs_len d1
      refine ⟨p, n, vs, rfl, ei, .inl (.inl (s _ _ hp)), fun z => hx (List.eq_nil_of_length_eq_zero (by rw [← l1, z]; rfl)), hn.1, hn.2, by omega, fun e1 => ?_, fun _ q hq => We.tup k s hq (dqs_flat d1 _)⟩
      subst e1
      have e : (List.replicate (1 : Int).toNat xs).flatten = xs := by
        show (List.replicate 1 xs).flatten = xs
        rw [List.replicate_one, List.flatten_singleton]
      rw [e] at k
      exact We.now k s r1'

/-! ### calls of the built-in ones -/
theorem g_callB {id : String} {r : List V → Hp → VK → Prop} {x : Str} (hC : Mono C) (hc : CallR X (.builtin id) r) (ha : Pa X B0 H0 δ (e :: es) as)
    (h : ∀ B H vs Q, Sub B H → RAs X.K B H vs as → C B H Q → r vs H Q) (hg : Gl X x) (hm : X.mg x = none) (hv : bootBuiltins x = some (.builtin id)) (hn : x ≠ "__name__" := by decide) (hdb : (x == ("__debug__" : Str)) = false := by decide)
    (he : starEach (e :: es) X.env = (false, eval e X.env) :: starEach es X.env := by rfl) (hpl : (backTo pos (starEach es X.env)).any (·.1) = false := by rfl) : PE X (.Call (.Name x p1) (e :: es) [] pos) (tG X.K B0 H0 δ C) :=
  pe_to (pe_callB hc hg hm hv ha hn hdb he hpl) fun σ H Q ⟨B, E0, S, k⟩ => ⟨B, E0, S, fun vs B1 H1 E1 r1 => h B1 H1 vs Q E1.s r1 (hC _ _ _ _ _ k E1)⟩
theorem g_callTy {T : String} {r : List V → Hp → VK → Prop} {x : Str} (hC : Mono C) (hc : CallR X (.type T) r) (ha : Pa X B0 H0 δ (e :: es) as)
    (h : ∀ B H vs Q, Sub B H → RAs X.K B H vs as → C B H Q → r vs H Q) (hg : Gl X x) (hm : X.mg x = none) (hv : bootBuiltins x = some (.type T)) (hn : x ≠ "__name__" := by decide) (hdb : (x == ("__debug__" : Str)) = false := by decide)
    (he : starEach (e :: es) X.env = (false, eval e X.env) :: starEach es X.env := by rfl) (hpl : (backTo pos (starEach es X.env)).any (·.1) = false := by rfl) : PE X (.Call (.Name x p1) (e :: es) [] pos) (tG X.K B0 H0 δ C) :=
  pe_to (pe_callTy hc hg hm hv ha hn hdb he hpl) fun σ H Q ⟨B, E0, S, k⟩ => ⟨B, E0, S, fun vs B1 H1 E1 r1 => h B1 H1 vs Q E1.s r1 (hC _ _ _ _ _ k E1)⟩
theorem ras_1 {K : PySem.W.Frag} {B H : Hp} {vs : List V} (r : RAs K B H vs [a]) : ∃ v, vs = [v] ∧ RA K B H v a := by
  cases r with
  | cons r t => cases t; exact ⟨_, rfl, r⟩
theorem ras_2 {K : PySem.W.Frag} {B H : Hp} {vs : List V} (r : RAs K B H vs [a1, a2]) : ∃ v u, vs = [v, u] ∧ RA K B H v a1 ∧ RA K B H u a2 := by
  cases r with
  | cons r t => cases t with
    | cons r2 t => cases t; exact ⟨_, _, rfl, r, r2⟩

theorem p_len (ha : Pa X B0 H0 δ [e] [a]) [hs : Sq a xs w] (hm : X.mg "len" = none) (hg : Gl X "len" := by rfl) (he : starEach [e] X.env = (false, eval e X.env) :: starEach [] X.env := by rfl) : Pe X B0 H0 δ (.Call (.Name "len" p1) [e] [] pos) (.d (.int xs.length)) :=
  g_callB we_mono call_len_seq ha (fun B H vs Q s rs k => by
    obtain ⟨v, rfl, r⟩ := ras_1 rs
    obtain ⟨p, us, rfl, hq, hd, _⟩ := hs.at s r
    exact ⟨p, us, rfl, hq, by rw [dqs_len hd]; exact We.now k s (.int _)⟩) hg hm PySem.boot_len (by decide) (by decide) he rfl
theorem p_lenS {z : Str} (ha : Pa X B0 H0 δ [e] [.d (.str z)]) (hz : z.length ≤ 1000) (hm : X.mg "len" = none) (hg : Gl X "len" := by rfl) (he : starEach [e] X.env = (false, eval e X.env) :: starEach [] X.env := by rfl) : Pe X B0 H0 δ (.Call (.Name "len" p1) [e] [] pos) (.d (.int z.length)) :=
  g_callB we_mono call_len_str ha (fun B H vs Q s rs k => by
    obtain ⟨v, rfl, r⟩ := ras_1 rs
    exact ⟨z, by rw [ra_str r], Nat.le_of_lt (small1000 hz), We.now k s (.int _)⟩) hg hm PySem.boot_len (by decide) (by decide) he rfl
/-- list(x), tuple(x) -/
theorem n_list1 (ha : Pa X B0 H0 δ [e] [a]) [hs : Sk a xs] (hm : X.mg "list" = none) (hg : Gl X "list" := by rfl) (he : starEach [e] X.env = (false, eval e X.env) :: starEach [] X.env := by rfl) : Pn X B0 H0 δ (.Call (.Name "list" p1) [e] [] pos) xs :=
  g_callTy wn_mono call_list_of ha (fun B H vs Q s rs k => by
    obtain ⟨v, rfl, r⟩ := ras_1 rs
    obtain ⟨p, us, rfl, hq, hd⟩ := hs.at s r
    exact ⟨p, us, rfl, hq, fun l hl => Wn.lst k s hl hd⟩) hg hm PyProof.Rows.boot_list (by decide) (by decide) he rfl
theorem p_tuple1 (ha : Pe X B0 H0 δ e (.d (.list xs))) (hm : X.mg "tuple" = none) (hg : Gl X "tuple" := by rfl) (he : starEach [e] X.env = (false, eval e X.env) :: starEach [] X.env := by rfl) : Pe X B0 H0 δ (.Call (.Name "tuple" p1) [e] [] pos) (.d (.tuple xs)) :=
  pe_to (pe_tupleOf hg hm ha he) fun σ H Q ⟨B, E0, S, k⟩ => ⟨B, E0, S, fun v B1 H1 E1 r => by
    cases r with
    | lst q d => exact .inl ⟨_, _, rfl, .inl (.inl (E1.s _ _ q)), fun p hp => We.tup (K := X.K) (we_mono _ _ _ _ _ k E1) E1.s hp d⟩⟩
theorem p_tuple2 (ha : Pe X B0 H0 δ e (.d (.tuple xs))) (hm : X.mg "tuple" = none) (hg : Gl X "tuple" := by rfl) (he : starEach [e] X.env = (false, eval e X.env) :: starEach [] X.env := by rfl) : Pe X B0 H0 δ (.Call (.Name "tuple" p1) [e] [] pos) (.d (.tuple xs)) :=
  pe_to (pe_tupleOf hg hm ha he) fun σ H Q ⟨B, E0, S, k⟩ => ⟨B, E0, S, fun v B1 H1 E1 r => by
    have r' := r
    cases r with
    | tup q d => exact .inr ⟨_, _, rfl, .inl (.inl (E1.s _ _ q)), We.now (K := X.K) (we_mono _ _ _ _ _ k E1) E1.s r'⟩⟩
/-- int(b), sum(ints), sorted(ints), max(m, n) -/
def b2i (b : Bool) : Int := if b then 1 else 0
theorem p_intB {k : Bool} (ha : Pa X B0 H0 δ [e] [.d (.bool k)]) (hm : X.mg "int" = none) (hg : Gl X "int" := by rfl) (he : starEach [e] X.env = (false, eval e X.env) :: starEach [] X.env := by rfl) : Pe X B0 H0 δ (.Call (.Name "int" p1) [e] [] pos) (.d (.int (b2i k))) :=
  g_callTy we_mono call_int1 ha (fun B H vs Q s rs q => by
    obtain ⟨v, rfl, r⟩ := ras_1 rs
    exact .inr ⟨k, by rw [ra_bl r], We.now q s (.int _)⟩) hg hm PyProof.Rows.boot_int (by decide) (by decide) he rfl
theorem p_sum {ns : List Int} (ha : Pa X B0 H0 δ [e] [.d (.list (ns.map .int))]) (hc : X.calm = true) (hm : X.mg "sum" = none) (hg : Gl X "sum" := by rfl) (he : starEach [e] X.env = (false, eval e X.env) :: starEach [] X.env := by rfl) : Pe X B0 H0 δ (.Call (.Name "sum" p1) [e] [] pos) (.d (.int ns.sum)) :=
  g_callB we_mono (cr_sum hc) ha (fun B H vs Q s rs k => by
    obtain ⟨v, rfl, r⟩ := ras_1 rs
    cases r with
    | lst q d => exact ⟨_, ns, rfl, .inl (.inl (by rw [← dqs_ints ns d]; exact s _ _ q)), We.now k s (.int _)⟩) hg hm (by decide +kernel) (by decide) (by decide) he rfl
theorem n_sorted {ns ms : List Int} (ha : Pa X B0 H0 δ [e] [.d (.list (ns.map .int))]) (hu : ∀ zs : List Int, zs.Perm ns → zs.Pairwise (· ≤ ·) → zs = ms) (hm : X.mg "sorted" = none) (hg : Gl X "sorted" := by rfl) (he : starEach [e] X.env = (false, eval e X.env) :: starEach [] X.env := by rfl) :
    Pn X B0 H0 δ (.Call (.Name "sorted" p1) [e] [] pos) (ms.map .int) :=
  g_callB wn_mono cr_sortedI ha (fun B H vs Q s rs k => by
    obtain ⟨v, rfl, r⟩ := ras_1 rs
    cases r with
    | lst q d => exact ⟨_, ns, rfl, .inl (.inl (by rw [← dqs_ints ns d]; exact s _ _ q)), fun zs p h1 h2 hp => by rw [hu zs h1 h2]; exact Wn.lst k s hp (ints_dqs ms)⟩) hg hm PyProof.Rows.boot_sorted (by decide) (by decide) he rfl
theorem p_max2 {i j : Int} (ha : Pa X B0 H0 δ [e1, e2] [.d (.int i), .d (.int j)]) (hc : X.calm = true) (hm : X.mg "max" = none) (hg : Gl X "max" := by rfl) (he : starEach [e1, e2] X.env = (false, eval e1 X.env) :: starEach [e2] X.env := by rfl) (hpl : (backTo pos (starEach [e2] X.env)).any (·.1) = false := by rfl) :
    Pe X B0 H0 δ (.Call (.Name "max" p1) [e1, e2] [] pos) (.d (.int (if j > i then j else i))) :=
  g_callB we_mono (call_max2 hc) ha (fun B H vs Q s rs k => by
    obtain ⟨v, u, rfl, r, r2⟩ := ras_2 rs
    exact ⟨i, j, by rw [ra_int r, ra_int r2], We.now k s (.int _)⟩) hg hm PyProof.Rows.boot_max (by decide) (by decide) he hpl

/-! ### isinstance -/
def tn : PyData → String
  | .none => "NoneType" | .bool _ => "bool" | .int _ => "int" | .str _ => "str" | .list _ => "list" | .tuple _ => "tuple" | .dict _ => "dict"
theorem dq_ty {K : PySem.W.Frag} {H : Hp} {v : V} {d : PyData} (h : Dq H v d) : TyX K H v (.type (tn d)) := by
  cases h with
  | non => exact .base .non
  | bl b => exact .base (.bl b)
  | int i => exact .base (.int i)
  | str z => exact .base (.str z)
  | lst q _ => exact .base (.lst q)
  | tup q _ => exact .base (.tup q)
theorem p_isi {T x : Str} {tb : String} {d : PyData} {r : Bool} (ha : Pe X B0 H0 δ e1 a) (hd : ∀ B H v, Sub B H → RA X.K B H v a → Dq H v d) (hT : X.mg T = none) (hb : bootBuiltins T = some (.type tb)) (hk : kitB (tn d) tb = some r) (hm : X.mg "isinstance" = none)
    (hgT : Gl X T := by rfl) (hg : Gl X "isinstance" := by rfl) (hn : T ≠ "__name__" := by decide) (hdb : (T == ("__debug__" : Str)) = false := by decide)
    (he : starEach [e1, .Name T p2] X.env = (false, eval e1 X.env) :: starEach [.Name T p2] X.env := by rfl) (he2 : starEach [.Name T p2] X.env = (false, eval (.Name T p2) X.env) :: starEach [] X.env := by rfl) (hpl : (backTo pos (starEach [.Name T p2] X.env)).any (·.1) = false := by rfl) :
    Pe X B0 H0 δ (.Call (.Name "isinstance" p1) [e1, .Name T p2] [] pos) (.d (.bool r)) :=
  g_callB we_mono call_isi (pas_cons ha (pas_cons (a := .v (.ty tb)) (p_c (v := .ty tb) (pe_bltn hgT hT hb rfl hn hdb) fun _ _ => rfl) pas_nil he2) he) (fun B H vs Q s rs k => by
    obtain ⟨v, u, rfl, r1, r2⟩ := ras_2 rs
    subst r2
    exact ⟨v, _, _, _, r, rfl, .ty tb, dq_ty (hd B H v s r1), kit_ty hk, We.now k s (.bl _)⟩) hg hm PyProof.Rows.boot_isinstance (by decide) (by decide) he hpl
theorem dq_d {K : PySem.W.Frag} {d : PyData} : ∀ B H v, Sub B H → RA K B H v (.d d) → Dq H v d := fun _ _ _ s r => dq_sub s _ _ r
end
end GL

set_option Elab.async false
set_option linter.all false
set_option maxRecDepth 100000
set_option maxHeartbeats 4000000
namespace GL
open PySem PySem.Spec L2

/-! ### data that == looks at -/
/-- data of depth n at most -/
def Sh (n : Nat) (d : PyData) : Prop := d.canLay0 = true ∧ d.depth ≤ n
theorem Sh.shaped {n : Nat} {d : PyData} (h : Sh n d) (hn : n ≤ 64 := by decide) : SeqAt.shaped d = true := by
  unfold SeqAt.shaped
  rw [h.1, Bool.true_and]
  exact decide_eq_true (Nat.le_trans h.2 hn)
theorem Sh.up {n m : Nat} {d : PyData} (h : Sh n d) (hn : n ≤ m := by omega) : Sh m d := ⟨h.1, Nat.le_trans h.2 hn⟩
theorem sh_int (n : Nat) (i : Int) : Sh n (.int i) := ⟨rfl, Nat.zero_le _⟩
theorem sh_bool (n : Nat) (i : Bool) : Sh n (.bool i) := ⟨rfl, Nat.zero_le _⟩
theorem sh_none (n : Nat) : Sh n .none := ⟨rfl, Nat.zero_le _⟩
theorem sh_str (n : Nat) {x : Str} (h : PyData.strOk x = true) : Sh n (.str x) := ⟨by rw [PyData.canLay0]; exact h, Nat.zero_le _⟩
theorem shs {n : Nat} : ∀ {xs : List PyData}, (∀ x ∈ xs, Sh n x) → PyData.canLayAll0 xs = true ∧ PyData.depthAll xs ≤ n
  | [], _ => ⟨rfl, Nat.zero_le _⟩
  | x :: xs, h => by
    obtain ⟨h1, h2⟩ := h x List.mem_cons_self
    obtain ⟨h3, h4⟩ := shs fun y hy => h y (List.mem_cons_of_mem _ hy)
    rw [PyData.canLayAll0, PyData.depthAll, h1, h3]
    exact ⟨rfl, Nat.max_le.mpr ⟨h2, h4⟩⟩
theorem sh_list {n : Nat} {xs : List PyData} (h : ∀ x ∈ xs, Sh n x) : Sh (n + 1) (.list xs) := by
  obtain ⟨h1, h2⟩ := shs h
  exact ⟨by rw [PyData.canLay0]; exact h1, by rw [PyData.depth]; omega⟩
theorem sh_tuple {n : Nat} {xs : List PyData} (h : ∀ x ∈ xs, Sh n x) : Sh (n + 1) (.tuple xs) := by
  obtain ⟨h1, h2⟩ := shs h
  exact ⟨by rw [PyData.canLay0]; exact h1, by rw [PyData.depth]; omega⟩
/-- lists and tuples of ints -/
abbrev li (ns : List Int) : PyData := .list (ns.map .int)
abbrev ti (ns : List Int) : PyData := .tuple (ns.map .int)
theorem sh_li (ns : List Int) : Sh 1 (li ns) := sh_list fun x hx => by
  obtain ⟨i, _, rfl⟩ := List.mem_map.mp hx
  exact sh_int _ _
theorem sh_ti (ns : List Int) : Sh 1 (ti ns) := sh_tuple fun x hx => by
  obtain ⟨i, _, rfl⟩ := List.mem_map.mp hx
  exact sh_int _ _
theorem eqvs_ints : ∀ ns ms : List Int, PyData.eqvAll (ns.map .int) (ms.map .int) = decide (ns = ms)
  | [], [] => by simp [PyData.eqvAll]
  | [], _ :: _ => by simp [PyData.eqvAll]
  | _ :: _, [] => by simp [PyData.eqvAll]
  | n :: ns, m :: ms => by
    rw [List.map_cons, List.map_cons, PyData.eqvAll, eqvs_ints ns ms, PyData.eqv]
    by_cases h : n = m
    · subst h; simp
    · simp [h]
theorem eqv_li (ns ms : List Int) : PyData.eqv (li ns) (li ms) = decide (ns = ms) := by rw [PyData.eqv]; exact eqvs_ints ns ms
theorem eqv_ti (ns ms : List Int) : PyData.eqv (ti ns) (ti ms) = decide (ns = ms) := by rw [PyData.eqv]; exact eqvs_ints ns ms
theorem Sh.same {n : Nat} {d : PyData} (h : Sh n d) : PyData.eqv d d = true := SeqAt.eqv_refl d h.1

/-- what is data now -/
class inductive Nw : A → outParam PyData → Prop
  | d {x} : Nw (.d x) x
  | t {x} : Nw (.t x) x
  | o {xs} : Nw (.o xs) (.list xs)
  | r {xs} : Nw (.r xs) (.list xs)
instance nw_d {x} : Nw (.d x) x := .d
instance nw_t {x} : Nw (.t x) x := .t
instance nw_o {xs} : Nw (.o xs) (.list xs) := .o
instance nw_r {xs} : Nw (.r xs) (.list xs) := .r
section
variable {X : Cx} {B0 H0 : Hp} {δ : List (Option A)} {e e1 e2 e3 : Expr} {es : List Expr} {a a1 a2 a3 : A} {as : List A} {b c : Bool} {xs ys : List PyData} {x y d d1 d2 : PyData} {pos p1 p2 : Pos} {w : PyData → A} {C : Hp → Hp → VK → Prop}

theorem Nw.at {K : PySem.W.Frag} {B H : Hp} {v : V} (h : Nw a d) (s : Sub B H) (r : RA K B H v a) : Dq H v d := by
  cases h with
  | d => exact dq_sub s _ _ r
  | t => exact r
  | o =>
    obtain ⟨p, vs, rfl, _, hp, k⟩ := r
    exact .lst hp (dqs_sub s _ _ k)
  | r =>
    obtain ⟨p, vs, rfl, hp, k⟩ := r
    exact .lst hp (dqs_sub s _ _ k)
theorem c_eq {n m : Nat} (ha : Pe X B0 H0 δ e1 a1) (hb : Pe X B0 H0 δ e2 a2) [n1 : Nw a1 d1] [n2 : Nw a2 d2] (s1 : Sh n d1) (s2 : Sh m d2) (hu : X.A.units + 64 < cLine) (hn : n ≤ 64 := by decide) (hm : m ≤ 64 := by decide) : Pc X B0 H0 δ e1 .Eq e2 (PyData.eqv d1 d2) :=
  ⟨_, _, _, (op_eqD hu), ha, hb, (nomark _), fun B H u v Q s r1 r2 k => ⟨d1, d2, dq_dp _ _ (n1.at s r1), dq_dp _ _ (n2.at s r2), s1.shaped hn, s2.shaped hm, k⟩⟩
theorem c_ne {n m : Nat} (ha : Pe X B0 H0 δ e1 a1) (hb : Pe X B0 H0 δ e2 a2) [n1 : Nw a1 d1] [n2 : Nw a2 d2] (s1 : Sh n d1) (s2 : Sh m d2) (hu : X.A.units + 64 < cLine) (hn : n ≤ 64 := by decide) (hm : m ≤ 64 := by decide) : Pc X B0 H0 δ e1 .NotEq e2 (!PyData.eqv d1 d2) :=
  ⟨_, _, _, (op_neD hu), ha, hb, (nomark _), fun B H u v Q s r1 r2 k => ⟨d1, d2, dq_dp _ _ (n1.at s r1), dq_dp _ _ (n2.at s r2), s1.shaped hn, s2.shaped hm, k⟩⟩
theorem c_eqI {i j : Int} (ha : Pe X B0 H0 δ e1 (.d (.int i))) (hb : Pe X B0 H0 δ e2 (.d (.int j))) : Pc X B0 H0 δ e1 .Eq e2 (decide (i = j)) := by
  refine ⟨_, _, _, op_eq, ha, hb, (nomark _), fun B H u v Q s r1 r2 k => ?_⟩
  rw [ra_int r1, ra_int r2]
  have e : decide (V.int i = V.int j) = decide (i = j) := by
    by_cases h : i = j
    · rw [h]; simp
    · rw [decide_eq_false h, decide_eq_false fun z => h (V.int.inj z)]
  exact ⟨rfl, by rw [e]; exact k⟩
theorem c_neI {i j : Int} (ha : Pe X B0 H0 δ e1 (.d (.int i))) (hb : Pe X B0 H0 δ e2 (.d (.int j))) : Pc X B0 H0 δ e1 .NotEq e2 (!decide (i = j)) := by
  refine ⟨_, _, _, op_ne, ha, hb, (nomark _), fun B H u v Q s r1 r2 k => ?_⟩
  rw [ra_int r1, ra_int r2]
  have e : decide (V.int i = V.int j) = decide (i = j) := by
    by_cases h : i = j
    · rw [h]; simp
    · rw [decide_eq_false h, decide_eq_false fun z => h (V.int.inj z)]
  exact ⟨rfl, by rw [e]; exact k⟩
theorem c_eqB {i j : Bool} (ha : Pe X B0 H0 δ e1 (.d (.bool i))) (hb : Pe X B0 H0 δ e2 (.d (.bool j))) : Pc X B0 H0 δ e1 .Eq e2 (i == j) := by
  refine ⟨_, _, _, op_eq, ha, hb, (nomark _), fun B H u v Q s r1 r2 k => ?_⟩
  rw [ra_bl r1, ra_bl r2]
  have e : decide (V.bl i = V.bl j) = (i == j) := by cases i <;> cases j <;> decide
  exact ⟨rfl, by rw [e]; exact k⟩
theorem c_neB {i j : Bool} (ha : Pe X B0 H0 δ e1 (.d (.bool i))) (hb : Pe X B0 H0 δ e2 (.d (.bool j))) : Pc X B0 H0 δ e1 .NotEq e2 (i != j) := by
  refine ⟨_, _, _, op_ne, ha, hb, (nomark _), fun B H u v Q s r1 r2 k => ?_⟩
  rw [ra_bl r1, ra_bl r2]
  have e : (!decide (V.bl i = V.bl j)) = (i != j) := by cases i <;> cases j <;> decide
  exact ⟨rfl, by rw [e]; exact k⟩
theorem c_eqS {i j : Str} (ha : Pe X B0 H0 δ e1 (.d (.str i))) (hb : Pe X B0 H0 δ e2 (.d (.str j))) : Pc X B0 H0 δ e1 .Eq e2 (decide (i = j)) := by
  refine ⟨_, _, _, op_eq, ha, hb, (nomark _), fun B H u v Q s r1 r2 k => ?_⟩
  rw [ra_str r1, ra_str r2]
  have e : decide (V.str i = V.str j) = decide (i = j) := by
    by_cases h : i = j
    · rw [h]; simp
    · rw [decide_eq_false h, decide_eq_false fun z => h (V.str.inj z)]
  exact ⟨rfl, by rw [e]; exact k⟩
theorem c_neS {i j : Str} (ha : Pe X B0 H0 δ e1 (.d (.str i))) (hb : Pe X B0 H0 δ e2 (.d (.str j))) : Pc X B0 H0 δ e1 .NotEq e2 (!decide (i = j)) := by
  refine ⟨_, _, _, op_ne, ha, hb, (nomark _), fun B H u v Q s r1 r2 k => ?_⟩
  rw [ra_str r1, ra_str r2]
  have e : decide (V.str i = V.str j) = decide (i = j) := by
    by_cases h : i = j
    · rw [h]; simp
    · rw [decide_eq_false h, decide_eq_false fun z => h (V.str.inj z)]
  exact ⟨rfl, by rw [e]; exact k⟩
/-- is None, is not None -/
def isN : PyData → Bool
  | .none => true
  | _ => false
theorem dq_non {H : Hp} {v : V} (h : Dq H v d) : decide (v = V.non) = isN d := by
  cases h <;> simp [isN]
theorem c_isN (ha : Pe X B0 H0 δ e1 a1) [n1 : Nw a1 d] (hb : Pe X B0 H0 δ e2 (.d .none)) : Pc X B0 H0 δ e1 .Is e2 (isN d) :=
  ⟨_, _, _, op_isN, ha, hb, (nomark _), fun B H u v Q s r1 r2 k => ⟨ra_non r2, by rw [dq_non (n1.at s r1)]; exact k⟩⟩
theorem c_notN (ha : Pe X B0 H0 δ e1 a1) [n1 : Nw a1 d] (hb : Pe X B0 H0 δ e2 (.d .none)) : Pc X B0 H0 δ e1 .IsNot e2 (!isN d) :=
  ⟨_, _, _, op_notN, ha, hb, (nomark _), fun B H u v Q s r1 r2 k => ⟨ra_non r2, by rw [dq_non (n1.at s r1)]; exact k⟩⟩

/-! ### in, not in: ints in a list of ints -/
theorem inV_int (i : Int) : ∀ ns : List Int, inV (V.int i) (ns.map V.int) = decide (i ∈ ns)
  | [] => rfl
  | n :: ns => by
    have ih := inV_int i ns
    unfold inV at ih ⊢
    rw [List.map_cons, List.any_cons, ih]
    by_cases h : n = i
    · subst h; simp [eqV]
    · have h' : ¬ i = n := fun z => h z.symm
      simp [eqV, h, h']
theorem flat_int : ∀ ns : List Int, (ns.map V.int).all flatV = true
  | [] => rfl
  | n :: ns => by rw [List.map_cons, List.all_cons, flat_int ns]; rfl
theorem c_in {i : Int} {ns : List Int} (ha : Pe X B0 H0 δ e1 (.d (.int i))) (hb : Pe X B0 H0 δ e2 a2) [hs : Sq a2 (ns.map .int) w] (hm : behindInMarks .In e2 = false := by rfl) : Pc X B0 H0 δ e1 .In e2 (decide (i ∈ ns)) := by
  refine ⟨_, _, _, op_in_seq, ha, hb, hm, fun B H u v Q s r1 r2 k => ?_⟩
  obtain ⟨p, vs, rfl, hq, hd, _⟩ := hs.at s r2
  have e := dqs_ints ns hd
  subst e
  refine ⟨p, _, rfl, hq, by rw [ra_int r1]; rfl, flat_int ns, ?_⟩
  rw [ra_int r1]
  show Q (.bl (inV (V.int i) (ns.map V.int))) H
  rw [inV_int]
  exact k
theorem c_notIn {i : Int} {ns : List Int} (ha : Pe X B0 H0 δ e1 (.d (.int i))) (hb : Pe X B0 H0 δ e2 a2) [hs : Sq a2 (ns.map .int) w] (hm : behindInMarks .NotIn e2 = false := by rfl) : Pc X B0 H0 δ e1 .NotIn e2 (!decide (i ∈ ns)) := by
  refine ⟨_, _, _, op_notIn_seq, ha, hb, hm, fun B H u v Q s r1 r2 k => ?_⟩
  obtain ⟨p, vs, rfl, hq, hd, _⟩ := hs.at s r2
  have e := dqs_ints ns hd
  subst e
  refine ⟨p, _, rfl, hq, by rw [ra_int r1]; rfl, flat_int ns, ?_⟩
  rw [ra_int r1]
  show Q (.bl (!inV (V.int i) (ns.map V.int))) H
  rw [inV_int]
  exact k

/-! ### slices -/
def Po (X : Cx) (B0 H0 : Hp) (δ : List (Option A)) (e : Option Expr) (o : Option Int) : Prop := PO X e fun σ H Q => ∃ B, Ext B0 H0 B H ∧ SD X.K H0 B H σ δ ∧ ∀ B' H', Ext B H B' H' → Q o H'
theorem o_none : Po X B0 H0 δ none none := ⟨fun pins s σ H Q J ⟨B, E0, S, k⟩ => po_none.run pins s σ H Q J (k B H (.rfl' S.s))⟩
theorem o_some {i : Int} (h : Pe X B0 H0 δ e (.d (.int i))) : Po X B0 H0 δ (some e) (some i) := ⟨fun pins s σ H Q J ⟨B, E0, S, k⟩ => (po_some h).run pins s σ H Q J ⟨B, E0, S, fun v B' H' E r => ⟨i, ra_int r, k B' H' E⟩⟩⟩
def cut {α : Type} (xs : List α) (lo hi : Option Int) : List α := (xs.drop (HT.sIx xs.length 0 lo)).take (HT.sIx xs.length xs.length hi - HT.sIx xs.length 0 lo)
abbrev cutD (xs : List PyData) (lo hi : Option Int) : List PyData := cut xs lo hi
theorem dqs_cut {H : Hp} {vs : List V} {lo hi : Option Int} (h : Dqs H vs xs) : Dqs H (cutV vs lo hi) (cutD xs lo hi) := by
  unfold cutV cutD cut
  rw [dqs_len h]
  exact dqs_take _ (dqs_drop _ h)
theorem n_slice {lo hi : Option Expr} {l u : Option Int} (ha : Pe X B0 H0 δ e a) (h1 : Po X B0 H0 δ lo l) (h2 : Po X B0 H0 δ hi u) (hl : ∀ B H v, Sub B H → RA X.K B H v a → ∃ p vs, v = .ref p ∧ SqL X.K H p vs ∧ Dqs B vs xs) :
    Pn X B0 H0 δ (.Subscript e (.Slice lo hi none p2) pos) (cutD xs l u) :=
  pe_to (pe_slice sl_list ha h1 h2) fun σ H Q ⟨B, E0, S, k⟩ => ⟨B, E0, S, fun v B1 H1 E1 r1 => ⟨B1, E0.tr E1, S.mono E1, fun B2 H2 E2 => ⟨B2, (E0.tr E1).tr E2, S.mono (E1.tr E2), fun B3 H3 E3 => by
    obtain ⟨p, vs, rfl, hq, hd⟩ := hl _ _ _ E3.s (r1.mono (E2.tr E3))
    exact ⟨p, vs, rfl, hq, fun q hp => Wn.lst (wn_mono _ _ _ _ _ k ((E1.tr E2).tr E3)) E3.s hp (dqs_cut hd)⟩⟩⟩⟩
theorem ls_sl [hl : Ls a xs] : ∀ K B H v, Sub B H → RA K B H v a → ∃ p vs, v = .ref p ∧ SqL K H p vs ∧ Dqs B vs xs := fun K B H v s r => by
  obtain ⟨p, vs, e, hp, hd⟩ := hl.at s r
  exact ⟨p, vs, e, .inl (.inl hp), hd⟩
theorem sc_sl {ns : List Int} : ∀ K B H v, Sub B H → RA K B H v (.s ns) → ∃ p vs, v = .ref p ∧ SqL K H p vs ∧ Dqs B vs (ns.map .int) := fun K B H v s r => by
  obtain ⟨p, e, h⟩ := r
  exact ⟨p, _, e, sub_l s h, ints_dqs ns⟩
theorem p_sliceT {lo hi : Option Expr} {l u : Option Int} (ha : Pe X B0 H0 δ e (.d (.tuple xs))) (h1 : Po X B0 H0 δ lo l) (h2 : Po X B0 H0 δ hi u) : Pe X B0 H0 δ (.Subscript e (.Slice lo hi none p2) pos) (.d (.tuple (cutD xs l u))) :=
  pe_to (pe_slice sl_tupA ha h1 h2) fun σ H Q ⟨B, E0, S, k⟩ => ⟨B, E0, S, fun v B1 H1 E1 r1 => ⟨B1, E0.tr E1, S.mono E1, fun B2 H2 E2 => ⟨B2, (E0.tr E1).tr E2, S.mono (E1.tr E2), fun B3 H3 E3 => by
    have r := r1.mono (E2.tr E3)
    have k' := we_mono (K := X.K) _ _ _ _ _ k ((E1.tr E2).tr E3)
    have r' : Dq B3 v (.tuple xs) := r
    cases r with
    | @tup p vs _ hp hd =>
      refine ⟨p, vs, rfl, .inl (.inl (E3.s _ _ hp)), fun z => ?_, fun _ q hq => We.tup k' E3.s hq (dqs_cut hd)⟩
      have e : cutD xs l u = xs := by
        rw [dqs_len hd] at z
        unfold cutD cut
        rw [z.1, z.2, Nat.sub_zero, List.drop_zero, List.take_length]
      rw [e] at k'
      exact We.now k' E3.s r'⟩⟩⟩

/-! ### tests -/
theorem t_of {b : Bool} (h : Pe X B0 H0 δ e (.d (.bool b))) (he : ∀ whole, isTrue e X.env whole = (do let v ← whole; standAt e.pos; holding [v] (truthy v)) := by intro _; rfl) : Pt X B0 H0 δ e b :=
  pt_to (pt_val h he) fun σ H Q ⟨B, E0, S, k⟩ => ⟨B, E0, S, fun v B' H' E r => ⟨b, ra_bl r, k B' H' E⟩⟩
theorem t_not (h : Pt X B0 H0 δ e b) : Pt X B0 H0 δ (.UnaryOp .Not e pos) (!b) := pt_to (pt_not h) fun σ H Q ⟨B, E0, S, k⟩ => ⟨B, E0, S, fun B' H' E => k B' H' E⟩
/-- known only where it is asked -/
theorem pt_when {P : Prop} (h : P → Pt X B0 H0 δ e b) : PT X e (fun σ H Q => P ∧ tPt X.K B0 H0 δ b σ H Q) := ⟨fun pins s σ H Q J ⟨p, q⟩ => (h p).run pins s σ H Q J q⟩
theorem pw_when {P : Prop} (h : P → Pw X B0 H0 δ e b) : PW X e (fun σ H Q => P ∧ tPt X.K B0 H0 δ b σ H Q) := ⟨fun wh pins s σ H Q J ⟨p, q⟩ => (h p).run wh pins s σ H Q J q⟩
theorem pe_when {P : Prop} (h : P → Pe X B0 H0 δ e a) : PE X e (fun σ H Q => P ∧ tPe X.K B0 H0 δ a σ H Q) := ⟨fun pins s σ H Q J ⟨p, q⟩ => (h p).run pins s σ H Q J q⟩
theorem w_and1 (h : Pt X B0 H0 δ e b) : Pw X B0 H0 δ (.BoolOp .And [e] pos) b := pw_and1 h
theorem w_or1 (h : Pt X B0 H0 δ e b) : Pw X B0 H0 δ (.BoolOp .Or [e] pos) b := pw_or1 h
theorem w_and {r : List Expr} {e2 : Expr} (h : Pt X B0 H0 δ e b) (h2 : b = true → Pw X B0 H0 δ (.BoolOp .And (e2 :: r) pos) c) : Pw X B0 H0 δ (.BoolOp .And (e :: e2 :: r) pos) (b && c) :=
  pw_to (pw_and h (pw_when h2)) fun σ H Q ⟨B, E0, S, k⟩ => ⟨B, E0, S, fun B' H' E => by
    cases b with
    | true => exact ⟨rfl, B', E0.tr E, S.mono E, fun B2 H2 E2 => k B2 H2 (E.tr E2)⟩
    | false => exact k B' H' E⟩
theorem w_or {r : List Expr} {e2 : Expr} (h : Pt X B0 H0 δ e b) (h2 : b = false → Pw X B0 H0 δ (.BoolOp .Or (e2 :: r) pos) c) : Pw X B0 H0 δ (.BoolOp .Or (e :: e2 :: r) pos) (b || c) :=
  pw_to (pw_or h (pw_when h2)) fun σ H Q ⟨B, E0, S, k⟩ => ⟨B, E0, S, fun B' H' E => by
    cases b with
    | false => exact ⟨rfl, B', E0.tr E, S.mono E, fun B2 H2 E2 => k B2 H2 (E.tr E2)⟩
    | true => exact k B' H' E⟩
theorem t_w (h : Pw X B0 H0 δ e b) : Pt X B0 H0 δ e b := h.pt
/-- and, or, not as values -/
theorem p_one {op} (h : Pe X B0 H0 δ e a) : Pe X B0 H0 δ (.BoolOp op [e] pos) a := pe_one h
theorem p_and {r : List Expr} {e2 : Expr} (h : Pe X B0 H0 δ e (.d (.bool b))) (h2 : b = true → Pe X B0 H0 δ (.BoolOp .And (e2 :: r) pos) (.d (.bool c))) : Pe X B0 H0 δ (.BoolOp .And (e :: e2 :: r) pos) (.d (.bool (b && c))) :=
  pe_to (pe_and h (pe_when h2)) fun σ H Q ⟨B, E0, S, k⟩ => ⟨B, E0, S, fun v B' H' E r => ⟨b, ra_bl r, by
    cases b with
    | true => exact ⟨rfl, B', E0.tr E, S.mono E, fun v B2 H2 E2 r2 => k v B2 H2 (E.tr E2) r2⟩
    | false => exact k _ B' H' E (.bl _)⟩⟩
theorem p_or {r : List Expr} {e2 : Expr} (h : Pe X B0 H0 δ e (.d (.bool b))) (h2 : b = false → Pe X B0 H0 δ (.BoolOp .Or (e2 :: r) pos) (.d (.bool c))) : Pe X B0 H0 δ (.BoolOp .Or (e :: e2 :: r) pos) (.d (.bool (b || c))) :=
  pe_to (pe_or h (pe_when h2)) fun σ H Q ⟨B, E0, S, k⟩ => ⟨B, E0, S, fun v B' H' E r => ⟨b, ra_bl r, by
    cases b with
    | false => exact ⟨rfl, B', E0.tr E, S.mono E, fun v B2 H2 E2 r2 => k v B2 H2 (E.tr E2) r2⟩
    | true => exact k _ B' H' E (.bl _)⟩⟩
theorem p_not (h : Pe X B0 H0 δ e (.d (.bool b))) : Pe X B0 H0 δ (.UnaryOp .Not e pos) (.d (.bool (!b))) :=
  pe_to (pe_not h) fun σ H Q ⟨B, E0, S, k⟩ => ⟨B, E0, S, fun v B' H' E r => ⟨b, ra_bl r, k _ B' H' E (.bl _)⟩⟩
end
end GL

set_option Elab.async false
set_option linter.all false
set_option maxRecDepth 100000
set_option maxHeartbeats 4000000
namespace GL
open PySem PySem.Spec L2

/-! ### what is walked -/
/-- the turns J give the items xs, which stand in B -/
def Wk (J : It) (B : Hp) (xs : List PyData) : Prop :=
  ∀ (k : Nat) (B' H' : Hp), Sub B B' → Sub B' H' → (∀ x, xs[k]? = some x → J.go k H' ∧ ∀ v H2, J.yld k H' v H2 → ∃ B2, Ext B' H' B2 H2 ∧ Dq B2 v x) ∧ (k = xs.length → J.stop k H')
def tPi (K : PySem.W.Frag) (B0 H0 : Hp) (δ : List (Option A)) (xs : List PyData) : TI := fun σ H R => ∃ B, Ext B0 H0 B H ∧ SD K H0 B H σ δ ∧ ∀ J B' H', Ext B H B' H' → Wk J B' xs → R J H'
def Pi (X : Cx) (B0 H0 : Hp) (δ : List (Option A)) (tg iter : Expr) (xs : List PyData) : Prop := PI X tg iter (tPi X.K B0 H0 δ xs)
theorem pi_to {X : Cx} {tg iter : Expr} {t t' : TI} (h : PI X tg iter t) (m : ∀ σ H R, t' σ H R → t σ H R) : PI X tg iter t' := ⟨fun pins s σ H R J q => h.run pins s σ H R J (m _ _ _ q)⟩

section
variable {X : Cx} {B0 H0 : Hp} {δ : List (Option A)} {e e1 e2 e3 : Expr} {es : List Expr} {a a1 a2 a3 : A} {as : List A} {b c : Bool} {xs ys : List PyData} {x y d d1 d2 : PyData} {pos p1 p2 : Pos} {w : PyData → A} {tg iter : Expr}

theorem wk_list {K : PySem.W.Frag} {B : Hp} {p : Addr} {vs : List V} (hp : ∀ B' H', Sub B B' → Sub B' H' → SqL K H' p vs) (hd : Dqs B vs xs) : Wk (Itl K p) B xs := fun k B' H' s1 s2 => by
  have hl := hp B' H' s1 s2
  refine ⟨fun x hx => ?_, fun hk => ⟨vs, hl, by rw [dqs_len hd]; omega⟩⟩
  obtain ⟨u, hu, du⟩ := dqs_get hd k x hx
  refine ⟨⟨vs, u, hl, hu⟩, fun v H2 hy => ?_⟩
  obtain ⟨rfl, hv⟩ := hy
  have e : v = u := Option.some.inj ((hv vs hl).symm.trans hu)
  subst e
  exact ⟨B', .rfl' s2, dq_sub s1 _ _ du⟩
theorem i_list (h : Pe X B0 H0 δ iter (.d (.list xs))) : Pi X B0 H0 δ tg iter xs :=
  pi_to (pi_list h) fun σ H R ⟨B, E0, S, k⟩ => ⟨B, E0, S, fun v B' H' E r => by
    cases r with
    | @lst p vs _ hp hd => exact ⟨p, rfl, ⟨vs, .inl (.inl (E.s _ _ hp))⟩, k _ B' H' E (wk_list (fun B2 H2 s1 s2 => .inl (.inl (s2 _ _ (s1 _ _ hp)))) hd)⟩⟩
theorem i_script {ns : List Int} (h : Pe X B0 H0 δ iter (.s ns)) : Pi X B0 H0 δ tg iter (ns.map .int) :=
  pi_to (pi_list h) fun σ H R ⟨B, E0, S, k⟩ => ⟨B, E0, S, fun v B' H' E r => by
    obtain ⟨p, rfl, hp⟩ := r
    exact ⟨p, rfl, ⟨_, sub_l E.s hp⟩, k _ B' H' E (wk_list (fun B2 H2 s1 s2 => sub_l (s1.tr s2) hp) (ints_dqs ns))⟩⟩
theorem i_tuple (h : Pe X B0 H0 δ iter (.d (.tuple xs))) : Pi X B0 H0 δ tg iter xs :=
  pi_to (pi_tup h) fun σ H R ⟨B, E0, S, k⟩ => ⟨B, E0, S, fun v B' H' E r => by
    cases r with
    | @tup p vs _ hp hd =>
      refine ⟨p, rfl, ⟨vs, .inl (.inl (E.s _ _ hp))⟩, k _ B' H' E fun k B2 H2 s1 s2 => ?_⟩
      have hl : SqT X.K H2 p vs := .inl (.inl (s2 _ _ (s1 _ _ hp)))
      refine ⟨fun x hx => ?_, fun hk => ⟨vs, hl, by rw [dqs_len hd]; omega⟩⟩
      obtain ⟨u, hu, du⟩ := dqs_get hd k x hx
      refine ⟨⟨vs, u, hl, hu⟩, fun v H3 hy => ?_⟩
      obtain ⟨rfl, hv⟩ := hy
      have e : v = u := Option.some.inj ((hv vs hl).symm.trans hu)
      subst e
      exact ⟨B2, .rfl' s2, dq_sub s1 _ _ du⟩⟩
/-- 0, 1, .. below n -/
def upto (n : Nat) : List PyData := (List.range n).map fun i => .int (i : Nat)
theorem i_range {n : Int} (h : Pe X B0 H0 δ e (.d (.int n))) (hn : n ≤ 1000000) (hn2 : 0 ≤ n) (hm : X.mg "range" = none) (hg : Gl X "range" := by rfl) (hs : starEach [e] X.env = [(false, eval e X.env)] := by rfl) (hs2 : starEach [e] X.env = (false, eval e X.env) :: starEach [] X.env := by rfl) : Pi X B0 H0 δ tg (.Call (.Name "range" p1) [e] [] pos) (upto n.toNat) :=
  pi_to (pi_range1 hg hm (pas_cons h pas_nil hs2) hs) fun σ H R ⟨B, E0, S, k⟩ => ⟨B, E0, S, fun vs B' H' E rs => by
    obtain ⟨v, rfl, r⟩ := ras_1 rs
    refine ⟨n, by rw [ra_int r], by omega, by omega, k _ B' H' E fun k B2 H2 s1 s2 => ?_⟩
    have hl : (upto n.toNat).length = n.toNat := by unfold upto; rw [List.length_map, List.length_range]
    refine ⟨fun x hx => ?_, fun hk => Nat.le_of_eq (by omega)⟩
    have hk : k < n.toNat := by rw [← hl]; exact (List.getElem?_eq_some_iff.mp hx).1
    have ex : x = .int (k : Nat) := by
      unfold upto at hx
      rw [List.getElem?_map, List.getElem?_range hk] at hx
      exact (Option.some.inj hx).symm
    subst ex
    refine ⟨hk, fun v H3 hy => ?_⟩
    obtain ⟨rfl, rfl⟩ := hy
    rw [Int.zero_add]
    exact ⟨B2, .rfl' s2, .int _⟩⟩

/-! ### list comprehensions -/
def wipeD (δ : List (Option A)) : List Nat → List (Option A)
  | [] => δ
  | v :: vs => (wipeD δ vs).set v none
theorem sd_none {K : PySem.W.Frag} {H0 B H : Hp} {σ : L2.St} {δ : List (Option A)} (S : SD K H0 B H σ δ) (i : Nat) : SD K H0 B H (σ.set i none) (δ.set i none) := by
  have no : ∀ {a : A} (j : Nat), (δ.set i none)[j]? = some (some a) → i ≠ j ∧ δ[j]? = some (some a) := fun j h => by
    by_cases q : i = j
    · subst q
      by_cases hi : i < δ.length
      · rw [List.getElem?_set_self hi] at h; cases h
      · rw [List.getElem?_eq_none (by simpa using hi)] at h; cases h
    · rw [List.getElem?_set_ne q] at h; exact ⟨q, h⟩
  refine ⟨S.s, by rw [List.length_set, List.length_set, S.len], fun j a h => ?_, fun j k p us ws h1 h2 h3 h4 => ?_, fun j p us h1 h2 => ?_⟩
  · obtain ⟨q, h⟩ := no j h
    rw [List.getElem?_set_ne q]
    exact S.rel j a h
  · obtain ⟨q1, h1⟩ := no j h1
    obtain ⟨q2, h2⟩ := no k h2
    rw [List.getElem?_set_ne q1] at h3
    rw [List.getElem?_set_ne q2] at h4
    exact S.dis j k p us ws h1 h2 h3 h4
  · obtain ⟨q1, h1⟩ := no j h1
    rw [List.getElem?_set_ne q1] at h2
    exact S.fr j p us h1 h2
theorem sd_wipe {K : PySem.W.Frag} {H0 B H : Hp} {σ : L2.St} {δ : List (Option A)} (S : SD K H0 B H σ δ) : ∀ vs : List Nat, SD K H0 B H (wipe σ vs) (wipeD δ vs)
  | [] => S
  | v :: vs => sd_none (sd_wipe S vs) v
theorem pts_when {P : Prop} {es : List Expr} {t : TT} (h : P → PTs X es t) : PTs X es (fun σ H Q => P ∧ t σ H Q) := ⟨fun pins s σ H Q J ⟨p, q⟩ => (h p).run pins s σ H Q J q⟩

/-- the test of a comprehension's clause -/
def Pts (X : Cx) (B0 H0 : Hp) (δ : List (Option A)) (es : List Expr) (b : Bool) : Prop := PTs X es (tPt X.K B0 H0 δ b)
theorem ts_nil : Pts X B0 H0 δ [] true := ⟨fun pins s σ H Q J ⟨B, E0, S, k⟩ => pts_nil.run pins s σ H Q J (k B H (.rfl' S.s))⟩
theorem ts_one (h : Pt X B0 H0 δ e b) : Pts X B0 H0 δ [e] b := pts_one h

/-- the reading of [elt for x in iter if ..]: over zs, told by emb; f: the test, g: the element -/
theorem lc_imp {K : PySem.W.Frag} {α : Type} {zs : List α} {emb : α → PyData} {f : α → Bool} {g : α → PyData} {i : Nat} (hl : zs.length ≤ 1000) (σ : L2.St) (H : Hp) (Q : VK) (h : tPn K B0 H0 δ ((zs.filter f).map g) σ H Q) :
    tLc (tPi K B0 H0 δ (zs.map emb)) (gName i) (fun σ H Q => ∃ z, z ∈ zs ∧ tPt K B0 H0 ((δ.set i none).set i (some (.d (emb z)))) (f z) σ H Q) (fun σ H Q => ∃ z, (z ∈ zs ∧ f z = true) ∧ tPe K B0 H0 ((δ.set i none).set i (some (.d (emb z)))) (.d (g z)) σ H Q) [i] σ H Q := by
  obtain ⟨B, E0, S, k⟩ := h
  refine ⟨B, E0, S, fun J Bs Hs E hw D hD => ?_⟩
  have Bsub : Sub Bs Hs := E.s
  have len : (zs.map emb).length = zs.length := List.length_map _
  have S0 : SD K H0 Bs Hs (wipe σ [i]) (wipeD δ [i]) := sd_wipe (S.mono E) [i]
  refine ⟨fun n m H' => m = zs.length - n ∧ n ≤ zs.length ∧ ∃ B' vs, Ext Bs Hs B' H' ∧ B' D = none ∧ H' D = some (.lst vs) ∧ Dqs B' vs (((zs.take n).filter f).map g), ⟨zs.length, rfl, Nat.zero_le _, Bs, [], .own Bsub hD, sub_free Bsub hD, upd_same, .nil⟩, ?_⟩
  rintro n m H' ⟨rfl, hn, B', vs, E1, hb, hl', hd⟩
  have vlen : vs.length ≤ zs.length := by
    rw [dqs_len hd, List.length_map]
    exact Nat.le_trans (List.length_filter_le _ _) (by rw [List.length_take]; exact Nat.min_le_right _ _)
  obtain ⟨w1, w2⟩ := hw n B' H' E1.b E1.s
  by_cases h : n < zs.length
  · have hz : zs[n]? = some zs[n] := List.getElem?_eq_getElem h
    have hmem : zs[n] ∈ zs := List.getElem_mem h
    obtain ⟨go, yl⟩ := w1 (emb zs[n]) (by rw [List.getElem?_map, hz]; rfl)
    have tk : zs.take (n + 1) = zs.take n ++ [zs[n]] := by rw [List.take_add_one, hz]; rfl
    refine .inr ⟨go, fun H2 => ∃ B' vs, Ext Bs Hs B' H2 ∧ B' D = none ∧ H2 D = some (.lst vs) ∧ Dqs B' vs (((zs.take (n + 1)).filter f).map g), fun H2 q => ⟨zs.length - (n + 1), by omega, rfl, h, q⟩, fun v H2 hy => ?_⟩
    obtain ⟨B2, E2, dv⟩ := yl v H2 hy
    have E12 := E1.tr E2
    have S2 : SD K H0 B2 H2 ((wipe σ [i]).set i (some v)) ((wipeD δ [i]).set i (some (.d (emb zs[n])))) := SD.set (S0.mono E12) dv (fun _ z => nomatch z)
    show wipe ((wipe σ [i]).set i (some v)) [i] = wipe σ [i] ∧ _
    refine ⟨?_, zs[n], hmem, B2, (E0.tr E).tr E12, S2, fun B3 H3 E3 => ?_⟩
    · show ((σ.set i none).set i (some v)).set i none = σ.set i none
      rw [List.set_set, List.set_set]
    · have hD3 : H3 D = some (.lst vs) := E3.h _ _ (E2.h _ _ hl')
      have hB3 : B3 D = none := by
        rw [E3.n D (by rw [E2.h _ _ hl']; simp), E2.n D (by rw [hl']; simp)]
        exact hb
      cases hf : f zs[n] with
      | false =>
        refine iteF ⟨B3, vs, E12.tr E3, hB3, hD3, ?_⟩
        rw [tk, List.filter_append, List.filter_cons, hf]
        show Dqs B3 vs ((List.filter f (zs.take n) ++ []).map g)
        rw [List.append_nil]
        exact dqs_sub (E2.b.tr E3.b) _ _ hd
      | true =>
        refine iteT ⟨zs[n], ⟨hmem, hf⟩, B3, ((E0.tr E).tr E12).tr E3, S2.mono E3, fun u B4 H4 E4 du => ?_⟩
        have hD4 : H4 D = some (.lst vs) := E4.h _ _ hD3
        have hB4 : B4 D = none := by rw [E4.n D (by rw [hD3]; simp)]; exact hB3
        refine ⟨vs, hD4, small1000 (by omega), B4, vs ++ [u], ?_, hB4, upd_same, ?_⟩
        · have e := (E12.tr E3).tr E4
          exact ⟨e.b, sub_upd e.h hD, sub_upd e.s hB4, e.n⟩
        · rw [tk, List.filter_append, List.filter_cons, hf]
          show Dqs B4 (vs ++ [u]) ((List.filter f (zs.take n) ++ [zs[n]]).map g)
          rw [List.map_append]
          exact dqs_app (dqs_sub ((E2.b.tr E3.b).tr E4.b) _ _ hd) (.cons du .nil)
  · have e : n = zs.length := by omega
    subst e
    refine .inl ⟨w2 (by rw [len]), ?_⟩
    rw [List.take_length] at hd
    exact k D vs B' H' (E.tr E1) (sub_free E.h hD) hb hl' hd

/-- [elt for x in iter if ..] -/
theorem n_lc {α : Type} {zs : List α} {emb : α → PyData} {f : α → Bool} {g : α → PyData} {i : Nat} {xn : Str} {elt : Expr} {ifs : List Expr} {scope : Scope} (hi : Pi X B0 H0 δ (.Name xn p1) iter xs) (hx : xs = zs.map emb)
    (ht : ∀ z, z ∈ zs → ∀ (s : Shared) (H : Hp) (C : Addr) (cl : List (Str × Addr)) (fp : List Addr), Pts (X.blk s H scope (compEnvC scope cl C X.env) fp) B0 H0 ((δ.set i none).set i (some (.d (emb z)))) ifs (f z))
    (he : ∀ z, z ∈ zs → f z = true → ∀ (s : Shared) (H : Hp) (C : Addr) (cl : List (Str × Addr)) (fp : List Addr), Pe (X.blk s H scope (compEnvC scope cl C X.env) fp) B0 H0 ((δ.set i none).set i (some (.d (emb z)))) elt (.d (g z)))
    (hl : zs.length ≤ 1000) (hc : X.calm = true) (hN : X.N.Nodup) (ok : blkC X.N X.env.scope scope [(xn, i)] = true)
    (hg : ∀ (s : Shared) (H : Hp) (C : Addr) (cl : List (Str × Addr)) (fp : List Addr), PG (X.blk s H scope (compEnvC scope cl C X.env) fp) (.Name xn p1) (gName i))
    (hs : ∀ x, foldedSetIterable iter X.env x = pure x := by intro _; rfl) : Pn X B0 H0 δ (.ListComp elt [⟨.Name xn p1, iter, ifs, 0⟩] scope pos) ((zs.filter f).map g) := by
  subst hx
  exact pe_to (pe_lc (own := [(xn, i)]) (pos := pos) hc hN hi (blkOk_by ok) hg (fun s H C cl fp => ⟨fun pins s2 σ H2 Q J ⟨z, hz, q⟩ => (ht z hz s H C cl fp).run pins s2 σ H2 Q J q⟩)
    (fun s H C cl fp => ⟨fun pins s2 σ H2 Q J ⟨z, hz, q⟩ => (he z hz.1 hz.2 s H C cl fp).run pins s2 σ H2 Q J q⟩) hs) (lc_imp hl)
/-- y = [elt for x in iter if ..], y a plain local name -/
theorem s_lc {α : Type} {zs : List α} {emb : α → PyData} {f : α → Bool} {g : α → PyData} {i j : Nat} {xn y : Str} {py spos : Pos} {elt : Expr} {ifs : List Expr} {scope : Scope} (hi : Pi X B0 H0 δ (.Name xn p1) iter xs) (hx : xs = zs.map emb)
    (ht : ∀ z, z ∈ zs → ∀ (s : Shared) (H : Hp) (C : Addr) (cl : List (Str × Addr)) (fp : List Addr), Pts (X.blk s H scope (compEnvC scope cl C X.env) fp) B0 H0 ((δ.set i none).set i (some (.d (emb z)))) ifs (f z))
    (he : ∀ z, z ∈ zs → f z = true → ∀ (s : Shared) (H : Hp) (C : Addr) (cl : List (Str × Addr)) (fp : List Addr), Pe (X.blk s H scope (compEnvC scope cl C X.env) fp) B0 H0 ((δ.set i none).set i (some (.d (emb z)))) elt (.d (g z)))
    (hl : zs.length ≤ 1000) (hc : X.calm = true) (hN : X.N.Nodup) (ok : blkC X.N X.env.scope scope [(xn, i)] = true)
    (hg : ∀ (s : Shared) (H : Hp) (C : Addr) (cl : List (Str × Addr)) (fp : List Addr), PG (X.blk s H scope (compEnvC scope cl C X.env) fp) (.Name xn p1) (gName i))
    (hy : X.N[j]? = some y) (hyl : X.env.scope.names.lookup y = some .local) (hsw : swapsWith (.ListComp elt [⟨.Name xn p1, iter, ifs, 0⟩] scope pos) (some (.Name y py)) spos.line X.env = pure true)
    (hs : ∀ x, foldedSetIterable iter X.env x = pure x := by intro _; rfl) : PS X (.Assign [.Name y py] (.ListComp elt [⟨.Name xn p1, iter, ifs, 0⟩] scope pos) spos) (tAsg (tPn X.K B0 H0 δ ((zs.filter f).map g)) (gName j)) := by
  subst hx
  have key := ps_setLc (own := [(xn, i)]) (pos := pos) (spos := spos) (tt := fun σ H Q => ∃ z, z ∈ zs ∧ tPt X.K B0 H0 ((δ.set i none).set i (some (.d (emb z)))) (f z) σ H Q) (te := fun σ H Q => ∃ z, (z ∈ zs ∧ f z = true) ∧ tPe X.K B0 H0 ((δ.set i none).set i (some (.d (emb z)))) (.d (g z)) σ H Q) hc hN hy hyl hsw hi (blkOk_by ok) hg (fun s H C cl fp => ⟨fun pins s2 σ H2 Q J ⟨z, hz, q⟩ => (ht z hz s H C cl fp).run pins s2 σ H2 Q J q⟩)
    (fun s H C cl fp => ⟨fun pins s2 σ H2 Q J ⟨z, hz, q⟩ => (he z hz.1 hz.2 s H C cl fp).run pins s2 σ H2 Q J q⟩) hs
  exact ⟨fun pins s σ H D J q => key.run pins s σ H D J (lc_imp hl σ H _ q)⟩
theorem filt_true {α : Type} (zs : List α) : zs.filter (fun _ => true) = zs := List.filter_eq_self.mpr fun _ _ => rfl
theorem ps_is {st : Stmt} {j : Nat} {ys zs : List PyData} (h : PS X st (tAsg (tPn X.K B0 H0 δ ys) (gName j))) (q : ys = zs) : PS X st (tAsg (tPn X.K B0 H0 δ zs) (gName j)) := q ▸ h
/-! .. without a test; with ints for elements -/
theorem n_lcA {α : Type} {zs : List α} {emb : α → PyData} {g : α → PyData} {i : Nat} {xn : Str} {elt : Expr} {scope : Scope} (hi : Pi X B0 H0 δ (.Name xn p1) iter xs) (hx : xs = zs.map emb)
    
    (he : ∀ z, z ∈ zs → ∀ (s : Shared) (H : Hp) (C : Addr) (cl : List (Str × Addr)) (fp : List Addr), Pe (X.blk s H scope (compEnvC scope cl C X.env) fp) B0 H0 ((δ.set i none).set i (some (.d (emb z)))) elt (.d (g z)))
    (hl : zs.length ≤ 1000) (hc : X.calm = true) (hN : X.N.Nodup) (ok : blkC X.N X.env.scope scope [(xn, i)] = true)
    (hg : ∀ (s : Shared) (H : Hp) (C : Addr) (cl : List (Str × Addr)) (fp : List Addr), PG (X.blk s H scope (compEnvC scope cl C X.env) fp) (.Name xn p1) (gName i))
    (hs : ∀ x, foldedSetIterable iter X.env x = pure x := by intro _; rfl) : Pn X B0 H0 δ (.ListComp elt [⟨.Name xn p1, iter, [], 0⟩] scope pos) (zs.map g) :=
  (n_lc (f := fun _ => true) (g := g) hi hx (fun _ _ _ _ _ _ _ => ts_nil) (fun z hz _ => he z hz) hl hc hN ok hg hs).is (by rw [filt_true])
theorem n_lcI {α : Type} {zs : List α} {emb : α → PyData} {f : α → Bool} {β : Type} {em : β → PyData} {g : α → β} {i : Nat} {xn : Str} {elt : Expr} {ifs : List Expr} {scope : Scope} (hi : Pi X B0 H0 δ (.Name xn p1) iter xs) (hx : xs = zs.map emb)
    (ht : ∀ z, z ∈ zs → ∀ (s : Shared) (H : Hp) (C : Addr) (cl : List (Str × Addr)) (fp : List Addr), Pts (X.blk s H scope (compEnvC scope cl C X.env) fp) B0 H0 ((δ.set i none).set i (some (.d (emb z)))) ifs (f z))
    (he : ∀ z, z ∈ zs → f z = true → ∀ (s : Shared) (H : Hp) (C : Addr) (cl : List (Str × Addr)) (fp : List Addr), Pe (X.blk s H scope (compEnvC scope cl C X.env) fp) B0 H0 ((δ.set i none).set i (some (.d (emb z)))) elt (.d (em (g z))))
    (hl : zs.length ≤ 1000) (hc : X.calm = true) (hN : X.N.Nodup) (ok : blkC X.N X.env.scope scope [(xn, i)] = true)
    (hg : ∀ (s : Shared) (H : Hp) (C : Addr) (cl : List (Str × Addr)) (fp : List Addr), PG (X.blk s H scope (compEnvC scope cl C X.env) fp) (.Name xn p1) (gName i))
    (hs : ∀ x, foldedSetIterable iter X.env x = pure x := by intro _; rfl) : Pn X B0 H0 δ (.ListComp elt [⟨.Name xn p1, iter, ifs, 0⟩] scope pos) (((zs.filter f).map g).map em) :=
  (n_lc (f := f) (g := fun z => em (g z)) hi hx ht he hl hc hN ok hg hs).is (by rw [List.map_map]; rfl)
theorem n_lcAI {α : Type} {zs : List α} {emb : α → PyData} {β : Type} {em : β → PyData} {g : α → β} {i : Nat} {xn : Str} {elt : Expr} {scope : Scope} (hi : Pi X B0 H0 δ (.Name xn p1) iter xs) (hx : xs = zs.map emb)
    
    (he : ∀ z, z ∈ zs → ∀ (s : Shared) (H : Hp) (C : Addr) (cl : List (Str × Addr)) (fp : List Addr), Pe (X.blk s H scope (compEnvC scope cl C X.env) fp) B0 H0 ((δ.set i none).set i (some (.d (emb z)))) elt (.d (em (g z))))
    (hl : zs.length ≤ 1000) (hc : X.calm = true) (hN : X.N.Nodup) (ok : blkC X.N X.env.scope scope [(xn, i)] = true)
    (hg : ∀ (s : Shared) (H : Hp) (C : Addr) (cl : List (Str × Addr)) (fp : List Addr), PG (X.blk s H scope (compEnvC scope cl C X.env) fp) (.Name xn p1) (gName i))
    (hs : ∀ x, foldedSetIterable iter X.env x = pure x := by intro _; rfl) : Pn X B0 H0 δ (.ListComp elt [⟨.Name xn p1, iter, [], 0⟩] scope pos) ((zs.map g).map em) :=
  (n_lc (f := fun _ => true) (g := fun z => em (g z)) hi hx (fun _ _ _ _ _ _ _ => ts_nil) (fun z hz _ => he z hz) hl hc hN ok hg hs).is (by rw [List.map_map, filt_true]; rfl)
theorem s_lcA {α : Type} {zs : List α} {emb : α → PyData} {g : α → PyData} {i j : Nat} {xn y : Str} {py spos : Pos} {elt : Expr} {scope : Scope} (hi : Pi X B0 H0 δ (.Name xn p1) iter xs) (hx : xs = zs.map emb)
    
    (he : ∀ z, z ∈ zs → ∀ (s : Shared) (H : Hp) (C : Addr) (cl : List (Str × Addr)) (fp : List Addr), Pe (X.blk s H scope (compEnvC scope cl C X.env) fp) B0 H0 ((δ.set i none).set i (some (.d (emb z)))) elt (.d (g z)))
    (hl : zs.length ≤ 1000) (hc : X.calm = true) (hN : X.N.Nodup) (ok : blkC X.N X.env.scope scope [(xn, i)] = true)
    (hg : ∀ (s : Shared) (H : Hp) (C : Addr) (cl : List (Str × Addr)) (fp : List Addr), PG (X.blk s H scope (compEnvC scope cl C X.env) fp) (.Name xn p1) (gName i))
    (hy : X.N[j]? = some y) (hyl : X.env.scope.names.lookup y = some .local) (hsw : swapsWith (.ListComp elt [⟨.Name xn p1, iter, [], 0⟩] scope pos) (some (.Name y py)) spos.line X.env = pure true)
    (hs : ∀ x, foldedSetIterable iter X.env x = pure x := by intro _; rfl) : PS X (.Assign [.Name y py] (.ListComp elt [⟨.Name xn p1, iter, [], 0⟩] scope pos) spos) (tAsg (tPn X.K B0 H0 δ (zs.map g)) (gName j)) :=
  ps_is (s_lc (f := fun _ => true) (g := g) hi hx (fun _ _ _ _ _ _ _ => ts_nil) (fun z hz _ => he z hz) hl hc hN ok hg hy hyl hsw hs) (by rw [filt_true])
theorem s_lcI {α : Type} {zs : List α} {emb : α → PyData} {f : α → Bool} {β : Type} {em : β → PyData} {g : α → β} {i j : Nat} {xn y : Str} {py spos : Pos} {elt : Expr} {ifs : List Expr} {scope : Scope} (hi : Pi X B0 H0 δ (.Name xn p1) iter xs) (hx : xs = zs.map emb)
    (ht : ∀ z, z ∈ zs → ∀ (s : Shared) (H : Hp) (C : Addr) (cl : List (Str × Addr)) (fp : List Addr), Pts (X.blk s H scope (compEnvC scope cl C X.env) fp) B0 H0 ((δ.set i none).set i (some (.d (emb z)))) ifs (f z))
    (he : ∀ z, z ∈ zs → f z = true → ∀ (s : Shared) (H : Hp) (C : Addr) (cl : List (Str × Addr)) (fp : List Addr), Pe (X.blk s H scope (compEnvC scope cl C X.env) fp) B0 H0 ((δ.set i none).set i (some (.d (emb z)))) elt (.d (em (g z))))
    (hl : zs.length ≤ 1000) (hc : X.calm = true) (hN : X.N.Nodup) (ok : blkC X.N X.env.scope scope [(xn, i)] = true)
    (hg : ∀ (s : Shared) (H : Hp) (C : Addr) (cl : List (Str × Addr)) (fp : List Addr), PG (X.blk s H scope (compEnvC scope cl C X.env) fp) (.Name xn p1) (gName i))
    (hy : X.N[j]? = some y) (hyl : X.env.scope.names.lookup y = some .local) (hsw : swapsWith (.ListComp elt [⟨.Name xn p1, iter, ifs, 0⟩] scope pos) (some (.Name y py)) spos.line X.env = pure true)
    (hs : ∀ x, foldedSetIterable iter X.env x = pure x := by intro _; rfl) : PS X (.Assign [.Name y py] (.ListComp elt [⟨.Name xn p1, iter, ifs, 0⟩] scope pos) spos) (tAsg (tPn X.K B0 H0 δ (((zs.filter f).map g).map em)) (gName j)) :=
  ps_is (s_lc (f := f) (g := fun z => em (g z)) hi hx ht he hl hc hN ok hg hy hyl hsw hs) (by rw [List.map_map]; rfl)
theorem s_lcAI {α : Type} {zs : List α} {emb : α → PyData} {β : Type} {em : β → PyData} {g : α → β} {i j : Nat} {xn y : Str} {py spos : Pos} {elt : Expr} {scope : Scope} (hi : Pi X B0 H0 δ (.Name xn p1) iter xs) (hx : xs = zs.map emb)
    
    (he : ∀ z, z ∈ zs → ∀ (s : Shared) (H : Hp) (C : Addr) (cl : List (Str × Addr)) (fp : List Addr), Pe (X.blk s H scope (compEnvC scope cl C X.env) fp) B0 H0 ((δ.set i none).set i (some (.d (emb z)))) elt (.d (em (g z))))
    (hl : zs.length ≤ 1000) (hc : X.calm = true) (hN : X.N.Nodup) (ok : blkC X.N X.env.scope scope [(xn, i)] = true)
    (hg : ∀ (s : Shared) (H : Hp) (C : Addr) (cl : List (Str × Addr)) (fp : List Addr), PG (X.blk s H scope (compEnvC scope cl C X.env) fp) (.Name xn p1) (gName i))
    (hy : X.N[j]? = some y) (hyl : X.env.scope.names.lookup y = some .local) (hsw : swapsWith (.ListComp elt [⟨.Name xn p1, iter, [], 0⟩] scope pos) (some (.Name y py)) spos.line X.env = pure true)
    (hs : ∀ x, foldedSetIterable iter X.env x = pure x := by intro _; rfl) : PS X (.Assign [.Name y py] (.ListComp elt [⟨.Name xn p1, iter, [], 0⟩] scope pos) spos) (tAsg (tPn X.K B0 H0 δ ((zs.map g).map em)) (gName j)) :=
  ps_is (s_lc (f := fun _ => true) (g := fun z => em (g z)) hi hx (fun _ _ _ _ _ _ _ => ts_nil) (fun z hz _ => he z hz) hl hc hN ok hg hy hyl hsw hs) (by rw [List.map_map, filt_true]; rfl)
end
end GL

set_option Elab.async false
set_option linter.all false
set_option maxRecDepth 100000
set_option maxHeartbeats 4000000
namespace GL
open PySem PySem.Spec L2

/-! ### promises of defs, calls -/
/-- how a call ends: with a value, or with an exception of the class at C -/
inductive R where
  | ret (a : A)
  | exc (C : Addr)
/-- the promise: from arguments told by as, rel tells how it ends -/
def spG (K : PySem.W.Frag) (rel : Hp → Hp → List A → R → Prop) : Sp := fun vs H Q E => ∃ B as r, Sub B H ∧ RAs K B H vs as ∧ rel B H as r ∧ match r with
  | .ret a => ∀ v B' H', Ext B H B' H' → RA K B' H' v a → Q v H'
  | .exc C => ∀ B' H', Ext B H B' H' → E (.ref C) none H'
/-- a def that stands in the module under the name x and keeps its promise -/
structure Kn (P : Program) (w : World) (K : PySem.W.Frag) (mg : Str → Option Value) (base : Heap) (x : Str) (k : Nat) (rel : Hp → Hp → List A → R → Prop) : Prop where
  ex : ∃ CX f fd ps, (∀ X : Cx, X.prog = P → X.w = w → Passes CX X E0) ∧ FnOk P w K mg base CX k f fd ps (spG K rel) ∧ mg x = some (.ref f) ∧ PySem.W.keepIn K (.ref f) = true ∧ Binds K fd ps []

theorem RAs.len {K : PySem.W.Frag} {B H : Hp} : ∀ {vs : List V} {as : List A}, RAs K B H vs as → vs.length = as.length
  | _, _, .nil => rfl
  | _, _, .cons _ t => congrArg (· + 1) (RAs.len t)

section
variable {X : Cx} {B0 H0 : Hp} {δ δ' : List (Option A)} {e e1 e2 e3 : Expr} {es : List Expr} {a a1 a2 a3 : A} {as : List A} {b c : Bool} {xs ys : List PyData} {x y d d1 d2 : PyData} {pos p1 p2 : Pos} {w : PyData → A} {tg iter : Expr} {nm : Str} {k : Nat} {rel : Hp → Hp → List A → R → Prop}

theorem p_call (F : Kn X.prog X.w X.K X.mg X.base nm k rel) (hr : Room k X.A) (ha : Pa X B0 H0 δ (e :: es) as) (h : ∀ B H, Ext B0 H0 B H → Sub B H → rel B H as (.ret a)) (hg : Gl X nm := by rfl) (hdb : (nm == ("__debug__" : Str)) = false := by decide)
    (he : starEach (e :: es) X.env = (false, eval e X.env) :: starEach es X.env := by rfl) (hpl : (backTo pos (starEach es X.env)).any (·.1) = false := by rfl) : Pe X B0 H0 δ (.Call (.Name nm p1) (e :: es) [] pos) a := by
  obtain ⟨CX, f, fd, ps, pa, F, hm, hk, hb⟩ := F.ex
  exact pe_to (pe_call F hr hg hm hk hb .nil (pa X rfl rfl) ha hdb he hpl) fun σ H Q ⟨B, E, S, q⟩ => ⟨B, E, S, fun vs B1 H1 E1 r1 => ⟨B1, as, .ret a, E1.s, by rw [List.append_nil]; exact r1, h B1 H1 (E.tr E1) E1.s, fun v B2 H2 E2 r2 => q v B2 H2 (E1.tr E2) r2⟩⟩

/-! ### statements -/
/-- what is wanted behind, told without addresses -/
structure AE where
  nx : Hp → Hp → List (Option A) → Prop
  rt : Hp → Hp → A → Prop
  bk : Hp → Hp → List (Option A) → Prop := fun _ _ _ => False
  ct : Hp → Hp → List (Option A) → Prop := fun _ _ _ => False
structure Cz (K : PySem.W.Frag) (B : Hp) (E : AE) (D : Ends) : Prop where
  nx : ∀ B1 H1 δ σ B' H', E.nx B1 H1 δ → Sub B B' → Ext B1 H1 B' H' → SD K H1 B' H' σ δ → D.nx σ H'
  rt : ∀ B1 H1 a v B' H', E.rt B1 H1 a → Sub B B' → Ext B1 H1 B' H' → RA K B' H' v a → D.rt v H'
  bk : ∀ B1 H1 δ σ B' H', E.bk B1 H1 δ → Sub B B' → Ext B1 H1 B' H' → SD K H1 B' H' σ δ → D.bk σ H'
  ct : ∀ B1 H1 δ σ B' H', E.ct B1 H1 δ → Sub B B' → Ext B1 H1 B' H' → SD K H1 B' H' σ δ → D.ct σ H'
theorem Cz.up {K : PySem.W.Frag} {B B' : Hp} {E : AE} {D : Ends} (z : Cz K B E D) (s : Sub B B') : Cz K B' E D :=
  ⟨fun B1 H1 δ σ B2 H2 h t => z.nx B1 H1 δ σ B2 H2 h (s.tr t), fun B1 H1 a v B2 H2 h t => z.rt B1 H1 a v B2 H2 h (s.tr t), fun B1 H1 δ σ B2 H2 h t => z.bk B1 H1 δ σ B2 H2 h (s.tr t), fun B1 H1 δ σ B2 H2 h t => z.ct B1 H1 δ σ B2 H2 h (s.tr t)⟩
def tWs (K : PySem.W.Frag) (B0 H0 : Hp) (δ : List (Option A)) (E : AE) : TS := fun D σ H => ∃ B, Ext B0 H0 B H ∧ SD K H0 B H σ δ ∧ Cz K B E D
def Ws (X : Cx) (B0 H0 : Hp) (δ : List (Option A)) (ss : List Stmt) (E : AE) : Prop := PSs X ss (tWs X.K B0 H0 δ E)
theorem pss_to {ss : List Stmt} {t t' : TS} (h : PSs X ss t) (m : ∀ D σ H, t' D σ H → t D σ H) : PSs X ss t' := ⟨fun pins s σ H D J q => h.run pins s σ H D J (m _ _ _ q)⟩
/-- one statement, then what W tells of the rest -/
theorem ws_cons {E : AE} {st : Stmt} {rest : List Stmt} {t : TS} {W : Hp → Hp → List (Option A) → Prop} (h1 : PS X st t) (hW : ∀ B H δ', W B H δ' → Ws X B H δ' rest E) (m : ∀ D σ H B, Ext B0 H0 B H → SD X.K H0 B H σ δ → Cz X.K B { E with nx := W } D → t D σ H) : Ws X B0 H0 δ (st :: rest) E := by
  have h2 : PSs X rest (fun D σ H => ∃ B1 H1 δ1, W B1 H1 δ1 ∧ tWs X.K B1 H1 δ1 E D σ H) := ⟨fun pins s σ H D J ⟨B1, H1, δ1, hw, q⟩ => (hW B1 H1 δ1 hw).run pins s σ H D J q⟩
  refine pss_to (pss_cons h1 h2) fun D σ H ⟨B, E0, S, z⟩ => m _ σ H B E0 S ?_
  exact ⟨fun B1 H1 δ1 σ1 B' H' hw s E1 S1 => ⟨B1, H1, δ1, hw, B', E1, S1, z.up s⟩, z.rt, z.bk, z.ct⟩
theorem ws_nil {E : AE} (h : E.nx B0 H0 δ) : Ws X B0 H0 δ [] E := pss_to pss_nil fun D σ H ⟨B, E0, S, z⟩ => z.nx _ _ _ σ B H h Sub.rfl' E0 S
/-- e kept in a slot -/
def keep : A → Bool
  | .d _ => true
  | .v _ => true
  | .s _ => true
  | .r _ => true
  | _ => false
theorem keep_no {a : A} (h : keep a = true) : ∀ xs, a ≠ .o xs := fun xs z => by rw [z] at h; cases h
theorem ws_set {E : AE} {rest : List Stmt} {i : Nat} {x : Str} (hi : X.N[i]? = some x) (he : Pe X B0 H0 δ e a) (hk : keep a = true) (hr : Ws X B0 H0 (δ.set i (some a)) rest E) (hN : X.N.Nodup) (hx : Loc X.env.scope x)
    (hs : swapsWith e (some (.Name x p1)) pos.line X.env = pure false := by rfl) (hf : X.fn x = true ∨ X.env.scope.names.lookup x = some .local := by first | exact .inl rfl | exact .inr rfl | assumption) : Ws X B0 H0 δ (.Assign [.Name x p1] e pos :: rest) E :=
  ws_cons (W := fun B H δ' => B = B0 ∧ H = H0 ∧ δ' = δ.set i (some a)) (ps_set hN hi hx he hs hf) (fun B H δ' ⟨h1, h2, h3⟩ => by rw [h1, h2, h3]; exact hr) fun D σ H B E0 S z =>
    ⟨B, E0, S, fun v B' H' E1 r => z.nx _ _ _ _ B' H' ⟨rfl, rfl, rfl⟩ E1.b (E0.tr E1) ((S.mono E1).set r (keep_no hk))⟩
/-- a new list kept as one's own -/
theorem ws_own {E : AE} {rest : List Stmt} {i : Nat} {x : Str} (hi : X.N[i]? = some x) (he : Pn X B0 H0 δ e xs) (hr : Ws X B0 H0 (δ.set i (some (.o xs))) rest E) (hN : X.N.Nodup) (hx : Loc X.env.scope x)
    (hs : swapsWith e (some (.Name x p1)) pos.line X.env = pure false := by rfl) (hf : X.fn x = true ∨ X.env.scope.names.lookup x = some .local := by first | exact .inl rfl | exact .inr rfl | assumption) : Ws X B0 H0 δ (.Assign [.Name x p1] e pos :: rest) E :=
  ws_cons (W := fun B H δ' => B = B0 ∧ H = H0 ∧ δ' = δ.set i (some (.o xs))) (ps_set hN hi hx he hs hf) (fun B H δ' ⟨h1, h2, h3⟩ => by rw [h1, h2, h3]; exact hr) fun D σ H B E0 S z =>
    ⟨B, E0, S, fun p vs B' H' E1 hp hb hl hd => z.nx _ _ _ _ B' H' ⟨rfl, rfl, rfl⟩ E1.b (E0.tr E1) ((S.mono E1).setO ⟨p, vs, rfl, hb, hl, hd⟩ (fun j ys hj hy q => by
      obtain ⟨v, h1, q2, ws, rfl, _, h2, _⟩ := S.rel j _ hy
      rw [q] at h1
      cases h1
      rw [hp] at h2
      cases h2) (sub_free E0.h (sub_free Sub.rfl' hp)))⟩
/-- the same by ps_setLc -/
theorem ws_lc {E : AE} {rest : List Stmt} {st : Stmt} {i : Nat} (h : PS X st (tAsg (tPn X.K B0 H0 δ xs) (gName i))) (hr : Ws X B0 H0 (δ.set i (some (.d (.list xs)))) rest E) : Ws X B0 H0 δ (st :: rest) E :=
  ws_cons (W := fun B H δ' => B = B0 ∧ H = H0 ∧ δ' = δ.set i (some (.d (.list xs)))) h (fun B H δ' ⟨h1, h2, h3⟩ => by rw [h1, h2, h3]; exact hr) fun D σ H B E0 S z =>
    ⟨B, E0, S, fun p vs B' H' E1 hp hb hl hd => by
      have E2 : Ext B H (upd B' p (.lst vs)) H' := ⟨E1.b.tr (sub_new hb), E1.h, fun x u q => by
        by_cases h : x = p
        · subst h; rw [upd_same] at q; cases q; exact hl
        · rw [upd_ne h] at q; exact E1.s x u q, fun x q => by
        have h : x ≠ p := fun h => q (by rw [h]; exact hp)
        rw [upd_ne h]; exact E1.n x q⟩
      exact z.nx _ _ _ _ _ H' ⟨rfl, rfl, rfl⟩ E2.b (E0.tr E2) ((S.mono E2).set (.lst upd_same (dqs_sub (sub_new hb) _ _ hd)) (fun _ z => nomatch z))⟩
theorem ws_ret {E : AE} {rest : List Stmt} (he : Pe X B0 H0 δ e a) (h : E.rt B0 H0 a) : Ws X B0 H0 δ (.Return (some e) pos :: rest) E :=
  ws_cons (W := fun _ _ _ => False) (ps_ret he) (fun _ _ _ q => q.elim) fun D σ H B E0 S z => ⟨B, E0, S, fun v B' H' E1 r => z.rt _ _ _ v B' H' h E1.b (E0.tr E1) r⟩
theorem ws_if {E : AE} {rest b1 b2 : List Stmt} {t : Expr} (ht : Pt X B0 H0 δ t c) (h1 : c = true → Ws X B0 H0 δ b1 { E with nx := fun B H δ' => Ws X B H δ' rest E }) (h2 : c = false → Ws X B0 H0 δ b2 { E with nx := fun B H δ' => Ws X B H δ' rest E }) : Ws X B0 H0 δ (.If t b1 b2 pos :: rest) E := by
  have k1 : PSs X b1 (fun D σ H => c = true ∧ tWs X.K B0 H0 δ { E with nx := fun B H δ' => Ws X B H δ' rest E } D σ H) := ⟨fun pins s σ H D J ⟨q1, q2⟩ => (h1 q1).run pins s σ H D J q2⟩
  have k2 : PSs X b2 (fun D σ H => c = false ∧ tWs X.K B0 H0 δ { E with nx := fun B H δ' => Ws X B H δ' rest E } D σ H) := ⟨fun pins s σ H D J ⟨q1, q2⟩ => (h2 q1).run pins s σ H D J q2⟩
  refine ws_cons (W := fun B H δ' => Ws X B H δ' rest E) (ps_if ht k1 k2) (fun _ _ _ q => q) fun D σ H B E0 S z => ⟨B, E0, S, fun B' H' E1 => ?_⟩
  cases c with
  | true => exact iteT ⟨rfl, B', E0.tr E1, S.mono E1, z.up E1.b⟩
  | false => exact iteF ⟨rfl, B', E0.tr E1, S.mono E1, z.up E1.b⟩
/-- if t: body, without else; the state behind told by both ways at once -/
theorem ws_ifJ {E : AE} {rest b1 b2 : List Stmt} {t : Expr} (W : Hp → Hp → List (Option A) → Prop) (ht : Pt X B0 H0 δ t c) (h1 : c = true → Ws X B0 H0 δ b1 { E with nx := W }) (h2 : c = false → Ws X B0 H0 δ b2 { E with nx := W }) (hr : ∀ B H δ', W B H δ' → Ws X B H δ' rest E) : Ws X B0 H0 δ (.If t b1 b2 pos :: rest) E := by
  have k1 : PSs X b1 (fun D σ H => c = true ∧ tWs X.K B0 H0 δ { E with nx := W } D σ H) := ⟨fun pins s σ H D J ⟨q1, q2⟩ => (h1 q1).run pins s σ H D J q2⟩
  have k2 : PSs X b2 (fun D σ H => c = false ∧ tWs X.K B0 H0 δ { E with nx := W } D σ H) := ⟨fun pins s σ H D J ⟨q1, q2⟩ => (h2 q1).run pins s σ H D J q2⟩
  refine ws_cons (W := W) (ps_if ht k1 k2) hr fun D σ H B E0 S z => ⟨B, E0, S, fun B' H' E1 => ?_⟩
  cases c with
  | true => exact iteT ⟨rfl, B', E0.tr E1, S.mono E1, z.up E1.b⟩
  | false => exact iteF ⟨rfl, B', E0.tr E1, S.mono E1, z.up E1.b⟩
/-- for x in iter: I by the turn -/
theorem ws_for {E : AE} {rest body : List Stmt} {i : Nat} {xn : Str} (I : Nat → Hp → Hp → List (Option A) → Prop) (hi : Pi X B0 H0 δ (.Name xn p1) iter xs) (h0 : I 0 B0 H0 δ)
    (hs : ∀ k x B H δ', xs[k]? = some x → I k B H δ' → Ws X B H (δ'.set i (some (.d x))) body { E with nx := I (k + 1), ct := I (k + 1), bk := fun B H δ' => Ws X B H δ' rest E })
    (hr : ∀ B H δ', I xs.length B H δ' → Ws X B H δ' rest E) (hx : X.N[i]? = some xn) (hN : X.N.Nodup) (hl : Loc X.env.scope xn) (hc : X.calm = true) (hp : PassesOwn (model X.prog X.w) X.A X.env X.xe)
    (hf : X.fn xn = true ∨ X.env.scope.names.lookup xn = some .local := by first | exact .inl rfl | exact .inr rfl | assumption) (hfs : ∀ x, foldedSetIterable iter X.env x = pure x := by intro _; rfl) : Ws X B0 H0 δ (.For (.Name xn p1) iter body [] pos :: rest) E := by
  have hb : PSs X body (fun D σ H => ∃ k x B1 H1 δ1, xs[k]? = some x ∧ I k B1 H1 δ1 ∧ tWs X.K B1 H1 (δ1.set i (some (.d x))) { E with nx := I (k + 1), ct := I (k + 1), bk := fun B H δ' => Ws X B H δ' rest E } D σ H) :=
    ⟨fun pins s σ H D J ⟨k, x, B1, H1, δ1, hx, hI, q⟩ => (hs k x B1 H1 δ1 hx hI).run pins s σ H D J q⟩
  refine ws_cons (W := fun B H δ' => Ws X B H δ' rest E) (ps_for hp hc hi (pg_name hN hx hl hf) hb hfs) (fun _ _ _ q => q) fun D σ H B E0 S z => ⟨B, E0, S, fun J Bs Hs E1 hw => ?_⟩
  refine ⟨fun k m σ' H' => m = xs.length - k ∧ k ≤ xs.length ∧ ∃ B' B1 H1 δ1, Sub Bs B' ∧ I k B1 H1 δ1 ∧ Ext B1 H1 B' H' ∧ SD X.K H1 B' H' σ' δ1, ⟨xs.length, rfl, Nat.zero_le _, Bs, B0, H0, δ, Sub.rfl', h0, E0.tr E1, S.mono E1⟩, ?_⟩
  rintro k m σ' H' ⟨rfl, hk, B', B1, H1, δ1, sb, hI, E2, S2⟩
  obtain ⟨w1, w2⟩ := hw k B' H' sb S2.s
  by_cases h : k < xs.length
  · have hx : xs[k]? = some xs[k] := List.getElem?_eq_getElem h
    obtain ⟨go, yl⟩ := w1 _ hx
    refine .inr ⟨go, fun σ3 H3 => ∃ B3 B4 H4 δ4, Sub Bs B3 ∧ I (k + 1) B4 H4 δ4 ∧ Ext B4 H4 B3 H3 ∧ SD X.K H4 B3 H3 σ3 δ4, fun σ3 H3 ⟨B3, B4, H4, δ4, q1, q2, q3, q4⟩ => ⟨xs.length - (k + 1), by omega, rfl, h, B3, B4, H4, δ4, q1, q2, q3, q4⟩, fun v H3 hy => ?_⟩
    obtain ⟨B3, E3, dv⟩ := yl v H3 hy
    refine ⟨k, xs[k], B1, H1, δ1, hx, hI, B3, E2.tr E3, (S2.mono E3).set dv (fun _ z => nomatch z), ?_⟩
    have s3 : Sub Bs B3 := sb.tr E3.b
    exact ⟨fun B4 H4 δ4 σ4 B5 H5 q1 q2 q3 q4 => ⟨B5, B4, H4, δ4, s3.tr q2, q1, q3, q4⟩, fun B4 H4 a v B5 H5 q1 q2 => z.rt B4 H4 a v B5 H5 q1 ((E1.b.tr s3).tr q2), fun B4 H4 δ4 σ4 B5 H5 q1 q2 => z.nx B4 H4 δ4 σ4 B5 H5 q1 ((E1.b.tr s3).tr q2), fun B4 H4 δ4 σ4 B5 H5 q1 q2 q3 q4 => ⟨B5, B4, H4, δ4, s3.tr q2, q1, q3, q4⟩⟩
  · have e : k = xs.length := by omega
    subst e
    exact .inl ⟨w2 rfl, z.nx _ _ _ _ B' H' (hr _ _ _ hI) (E1.b.tr sb) E2 S2⟩
theorem ws_pass {E : AE} {rest : List Stmt} (h : Ws X B0 H0 δ rest E) : Ws X B0 H0 δ (.Pass pos :: rest) E :=
  ws_cons (W := fun B H δ' => B = B0 ∧ H = H0 ∧ δ' = δ) ps_pass (fun B H δ' ⟨h1, h2, h3⟩ => by rw [h1, h2, h3]; exact h) fun D σ H B E0 S z => z.nx _ _ _ σ B H ⟨rfl, rfl, rfl⟩ Sub.rfl' E0 S
/-- x.append(e), x a list of one's own -/
theorem sd_own {K : PySem.W.Frag} {H0 B H : Hp} {σ : L2.St} {i : Nat} {p : Addr} {vs : List V} (S : SD K H0 B H σ δ) (hδ : δ[i]? = some (some (.o xs))) (hσ : σ[i]? = some (some (.ref p))) (hb : B p = none) (hd : Dqs B vs ys) (no : ∀ (j : Nat) (a : A), δ[j]? = some (some a) → (∀ z, a ≠ A.t z) ∧ ∀ z, a ≠ A.r z) :
    SD K H0 B (upd H p (.lst vs)) σ (δ.set i (some (.o ys))) := by
  have hi : i < δ.length := (List.getElem?_eq_some_iff.mp hδ).1
  refine ⟨sub_upd S.s hb, by rw [List.length_set]; exact S.len, fun j a h => ?_, fun j k q us ws h1 h2 h3 h4 => ?_, fun j q us h1 h2 => ?_⟩
  · by_cases q : i = j
    · subst q
      rw [List.getElem?_set_self hi] at h
      cases h
      exact ⟨_, hσ, p, vs, rfl, hb, upd_same, hd⟩
    · rw [List.getElem?_set_ne q] at h
      obtain ⟨v, h1, h2⟩ := S.rel j a h
      refine ⟨v, h1, ?_⟩
      cases a with
      | d x => exact h2
      | v x => exact h2
      | t x => exact absurd rfl ((no j _ h).1 x)
      | r x => exact absurd rfl ((no j _ h).2 x)
      | s ns => exact h2
      | o zs =>
        obtain ⟨r, us, rfl, hb', hr, hd'⟩ := h2
        have hne : r ≠ p := fun z => by
          subst z
          exact q (S.dis i j r xs zs hδ h hσ h1)
        exact ⟨r, us, rfl, hb', by rw [upd_ne hne]; exact hr, hd'⟩
  · have f : ∀ (j : Nat) (zs : List PyData), (δ.set i (some (A.o ys)))[j]? = some (some (.o zs)) → ∃ zs', δ[j]? = some (some (.o zs')) := fun j zs h => by
      by_cases q : i = j
      · subst q; exact ⟨xs, hδ⟩
      · rw [List.getElem?_set_ne q] at h; exact ⟨zs, h⟩
    obtain ⟨z1, g1⟩ := f j us h1
    obtain ⟨z2, g2⟩ := f k ws h2
    exact S.dis j k q z1 z2 g1 g2 h3 h4
  · by_cases e1 : i = j
    · subst e1; exact S.fr i q xs hδ h2
    · rw [List.getElem?_set_ne e1] at h1; exact S.fr j q us h1 h2
/-- no slot holds data for now -/
def fixd (δ : List (Option A)) : Bool := δ.all fun o => match o with
  | some (.t _) => false
  | some (.r _) => false
  | _ => true
theorem fixd_no (h : fixd δ = true) : ∀ (j : Nat) (a : A), δ[j]? = some (some a) → (∀ z, a ≠ A.t z) ∧ ∀ z, a ≠ A.r z := fun j a hj => by
  have := List.all_eq_true.mp h _ (List.mem_of_getElem? hj)
  constructor
  · intro z q
    subst q
    cases this
  · intro z q
    subst q
    cases this
theorem keepd (h : fixd δ = true) {B H : Hp} {p : Addr} {vs : List V} {K : PySem.W.Frag} {σ : L2.St} {i : Nat} (S : SD K H0 B H σ δ) (E : Ext B0 H0 B H) (hδ : δ[i]? = some (some (.o xs))) (hσ : σ[i]? = some (some (.ref p))) (hb : B p = none) (hd : Dqs B vs ys) :
    Ext B0 H0 B (upd H p (.lst vs)) ∧ SD K H0 B (upd H p (.lst vs)) σ (δ.set i (some (.o ys))) := by
  have h0 := S.fr i p xs hδ hσ
  exact ⟨⟨E.b, sub_upd E.h h0, sub_upd E.s hb, E.n⟩, sd_own S hδ hσ hb hd (fixd_no h)⟩
theorem ws_app {E : AE} {rest : List Stmt} {i : Nat} {xn : Str} {apos cpos epos : Pos} (hδ : δ[i]? = some (some (.o xs))) (he : Pe X B0 H0 δ e (.d x)) (hz : xs.length < 1000) (hf : fixd δ = true) (hr : Ws X B0 H0 (δ.set i (some (.o (xs ++ [x])))) rest E) (hN : X.N[i]? = some xn) (hv : Vis X.env.scope xn)
    (hbase : attributeBase (.Name xn p1) "append" X.env (eval (.Name xn p1) X.env) = eval (.Name xn p1) X.env := by rfl)
    (hfew : ((backTo cpos (starEach [e] X.env)).all (fun x => !x.1) && (backToKw cpos (keywordEach [] X.env)).all (fun x => x.1.isSome) && decide ([e].length + ([] : List Keyword).length + (if ([] : List Keyword).isEmpty then 0 else 1) < 30)) = true := by rfl)
    (hline : (apos.endLine == cpos.line) = true := by rfl) (hs : starEach [e] X.env = (false, eval e X.env) :: starEach [] X.env := by rfl) (hsw : swapsWith (.Call (.Attribute (.Name xn p1) "append" apos) [e] [] cpos) none epos.line X.env = pure false := by rfl) (h1 : (xn == ("__debug__" : Str)) = false := by decide) (h2 : (xn == ("__classdict__" : Str)) = false := by decide) :
    Ws X B0 H0 δ (.Expr (.Call (.Attribute (.Name xn p1) "append" apos) [e] [] cpos) epos :: rest) E := by
  have key := pe_bm PySem.F.plainAttrs_list PySem.F.slot_list_append PySem.F.type_list_append mt_append (pe_var (X := X) (i := i) (pos := p1) hN hv h1 h2) (pa_cons he pa_nil hs) hbase hfew hline hs rfl
  refine ws_cons (W := fun B H δ' => B = B0 ∧ H = H0 ∧ δ' = δ.set i (some (.o (xs ++ [x])))) (ps_expr key hsw) (fun B H δ' ⟨h1, h2, h3⟩ => by rw [h1, h2, h3]; exact hr) fun D σ H B E0 S z => ?_
  obtain ⟨v, hσ, p, vs, rfl, hb, hl, hd⟩ := S.rel i _ hδ
  refine ⟨_, hσ, .inl ⟨rfl, _, .inl (.inl hl)⟩, B, E0, S, fun u B' H' E1 r => ?_⟩
  have hl' := E1.h _ _ hl
  have hb' : B' p = none := by rw [E1.n p (by rw [hl]; simp)]; exact hb
  refine ⟨p, vs, u, rfl, rfl, hl', small1000 (by rw [dqs_len hd]; omega), ?_⟩
  obtain ⟨g1, g2⟩ := keepd hf (S.mono E1) (E0.tr E1) hδ hσ hb' (dqs_app (dqs_sub E1.b _ _ hd) (.cons r .nil))
  exact z.nx _ _ _ σ B' _ ⟨rfl, rfl, rfl⟩ E1.b g1 g2
/-- own[i] = e -/
theorem ws_store {E : AE} {rest : List Stmt} {i j : Nat} {xn : Str} {n : Int} {spos : Pos} (hδ : δ[i]? = some (some (.o xs))) (he : Pe X B0 H0 δ e (.d x)) (hi : Pe X B0 H0 δ e2 (.d (.int n))) (hj : ixN xs.length n = some j) (hf : fixd δ = true) (hr : Ws X B0 H0 (δ.set i (some (.o (xs.set j x)))) rest E) (hN : X.N[i]? = some xn) (hv : Vis X.env.scope xn)
    (hg : PG X (.Subscript (.Name xn p1) e2 p2) (gSub (tVar i) (tPe X.K B0 H0 δ (.d (.int n))) rSetL))
    (hs : swapsWithSole [.Subscript (.Name xn p1) e2 p2] e spos.line X.env = pure false := by rfl) (hw : swappedStores [.Subscript (.Name xn p1) e2 p2] e X.env = pure none := by rfl) (h1 : (assignEach [.Subscript (.Name xn p1) e2 p2] X.env).map (·.2) = [assign (.Subscript (.Name xn p1) e2 p2) X.env] := by rfl) :
    Ws X B0 H0 δ (.Assign [.Subscript (.Name xn p1) e2 p2] e spos :: rest) E := by
  refine ws_cons (W := fun B H δ' => B = B0 ∧ H = H0 ∧ δ' = δ.set i (some (.o (xs.set j x)))) (ps_asg he hg hs hw h1) (fun B H δ' ⟨h1, h2, h3⟩ => by rw [h1, h2, h3]; exact hr) fun D σ H B E0 S z => ⟨B, E0, S, fun u B' H' E1 r => ?_⟩
  obtain ⟨v, hσ, p, vs, rfl, hb, hl, hd⟩ := (S.mono E1).rel i _ hδ
  refine ⟨_, hσ, B', E0.tr E1, S.mono E1, fun m B2 H2 E2 r2 => ?_⟩
  have hl' := E2.h _ _ hl
  have hb' : B2 p = none := by rw [E2.n p (by rw [hl]; simp)]; exact hb
  refine ⟨p, vs, n, j, rfl, ra_int r2, hl', by rw [dqs_len hd]; exact hj, ?_⟩
  obtain ⟨g1, g2⟩ := keepd hf (S.mono (E1.tr E2)) ((E0.tr E1).tr E2) hδ hσ hb' (dqs_set j (dqs_sub E2.b _ _ hd) (r.mono E2))
  exact z.nx _ _ _ σ B2 _ ⟨rfl, rfl, rfl⟩ (E1.tr E2).b g1 g2
/-- a list of one's own is let go: from here on it is data -/
theorem ws_let {E : AE} {ss : List Stmt} (i : Nat) (hδ : δ[i]? = some (some (.o xs))) (h : Ws X B0 H0 (δ.set i (some (.d (.list xs)))) ss E) : Ws X B0 H0 δ ss E := by
  refine pss_to h fun D σ H ⟨B, E0, S, z⟩ => ?_
  obtain ⟨v, hσ, p, vs, rfl, hb, hl, hd⟩ := S.rel i _ hδ
  have h0 := S.fr i p xs hδ hσ
  have hi : i < δ.length := (List.getElem?_eq_some_iff.mp hδ).1
  have sB : Sub B (upd B p (.lst vs)) := sub_new hb
  refine ⟨upd B p (.lst vs), ⟨E0.b.tr sB, E0.h, fun y u q => ?_, fun y q => ?_⟩, ⟨fun y u q => ?_, by rw [List.length_set]; exact S.len, fun j a hj => ?_, fun j k q us ws h1 h2 h3 h4 => ?_, fun j q us h1 h2 => ?_⟩, z.up sB⟩
  · by_cases e : y = p
    · subst e; rw [upd_same] at q; cases q; exact hl
    · rw [upd_ne e] at q; exact E0.s y u q
  · have e : y ≠ p := fun e => q (by rw [e]; exact h0)
    rw [upd_ne e]; exact E0.n y q
  · by_cases e : y = p
    · subst e; rw [upd_same] at q; cases q; exact hl
    · rw [upd_ne e] at q; exact S.s y u q
  · by_cases q : i = j
    · subst q
      rw [List.getElem?_set_self hi] at hj
      cases hj
      exact ⟨_, hσ, .lst upd_same (dqs_sub sB _ _ hd)⟩
    · rw [List.getElem?_set_ne q] at hj
      obtain ⟨u, h1, h2⟩ := S.rel j a hj
      refine ⟨u, h1, ?_⟩
      cases a with
      | d x => exact dq_sub sB _ _ h2
      | v x => exact h2
      | t x => exact h2
      | r x => obtain ⟨r, us, rfl, h4, h5⟩ := h2; exact ⟨r, us, rfl, h4, dqs_sub sB _ _ h5⟩
      | s ns => obtain ⟨r, h3, h4⟩ := h2; exact ⟨r, h3, sub_l sB h4⟩
      | o zs =>
        obtain ⟨r, us, rfl, h3, h4, h5⟩ := h2
        have hne : r ≠ p := fun e => by
          subst e
          exact q (S.dis i j r xs zs hδ hj hσ h1)
        exact ⟨r, us, rfl, by rw [upd_ne hne]; exact h3, h4, dqs_sub sB _ _ h5⟩
  · have f : ∀ (j : Nat) (zs : List PyData), (δ.set i (some (A.d (.list xs))))[j]? = some (some (.o zs)) → δ[j]? = some (some (.o zs)) := fun j zs h => by
      by_cases q : i = j
      · subst q; rw [List.getElem?_set_self hi] at h; cases h
      · rw [List.getElem?_set_ne q] at h; exact h
    exact S.dis j k q us ws (f j us h1) (f k ws h2) h3 h4
  · have q : i ≠ j := fun q => by
      subst q; rw [List.getElem?_set_self hi] at h1; cases h1
    rw [List.getElem?_set_ne q] at h1
    exact S.fr j _ us h1 h2

/-! ### a def keeps its promise -/
def startD (N : List Str) (as : List A) : List (Option A) := as.map some ++ List.replicate (N.length - as.length) none
theorem sd_start {K : PySem.W.Frag} {B H : Hp} {N : List Str} {vs : List V} {as : List A} (s : Sub B H) (r : RAs K B H vs as) (no : ∀ a ∈ as, keep a = true) : SD K H B H (L2.start N vs) (startD N as) := by
  have hl := r.len
  have g : ∀ {vs : List V} {as : List A} {m : Nat}, RAs K B H vs as → ∀ (i : Nat) (a : A), (as.map some ++ List.replicate m none)[i]? = some (some a) → a ∈ as ∧ ∃ v, (vs.map some ++ List.replicate m none)[i]? = some (some v) ∧ RA K B H v a := by
    intro vs as m r
    induction r with
    | nil =>
      intro i a h
      rw [List.map_nil, List.nil_append, List.getElem?_replicate] at h
      split at h <;> cases h
    | @cons v a vs as r t ih =>
      intro i b h
      cases i with
      | zero =>
        have e := Option.some.inj (Option.some.inj h)
        subst e
        exact ⟨List.mem_cons_self, v, rfl, r⟩
      | succ i =>
        obtain ⟨h1, h2⟩ := ih i b h
        exact ⟨List.mem_cons_of_mem _ h1, h2⟩
  have g' : ∀ (i : Nat) (a : A), (startD N as)[i]? = some (some a) → a ∈ as ∧ ∃ v, (L2.start N vs)[i]? = some (some v) ∧ RA K B H v a := fun i a h => by
    have := g (m := N.length - as.length) r i a h
    unfold L2.start
    rw [hl]
    exact this
  refine ⟨s, by unfold L2.start startD; rw [List.length_append, List.length_append, List.length_map, List.length_map, List.length_replicate, List.length_replicate, hl], fun i a h => (g' i a h).2, fun i j p us ws h1 => ?_, fun i p us h1 => ?_⟩
  · have := no _ (g' i _ h1).1
    cases this
  · have := no _ (g' i _ h1).1
    cases this
end
/-- THE RULE for a def from which nothing is raised -/
theorem fn_ws {P : Program} {w : World} {K : PySem.W.Frag} {mg : Str → Option Value} {base : Heap} {x qual : Str} {st : Stmt} {f : Addr} {fd : FuncData} {N ps : List Str} {k : Nat} {rel : Hp → Hp → List A → R → Prop} (F : Fun K x qual st f fd) (S : FnScope N ps (defScope st))
    (h : ∀ B H as r, Sub B H → rel B H as r → (as.length = ps.length ∧ ∀ a ∈ as, keep a = true) ∧ ∃ a, r = .ret a ∧ ∀ cdv A outer s0 H0 E, Room k (A.deeper (PyProof.Rows.envOfC qual (defScope st) s0.heap.objs.size f cdv)) → Ws (cxOf CX0 P w K mg base N qual (defScope st) f cdv A outer s0 H0 E).nox B H (startD N as) (defBody st) { nx := fun B' H' _ => Ext B H B' H' ∧ a = .d .none, rt := fun B' H' a' => Ext B H B' H' ∧ a' = a }) : FnOk P w K mg base CX0 (k + 1) f fd ps (spG K rel) := by
  refine F.ok S (fun vs H Q E ⟨B, as, r, s, ra, hr, _⟩ => by rw [ra.len]; exact (h B H as r s hr).1.1) fun cdv A outer s0 H vs Q E hroom ⟨B, as, r, s, ra, hr, q⟩ => ?_
  obtain ⟨⟨h1, h2⟩, a, rfl, h3⟩ := h B H as r s hr
  refine ⟨_, h3 cdv A outer s0 H E hroom, B, .rfl' s, sd_start s ra h2, ⟨fun B1 H1 δ σ B' H' ⟨e1, e2⟩ _ E1 S1 => ?_, fun B1 H1 a' v B' H' ⟨e1, e2⟩ _ E1 r1 => ?_, fun _ _ _ _ _ _ z => z.elim, fun _ _ _ _ _ _ z => z.elim⟩⟩
  · subst e2
    exact q .non B' H' (e1.tr E1) .non
  · subst e2
    exact q v B' H' (e1.tr E1) r1
end GL

set_option Elab.async false
set_option linter.all false
set_option maxRecDepth 100000
set_option maxHeartbeats 4000000
namespace GL
open PySem PySem.Spec L2

/-! ### rules that are found by what the values are -/
/-- a1 + a2, where side holds -/
class AddR (a1 a2 : A) (side : outParam Prop) (a : outParam A) : Prop where
  ok : side → ∀ (X : Cx) (B0 H0 : Hp) (δ : List (Option A)) (e1 e2 : Expr) (pos : Pos), Pe X B0 H0 δ e1 a1 → Pe X B0 H0 δ e2 a2 → Pe X B0 H0 δ (.BinOp e1 .Add e2 pos) a
instance ad_int {i j : Int} : AddR (.d (.int i)) (.d (.int j)) True (.d (.int (i + j))) := ⟨fun _ _ _ _ _ _ _ _ h1 h2 => p_add h1 h2⟩
instance (priority := low) ad_list {a1 a2 xs ys} [Ls a1 xs] [Ls a2 ys] : AddR a1 a2 (xs.length + ys.length ≤ 1000) (.d (.list (xs ++ ys))) := ⟨fun s _ _ _ _ _ _ _ h1 h2 => (n_cat h1 h2 s).dat⟩
instance ad_li {a1 a2} {xs ys : List Int} [Ls a1 (xs.map .int)] [Ls a2 (ys.map .int)] : AddR a1 a2 (xs.length + ys.length ≤ 1000) (.d (li (xs ++ ys))) := ⟨fun s _ _ _ _ _ _ _ h1 h2 => (n_cat h1 h2 (by rw [List.length_map, List.length_map]; exact s)).dat.is (by simp only [li, List.map_append])⟩
instance (priority := low) ad_tuple {xs ys} : AddR (.d (.tuple xs)) (.d (.tuple ys)) (xs.length + ys.length ≤ 1000) (.d (.tuple (xs ++ ys))) := ⟨fun s _ _ _ _ _ _ _ h1 h2 => p_catT h1 h2 s⟩
instance ad_ti {xs ys : List Int} : AddR (.d (.tuple (xs.map .int))) (.d (.tuple (ys.map .int))) (xs.length + ys.length ≤ 1000) (.d (ti (xs ++ ys))) := ⟨fun s _ _ _ _ _ _ _ h1 h2 => (p_catT h1 h2 (by rw [List.length_map, List.length_map]; exact s)).is (by simp only [ti, List.map_append])⟩
/-- a1 == a2 -/
class EqR (a1 a2 : A) (side : outParam Prop) (b : outParam Bool) : Prop where
  ok : side → ∀ (X : Cx) (B0 H0 : Hp) (δ : List (Option A)) (e1 e2 : Expr), X.A.units + 64 < cLine → Pe X B0 H0 δ e1 a1 → Pe X B0 H0 δ e2 a2 → Pc X B0 H0 δ e1 .Eq e2 b ∧ Pc X B0 H0 δ e1 .NotEq e2 (!b)
instance eq_int {i j : Int} : EqR (.d (.int i)) (.d (.int j)) True (decide (i = j)) := ⟨fun _ _ _ _ _ _ _ _ h1 h2 => ⟨c_eqI h1 h2, c_neI h1 h2⟩⟩
instance eq_bool {i j : Bool} : EqR (.d (.bool i)) (.d (.bool j)) True (i == j) := ⟨fun _ _ _ _ _ _ _ _ h1 h2 => ⟨c_eqB h1 h2, c_neB h1 h2⟩⟩
instance eq_str {i j : Str} : EqR (.d (.str i)) (.d (.str j)) True (decide (i = j)) := ⟨fun _ _ _ _ _ _ _ _ h1 h2 => ⟨c_eqS h1 h2, c_neS h1 h2⟩⟩
instance eq_li {a1 a2} {xs ys : List Int} [Nw a1 (.list (xs.map .int))] [Nw a2 (.list (ys.map .int))] : EqR a1 a2 True (decide (xs = ys)) :=
  ⟨fun _ _ _ _ _ _ _ hu h1 h2 => ⟨(c_eq h1 h2 (sh_li xs) (sh_li ys) hu).is (eqv_li xs ys), (c_ne h1 h2 (sh_li xs) (sh_li ys) hu).is (congrArg _ (eqv_li xs ys))⟩⟩
instance eq_ti {a1 a2} {xs ys : List Int} [Nw a1 (.tuple (xs.map .int))] [Nw a2 (.tuple (ys.map .int))] : EqR a1 a2 True (decide (xs = ys)) :=
  ⟨fun _ _ _ _ _ _ _ hu h1 h2 => ⟨(c_eq h1 h2 (sh_ti xs) (sh_ti ys) hu).is (eqv_ti xs ys), (c_ne h1 h2 (sh_ti xs) (sh_ti ys) hu).is (congrArg _ (eqv_ti xs ys))⟩⟩
instance (priority := low) eq_any {a1 a2 d1 d2} [Nw a1 d1] [Nw a2 d2] : EqR a1 a2 (Sh 40 d1 ∧ Sh 40 d2) (PyData.eqv d1 d2) :=
  ⟨fun s _ _ _ _ _ _ hu h1 h2 => ⟨c_eq h1 h2 s.1 s.2 hu, c_ne h1 h2 s.1 s.2 hu⟩⟩
/-- a display's items -/
class DispR (as : List A) (xs : outParam (List PyData)) : Prop where
  ok : as = xs.map .d
class DispI (as : List A) (ns : outParam (List Int)) : Prop where
  ok : as = (ns.map PyData.int).map .d
instance di_nil : DispI [] [] := ⟨rfl⟩
instance di_cons {n ns as} [h : DispI as ns] : DispI (.d (.int n) :: as) (n :: ns) := ⟨by rw [h.ok]; rfl⟩
class DispA (as : List A) (xs : outParam (List PyData)) : Prop where
  ok : as = xs.map .d
instance da_nil : DispA [] [] := ⟨rfl⟩
instance da_cons {x xs as} [h : DispA as xs] : DispA (.d x :: as) (x :: xs) := ⟨by rw [h.ok]; rfl⟩
instance (priority := high) dr_int {as ns} [h : DispI as ns] : DispR as (ns.map .int) := ⟨h.ok⟩
instance (priority := low) dr_any {as xs} [h : DispA as xs] : DispR as xs := ⟨h.ok⟩

section
variable {X : Cx} {B0 H0 : Hp} {δ δ' : List (Option A)} {e e1 e2 e3 : Expr} {es : List Expr} {a a1 a2 a3 : A} {as : List A} {b c : Bool} {xs ys : List PyData} {x y d d1 d2 : PyData} {pos p1 p2 : Pos} {w : PyData → A} {side : Prop}
theorem q_add (h1 : Pe X B0 H0 δ e1 a1) (h2 : Pe X B0 H0 δ e2 a2) [r : AddR a1 a2 side a] (s : side) : Pe X B0 H0 δ (.BinOp e1 .Add e2 pos) a := r.ok s _ _ _ _ _ _ _ h1 h2
theorem q_eq (h1 : Pe X B0 H0 δ e1 a1) (h2 : Pe X B0 H0 δ e2 a2) [r : EqR a1 a2 side b] (s : side) (hu : X.A.units + 64 < cLine) : Pc X B0 H0 δ e1 .Eq e2 b := (r.ok s _ _ _ _ _ _ hu h1 h2).1
theorem q_ne (h1 : Pe X B0 H0 δ e1 a1) (h2 : Pe X B0 H0 δ e2 a2) [r : EqR a1 a2 side b] (s : side) (hu : X.A.units + 64 < cLine) : Pc X B0 H0 δ e1 .NotEq e2 (!b) := (r.ok s _ _ _ _ _ _ hu h1 h2).2
theorem q_list (h : Pa X B0 H0 δ es as) [r : DispR as xs] (hz : xs.length ≤ 1000) : Pe X B0 H0 δ (.List es pos) (.d (.list xs)) := p_list (by rw [← r.ok]; exact h) hz
theorem qn_list (h : Pa X B0 H0 δ es as) [r : DispR as xs] (hz : xs.length ≤ 1000) : Pn X B0 H0 δ (.List es pos) xs := n_list (by rw [← r.ok]; exact h) hz
theorem q_tuple {k : Nat} (h : Pa X B0 H0 δ es as) [r : DispR as xs] (hz : xs.length ≤ 1000) : Pe X B0 H0 δ (.Tuple es k pos) (.d (.tuple xs)) := p_tuple (by rw [← r.ok]; exact h) hz
/-- indices -/
theorem at_d {α : Type} {ns : List α} {f : α → PyData} {i : Int} {z : α} (h0 : 0 ≤ i) (h : ns[i.toNat]? = some z) : atI (ns.map f) i = some (f z) := by
  have e : atI (ns.map f) ((i.toNat : Nat) : Int) = some (f z) := atI_nat (by rw [List.getElem?_map, h]; rfl)
  rw [Int.toNat_of_nonneg h0] at e
  exact e
theorem at_i {ns : List Int} {i : Int} (h : 0 ≤ i ∧ i < ns.length) : atI (ns.map PyData.int) i = some (.int (ns.getD i.toNat 0)) := by
  have hl : i.toNat < ns.length := by omega
  refine at_d h.1 ?_
  rw [List.getD_eq_getElem?_getD, List.getElem?_eq_getElem hl]
  rfl
/-- [es][i] of a display: by cases -/
theorem at_0 {α : Type} {z : α} {zs : List α} : atI (z :: zs) 0 = some z := by
  have : atI (z :: zs) ((0 : Nat) : Int) = some z := atI_nat rfl
  exact this
theorem at_k {α : Type} {zs : List α} {z : α} (k : Nat) (h : zs[k]? = some z) : atI zs (k : Int) = some z := atI_nat h
end
end GL
namespace GL
open PySem PySem.Spec L2
/-- isinstance of data, one of five types -/
def isK (d : PyData) (T : String) : Bool := tn d == T || (tn d == "bool" && T == "int")
theorem kit_all : ∀ n ∈ ["NoneType", "bool", "int", "str", "list", "tuple", "dict"], ∀ T ∈ ["int", "bool", "str", "list", "tuple"], kitB n T = some (n == T || (n == "bool" && T == "int")) := by decide +kernel
theorem tn_in (d : PyData) : tn d ∈ ["NoneType", "bool", "int", "str", "list", "tuple", "dict"] := by cases d <;> simp [tn]
theorem kit_isK (d : PyData) {T : String} (h : T ∈ ["int", "bool", "str", "list", "tuple"]) : kitB (tn d) T = some (isK d T) := kit_all _ (tn_in d) _ h
section
variable {X : Cx} {B0 H0 : Hp} {δ δ' : List (Option A)} {e e1 e2 e3 : Expr} {es : List Expr} {a a1 a2 a3 : A} {as : List A} {b c : Bool} {xs ys : List PyData} {x y d d1 d2 : PyData} {pos p1 p2 : Pos} {w : PyData → A} {side : Prop}
theorem q_isi {T : Str} {tb : String} (ha : Pe X B0 H0 δ e1 a) [n : Nw a d] (hT : X.mg T = none) (hb : bootBuiltins T = some (.type tb)) (hm : X.mg "isinstance" = none) (hk : tb ∈ ["int", "bool", "str", "list", "tuple"] := by decide)
    (hgT : Gl X T := by rfl) (hg : Gl X "isinstance" := by rfl) (hn : T ≠ "__name__" := by decide) (hdb : (T == ("__debug__" : Str)) = false := by decide)
    (he : starEach [e1, .Name T p2] X.env = (false, eval e1 X.env) :: starEach [.Name T p2] X.env := by rfl) (he2 : starEach [.Name T p2] X.env = (false, eval (.Name T p2) X.env) :: starEach [] X.env := by rfl) (hpl : (backTo pos (starEach [.Name T p2] X.env)).any (·.1) = false := by rfl) :
    Pe X B0 H0 δ (.Call (.Name "isinstance" p1) [e1, .Name T p2] [] pos) (.d (.bool (isK d tb))) :=
  p_isi (x := "") (d := d) ha (fun B H v s r => n.at s r) hT hb (kit_isK d hk) hm hgT hg hn hdb he he2 hpl
/-- x, y = e, a tuple of two, plain names -/
theorem ws_two {E : AE} {rest : List Stmt} {i j : Nat} {n1 n2 : Str} {px py pt : Pos} {kt : Nat} (he : Pe X B0 H0 δ e (.d (.tuple [x, y]))) (hr : Ws X B0 H0 ((δ.set i (some (.d x))).set j (some (.d y))) rest E) (hN : X.N.Nodup) (hi : X.N[i]? = some n1) (hj : X.N[j]? = some n2) (hx : Loc X.env.scope n1) (hy : Loc X.env.scope n2) (hc : X.calm = true)
    (hf : X.fn n1 = true ∨ X.env.scope.names.lookup n1 = some .local := by first | exact .inl rfl | exact .inr rfl | assumption) (hf2 : X.fn n2 = true ∨ X.env.scope.names.lookup n2 = some .local := by first | exact .inl rfl | exact .inr rfl | assumption)
    (s1 : (assignEach [.Name n1 px, .Name n2 py] X.env).map (·.2) = assign (.Name n1 px) X.env :: (assignEach [.Name n2 py] X.env).map (·.2) := by rfl) (s2 : (assignEach [.Name n2 py] X.env).map (·.2) = assign (.Name n2 py) X.env :: (assignEach [] X.env).map (·.2) := by rfl)
    (hn : (assignEach [.Name n1 px, .Name n2 py] X.env).length = 2 := by rfl) (hst : (assignEach [.Name n1 px, .Name n2 py] X.env).findIdx? (·.1) = none := by rfl)
    (hs : swapsWithSole [.Tuple [.Name n1 px, .Name n2 py] kt pt] e pos.line X.env = pure false := by rfl) (hw : swappedStores [.Tuple [.Name n1 px, .Name n2 py] kt pt] e X.env = pure none := by rfl) (h1 : (assignEach [.Tuple [.Name n1 px, .Name n2 py] kt pt] X.env).map (·.2) = [assign (.Tuple [.Name n1 px, .Name n2 py] kt pt) X.env] := by rfl) :
    Ws X B0 H0 δ (.Assign [.Tuple [.Name n1 px, .Name n2 py] kt pt] e pos :: rest) E := by
  refine ws_cons (W := fun B H δ' => B = B0 ∧ H = H0 ∧ δ' = (δ.set i (some (.d x))).set j (some (.d y))) (ps_asg he (pg_tup hc (pgs_cons (pg_name hN hi hx hf) (pgs_cons (pg_name hN hj hy hf2) pgs_nil s2) s1) hn hst) hs hw h1) (fun B H δ' ⟨h1, h2, h3⟩ => by rw [h1, h2, h3]; exact hr) fun D σ H B E0 S z => ⟨B, E0, S, fun v B' H' E1 r => ?_⟩
  cases r with
  | @tup p vs _ hp hd =>
    cases hd with
    | @cons u _ _ _ d1 t =>
      cases t with
      | @cons u2 _ _ _ d2 t =>
        cases t
        refine ⟨p, [u, u2], rfl, .inl (.inl (E1.s _ _ hp)), rfl, u, [u2], rfl, u2, [], rfl, rfl, ?_⟩
        exact z.nx _ _ _ _ B' H' ⟨rfl, rfl, rfl⟩ E1.b (E0.tr E1) (SD.set (a := .d y) (SD.set (a := .d x) (S.mono E1) d1 (fun _ z => nomatch z)) d2 (fun _ z => nomatch z))
end
end GL
namespace GL
open PySem PySem.Spec L2
theorem upto_get {n k : Nat} {x : PyData} (h : (upto n)[k]? = some x) : k < n ∧ x = .int (k : Nat) := by
  have hl : (upto n).length = n := by unfold upto; rw [List.length_map, List.length_range]
  have hk : k < n := by rw [← hl]; exact (List.getElem?_eq_some_iff.mp h).1
  unfold upto at h
  rw [List.getElem?_map, List.getElem?_range hk] at h
  exact ⟨hk, (Option.some.inj h).symm⟩
theorem map_get {α : Type} {zs : List α} {f : α → PyData} {k : Nat} {x : PyData} (h : (zs.map f)[k]? = some x) : ∃ z, zs[k]? = some z ∧ z ∈ zs ∧ x = f z := by
  rw [List.getElem?_map] at h
  cases q : zs[k]? with
  | none => rw [q] at h; cases h
  | some z =>
    rw [q] at h
    exact ⟨z, rfl, List.mem_of_getElem? q, (Option.some.inj h).symm⟩
end GL
namespace GL
open PySem PySem.Spec L2
theorem kn_of {P : Program} {w : World} {K : PySem.W.Frag} {mg : Str → Option Value} {base : Heap} {x : Str} {k : Nat} {rel : Hp → Hp → List A → R → Prop} {f : Addr} {fd : FuncData} {ps : List Str} (F : FnOk P w K mg base CX0 k f fd ps (spG K rel)) (hm : mg x = some (.ref f)) (hk : PySem.W.keepIn K (.ref f) = true) (hb : Binds K fd ps []) : Kn P w K mg base x k rel :=
  ⟨CX0, f, fd, ps, fun _ _ _ => pass0, F, hm, hk, hb⟩
/-- the law's own call -/
theorem law_in {K : PySem.W.Frag} {H : Hp} {a : Addr} {ns : List Int} {rel : Hp → Hp → List A → R → Prop} (hl : ns.length ≤ 63) (hS : SqL K H a (ns.map V.int)) (h : ∀ B H, rel B H [.s ns] (.ret (.d (.bool true)))) : spG K rel [.ref a] H (fun v _ => v = .bl true) E0 :=
  ⟨H, [.s ns], .ret (.d (.bool true)), Sub.rfl', .cons ⟨a, rfl, hS⟩ .nil, h H H, fun v B' H' _ r => by cases r; rfl⟩
end GL
namespace GL
open PySem PySem.Spec L2
theorem map_cut {α β : Type} (f : α → β) (xs : List α) (lo hi : Option Int) : cut (xs.map f) lo hi = (cut xs lo hi).map f := by
  unfold cut
  rw [List.map_take, List.map_drop, List.length_map]
theorem six_nat {n d : Nat} {i : Int} (h : 0 ≤ i) : HT.sIx n d (some i) = min i.toNat n := by
  have := HT.sIx_nat n d i.toNat
  rwa [Int.toNat_of_nonneg h] at this
theorem cut_to {α : Type} {xs : List α} {i : Int} (h : 0 ≤ i) : cut xs none (some i) = xs.take i.toNat := by
  unfold cut
  rw [six_nat h]
  show List.take (min i.toNat xs.length - 0) (xs.drop 0) = _
  rw [List.drop_zero, Nat.sub_zero]
  by_cases hh : i.toNat ≤ xs.length
  · rw [Nat.min_eq_left hh]
  · rw [Nat.min_eq_right (by omega), List.take_length, List.take_of_length_le (by omega)]
theorem cut_from {α : Type} {xs : List α} {i : Int} (h : 0 ≤ i) : cut xs (some i) none = xs.drop i.toNat := by
  unfold cut
  rw [six_nat h]
  show List.take (xs.length - min i.toNat xs.length) (xs.drop (min i.toNat xs.length)) = _
  by_cases hh : i.toNat ≤ xs.length
  · rw [Nat.min_eq_left hh, List.take_of_length_le (by rw [List.length_drop]; exact Nat.le_refl _)]
  · rw [Nat.min_eq_right (by omega), List.drop_length, List.drop_of_length_le (by omega), List.take_nil]
/-- a[l:u] -/
class SliceR (a : A) (r : outParam (Option Int → Option Int → A)) : Prop where
  ok : ∀ (X : Cx) (B0 H0 : Hp) (δ : List (Option A)) (e : Expr) (lo hi : Option Expr) (l u : Option Int) (p2 pos : Pos), Pe X B0 H0 δ e a → Po X B0 H0 δ lo l → Po X B0 H0 δ hi u → Pe X B0 H0 δ (.Subscript e (.Slice lo hi none p2) pos) (r l u)
instance (priority := low) sl_any {a xs} [Ls a xs] : SliceR a (fun l u => .d (.list (cut xs l u))) := ⟨fun X _ _ _ _ _ _ _ _ _ _ h h1 h2 => (n_slice h h1 h2 (fun B H v s r => ls_sl X.K B H v s r)).dat⟩
instance sl_li {a} {ns : List Int} [Ls a (ns.map .int)] : SliceR a (fun l u => .d (li (cut ns l u))) := ⟨fun X _ _ _ _ _ _ _ _ _ _ h h1 h2 => (n_slice h h1 h2 (fun B H v s r => ls_sl X.K B H v s r)).dat.is (by simp only [li, cutD, map_cut])⟩
instance sl_sc {ns : List Int} : SliceR (.s ns) (fun l u => .d (li (cut ns l u))) := ⟨fun X _ _ _ _ _ _ _ _ _ _ h h1 h2 => (n_slice h h1 h2 (fun B H v s r => sc_sl X.K B H v s r)).dat.is (by simp only [li, cutD, map_cut])⟩
instance (priority := low) sl_tuple {xs} : SliceR (.d (.tuple xs)) (fun l u => .d (.tuple (cut xs l u))) := ⟨fun _ _ _ _ _ _ _ _ _ _ _ h h1 h2 => p_sliceT h h1 h2⟩
instance sl_ti {ns : List Int} : SliceR (.d (.tuple (ns.map .int))) (fun l u => .d (ti (cut ns l u))) := ⟨fun _ _ _ _ _ _ _ _ _ _ _ h h1 h2 => (p_sliceT h h1 h2).is (by simp only [ti, cutD, map_cut])⟩
/-- tuple(a) -/
class TupR (a : A) (r : outParam A) : Prop where
  ok : ∀ (X : Cx) (B0 H0 : Hp) (δ : List (Option A)) (e : Expr) (p1 pos : Pos), Pe X B0 H0 δ e a → X.mg "tuple" = none → Gl X "tuple" → starEach [e] X.env = (false, eval e X.env) :: starEach [] X.env → Pe X B0 H0 δ (.Call (.Name "tuple" p1) [e] [] pos) r
instance tup_l {xs} : TupR (.d (.list xs)) (.d (.tuple xs)) := ⟨fun _ _ _ _ _ _ _ h h1 h2 h3 => p_tuple1 h h1 h2 h3⟩
instance tup_t {xs} : TupR (.d (.tuple xs)) (.d (.tuple xs)) := ⟨fun _ _ _ _ _ _ _ h h1 h2 h3 => p_tuple2 h h1 h2 h3⟩
/-- x in a -/
class InR (a1 a2 : A) (b : outParam Bool) : Prop where
  ok : ∀ (X : Cx) (B0 H0 : Hp) (δ : List (Option A)) (e1 e2 : Expr), Pe X B0 H0 δ e1 a1 → Pe X B0 H0 δ e2 a2 → (behindInMarks .In e2 = false → Pc X B0 H0 δ e1 .In e2 b) ∧ (behindInMarks .NotIn e2 = false → Pc X B0 H0 δ e1 .NotIn e2 (!b))
instance in_int {i : Int} {a2} {ns : List Int} {w} [Sq a2 (ns.map .int) w] : InR (.d (.int i)) a2 (decide (i ∈ ns)) := ⟨fun _ _ _ _ _ _ h1 h2 => ⟨fun m => c_in h1 h2 m, fun m => c_notIn h1 h2 m⟩⟩
theorem inV_bl (i : Bool) : ∀ ns : List Bool, inV (V.bl i) (ns.map V.bl) = ns.contains i
  | [] => rfl
  | n :: ns => by
    have ih := inV_bl i ns
    unfold inV at ih ⊢
    rw [List.map_cons, List.any_cons, ih, List.contains_cons]
    cases i <;> cases n <;> rfl
theorem flat_bl : ∀ ns : List Bool, (ns.map V.bl).all flatV = true
  | [] => rfl
  | n :: ns => by rw [List.map_cons, List.all_cons, flat_bl ns]; rfl
section
variable {X : Cx} {B0 H0 : Hp} {δ δ' : List (Option A)} {e e1 e2 e3 : Expr} {es : List Expr} {a a1 a2 a3 : A} {as : List A} {b c : Bool} {xs ys : List PyData} {x y d d1 d2 : PyData} {pos p1 p2 : Pos} {w : PyData → A} {side : Prop} {r : Option Int → Option Int → A}
theorem q_slice {lo hi : Option Expr} {l u : Option Int} (h : Pe X B0 H0 δ e a) (h1 : Po X B0 H0 δ lo l) (h2 : Po X B0 H0 δ hi u) [q : SliceR a r] : Pe X B0 H0 δ (.Subscript e (.Slice lo hi none p2) pos) (r l u) := q.ok _ _ _ _ _ _ _ _ _ _ _ h h1 h2
theorem q_tup1 (h : Pe X B0 H0 δ e a1) (hm : X.mg "tuple" = none) [q : TupR a1 a] (hg : Gl X "tuple" := by rfl) (he : starEach [e] X.env = (false, eval e X.env) :: starEach [] X.env := by rfl) : Pe X B0 H0 δ (.Call (.Name "tuple" p1) [e] [] pos) a := q.ok _ _ _ _ _ _ _ h hm hg he
theorem q_in (h1 : Pe X B0 H0 δ e1 a1) (h2 : Pe X B0 H0 δ e2 a2) [q : InR a1 a2 b] (hm : behindInMarks .In e2 = false := by rfl) : Pc X B0 H0 δ e1 .In e2 b := (q.ok _ _ _ _ _ _ h1 h2).1 hm
theorem q_notIn (h1 : Pe X B0 H0 δ e1 a1) (h2 : Pe X B0 H0 δ e2 a2) [q : InR a1 a2 b] (hm : behindInMarks .NotIn e2 = false := by rfl) : Pc X B0 H0 δ e1 .NotIn e2 (!b) := (q.ok _ _ _ _ _ _ h1 h2).2 hm
/-- a truth value in a list of such -/
theorem c_inB {i : Bool} {ns : List Bool} (ha : Pe X B0 H0 δ e1 (.d (.bool i))) (hb : Pe X B0 H0 δ e2 a2) [hs : Sq a2 (ns.map .bool) w] : (behindInMarks .In e2 = false → Pc X B0 H0 δ e1 .In e2 (ns.contains i)) ∧ (behindInMarks .NotIn e2 = false → Pc X B0 H0 δ e1 .NotIn e2 (!ns.contains i)) := by
  refine ⟨fun hm => ⟨_, _, _, op_in_seq, ha, hb, hm, fun B H u v Q s r1 r2 k => ?_⟩, fun hm => ⟨_, _, _, op_notIn_seq, ha, hb, hm, fun B H u v Q s r1 r2 k => ?_⟩⟩
  all_goals
    obtain ⟨p, vs, rfl, hq, hd, _⟩ := hs.at s r2
    have e := dqs_bls ns hd
    subst e
    refine ⟨p, _, rfl, hq, by rw [ra_bl r1]; rfl, flat_bl ns, ?_⟩
    rw [ra_bl r1]
  · show Q (.bl (inV (V.bl i) (ns.map V.bl))) H
    rw [inV_bl]
    exact k
  · show Q (.bl (!inV (V.bl i) (ns.map V.bl))) H
    rw [inV_bl]
    exact k
end
instance in_bool {i : Bool} {a2} {ns : List Bool} {w} [Sq a2 (ns.map .bool) w] : InR (.d (.bool i)) a2 (ns.contains i) := ⟨fun _ _ _ _ _ _ h1 h2 => c_inB h1 h2⟩
class DispB (as : List A) (ns : outParam (List Bool)) : Prop where
  ok : as = (ns.map PyData.bool).map .d
instance db_nil : DispB [] [] := ⟨rfl⟩
instance db_cons {n ns as} [h : DispB as ns] : DispB (.d (.bool n) :: as) (n :: ns) := ⟨by rw [h.ok]; rfl⟩
instance dr_bool {as ns} [h : DispB as ns] : DispR as (ns.map .bool) := ⟨h.ok⟩
instance ad_lb {a1 a2} {xs ys : List Bool} [Ls a1 (xs.map .bool)] [Ls a2 (ys.map .bool)] : AddR a1 a2 (xs.length + ys.length ≤ 1000) (.d (.list ((xs ++ ys).map .bool))) := ⟨fun s _ _ _ _ _ _ _ h1 h2 => (n_cat h1 h2 (by rw [List.length_map, List.length_map]; exact s)).dat.is (by simp only [List.map_append])⟩
end GL
namespace GL
open PySem PySem.Spec L2
theorem zip_ints : ∀ xs ys : List Int, List.zipWith (fun x y => PyData.tuple [x, y]) (xs.map PyData.int) (ys.map PyData.int) = (xs.zip ys).map fun z => .tuple [.int z.1, .int z.2]
  | [], _ => by simp
  | _ :: _, [] => by simp
  | x :: xs, y :: ys => by
    rw [List.map_cons, List.map_cons, List.zipWith_cons_cons, zip_ints xs ys]
    rfl
theorem rep_ints (n : Nat) (i : Int) : (List.replicate n [PyData.int i]).flatten = (List.replicate n i).map PyData.int := by
  induction n with
  | zero => rfl
  | succ n ih => rw [List.replicate_succ, List.flatten_cons, ih, List.replicate_succ]; rfl
end GL
namespace GL
open PySem PySem.Spec L2
/-- what is walked: a list, a tuple, the script -/
class IterR (a : A) (xs : outParam (List PyData)) : Prop where
  ok : ∀ (X : Cx) (B0 H0 : Hp) (δ : List (Option A)) (tg iter : Expr), Pe X B0 H0 δ iter a → Pi X B0 H0 δ tg iter xs
instance it_l {xs} : IterR (.d (.list xs)) xs := ⟨fun _ _ _ _ _ _ h => i_list h⟩
instance it_t {xs} : IterR (.d (.tuple xs)) xs := ⟨fun _ _ _ _ _ _ h => i_tuple h⟩
instance it_s {ns} : IterR (.s ns) (ns.map .int) := ⟨fun _ _ _ _ _ _ h => i_script h⟩
theorem q_iter {X : Cx} {B0 H0 : Hp} {δ : List (Option A)} {a : A} {xs : List PyData} {tg iter : Expr} (h : Pe X B0 H0 δ iter a) [q : IterR a xs] : Pi X B0 H0 δ tg iter xs := q.ok _ _ _ _ _ _ h
end GL
namespace GL
open PySem PySem.Spec L2
/-- len(a) -/
class LenR (a : A) (n : outParam Nat) : Prop where
  ok : ∀ (X : Cx) (B0 H0 : Hp) (δ : List (Option A)) (e : Expr) (p1 pos : Pos), Pa X B0 H0 δ [e] [a] → X.mg "len" = none → Gl X "len" → starEach [e] X.env = (false, eval e X.env) :: starEach [] X.env → Pe X B0 H0 δ (.Call (.Name "len" p1) [e] [] pos) (.d (.int n))
instance (priority := low) len_any {a xs w} [Sq a xs w] : LenR a xs.length := ⟨fun _ _ _ _ _ _ _ h hm hg he => p_len h hm hg he⟩
instance len_map {α : Type} {a} {zs : List α} {f : α → PyData} {w} [Sq a (zs.map f) w] : LenR a zs.length := ⟨fun _ _ _ _ _ _ _ h hm hg he => (p_len h hm hg he).is (by rw [List.length_map])⟩
theorem q_len {X : Cx} {B0 H0 : Hp} {δ : List (Option A)} {a : A} {n : Nat} {e : Expr} {p1 pos : Pos} (h : Pa X B0 H0 δ [e] [a]) (hm : X.mg "len" = none) [q : LenR a n] (hg : Gl X "len" := by rfl) (he : starEach [e] X.env = (false, eval e X.env) :: starEach [] X.env := by rfl) : Pe X B0 H0 δ (.Call (.Name "len" p1) [e] [] pos) (.d (.int n)) := q.ok _ _ _ _ _ _ _ h hm hg he
end GL

set_option Elab.async false
set_option linter.all false
set_option maxRecDepth 100000
set_option maxHeartbeats 8000000
/-! set(xs) of a list of ints, with the table's order known, and sorted(set(xs)) -/
namespace GL
open PySem PySem.Spec PyProof.Rows L2
/-- the empty set, just made -/
abbrev set0 (w : World) : Obj := ⟨.type "set", none, .set #[] 0 (.fresh 0 0 (!w.params.followText "set-order")), #[]⟩
section
variable {P : Program} {w : World} {A : Around} {E : Value → Shared → Prop} {s : Shared}
theorem set_of_list {p : Addr} {its : Array Value} (ns : List Int) {Q : Value → Shared → Prop} (noh : A.handled = none) (hp : s.heap.IsList p its) (hn : IntsAre its.toList ns) (hb : ns.length + 1 < scanBound)
    (k : ∀ (g : Heap) (tk c : Nat), SetR w g s.heap.objs.size (fun j => decide (j ∈ ns)) c → c ≤ ns.length → (∀ b o, s.heap.get? b = some o → g.get? b = some o) → Q (.ref s.heap.objs.size) { s with heap := g, toks := tk }) :
    wpAny (model P w) A (call (.type "set") [.ref p]) Q E s := by
  have size : its.size = ns.length := by
    have l := IntsAre.length hn
    rwa [Array.length_toList] at l
  have newS : (s.heap.push (set0 w)).get? s.heap.objs.size = some (set0 w) := Heap.get?_push_size _ rfl
  obtain ⟨c0, tl, mro⟩ := F.called_set.mro
  have m1 := F.called_set.made
  have m2 := F.called_set.sub
  have m3 := F.called_set.notType
  have m4 := F.called_set.canCreate
  have m5 := F.typeCall_set_1 (.ref p)
  refine wpAny_call (codeAny_of_tree (show wpAny _ _ (callAny (.type "set") _) _ _ _ from ?_))
  refine wpAny_pure ⟨Code.quiet_builtin _ (by decide +kernel), codeAny_builtin F.entry_type_call ?_⟩
  rw [Around.under_plain (weight_type_call_type "set" [.ref p] []) rfl]
  repeat (any_goals (first | assumption | wp_step))
  refine codeAny_mono (code_set_led1 (.ref p) (E := E) (Q₁ := fun ob s1 => ob = .ref s.heap.objs.size ∧ s1 = { s with heap := s.heap.push (set0 w) }) ⟨rfl, rfl⟩) fun r s1 hr => ?_
  match r, hr with
  | .error e, hr => exact hr
  | .ok (.ret ob), hr =>
    obtain ⟨rfl, rfl⟩ := hr
    have ty : Shared.TypeIs { s with heap := s.heap.push (set0 w) } (.ref s.heap.objs.size) "set" := ⟨_, newS, rfl⟩
    have m6 := F.called_set.init.lookup
    have m7 := F.called_set.init.bind (.ref s.heap.objs.size)
    repeat (any_goals (first | assumption | wp_step))
    refine codeAny_mono (codeAny_call_builtin (R := wants (fun r s2 => r = .none ∧ ∃ g tk c, s2 = { s with heap := g, toks := tk } ∧ SetR w g s.heap.objs.size (fun j => decide (j ∈ ns)) c ∧ c ≤ ns.length ∧
        (∀ b o, s.heap.get? b = some o → g.get? b = some o)) E) F.called_set.init.plain F.entry_set_init (check_set_init_1 ty ?_)) fun r2 s2 hr2 => ?_
    · obtain ⟨⟨lc, ld, la, ls⟩, at_p, ec, nl, ed⟩ := hp
      simp only at ec ed
      subst ec ed
      have at1 : (s.heap.push (set0 w)).get? p = some ⟨.type "list", ld, .seq its nl, ls⟩ := Heap.get?_push_of_some _ at_p
      have lis : (s.heap.push (set0 w)).IsList p its := ⟨_, at1, rfl, nl, rfl⟩
      have f1 := F.sub_list_set
      have f2 := F.sub_list_frozenset
      have f3 : (Value.type "list" == Value.type "dict") = false := by decide
      unfold Builtin.«set.__init__» noKeywords Builtin.Frozenset.updateFrom
      generalize eI : pyIter = I0
      wp_walk
      subst eI
      refine wpAny_pyIter_list lis (wpAny_bind (wpAny_runValue ?_))
      have small : p < s.heap.objs.size := Heap.lt_size at_p
      have noh3 : A.in1.in1.in1.handled = none := by simp [noh]
      have ne1 : p ≠ (s.heap.push (set0 w)).objs.size := by
        rw [Heap.size_push]
        exact Nat.ne_of_lt (Nat.lt_succ_of_lt small)
      have ne2 : s.heap.objs.size ∉ [(s.heap.push (set0 w)).objs.size, p] := by
        rw [Heap.size_push]
        simp only [List.mem_cons, List.mem_singleton, List.not_mem_nil, or_false, not_or]
        exact And.intro (Nat.ne_of_lt (Nat.lt_succ_self _)) (Nat.ne_of_gt small)
      have vals : ∀ (i : Nat) (v : Value), its[i]? = some v → ∃ k t, ns[i]? = some k ∧ v = .int k t := fun i v hv => by
        have hi : i < ns.length := by rw [← size]; exact (Array.getElem?_eq_some_iff.mp hv).1
        obtain ⟨t, e⟩ := IntsAre.int_at hn i v (by rw [Array.getElem?_toList]; exact hv)
        refine ⟨ns[i], t, List.getElem?_eq_getElem hi, ?_⟩
        rw [e, List.getD_eq_getElem?_getD, List.getElem?_eq_getElem hi] <;> rfl
      refine set_update_ints ((Walks.list noh3 _ p ne1 its).toS) s.heap.objs.size ne2 ns size hb vals (its.size - 0) 0 _ (by omega) (Nat.zero_le _) ⟨⟨_, Heap.get?_push_size _ rfl, rfl, rfl⟩, (lis.push _)⟩
        ⟨0, Nat.le_refl 0, setR_new_at (Heap.get?_push_of_some _ newS)⟩ ?_
      rintro ⟨g, g2, d2, tk2, os2⟩ c2 mv hc2 hS2
      have q1 : g2 = s.gens := mv.gens
      have q2 : d2 = s.drawn := mv.drawn
      have q3 : os2 = s.os := mv.os
      subst q1 q2 q3
      rw [size] at hc2
      refine wpAny_pure (show wpAny _ _ (ret Value.none) _ _ _ from wpAny_pure ⟨rfl, g, tk2, c2, rfl, hS2, hc2, fun b o e => ?_⟩)
      have lt : b < s.heap.objs.size := Heap.lt_size e
      refine mv.heap b o ?_ (Heap.get?_push_of_some _ (Heap.get?_push_of_some _ e))
      simp only [List.mem_cons, List.mem_singleton, List.not_mem_nil, or_false, not_or]
      rw [Heap.size_push]
      exact And.intro (Nat.ne_of_lt lt) (Nat.ne_of_lt (Nat.lt_succ_of_lt lt))
    · match r2, hr2 with
      | .error e, hr2 => exact hr2
      | .ok (.ret v), hr2 =>
        obtain ⟨rfl, g, tk, c, rfl, hS2, hc2, hk2⟩ := hr2
        repeat (any_goals (first | assumption | wp_step))
        exact k _ _ _ hS2 hc2 hk2
end
end GL

set_option Elab.async false
set_option linter.all false
set_option maxRecDepth 100000
set_option maxHeartbeats 8000000
namespace GL
open PySem PySem.Spec PyProof.Rows L2
section
variable {X : Cx} {B0 H0 : Hp} {δ : List (Option A)} {e : Expr} {xs : List PyData} {pos p1 p2 p3 : Pos}
def rSetI (w : World) : List V → Hp → VK → Prop := fun vs H Q => ∃ (p : Addr) (ns : List Int), vs = [V.ref p] ∧ H p = some (HO.lst (ns.map V.int)) ∧ ns.length < 60 ∧ ∀ (q : Addr) (c : Nat), H q = none → c ≤ ns.length → Q (.ref q) (upd H q (SetO w q (fun j => decide (j ∈ ns)) c))
theorem cr_setI (hc : X.calm = true) : CallR X (.type "set") (rSetI X.w) := by
  intro pins s σ H vs us Q J r ⟨p, ns, ev, hp, hl, q⟩
  subst ev
  rw [Vals.ref1 r]
  obtain ⟨its, n, rv, ho, hz⟩ := J.lst hp
  refine set_of_list ns (J.ok.hd hc) ⟨_, ho, rfl, n, rfl⟩ (by simpa using RZ.intsAre_vals rv) (by unfold scanBound; omega) fun g tk c hS hc2 hk => ?_
  have fresh := J.hok.fresh (Nat.le_refl s.heap.objs.size)
  exact ⟨.ref s.heap.objs.size, upd H s.heap.objs.size (SetO X.w s.heap.objs.size (fun j => decide (j ∈ ns)) c), J.laid (t' := tk) hk (Nat.le_refl _) (setO_new hS), rfl, q _ c fresh hc2⟩
/-- sorted(set(xs)), few ints -/
theorem n_sortedSet {ns ms : List Int} (ha : Pe X B0 H0 δ e (.d (.list (ns.map .int)))) (hl : ns.length < 60) (hu : ∀ zs : List Int, zs.Pairwise (· < ·) → (∀ z, z ∈ zs ↔ z ∈ ns) → zs = ms) (hc : X.calm = true) (hm : X.mg "sorted" = none) (hm2 : X.mg "set" = none) (hg : Gl X "sorted" := by rfl) (hg2 : Gl X "set" := by rfl)
    (he : starEach [e] X.env = (false, eval e X.env) :: starEach [] X.env := by rfl) (he2 : starEach [.Call (.Name "set" p2) [e] [] p3] X.env = (false, eval (.Call (.Name "set" p2) [e] [] p3) X.env) :: starEach [] X.env := by rfl) :
    Pn X B0 H0 δ (.Call (.Name "sorted" p1) [.Call (.Name "set" p2) [e] [] p3] [] pos) (ms.map .int) := by
  have inner := pe_callTy (x := "set") (p := p2) (pos := p3) (cr_setI hc) hg2 hm2 boot_set (pa_cons ha pa_nil he) (by decide) (by decide) he rfl
  refine pe_to (pe_callB (x := "sorted") (p := p1) (pos := pos) (cr_sortedSet hc) hg hm boot_sorted (pa_cons inner pa_nil he2) (by decide) (by decide) he2 rfl) fun σ H Q ⟨B, E0, S, k⟩ => ⟨B, E0, S, fun v B1 H1 E1 r => ?_⟩
  cases r with
  | @lst p vs _ hp d =>
    rw [dqs_ints ns d] at hp
    refine ⟨p, ns, rfl, E1.s _ _ hp, hl, fun q c hq hc2 => ?_⟩
    refine ⟨q, _, c, rfl, upd_same, by omega, fun zs p2 h1 h2 h3 h4 => ?_⟩
    rw [hu zs h1 fun z => by rw [h2 z]; exact decide_eq_true_iff]
    have E2 : Ext B H B1 (upd H1 q (SetO X.w q (fun j => decide (j ∈ ns)) c)) := E1.tr (.own E1.s hq)
    exact Wn.lst (wn_mono _ _ _ _ _ k E2) E2.s h4 (ints_dqs ms)
end
end GL

set_option Elab.async false
set_option linter.all false
set_option maxRecDepth 100000
set_option maxHeartbeats 4000000
/-! raise, try .. except .. as, isinstance of a caught error -/
namespace GL
open PySem PySem.Spec L2

/-- an error of the class at C may be let out here -/
def Rz (X : Cx) (B0 H0 : Hp) (δ : List (Option A)) (C : Addr) : Prop := ∃ W : WX, Takes X W ∧ ∀ σ B' H', Ext B0 H0 B' H' → SD X.K H0 B' H' σ δ → W (.ref C) none σ H'
/-- a def that may raise, known by its name -/
structure KnX (P : Program) (w : World) (K : PySem.W.Frag) (mg : Str → Option Value) (base : Heap) (x : Str) (k : Nat) (rel : Hp → Hp → List A → R → Prop) : Prop where
  ex : ∃ f fd ps, FnOk P w K mg base (L2.CX P w) k f fd ps (spG K rel) ∧ mg x = some (.ref f) ∧ PySem.W.keepIn K (.ref f) = true ∧ Binds K fd ps []
theorem KnX.kn {P : Program} {w : World} {K : PySem.W.Frag} {mg : Str → Option Value} {base : Heap} {x : Str} {k : Nat} {rel : Hp → Hp → List A → R → Prop} (F : KnX P w K mg base x k rel) : Kn P w K mg base x k rel := by
  obtain ⟨f, fd, ps, h1, h2, h3, h4⟩ := F.ex
  exact ⟨_, f, fd, ps, fun X e1 e2 => by subst e1 e2; exact passL, h1, h2, h3, h4⟩
theorem knx_of {P : Program} {w : World} {K : PySem.W.Frag} {mg : Str → Option Value} {base : Heap} {x : Str} {k : Nat} {rel : Hp → Hp → List A → R → Prop} {f : Addr} {fd : FuncData} {ps : List Str} (F : FnOk P w K mg base (L2.CX P w) k f fd ps (spG K rel)) (hm : mg x = some (.ref f)) (hk : PySem.W.keepIn K (.ref f) = true) (hb : Binds K fd ps []) : KnX P w K mg base x k rel :=
  ⟨f, fd, ps, F, hm, hk, hb⟩
theorem cls_some {K : PySem.W.Frag} {C : Addr} (hd : PySem.W.hasDictIn K C = true) (ht : PySem.W.typeIn K (.ref C) = some (.type "type")) : ((PySem.W.clsIn K C).isSome && PySem.W.typeIn K (.ref C) == some (.type "type")) = true := by
  obtain ⟨cd, hc, _⟩ := PySem.W.any_some hd
  rw [hc, ht]
  rfl
theorem kit_own {K : PySem.W.Frag} {D C : Addr} {b : Bool} (hd : PySem.W.hasDictIn K C = true) (ht : PySem.W.typeIn K (.ref C) = some (.type "type")) (hs : PySem.W.subIn K (.ref D) (.ref C) = some b) (self : PySem.W.subIn K (.ref D) (.ref D) = some true) : PySem.W.kitOne K (.ref D) (.ref C) = some b := by
  unfold PySem.W.kitOne
  by_cases e : D = C
  · subst e
    rw [hs] at self
    cases self
    rw [if_pos (beq_self_eq_true _)]
  · have ne : (Value.ref D == Value.ref C) = false := beq_eq_false_iff_ne.mpr fun z => e (Value.ref.inj z)
    rw [ne, if_neg Bool.false_ne_true]
    unfold PySem.W.kitCls
    dsimp only
    rw [if_pos (cls_some hd ht), hs]
theorem kit_ve {K : PySem.W.Frag} {D : Addr} (hs : PySem.W.subIn K (.ref D) (.type "ValueError") = some true) : PySem.W.kitOne K (.ref D) (.type "ValueError") = some true := by
  unfold PySem.W.kitOne
  have ne : (Value.ref D == Value.type "ValueError") = false := by rfl
  rw [ne, if_neg Bool.false_ne_true]
  unfold PySem.W.kitCls
  dsimp only
  have me : PySem.W.kitMeta "ValueError" = true := by decide +kernel
  rw [if_pos me, hs]
/-- what is to be known of an own error class -/
structure Er (K : PySem.W.Frag) (mg : Str → Option Value) (x : Str) (C : Addr) : Prop where
  g : mg x = some (.ref C)
  x : PySem.W.excIn K C [.type "ValueError", .type "Exception", .type "BaseException", .type "object"] "ValueError.__new__" = true
  k : PySem.W.keepIn K (.ref C) = true
  b : PySem.W.subIn K (.ref C) (.type "BaseException") = some true
  t : PySem.W.typeIn K (.ref C) = some (.type "type")

section
variable {X : Cx} {B0 H0 : Hp} {δ δ' : List (Option A)} {e e1 e2 e3 : Expr} {es : List Expr} {a a1 a2 a3 : A} {as : List A} {b c : Bool} {xs ys : List PyData} {x y d d1 d2 : PyData} {pos p1 p2 : Pos} {nm : Str} {k : Nat} {rel : Hp → Hp → List A → R → Prop} {C : Addr}

theorem Rz.up {B1 H1 : Hp} (h : Rz X B0 H0 δ C) (e : Ext B0 H0 B1 H1) (no : ∀ (i : Nat) (xs : List PyData), δ[i]? ≠ some (some (.o xs))) : Rz X B1 H1 δ C := by
  obtain ⟨W, tk, q⟩ := h
  exact ⟨W, tk, fun σ B' H' e1 S => q σ B' H' (e.tr e1) ⟨S.s, S.len, S.rel, S.dis, fun i p xs h1 => absurd h1 (no i xs)⟩⟩
theorem ws_raise {E : AE} {rest : List Stmt} {n m : Str} {j : Nat} {p3 : Pos} (r : Rz X B0 H0 δ C) (q : Er X.K X.mg n C) (hc : X.calm = true) (hg : Gl X n := by rfl) (hdb : (n == ("__debug__" : Str)) = false := by decide) : Ws X B0 H0 δ (.Raise (some (.Call (.Name n p1) [.Constant (.str m) j p2] [] p3)) none pos :: rest) E := by
  obtain ⟨W, tk, hw⟩ := r
  exact ws_cons (W := fun _ _ _ => False) (ps_raise hc tk (pmk_own PySem.F.excBase_ValueError q.x q.g q.k (raises_own q.b q.t) hg hdb)) (fun _ _ _ z => z.elim) fun D σ H B E0 S z => hw σ B H E0 S
/-- a call that raises -/
theorem p_exc (F : KnX X.prog X.w X.K X.mg X.base nm k rel) (hr : Room k X.A) (ha : Pa X B0 H0 δ (e :: es) as) (h : ∀ B H, Ext B0 H0 B H → Sub B H → rel B H as (.exc C)) (r : Rz X B0 H0 δ C) (hg : Gl X nm := by rfl) (hdb : (nm == ("__debug__" : Str)) = false := by decide)
    (he : starEach (e :: es) X.env = (false, eval e X.env) :: starEach es X.env := by rfl) (hpl : (backTo pos (starEach es X.env)).any (·.1) = false := by rfl) : Pe X B0 H0 δ (.Call (.Name nm p1) (e :: es) [] pos) a := by
  obtain ⟨f, fd, ps, F, hm, hk, hb⟩ := F.ex
  obtain ⟨W, tk, hw⟩ := r
  exact pe_to (pe_callS (E := WE W) F hr hg hm hk hb (fun σ => passAt tk σ) ha hdb he hpl) fun σ H Q ⟨B, E, S, q⟩ => ⟨B, E, S, fun vs B1 H1 E1 r1 => ⟨B1, as, .exc C, E1.s, r1, h B1 H1 (E.tr E1) E1.s, fun B2 H2 E2 => hw σ B2 H2 ((E.tr E1).tr E2) (S.mono (E1.tr E2))⟩⟩
theorem ws_drop {E : AE} {rest : List Stmt} (he : Pe X B0 H0 δ e a) (hr : Ws X B0 H0 δ rest E) (hs : swapsWith e none pos.line X.env = pure false := by rfl) : Ws X B0 H0 δ (.Expr e pos :: rest) E :=
  ws_cons (W := fun B H δ' => B = B0 ∧ H = H0 ∧ δ' = δ) (ps_expr he hs) (fun B H δ' ⟨h1, h2, h3⟩ => by rw [h1, h2, h3]; exact hr) fun D σ H B E0 S z => ⟨B, E0, S, fun v B' H' E1 r => z.nx _ _ _ σ B' H' ⟨rfl, rfl, rfl⟩ E1.b (E0.tr E1) (S.mono E1)⟩
/-- what raises never comes to its end -/
theorem ws_dead {E : AE} {rest : List Stmt} (he : Pe X B0 H0 δ e (.d (.dict []))) (hs : swapsWith e none pos.line X.env = pure false := by rfl) : Ws X B0 H0 δ (.Expr e pos :: rest) E :=
  ws_cons (W := fun _ _ _ => False) (ps_expr he hs) (fun _ _ _ q => q.elim) fun D σ H B E0 S z => ⟨B, E0, S, fun v B' H' E1 r => by cases r⟩
/-- no list of one's own in the slots -/
def noOwn (δ : List (Option A)) : Bool := δ.all fun o => match o with
  | some (.o _) => false
  | _ => true
theorem noOwn_no (h : noOwn δ = true) : ∀ (i : Nat) (xs : List PyData), δ[i]? ≠ some (some (.o xs)) := fun i xs q => by
  have := List.all_eq_true.mp h _ (List.mem_of_getElem? q)
  cases this
theorem ws_try {E : AE} {rest body suite : List Stmt} {b0 : Stmt} {i : Nat} {n x : Str} {np pos' : Pos} {c : Value} (P : Addr → Prop) (hs : X.stack = X.env :: X.outer) (hf : X.env.frame = some X.env.locals) (hN : X.N.Nodup) (hi : X.N[i]? = some n) (hln : X.env.kindOf n = some .local) (hc : Names X x c) (no : noOwn δ = true)
    (tk : Takes X fun _ _ _ _ => False) (hex : ∀ C, P C → PySem.W.exmOne X.K (.ref C) c = some true)
    (hb : ∀ B1 H1, Ext B0 H0 B1 H1 → Sub B1 H1 → ∀ pn xe, PassesOwn (model X.prog X.w) X.A X.env xe → (∀ C, P C → Rz (X.tr pn xe) B1 H1 δ C) → Ws (X.tr pn xe) B1 H1 δ body { E with nx := fun B H δ' => Ws X B H δ' rest E })
    (hsu : ∀ B1 H1, Ext B0 H0 B1 H1 → Sub B1 H1 → ∀ C a oe pn, P C → Zc (.ref C) none oe → (∃ vs, oe.data = .fields vs) → Ws (X.suite a ((a, oe) :: pn)) B1 H1 (δ.set i (some (.v (.ref a)))) (b0 :: suite) { nx := fun B H δ' => Ws X B H (δ'.set i none) rest E, rt := E.rt, bk := fun B H δ' => E.bk B H (δ'.set i none), ct := fun B H δ' => E.ct B H (δ'.set i none) }) :
    Ws X B0 H0 δ (.Try body [.ExceptHandler (some (.Name x np)) (some n) (b0 :: suite) pos'] [] [] pos :: rest) E := by
  have no' := noOwn_no no
  have key := ps_try_as (X := X) (i := i) (pos := pos) (pos' := pos') (np := np) (Wout := fun _ _ _ _ => False) (body := body) (suite := suite) (b₀ := b0) (c := c) hs hf hN hi hln hc tk
    (tb := fun W => fun D σ H => ∃ B1 H1, (Ext B0 H0 B1 H1 ∧ Sub B1 H1) ∧ (∀ C, P C → ∀ σ' B' H', Ext B1 H1 B' H' → SD X.K H1 B' H' σ' δ → W (.ref C) none σ' H') ∧ tWs X.K B1 H1 δ { E with nx := fun B H δ' => Ws X B H δ' rest E } D σ H)
    (ts := fun a cls d => fun D σ H => ∃ C B1 H1, cls = .ref C ∧ d = none ∧ P C ∧ (Ext B0 H0 B1 H1 ∧ Sub B1 H1) ∧ tWs X.K B1 H1 (δ.set i (some (.v (.ref a)))) { nx := fun B H δ' => Ws X B H (δ'.set i none) rest E, rt := E.rt, bk := fun B H δ' => E.bk B H (δ'.set i none), ct := fun B H δ' => E.ct B H (δ'.set i none) } D σ H)
    (fun W pn xe tk po => ⟨fun pins s σ H D J ⟨B1, H1, ⟨e1, e2⟩, hW, q⟩ => (hb B1 H1 e1 e2 pn xe po fun C hC => ⟨W, tk, fun σ' B' H' e s => hW C hC σ' B' H' e s⟩).run pins s σ H D J q⟩)
    (fun a oe cls d pn z1 z2 => ⟨fun pins s σ H D J ⟨C, B1, H1, e3, e4, hC, ⟨e1, e2⟩, q⟩ => by
      subst e3 e4
      exact (hsu B1 H1 e1 e2 C a oe pn hC z1 z2).run pins s σ H D J q⟩)
  refine ws_cons (W := fun B H δ' => Ws X B H δ' rest E) key (fun _ _ _ q => q) fun D σ H B E0 S z => ?_
  have low : ∀ {B' H' : Hp} {σ' : L2.St} {H1 H2 : Hp}, SD X.K H1 B' H' σ' δ → SD X.K H2 B' H' σ' δ := fun S => ⟨S.s, S.len, S.rel, S.dis, fun i p xs h1 => absurd h1 (no' i xs)⟩
  refine ⟨B, H, ⟨E0, S.s⟩, fun C hC σ' B' H' e1 S1 => ⟨true, hex C hC, fun _ a ha => ⟨C, B, H, rfl, rfl, hC, ⟨E0, S.s⟩, B', e1, SD.set S1 rfl (fun _ q => nomatch q), ?_⟩, fun q => nomatch q⟩, B, .rfl' S.s, low S, z⟩
  have z' := z.up e1.b
  exact ⟨fun B1 H1 δ1 σ1 B2 H2 h1 h2 h3 h4 => z'.nx B1 H1 _ _ B2 H2 h1 h2 h3 (sd_none h4 i), z'.rt, fun B1 H1 δ1 σ1 B2 H2 h1 h2 h3 h4 => z'.bk B1 H1 _ _ B2 H2 h1 h2 h3 (sd_none h4 i), fun B1 H1 δ1 σ1 B2 H2 h1 h2 h3 h4 => z'.ct B1 H1 _ _ B2 H2 h1 h2 h3 (sd_none h4 i)⟩
/-- isinstance(e, T), e the error that the suite holds -/
theorem p_isE {ad D : Addr} {oe : Obj} {pn : List (Addr × Obj)} {v : V} {cv : Value} (Cc : ExcC X.K D) (hz : Zc (.ref D) none oe) (hf : ∃ vs, oe.data = .fields vs) (ha : Pe (X.suite ad ((ad, oe) :: pn)) B0 H0 δ e1 (.v (.ref ad))) (hT : Pe (X.suite ad ((ad, oe) :: pn)) B0 H0 δ e2 (.v v)) (hv : ∀ u, RelV v u → u = cv) (hk : PySem.W.kitOne X.K (.ref D) cv = some b) (hm : X.mg "isinstance" = none)
    (hg : Gl (X.suite ad ((ad, oe) :: pn)) "isinstance" := by rfl) (he : starEach [e1, e2] X.env = (false, eval e1 X.env) :: starEach [e2] X.env := by rfl) (he2 : starEach [e2] X.env = (false, eval e2 X.env) :: starEach [] X.env := by rfl) (hpl : (backTo pos (starEach [e2] X.env)).any (·.1) = false := by rfl) :
    Pe (X.suite ad ((ad, oe) :: pn)) B0 H0 δ (.Call (.Name "isinstance" p1) [e1, e2] [] pos) (.d (.bool b)) :=
  g_callB we_mono (call_isE (pn := pn) Cc hz hf) (pas_cons ha (pas_cons hT pas_nil he2) he) (fun B H vs Q s rs k => by
    obtain ⟨u1, u2, rfl, r1, r2⟩ := ras_2 rs
    subst r1 r2
    exact ⟨_, cv, b, rfl, hv, hk, We.now k s (.bl _)⟩) hg hm PyProof.Rows.boot_isinstance (by decide) (by decide) he hpl
end
/-- THE RULE for a def that may raise -/
theorem fn_wsX {P : Program} {w : World} {K : PySem.W.Frag} {mg : Str → Option Value} {base : Heap} {x qual : Str} {st : Stmt} {f : Addr} {fd : FuncData} {N ps : List Str} {k : Nat} {rel : Hp → Hp → List A → R → Prop} (F : Fun K x qual st f fd) (S : FnScope N ps (defScope st))
    (h : ∀ B H as r, Sub B H → rel B H as r → (as.length = ps.length ∧ ∀ a ∈ as, keep a = true) ∧ ∀ cdv A outer s0 H0 E, Room k (A.deeper (PyProof.Rows.envOfC qual (defScope st) s0.heap.objs.size f cdv)) →
      (∀ C, r = .exc C → ∀ δ, Rz (cxOf (L2.CX P w) P w K mg base N qual (defScope st) f cdv A outer s0 H0 E) B H δ C) → Ws (cxOf (L2.CX P w) P w K mg base N qual (defScope st) f cdv A outer s0 H0 E) B H (startD N as) (defBody st) { nx := fun B' H' _ => Ext B H B' H' ∧ r = .ret (.d .none), rt := fun B' H' a' => Ext B H B' H' ∧ r = .ret a' }) : FnOk P w K mg base (L2.CX P w) (k + 1) f fd ps (spG K rel) := by
  refine F.okX S (fun vs H Q E ⟨B, as, r, s, ra, hr, _⟩ => by rw [ra.len]; exact (h B H as r s hr).1.1) fun cdv A outer s0 H vs Q E hroom ⟨B, as, r, s, ra, hr, q⟩ => ?_
  obtain ⟨⟨h1, h2⟩, h3⟩ := h B H as r s hr
  refine ⟨_, h3 cdv A outer s0 H E hroom (fun C e δ => ⟨fun cls d _ H => E cls d H, takes_of rfl rfl rfl rfl, fun σ B' H' e1 _ => ?_⟩), B, .rfl' s, sd_start s ra h2, ⟨fun B1 H1 δ σ B' H' ⟨e1, e2⟩ _ E1 S1 => ?_, fun B1 H1 a' v B' H' ⟨e1, e2⟩ _ E1 r1 => ?_, fun _ _ _ _ _ _ z => z.elim, fun _ _ _ _ _ _ z => z.elim⟩⟩
  · subst e
    exact q B' H' e1
  · subst e2
    exact q .non B' H' (e1.tr E1) .non
  · subst e2
    exact q v B' H' (e1.tr E1) r1
end GL

set_option Elab.async false
set_option linter.all false
set_option maxRecDepth 100000
set_option maxHeartbeats 4000000
/-! [elt for x, y in zip(s, t)] over two tuples; x, y = a list of two -/
namespace GL
open PySem PySem.Spec L2
section
variable {X : Cx} {B0 H0 : Hp} {δ δ' : List (Option A)} {e e1 e2 e3 : Expr} {a a1 a2 a3 : A} {xs ys : List PyData} {x y d d1 d2 : PyData} {pos p1 p2 p3 pt : Pos} {iter tg : Expr}
theorem i_zip {elts : List Expr} {kk : Nat} (h1 : Pe X B0 H0 δ e1 (.d (.tuple xs))) (h2 : Pe X B0 H0 δ e2 (.d (.tuple ys))) (hm : X.mg "zip" = none) (hg : Gl X "zip" := by rfl)
    (hs : starEach [e1, e2] X.env = (false, eval e1 X.env) :: starEach [e2] X.env := by rfl) (hs2 : starEach [e2] X.env = (false, eval e2 X.env) :: starEach [] X.env := by rfl) (hpl : (backTo pos (starEach [e2] X.env)).any (·.1) = false := by rfl) :
    Pi X B0 H0 δ (.Tuple elts kk pt) (.Call (.Name "zip" p1) [e1, e2] [] pos) (List.zipWith (fun x y => .tuple [x, y]) xs ys) :=
  pi_to (RZ.pi_zipA hg hm (pas_cons h1 (pas_cons h2 pas_nil hs2) hs) hs hpl) fun σ H R ⟨B, E0, S, k⟩ => ⟨B, E0, S, fun vs B' H' E rs => by
    obtain ⟨u1, u2, rfl, r1, r2⟩ := ras_2 rs
    cases r1 with
    | @tup p us _ hp d1 =>
      cases r2 with
      | @tup q ws _ hq d2 =>
        refine ⟨p, q, us, ws, rfl, .inr ⟨.inl (.inl (E.s _ _ hp)), .inl (.inl (E.s _ _ hq)), k _ B' H' E fun n B2 H2 s1 s2 => ?_⟩⟩
        have l1 : SqT X.K H2 p us := .inl (.inl (s2 _ _ (s1 _ _ hp)))
        have l2 : SqT X.K H2 q ws := .inl (.inl (s2 _ _ (s1 _ _ hq)))
        refine ⟨fun z hz => ?_, fun hn => ⟨us, ws, l1, l2, ?_⟩⟩
        · rw [List.getElem?_zipWith] at hz
          cases e1 : xs[n]? with
          | none => rw [e1] at hz; cases hz
          | some x =>
            cases e2 : ys[n]? with
            | none => rw [e1, e2] at hz; cases hz
            | some y =>
              rw [e1, e2] at hz
              have ez := (Option.some.inj hz).symm
              subst ez
              obtain ⟨v1, hv1, dv1⟩ := dqs_get d1 n x e1
              obtain ⟨v2, hv2, dv2⟩ := dqs_get d2 n y e2
              refine ⟨⟨us, ws, v1, v2, l1, l2, hv1, hv2⟩, fun v H3 hy => ?_⟩
              obtain ⟨t, x1, x2, rfl, nt, rfl, f1, f2⟩ := hy
              have g1 : x1 = v1 := Option.some.inj ((f1 us l1).symm.trans hv1)
              have g2 : x2 = v2 := Option.some.inj ((f2 ws l2).symm.trans hv2)
              subst g1 g2
              have sn : Sub B2 (upd B2 t (.tup [x1, x2])) := sub_new (sub_free s2 nt)
              exact ⟨upd B2 t (.tup [x1, x2]), .both s2 nt, .tup upd_same (.cons (dq_sub (s1.tr sn) _ _ dv1) (.cons (dq_sub (s1.tr sn) _ _ dv2) .nil))⟩
        · rw [List.length_zipWith] at hn
          rw [dqs_len d1, dqs_len d2]
          omega⟩
theorem set_back {α : Type} (σ : List (Option α)) {i j : Nat} (h : i ≠ j) (u v : Option α) : (((((σ.set j none).set i none).set i u).set j v).set j none).set i none = (σ.set j none).set i none := by
  rw [List.set_set, List.set_set, List.set_comm _ _ h, List.set_set, List.set_set]
/-- the reading of the comprehension with two names -/
theorem n_lc2 {α : Type} {zs : List α} {f1 f2 g : α → PyData} {i j : Nat} {n1 n2 : Str} {elt : Expr} {scope : Scope} {kt : Nat} (hi : Pi X B0 H0 δ (.Tuple [.Name n1 p1, .Name n2 p2] kt pt) iter xs) (hx : xs = zs.map fun z => .tuple [f1 z, f2 z]) (hij : i ≠ j)
    (he : ∀ z, z ∈ zs → ∀ (s : Shared) (H : Hp) (C : Addr) (cl : List (Str × Addr)) (fp : List Addr), Pe (X.blk s H scope (compEnvC scope cl C X.env) fp) B0 H0 ((((δ.set j none).set i none).set i (some (.d (f1 z)))).set j (some (.d (f2 z)))) elt (.d (g z)))
    (hl : zs.length ≤ 1000) (hc : X.calm = true) (hN : X.N.Nodup) (ok : blkC X.N X.env.scope scope [(n1, i), (n2, j)] = true)
    (hg : ∀ (s : Shared) (H : Hp) (C : Addr) (cl : List (Str × Addr)) (fp : List Addr), PG (X.blk s H scope (compEnvC scope cl C X.env) fp) (.Tuple [.Name n1 p1, .Name n2 p2] kt pt) (gTup X.K 2 (gCons (gName i) (gCons (gName j) gNil))))
    (hs : ∀ x, foldedSetIterable iter X.env x = pure x := by intro _; rfl) : Pn X B0 H0 δ (.ListComp elt [⟨.Tuple [.Name n1 p1, .Name n2 p2] kt pt, iter, [], 0⟩] scope pos) (zs.map g) := by
  subst hx
  refine pe_to (pe_lc (own := [(n1, i), (n2, j)]) (pos := pos) (te := fun σ H Q => ∃ z, z ∈ zs ∧ tPe X.K B0 H0 ((((δ.set j none).set i none).set i (some (.d (f1 z)))).set j (some (.d (f2 z)))) (.d (g z)) σ H Q) hc hN hi (blkOk_by ok) hg (fun s H C cl fp => pts_nil)
    (fun s H C cl fp => ⟨fun pins s2 σ H2 Q J ⟨z, hz, q⟩ => (he z hz s H C cl fp).run pins s2 σ H2 Q J q⟩) hs) fun σ H Q ⟨B, E0, S, k⟩ => ⟨B, E0, S, fun J Bs Hs E hw D hD => ?_⟩
  have Bsub : Sub Bs Hs := E.s
  have len : (zs.map fun z => PyData.tuple [f1 z, f2 z]).length = zs.length := List.length_map _
  have S0 : SD X.K H0 Bs Hs (wipe σ [i, j]) (wipeD δ [i, j]) := sd_wipe (S.mono E) [i, j]
  refine ⟨fun n m H' => m = zs.length - n ∧ n ≤ zs.length ∧ ∃ B' vs, Ext Bs Hs B' H' ∧ B' D = none ∧ H' D = some (.lst vs) ∧ Dqs B' vs ((zs.take n).map g), ⟨zs.length, rfl, Nat.zero_le _, Bs, [], .own Bsub hD, sub_free Bsub hD, upd_same, .nil⟩, ?_⟩
  rintro n m H' ⟨rfl, hn, B', vs, E1, hb, hl', hd⟩
  have vlen : vs.length ≤ zs.length := by
    rw [dqs_len hd, List.length_map, List.length_take]
    exact Nat.min_le_right _ _
  obtain ⟨w1, w2⟩ := hw n B' H' E1.b E1.s
  by_cases h : n < zs.length
  · have hz : zs[n]? = some zs[n] := List.getElem?_eq_getElem h
    have hmem : zs[n] ∈ zs := List.getElem_mem h
    obtain ⟨go, yl⟩ := w1 (.tuple [f1 zs[n], f2 zs[n]]) (by rw [List.getElem?_map, hz]; rfl)
    have tk : zs.take (n + 1) = zs.take n ++ [zs[n]] := by rw [List.take_add_one, hz]; rfl
    refine .inr ⟨go, fun H2 => ∃ B' vs, Ext Bs Hs B' H2 ∧ B' D = none ∧ H2 D = some (.lst vs) ∧ Dqs B' vs ((zs.take (n + 1)).map g), fun H2 q => ⟨zs.length - (n + 1), by omega, rfl, h, q⟩, fun v H2 hy => ?_⟩
    obtain ⟨B2, E2, dv⟩ := yl v H2 hy
    have E12 := E1.tr E2
    cases dv with
    | @tup t us _ ht dt =>
      cases dt with
      | @cons u1 _ _ _ d1 dt =>
        cases dt with
        | @cons u2 _ _ _ d2 dt =>
          cases dt
          have S2 := SD.set (a := .d (f2 zs[n])) (i := j) (SD.set (a := .d (f1 zs[n])) (i := i) (S0.mono E12) d1 (fun _ z => nomatch z)) d2 (fun _ z => nomatch z)
          refine ⟨t, [u1, u2], rfl, .inl (.inl (E2.s _ _ ht)), rfl, u1, [u2], rfl, u2, [], rfl, rfl, ?_⟩
          refine ⟨?_, ?_⟩
          · show (((((σ.set j none).set i none).set i (some u1)).set j (some u2)).set j none).set i none = (σ.set j none).set i none
            exact set_back σ hij _ _
          · dsimp only [tYes]
            rw [if_pos rfl]
            refine ⟨zs[n], hmem, B2, (E0.tr E).tr E12, S2, fun u B4 H4 E4 du => ?_⟩
            have hD4 : H4 D = some (.lst vs) := E4.h _ _ (E2.h _ _ hl')
            have hB4 : B4 D = none := by
              rw [E4.n D (by rw [E2.h _ _ hl']; simp), E2.n D (by rw [hl']; simp)]
              exact hb
            refine ⟨vs, hD4, small1000 (by omega), B4, vs ++ [u], ?_, hB4, upd_same, ?_⟩
            · have e := E12.tr E4
              exact ⟨e.b, sub_upd e.h hD, sub_upd e.s hB4, e.n⟩
            · rw [tk, List.map_append]
              exact dqs_app (dqs_sub (E2.b.tr E4.b) _ _ hd) (.cons du .nil)
  · have e : n = zs.length := by omega
    subst e
    refine .inl ⟨w2 (by rw [len]), ?_⟩
    rw [List.take_length] at hd
    exact k D vs B' H' (E.tr E1) (sub_free E.h hD) hb hl' hd
/-- x, y = e, a list of two, plain names -/
theorem ws_twoL {E : AE} {rest : List Stmt} {i j : Nat} {n1 n2 : Str} {px py : Pos} {kt : Nat} (he : Pe X B0 H0 δ e (.d (.list [x, y]))) (hr : Ws X B0 H0 ((δ.set i (some (.d x))).set j (some (.d y))) rest E) (hN : X.N.Nodup) (hi : X.N[i]? = some n1) (hj : X.N[j]? = some n2) (hx : Loc X.env.scope n1) (hy : Loc X.env.scope n2) (hc : X.calm = true)
    (hf : X.fn n1 = true ∨ X.env.scope.names.lookup n1 = some .local := by first | exact .inl rfl | exact .inr rfl | assumption) (hf2 : X.fn n2 = true ∨ X.env.scope.names.lookup n2 = some .local := by first | exact .inl rfl | exact .inr rfl | assumption)
    (s1 : (assignEach [.Name n1 px, .Name n2 py] X.env).map (·.2) = assign (.Name n1 px) X.env :: (assignEach [.Name n2 py] X.env).map (·.2) := by rfl) (s2 : (assignEach [.Name n2 py] X.env).map (·.2) = assign (.Name n2 py) X.env :: (assignEach [] X.env).map (·.2) := by rfl)
    (hn : (assignEach [.Name n1 px, .Name n2 py] X.env).length = 2 := by rfl) (hst : (assignEach [.Name n1 px, .Name n2 py] X.env).findIdx? (·.1) = none := by rfl)
    (hs : swapsWithSole [.Tuple [.Name n1 px, .Name n2 py] kt pt] e pos.line X.env = pure false := by rfl) (hw : swappedStores [.Tuple [.Name n1 px, .Name n2 py] kt pt] e X.env = pure none := by rfl) (h1 : (assignEach [.Tuple [.Name n1 px, .Name n2 py] kt pt] X.env).map (·.2) = [assign (.Tuple [.Name n1 px, .Name n2 py] kt pt) X.env] := by rfl) :
    Ws X B0 H0 δ (.Assign [.Tuple [.Name n1 px, .Name n2 py] kt pt] e pos :: rest) E := by
  refine ws_cons (W := fun B H δ' => B = B0 ∧ H = H0 ∧ δ' = (δ.set i (some (.d x))).set j (some (.d y))) (ps_asg he (pg_lst hc (pgs_cons (pg_name hN hi hx hf) (pgs_cons (pg_name hN hj hy hf2) pgs_nil s2) s1) hn hst) hs hw h1) (fun B H δ' ⟨h1, h2, h3⟩ => by rw [h1, h2, h3]; exact hr) fun D σ H B E0 S z => ⟨B, E0, S, fun v B' H' E1 r => ?_⟩
  cases r with
  | @lst p vs _ hp hd =>
    cases hd with
    | @cons u _ _ _ d1 t =>
      cases t with
      | @cons u2 _ _ _ d2 t =>
        cases t
        refine ⟨p, [u, u2], rfl, .inl (.inl (E1.s _ _ hp)), rfl, u, [u2], rfl, u2, [], rfl, rfl, ?_⟩
        exact z.nx _ _ _ _ B' H' ⟨rfl, rfl, rfl⟩ E1.b (E0.tr E1) (SD.set (a := .d y) (SD.set (a := .d x) (S.mono E1) d1 (fun _ z => nomatch z)) d2 (fun _ z => nomatch z))
end
end GL

set_option Elab.async false
set_option linter.all false
set_option maxHeartbeats 4000000
/-! GM: sorted lists of ints, plain Lean -/
namespace GM
/-- rising, each once -/
abbrev Rise (l : List Int) : Prop := l.Pairwise (· < ·)
def ins (x : Int) : List Int → List Int
  | [] => [x]
  | y :: ys => if x ≤ y then x :: y :: ys else y :: ins x ys
def srt : List Int → List Int
  | [] => []
  | x :: xs => ins x (srt xs)
theorem ins_perm (x : Int) : ∀ l, (ins x l).Perm (x :: l)
  | [] => .refl _
  | y :: ys => by
    unfold ins
    split
    · exact .refl _
    · exact ((ins_perm x ys).cons y).trans (.swap x y ys)
theorem srt_perm : ∀ l, (srt l).Perm l
  | [] => .refl _
  | x :: xs => (ins_perm x _).trans ((srt_perm xs).cons x)
theorem ins_mem {x z : Int} {l : List Int} : z ∈ ins x l ↔ z = x ∨ z ∈ l := by rw [(ins_perm x l).mem_iff, List.mem_cons]
theorem srt_mem {z : Int} {l : List Int} : z ∈ srt l ↔ z ∈ l := (srt_perm l).mem_iff
theorem ins_sorted (x : Int) : ∀ l : List Int, l.Pairwise (· ≤ ·) → (ins x l).Pairwise (· ≤ ·)
  | [], _ => List.pairwise_singleton _ _
  | y :: ys, h => by
    obtain ⟨h1, h2⟩ := List.pairwise_cons.mp h
    unfold ins
    split
    · rename_i hxy
      exact List.pairwise_cons.mpr ⟨fun z hz => by
        rcases List.mem_cons.mp hz with rfl | hz
        · exact hxy
        · exact Int.le_trans hxy (h1 z hz), h⟩
    · rename_i hxy
      exact List.pairwise_cons.mpr ⟨fun z hz => by
        rcases ins_mem.mp hz with rfl | hz
        · omega
        · exact h1 z hz, ins_sorted x ys h2⟩
theorem srt_sorted : ∀ l : List Int, (srt l).Pairwise (· ≤ ·)
  | [] => List.Pairwise.nil
  | x :: xs => ins_sorted x _ (srt_sorted xs)
/-- two sorted lists of the same items are one -/
theorem sorted_same : ∀ {l m : List Int}, l.Perm m → l.Pairwise (· ≤ ·) → m.Pairwise (· ≤ ·) → l = m
  | [], m, p, _, _ => (List.nil_perm.mp p).symm ▸ rfl
  | x :: xs, [], p, _, _ => absurd (p.length_eq) (by simp)
  | x :: xs, y :: ys, p, h, k => by
    obtain ⟨h1, h2⟩ := List.pairwise_cons.mp h
    obtain ⟨k1, k2⟩ := List.pairwise_cons.mp k
    have a : x ≤ y := by
      rcases List.mem_cons.mp (p.mem_iff.mpr List.mem_cons_self : y ∈ x :: xs) with e | e
      · omega
      · exact h1 y e
    have b : y ≤ x := by
      rcases List.mem_cons.mp (p.mem_iff.mp List.mem_cons_self : x ∈ y :: ys) with e | e
      · omega
      · exact k1 x e
    have e : x = y := by omega
    subst e
    rw [sorted_same (List.Perm.cons_inv p) h2 k2]
theorem srt_uniq {l : List Int} : ∀ zs : List Int, zs.Perm l → zs.Pairwise (· ≤ ·) → zs = srt l := fun zs p h => sorted_same (p.trans (srt_perm l).symm) h (srt_sorted l)
/-- two rising lists with the same items are one -/
theorem ris_same : ∀ {l m : List Int}, Rise l → Rise m → (∀ z, z ∈ l ↔ z ∈ m) → l = m
  | [], [], _, _, _ => rfl
  | [], y :: _, _, _, e => absurd ((e y).mpr List.mem_cons_self) (by simp)
  | x :: _, [], _, _, e => absurd ((e x).mp List.mem_cons_self) (by simp)
  | x :: xs, y :: ys, h, k, e => by
    obtain ⟨h1, h2⟩ := List.pairwise_cons.mp h
    obtain ⟨k1, k2⟩ := List.pairwise_cons.mp k
    have a : x = y := by
      rcases List.mem_cons.mp ((e x).mp List.mem_cons_self) with q | q
      · exact q
      · rcases List.mem_cons.mp ((e y).mpr List.mem_cons_self) with r | r
        · exact r.symm
        · have := k1 x q
          have := h1 y r
          omega
    subst a
    refine congrArg _ (ris_same h2 k2 fun z => ⟨fun hz => ?_, fun hz => ?_⟩)
    · rcases List.mem_cons.mp ((e z).mp (List.mem_cons_of_mem _ hz)) with q | q
      · have := h1 z hz
        omega
      · exact q
    · rcases List.mem_cons.mp ((e z).mpr (List.mem_cons_of_mem _ hz)) with q | q
      · have := k1 z hz
        omega
      · exact q
theorem ris_le {l : List Int} (h : Rise l) : l.Pairwise (· ≤ ·) := h.imp fun h => Int.le_of_lt h
theorem ris_nodup {l : List Int} (h : Rise l) : l.Nodup := h.imp fun h => by omega
theorem ris_of {l : List Int} (h : l.Pairwise (· ≤ ·)) (n : l.Nodup) : Rise l := by
  induction l with
  | nil => exact List.Pairwise.nil
  | cons x xs ih =>
    obtain ⟨h1, h2⟩ := List.pairwise_cons.mp h
    obtain ⟨n1, n2⟩ := List.nodup_cons.mp n
    refine List.pairwise_cons.mpr ⟨fun z hz => ?_, ih h2 n2⟩
    have := h1 z hz
    have : x ≠ z := fun e => n1 (by rw [e]; exact hz)
    omega
/-- the rising list of what is in l -/
def insS (x : Int) : List Int → List Int
  | [] => [x]
  | y :: ys => if x < y then x :: y :: ys else if x = y then y :: ys else y :: insS x ys
def sset : List Int → List Int
  | [] => []
  | x :: xs => insS x (sset xs)
theorem insS_mem {x z : Int} : ∀ {l : List Int}, z ∈ insS x l ↔ z = x ∨ z ∈ l
  | [] => by simp [insS]
  | y :: ys => by
    unfold insS
    split
    · simp
    · split
      · rename_i e
        subst e
        simp
      · simp only [List.mem_cons, insS_mem (l := ys)]
        constructor
        · rintro (h | h | h)
          · exact .inr (.inl h)
          · exact .inl h
          · exact .inr (.inr h)
        · rintro (h | h | h)
          · exact .inr (.inl h)
          · exact .inl h
          · exact .inr (.inr h)
theorem insS_ris {x : Int} : ∀ {l : List Int}, Rise l → Rise (insS x l)
  | [], _ => List.pairwise_singleton _ _
  | y :: ys, h => by
    obtain ⟨h1, h2⟩ := List.pairwise_cons.mp h
    unfold insS
    split
    · rename_i hxy
      exact List.pairwise_cons.mpr ⟨fun z hz => by
        rcases List.mem_cons.mp hz with rfl | hz
        · exact hxy
        · exact Int.lt_trans hxy (h1 z hz), h⟩
    · split
      · exact h
      · rename_i a b
        exact List.pairwise_cons.mpr ⟨fun z hz => by
          rcases insS_mem.mp hz with rfl | hz
          · omega
          · exact h1 z hz, insS_ris h2⟩
theorem sset_ris : ∀ l : List Int, Rise (sset l)
  | [] => List.Pairwise.nil
  | _ :: xs => insS_ris (sset_ris xs)
theorem sset_mem {z : Int} : ∀ {l : List Int}, z ∈ sset l ↔ z ∈ l
  | [] => .rfl
  | x :: xs => by
    unfold sset
    rw [insS_mem, sset_mem (l := xs), List.mem_cons]
theorem sset_uniq {l : List Int} : ∀ zs : List Int, Rise zs → (∀ z, z ∈ zs ↔ z ∈ l) → zs = sset l := fun zs h e => ris_same h (sset_ris l) fun z => (e z).trans sset_mem.symm
theorem insS_len (x : Int) : ∀ l, (insS x l).length ≤ l.length + 1
  | [] => Nat.le_refl _
  | y :: ys => by
    have := insS_len x ys
    unfold insS
    split
    · exact Nat.le_refl _
    · split
      · simp
      · simp only [List.length_cons]; omega
theorem sset_len : ∀ l : List Int, (sset l).length ≤ l.length
  | [] => Nat.le_refl _
  | x :: xs => by
    have := sset_len xs
    have := insS_len x (sset xs)
    unfold sset
    simp only [List.length_cons]
    omega
/-- what just one of two has -/
def oddOnes (xs ys : List Int) : List Int := srt (xs.filter (fun z => !decide (z ∈ ys)) ++ ys.filter (fun z => !decide (z ∈ xs)))
theorem odd_mem {xs ys : List Int} {z : Int} : z ∈ oddOnes xs ys ↔ (z ∈ xs ∧ z ∉ ys) ∨ (z ∈ ys ∧ z ∉ xs) := by
  unfold oddOnes
  rw [srt_mem, List.mem_append, List.mem_filter, List.mem_filter]
  simp
theorem odd_ris {xs ys : List Int} (hx : Rise xs) (hy : Rise ys) : Rise (oddOnes xs ys) := by
  unfold oddOnes
  refine ris_of (srt_sorted _) ((srt_perm _).symm.nodup ?_)
  refine List.nodup_append.mpr ⟨(ris_nodup hx).sublist List.filter_sublist, (ris_nodup hy).sublist List.filter_sublist, fun a ha b hb e => ?_⟩
  subst e
  have h1 := (List.mem_filter.mp ha).2
  have h2 := (List.mem_filter.mp hb).1
  simp at h1
  exact h1 h2
theorem odd_len (xs ys : List Int) : (oddOnes xs ys).length ≤ xs.length + ys.length := by
  unfold oddOnes
  rw [(srt_perm _).length_eq, List.length_append]
  exact Nat.add_le_add (List.length_filter_le _ _) (List.length_filter_le _ _)
end GM
namespace GM
/-! ### the laws' own small functions -/
def cellAt (ns : List Int) (k : Int) : Int := ns.getD k.toNat 0
def mix (c p m : Int) : Int := c * 48271 % p % m
theorem mix_lt {c p m : Int} (h : 0 < m) : 0 ≤ mix c p m ∧ mix c p m < m := ⟨Int.emod_nonneg _ (by omega), Int.emod_lt_of_pos _ h⟩
end GM
namespace GM
theorem getD_bd {l : List Int} {lo hi : Int} (h : ∀ x ∈ l, lo ≤ x ∧ x ≤ hi) (h0 : lo ≤ 0 ∧ 0 ≤ hi) (i : Nat) : lo ≤ l.getD i 0 ∧ l.getD i 0 ≤ hi := by
  rw [List.getD_eq_getElem?_getD]
  cases q : l[i]? with
  | none => exact h0
  | some x => exact h x (List.mem_of_getElem? q)
/-! ### k01 -/
def lstMany (c : Int) : Int := [mix c 10007 5, mix c 10009 31].getD (mix c 10037 2).toNat 0
theorem lstMany_bd (c : Int) : 0 ≤ lstMany c ∧ lstMany c ≤ 30 := getD_bd (fun x hx => by
  have h1 := mix_lt (c := c) (p := 10007) (m := 5) (by decide)
  have h2 := mix_lt (c := c) (p := 10009) (m := 31) (by decide)
  simp only [List.mem_cons, List.not_mem_nil, or_false] at hx
  rcases hx with rfl | rfl <;> omega) (by decide) _
def lstRaw (ns : List Int) (first c : Int) : List Int := (List.range (lstMany c).toNat).map fun (k : Nat) => mix (cellAt ns (first + (k : Int) % 25) + (k : Int)) 10039 40
def lst (ns : List Int) (first c : Int) : List Int := sset (if mix c 10061 4 = 0 then (lstRaw ns first c).map fun z => 10 ^ 12 + z else lstRaw ns first c)
theorem lstRaw_len (ns : List Int) (first c : Int) : (lstRaw ns first c).length ≤ 30 := by
  unfold lstRaw
  have := lstMany_bd c
  rw [List.length_map, List.length_range]
  omega
theorem lst_len (ns : List Int) (first c : Int) : (lst ns first c).length ≤ 30 := by
  unfold lst
  refine Nat.le_trans (sset_len _) ?_
  split
  · rw [List.length_map]; exact lstRaw_len ns first c
  · exact lstRaw_len ns first c
end GM
namespace GM
theorem rise_get {l : List Int} (h : Rise l) {i j : Nat} (hi : i < j) (hj : j < l.length) : l.getD i 0 < l.getD j 0 := by
  rw [List.getD_eq_getElem?_getD, List.getD_eq_getElem?_getD, List.getElem?_eq_getElem hj, List.getElem?_eq_getElem (by omega : i < l.length)]
  exact List.pairwise_iff_getElem.mp h i j (by omega) hj hi
end GM

set_option Elab.async false
set_option linter.all false
set_option maxHeartbeats 4000000
/-! GM2: sets of places, values bit by bit, plain Lean -/
namespace GM
def setFrom (last : Int) (m : Int) : List Int → Bool
  | [] => true
  | p :: ps => if p ≤ last ∨ m ≤ p then false else setFrom p m ps
def isSet (ps : List Int) (m : Int) : Bool := setFrom (-1) m ps
theorem setFrom_iff {m : Int} : ∀ {ps : List Int} {last : Int}, setFrom last m ps = true ↔ Rise (last :: ps) ∧ ∀ x ∈ ps, x < m
  | [], last => by simp [setFrom]
  | p :: ps, last => by
    unfold setFrom
    split
    · rename_i h
      constructor
      · intro q; cases q
      · rintro ⟨h1, h2⟩
        have := (List.pairwise_cons.mp h1).1 p List.mem_cons_self
        have := h2 p List.mem_cons_self
        omega
    · rename_i h
      rw [setFrom_iff (ps := ps) (last := p)]
      constructor
      · rintro ⟨h1, h2⟩
        refine ⟨List.pairwise_cons.mpr ⟨fun z hz => ?_, h1⟩, fun x hx => ?_⟩
        · rcases List.mem_cons.mp hz with rfl | hz
          · omega
          · have := (List.pairwise_cons.mp h1).1 z hz
            omega
        · rcases List.mem_cons.mp hx with rfl | hx
          · omega
          · exact h2 x hx
      · rintro ⟨h1, h2⟩
        exact ⟨(List.pairwise_cons.mp h1).2, fun x hx => h2 x (List.mem_cons_of_mem _ hx)⟩
theorem isSet_iff {m : Int} {ps : List Int} : isSet ps m = true ↔ Rise ps ∧ ∀ x ∈ ps, 0 ≤ x ∧ x < m := by
  unfold isSet
  rw [setFrom_iff]
  constructor
  · rintro ⟨h1, h2⟩
    obtain ⟨h3, h4⟩ := List.pairwise_cons.mp h1
    exact ⟨h4, fun x hx => ⟨by have := h3 x hx; omega, h2 x hx⟩⟩
  · rintro ⟨h1, h2⟩
    exact ⟨List.pairwise_cons.mpr ⟨fun z hz => by have := (h2 z hz).1; omega, h1⟩, fun x hx => (h2 x hx).2⟩
/-! ### values -/
def nought (w : Nat) : List Int := List.replicate w 0
def addV (xs ys : List Int) : List Int := List.zipWith (fun x y => (x + y) % 2) xs ys
def valueOf (ld : List (List Int)) (w : Nat) (ps : List Int) : List Int := ps.foldl (fun acc p => addV acc (ld.getD p.toNat [])) (nought w)
def lsum (vs : List (List Int)) (w : Nat) : List Int := (List.range w).map fun (k : Nat) => (vs.map fun v => v.getD k 0).sum % 2
/-- of w bits -/
def Val (w : Nat) (v : List Int) : Prop := v.length = w ∧ ∀ x ∈ v, x = 0 ∨ x = 1
theorem val_nought (w : Nat) : Val w (nought w) := ⟨List.length_replicate, fun x hx => .inl (List.mem_replicate.mp hx).2⟩
theorem addV_len {w : Nat} {xs ys : List Int} (h1 : xs.length = w) (h2 : ys.length = w) : (addV xs ys).length = w := by
  unfold addV
  rw [List.length_zipWith, h1, h2, Nat.min_self]
theorem addV_get {xs ys : List Int} (h : xs.length = ys.length) (k : Nat) : (addV xs ys).getD k 0 = (xs.getD k 0 + ys.getD k 0) % 2 := by
  unfold addV
  rw [List.getD_eq_getElem?_getD, List.getD_eq_getElem?_getD, List.getD_eq_getElem?_getD, List.getElem?_zipWith]
  by_cases hk : k < xs.length
  · rw [List.getElem?_eq_getElem hk, List.getElem?_eq_getElem (h ▸ hk)]
    rfl
  · rw [List.getElem?_eq_none (by omega : xs.length ≤ k), List.getElem?_eq_none (by omega : ys.length ≤ k)]
    rfl
theorem val_add {w : Nat} {xs ys : List Int} (h1 : Val w xs) (h2 : Val w ys) : Val w (addV xs ys) := by
  refine ⟨addV_len h1.1 h2.1, fun x hx => ?_⟩
  unfold addV at hx
  rw [List.mem_iff_getElem?] at hx
  obtain ⟨k, hk⟩ := hx
  rw [List.getElem?_zipWith] at hk
  cases e1 : xs[k]? with
  | none => rw [e1] at hk; cases hk
  | some a =>
    cases e2 : ys[k]? with
    | none => rw [e1, e2] at hk; cases hk
    | some b =>
      rw [e1, e2] at hk
      have := (Option.some.inj hk).symm
      omega
theorem ext_getD {w : Nat} {xs ys : List Int} (h1 : xs.length = w) (h2 : ys.length = w) (h : ∀ k, k < w → xs.getD k 0 = ys.getD k 0) : xs = ys := by
  apply List.ext_getElem (by rw [h1, h2])
  intro k hk1 hk2
  have := h k (by omega)
  rw [List.getD_eq_getElem?_getD, List.getD_eq_getElem?_getD, List.getElem?_eq_getElem hk1, List.getElem?_eq_getElem hk2] at this
  exact this
theorem lsum_len (vs : List (List Int)) (w : Nat) : (lsum vs w).length = w := by unfold lsum; rw [List.length_map, List.length_range]
theorem lsum_get {vs : List (List Int)} {w k : Nat} (h : k < w) : (lsum vs w).getD k 0 = (vs.map fun v => v.getD k 0).sum % 2 := by
  unfold lsum
  rw [List.getD_eq_getElem?_getD, List.getElem?_map, List.getElem?_range h]
  rfl
theorem val_lsum (vs : List (List Int)) (w : Nat) : Val w (lsum vs w) := by
  refine ⟨lsum_len vs w, fun x hx => ?_⟩
  unfold lsum at hx
  obtain ⟨k, _, rfl⟩ := List.mem_map.mp hx
  omega
theorem fold_val {w : Nat} : ∀ (vs : List (List Int)) (acc : List Int), (∀ v ∈ vs, v.length = w) → Val w acc → (vs.foldl addV acc).length = w ∧ ∀ k, k < w → (vs.foldl addV acc).getD k 0 = (acc.getD k 0 + (vs.map fun v => v.getD k 0).sum) % 2
  | [], acc, _, ha => ⟨ha.1, fun k hk => by
    have : acc.getD k 0 = 0 ∨ acc.getD k 0 = 1 := by
      rw [List.getD_eq_getElem?_getD, List.getElem?_eq_getElem (by rw [ha.1]; exact hk)]
      exact ha.2 _ (List.getElem_mem _)
    show acc.getD k 0 = (acc.getD k 0 + 0) % 2
    omega⟩
  | v :: vs, acc, h, ha => by
    have hv := h v List.mem_cons_self
    have hl : (addV acc v).length = w := addV_len ha.1 hv
    have hva : Val w (addV acc v) := by
      refine ⟨hl, fun x hx => ?_⟩
      unfold addV at hx
      rw [List.mem_iff_getElem?] at hx
      obtain ⟨k, hk⟩ := hx
      rw [List.getElem?_zipWith] at hk
      cases e1 : acc[k]? with
      | none => rw [e1] at hk; cases hk
      | some a =>
        cases e2 : v[k]? with
        | none => rw [e1, e2] at hk; cases hk
        | some b =>
          rw [e1, e2] at hk
          have := (Option.some.inj hk).symm
          omega
    obtain ⟨h1, h2⟩ := fold_val vs (addV acc v) (fun u hu => h u (List.mem_cons_of_mem _ hu)) hva
    refine ⟨h1, fun k hk => ?_⟩
    show (vs.foldl addV (addV acc v)).getD k 0 = (acc.getD k 0 + (v.getD k 0 + (vs.map fun v => v.getD k 0).sum)) % 2
    rw [h2 k hk, addV_get (by rw [ha.1, hv])]
    omega
theorem fold_map {ld : List (List Int)} : ∀ (ps : List Int) (acc : List Int), ps.foldl (fun acc p => addV acc (ld.getD p.toNat [])) acc = (ps.map fun p => ld.getD p.toNat []).foldl addV acc
  | [], _ => rfl
  | p :: ps, acc => fold_map ps _
theorem nought_get (w k : Nat) : (nought w).getD k 0 = 0 := by
  unfold nought
  rw [List.getD_eq_getElem?_getD, List.getElem?_replicate]
  split <;> rfl
/-- the sum of pieces is the sum, bit by bit -/
theorem valueOf_sum {ld : List (List Int)} {w : Nat} {ps : List Int} (h : ∀ p ∈ ps, (ld.getD p.toNat []).length = w) : valueOf ld w ps = lsum (ps.map fun p => ld.getD p.toNat []) w := by
  unfold valueOf
  rw [fold_map]
  obtain ⟨h1, h2⟩ := fold_val (ps.map fun p => ld.getD p.toNat []) (nought w) (fun v hv => by
    obtain ⟨p, hp, rfl⟩ := List.mem_map.mp hv
    exact h p hp) (val_nought w)
  refine ext_getD h1 (lsum_len _ _) fun k hk => ?_
  rw [h2 k hk, lsum_get hk, nought_get, Int.zero_add]
theorem add_sum {w : Nat} {xs ys : List Int} (h1 : xs.length = w) (h2 : ys.length = w) : addV xs ys = lsum [xs, ys] w := by
  refine ext_getD (addV_len h1 h2) (lsum_len _ _) fun k hk => ?_
  rw [addV_get (by rw [h1, h2]), lsum_get hk]
  show _ = (xs.getD k 0 + (ys.getD k 0 + 0)) % 2
  rw [Int.add_zero]
/-! ### the laws' own small functions -/
def mixed (c k m : Int) : Int := ((c + 7919 * k + 11) * 48271 % 2147483647) * ((c + 7919 * k + 11) * 48271 % 2147483647) % 1000003 / 7 % m
theorem mixed_lt {c k m : Int} (h : 0 < m) : 0 ≤ mixed c k m ∧ mixed c k m < m := ⟨Int.emod_nonneg _ (by omega), Int.emod_lt_of_pos _ h⟩
def bits (c : Int) (w : Nat) : List Int := (List.range w).map fun (k : Nat) => mixed c k 2
theorem val_bits (c : Int) (w : Nat) : Val w (bits c w) := by
  refine ⟨by unfold bits; rw [List.length_map, List.length_range], fun x hx => ?_⟩
  unfold bits at hx
  obtain ⟨k, _, rfl⟩ := List.mem_map.mp hx
  have := mixed_lt (c := c) (k := (k : Int)) (m := 2) (by decide)
  omega
def lset (c m : Int) : List Int :=
  if mix c 10037 4 = 0 then [mix c 10067 m] else if mix c 10037 4 = 1 then sset [mix c 10067 m, mix c 10069 m]
  else ((List.range m.toNat).filter fun (k : Nat) => decide (mixed c (40 + (k : Int)) 2 = 1)).map fun (k : Nat) => (k : Int)
theorem lset_set {c m : Int} (h : 0 < m) : isSet (lset c m) m = true := by
  rw [isSet_iff]
  have b1 := mix_lt (c := c) (p := 10067) h
  have b2 := mix_lt (c := c) (p := 10069) h
  unfold lset
  split
  · exact ⟨List.pairwise_singleton _ _, fun x hx => by rw [List.mem_singleton.mp hx]; exact b1⟩
  · split
    · refine ⟨sset_ris _, fun x hx => ?_⟩
      rw [sset_mem] at hx
      simp only [List.mem_cons, List.not_mem_nil, or_false] at hx
      rcases hx with rfl | rfl
      · exact b1
      · exact b2
    · refine ⟨?_, fun x hx => ?_⟩
      · refine List.pairwise_map.mpr ?_
        exact (List.pairwise_lt_range.sublist List.filter_sublist).imp fun h => by omega
      · obtain ⟨k, hk, rfl⟩ := List.mem_map.mp hx
        have := List.mem_range.mp (List.mem_filter.mp hk).1
        omega
theorem set_len {ps : List Int} {m : Int} (h : isSet ps m = true) : (ps.length : Int) ≤ max m 0 := by
  obtain ⟨h1, h2⟩ := isSet_iff.mp h
  have key : ∀ (ps : List Int) (lo : Int), Rise ps → (∀ x ∈ ps, lo ≤ x ∧ x < m) → (ps.length : Int) ≤ max (m - lo) 0 := by
    intro ps
    induction ps with
    | nil => intro lo _ _; show (0 : Int) ≤ _; omega
    | cons x xs ih =>
      intro lo h1 h2
      obtain ⟨h3, h4⟩ := List.pairwise_cons.mp h1
      have a := h2 x List.mem_cons_self
      have := ih (x + 1) h4 fun y hy => ⟨by have := h3 y hy; omega, (h2 y (List.mem_cons_of_mem _ hy)).2⟩
      rw [List.length_cons]
      omega
  have := key ps 0 h1 h2
  omega
def sizeMany (c : Int) : Int := [1 + mix c 10079 7, 1 + mix c 10079 7, 1 + mix c 10091 24].getD (mix c 10103 3).toNat 0
def sizeWide (c : Int) : Int := [1 + mix c 10093 4, 1 + mix c 10099 32].getD (mix c 10111 2).toNat 0
theorem getD_in {l : List Int} {i : Nat} (h : i < l.length) : l.getD i 0 ∈ l := by
  rw [List.getD_eq_getElem?_getD, List.getElem?_eq_getElem h]
  exact List.getElem_mem h
theorem sizeMany_bd (c : Int) : 1 ≤ sizeMany c ∧ sizeMany c ≤ 24 := by
  have h1 := mix_lt (c := c) (p := 10079) (m := 7) (by decide)
  have h2 := mix_lt (c := c) (p := 10091) (m := 24) (by decide)
  have h3 := mix_lt (c := c) (p := 10103) (m := 3) (by decide)
  have := getD_in (l := [1 + mix c 10079 7, 1 + mix c 10079 7, 1 + mix c 10091 24]) (i := (mix c 10103 3).toNat) (by show _ < 3; omega)
  unfold sizeMany
  simp only [List.mem_cons, List.not_mem_nil, or_false] at this
  omega
theorem sizeWide_bd (c : Int) : 1 ≤ sizeWide c ∧ sizeWide c ≤ 32 := by
  have h1 := mix_lt (c := c) (p := 10093) (m := 4) (by decide)
  have h2 := mix_lt (c := c) (p := 10099) (m := 32) (by decide)
  have h3 := mix_lt (c := c) (p := 10111) (m := 2) (by decide)
  have := getD_in (l := [1 + mix c 10093 4, 1 + mix c 10099 32]) (i := (mix c 10111 2).toNat) (by show _ < 2; omega)
  unfold sizeWide
  simp only [List.mem_cons, List.not_mem_nil, or_false] at this
  omega
end GM
namespace GM
theorem add_zip (xs ys : List Int) : (xs.zip ys).map (fun z => (z.1 + z.2) % 2) = addV xs ys := by
  unfold addV
  rw [List.zip, List.map_zipWith]
end GM
namespace GM
def oddLists (ps : List Int) (m c : Int) : List (List Int) :=
  [ps.take (mix c 10133 (ps.length + 1)).toNat ++ [m] ++ ps.drop (mix c 10133 (ps.length + 1)).toNat, ps.take (mix c 10133 (ps.length + 1)).toNat ++ [-1] ++ ps.drop (mix c 10133 (ps.length + 1)).toNat, ps ++ [m + c % 1000000000]] ++
  [ps.take (mix c 10133 (ps.length + 1)).toNat ++ [0, 0] ++ ps.drop (mix c 10133 (ps.length + 1)).toNat, [m - 1] ++ ps ++ [0, 0]]
def oddList (ps : List Int) (m c : Int) : List Int := (oddLists ps m c).getD (mix c 10139 5).toNat []
theorem not_set_mem {l : List Int} {m x : Int} (h : x ∈ l) (hx : x < 0 ∨ m ≤ x) : isSet l m = false := by
  rw [Bool.eq_false_iff]
  intro q
  have := (isSet_iff.mp q).2 x h
  omega
theorem not_set_two {a b : List Int} {m : Int} : isSet (a ++ [0, 0] ++ b) m = false := by
  rw [Bool.eq_false_iff]
  intro q
  have h := (isSet_iff.mp q).1
  have h1 := (List.pairwise_append.mp h).1
  have h2 := (List.pairwise_append.mp h1).2.1
  have := (List.pairwise_cons.mp h2).1 0 List.mem_cons_self
  omega
theorem oddLists_bad (ps : List Int) (m c : Int) : ∀ l ∈ oddLists ps m c, isSet l m = false := by
  intro l hl
  unfold oddLists at hl
  simp only [List.mem_append, List.mem_cons, List.not_mem_nil, or_false] at hl
  rcases hl with (rfl | rfl | rfl) | rfl | rfl
  · exact not_set_mem (x := m) (by simp) (.inr (Int.le_refl _))
  · exact not_set_mem (x := -1) (by simp) (.inl (by decide))
  · exact not_set_mem (x := m + c % 1000000000) (by simp) (.inr (by omega))
  · exact not_set_two
  · have := not_set_two (a := [m - 1] ++ ps) (b := []) (m := m)
    rwa [List.append_nil] at this
theorem oddList_get (ps : List Int) (m c : Int) : (oddLists ps m c)[(mix c 10139 5).toNat]? = some (oddList ps m c) := by
  have h := mix_lt (c := c) (p := 10139) (m := 5) (by decide)
  have hl : (mix c 10139 5).toNat < (oddLists ps m c).length := by show _ < 5; omega
  unfold oddList
  rw [List.getD_eq_getElem?_getD, List.getElem?_eq_getElem hl]
  rfl
theorem oddList_bad (ps : List Int) (m c : Int) : isSet (oddList ps m c) m = false := oddLists_bad ps m c _ (List.mem_of_getElem? (oddList_get ps m c))
/-- a load of drawn bits -/
def loadOf (c : Int) (many : Nat) (w : Nat) : List (List Int) := (List.range many).map fun (k : Nat) => bits (c + 101 * (k : Int)) w
theorem loadOf_len (c : Int) (many w : Nat) : (loadOf c many w).length = many := by unfold loadOf; rw [List.length_map, List.length_range]
theorem loadOf_val {c : Int} {many w : Nat} : ∀ v ∈ loadOf c many w, Val w v := fun v hv => by
  unfold loadOf at hv
  obtain ⟨k, _, rfl⟩ := List.mem_map.mp hv
  exact val_bits _ _
end GM
namespace GM
/-! ### parcels drawn -/
def drawX (n : Int) : Nat → Int
  | 0 => 48271 * (n + 1) % 65537
  | k + 1 => (75 * drawX n k + 74) % 65537
def drawTo (n : Int) : Nat → List Int
  | 0 => []
  | k + 1 => if drawX n (k + 1) % 5 < 2 then drawTo n k ++ [(k : Int)] else drawTo n k
def drawn (n m : Int) : List Int := if drawTo n m.toNat = [] then [n % m] else drawTo n m.toNat
theorem drawTo_yes {n : Int} {k : Nat} (h : drawX n (k + 1) % 5 < 2) : drawTo n (k + 1) = drawTo n k ++ [(k : Int)] := if_pos h
theorem drawTo_no {n : Int} {k : Nat} (h : ¬ drawX n (k + 1) % 5 < 2) : drawTo n (k + 1) = drawTo n k := if_neg h
theorem drawTo_len (n : Int) : ∀ k, (drawTo n k).length ≤ k
  | 0 => Nat.le_refl _
  | k + 1 => by
    have := drawTo_len n k
    unfold drawTo
    split
    · rw [List.length_append]; show _ + 1 ≤ _; omega
    · omega
theorem drawTo_set (n : Int) : ∀ k, Rise (drawTo n k) ∧ ∀ x ∈ drawTo n k, 0 ≤ x ∧ x < k
  | 0 => ⟨List.Pairwise.nil, fun x hx => by cases hx⟩
  | k + 1 => by
    obtain ⟨h1, h2⟩ := drawTo_set n k
    unfold drawTo
    split
    · refine ⟨List.pairwise_append.mpr ⟨h1, List.pairwise_singleton _ _, fun a ha b hb => by
        rw [List.mem_singleton.mp hb]; exact (h2 a ha).2⟩, fun x hx => ?_⟩
      rcases List.mem_append.mp hx with hx | hx
      · have := h2 x hx; omega
      · rw [List.mem_singleton.mp hx]; omega
    · exact ⟨h1, fun x hx => by have := h2 x hx; omega⟩
theorem drawn_set {n m : Int} (hn : 0 ≤ n) (hm : 1 ≤ m) : isSet (drawn n m) m = true := by
  rw [isSet_iff]
  unfold drawn
  split
  · exact ⟨List.pairwise_singleton _ _, fun x hx => by
      rw [List.mem_singleton.mp hx]
      exact ⟨Int.emod_nonneg _ (by omega), Int.emod_lt_of_pos _ (by omega)⟩⟩
  · obtain ⟨h1, h2⟩ := drawTo_set n m.toNat
    exact ⟨h1, fun x hx => by have := h2 x hx; omega⟩
end GM

set_option Elab.async false
set_option linter.all false
set_option maxHeartbeats 4000000
/-! GM3: rows: sums of parcels, plain Lean -/
namespace GM
abbrev Rw := List Int × List Int × List Int
abbrev Par := List Int × List Int
def has (l : List Int) (x : Int) : Bool := decide (x ∈ l)
def bitAt (v : List Int) (k : Nat) : Bool := decide (v.getD k 0 = 1)
def hd (l : List Int) : Int := l.getD 0 0
def joined (a b : Rw) : Rw := (oddOnes a.1 b.1, addV a.2.1 b.2.1, oddOnes a.2.2 b.2.2)
def redStep (r o : Rw) : Rw := if hd o.1 ∈ r.1 then joined r o else r
def reduced (rows : List Rw) (r : Rw) : Rw := rows.foldl redStep r
def putStep (r o : Rw) : Rw := if hd r.1 ∈ o.1 then joined o r else o
def withRow (rows : List Rw) (r : Rw) : List Rw := rows.map (putStep r) ++ [r]
/-! ### parity -/
def par {α : Type} (f : α → Bool) : List α → Bool
  | [] => false
  | a :: l => xor (f a) (par f l)
theorem par_append {α : Type} (f : α → Bool) : ∀ l m : List α, par f (l ++ m) = xor (par f l) (par f m)
  | [], m => by simp [par]
  | a :: l, m => by simp [par, par_append f l m, Bool.xor_assoc]
theorem par_perm {α : Type} {f : α → Bool} {l m : List α} (p : l.Perm m) : par f l = par f m := by
  induction p with
  | nil => rfl
  | cons x _ ih => simp only [par, ih]
  | swap x y l => simp only [par]; cases f x <;> cases f y <;> cases par f l <;> rfl
  | trans _ _ ih1 ih2 => rw [ih1, ih2]
theorem par_split {α : Type} (f : α → Bool) (p : α → Bool) : ∀ l : List α, par f l = xor (par f (l.filter p)) (par f (l.filter fun a => !p a))
  | [] => rfl
  | a :: l => by
    have ih := par_split f p l
    cases h : p a <;> simp [List.filter_cons, h, par, ih] <;> cases f a <;> simp
theorem par_congr {α : Type} {f g : α → Bool} : ∀ {l : List α}, (∀ a ∈ l, f a = g a) → par f l = par g l
  | [], _ => rfl
  | a :: l, h => by simp only [par]; rw [h a List.mem_cons_self, par_congr fun b hb => h b (List.mem_cons_of_mem _ hb)]
theorem par_false {α : Type} {f : α → Bool} {l : List α} (h : ∀ a ∈ l, f a = false) : par f l = false := by
  rw [par_congr (g := fun _ => false) h]
  clear h
  induction l with
  | nil => rfl
  | cons a l ih => simp only [par, ih]; rfl
theorem par_xor {α : Type} (f g : α → Bool) : ∀ l : List α, par (fun a => xor (f a) (g a)) l = xor (par f l) (par g l)
  | [] => rfl
  | a :: l => by
    simp only [par, par_xor f g l]
    cases f a <;> cases g a <;> cases par f l <;> cases par g l <;> rfl
theorem par_map {α β : Type} (f : β → Bool) (g : α → β) : ∀ l : List α, par f (l.map g) = par (fun a => f (g a)) l
  | [] => rfl
  | a :: l => by simp only [List.map_cons, par, par_map f g l]
/-- parities of parities may be taken in either order -/
theorem par_swap {α β : Type} (f : α → β → Bool) (l : List α) : ∀ m : List β, par (fun a => par (f a) m) l = par (fun b => par (fun a => f a b) l) m
  | [] => par_false fun _ _ => rfl
  | b :: m => by
    simp only [par]
    rw [par_xor, par_swap f l m]
theorem par_odd {f : Int → Bool} {a b : List Int} (ha : Rise a) (hb : Rise b) : par f (oddOnes a b) = xor (par f a) (par f b) := by
  unfold oddOnes
  rw [par_perm (srt_perm _), par_append, par_split f (fun z => decide (z ∈ b)) a, par_split f (fun z => decide (z ∈ a)) b]
  have e : a.filter (fun z => decide (z ∈ b)) = b.filter (fun z => decide (z ∈ a)) := by
    refine ris_same (List.Pairwise.sublist List.filter_sublist ha) (List.Pairwise.sublist List.filter_sublist hb) fun z => ?_
    simp only [List.mem_filter, decide_eq_true_eq]
    exact ⟨fun h => ⟨h.2, h.1⟩, fun h => ⟨h.2, h.1⟩⟩
  rw [e]
  generalize par f (b.filter fun z => decide (z ∈ a)) = u
  generalize par f (a.filter fun z => !decide (z ∈ b)) = v
  generalize par f (b.filter fun z => !decide (z ∈ a)) = w
  cases u <;> cases v <;> cases w <;> rfl
theorem has_odd (a b : List Int) (x : Int) : has (oddOnes a b) x = xor (has a x) (has b x) := by
  unfold has
  by_cases h1 : x ∈ a <;> by_cases h2 : x ∈ b <;> simp [odd_mem, h1, h2]
/-- of a rising list: the parity of what is x tells whether x is in it -/
theorem par_eq {l : List Int} (h : l.Nodup) (x : Int) : par (fun y => decide (y = x)) l = has l x := by
  induction l with
  | nil => rfl
  | cons y l ih =>
    obtain ⟨h1, h2⟩ := List.nodup_cons.mp h
    simp only [par, ih h2]
    unfold has
    by_cases e : y = x
    · subst e
      simp [h1]
    · simp [e, Ne.symm e]
/-! ### sums of ints told by parity -/
def b01 (b : Bool) : Int := if b then 1 else 0
theorem sum_par {α : Type} {f : α → Int} : ∀ {l : List α}, (∀ a ∈ l, f a = 0 ∨ f a = 1) → (l.map f).sum % 2 = b01 (par (fun a => decide (f a = 1)) l)
  | [], _ => rfl
  | a :: l, h => by
    have ih := sum_par (f := f) (l := l) fun b hb => h b (List.mem_cons_of_mem _ hb)
    rw [List.map_cons, List.sum_cons]
    simp only [par]
    generalize (l.map f).sum = s at ih ⊢
    cases q : par (fun a => decide (f a = 1)) l <;> rw [q] at ih <;> rcases h a List.mem_cons_self with e | e <;> rw [e] <;> simp [b01] at ih ⊢ <;> omega
theorem b01_eq {b : Bool} : b01 b = 1 ↔ b = true := by cases b <;> simp [b01]
theorem b01_eq0 {b : Bool} : b01 b = 0 ↔ b = false := by cases b <;> simp [b01]
theorem val_get {w : Nat} {v : List Int} (h : Val w v) (k : Nat) : v.getD k 0 = b01 (bitAt v k) := by
  unfold bitAt
  rw [List.getD_eq_getElem?_getD]
  cases q : v[k]? with
  | none => rfl
  | some x =>
    rcases h.2 x (List.mem_of_getElem? q) with e | e <;> rw [e] <;> rfl
theorem val_bd {w : Nat} {v : List Int} (h : Val w v) (k : Nat) : v.getD k 0 = 0 ∨ v.getD k 0 = 1 := by
  rw [val_get h]
  cases bitAt v k
  · exact .inl rfl
  · exact .inr rfl
theorem val_ext {w : Nat} {u v : List Int} (hu : Val w u) (hv : Val w v) (h : ∀ k, k < w → bitAt u k = bitAt v k) : u = v :=
  ext_getD hu.1 hv.1 fun k hk => by rw [val_get hu, val_get hv, h k hk]
theorem bit_nought (w k : Nat) : bitAt (nought w) k = false := by unfold bitAt; rw [nought_get]; rfl
theorem bit_add {w : Nat} {u v : List Int} (hu : Val w u) (hv : Val w v) (k : Nat) : bitAt (addV u v) k = xor (bitAt u k) (bitAt v k) := by
  have e := addV_get (hu.1.trans hv.1.symm) k
  rw [val_get (val_add hu hv), val_get hu, val_get hv] at e
  revert e
  cases bitAt (addV u v) k <;> cases bitAt u k <;> cases bitAt v k <;> simp [b01]
theorem bit_lsum {w k : Nat} {vs : List (List Int)} (h : ∀ v ∈ vs, Val w v) (hk : k < w) : bitAt (lsum vs w) k = par (fun v => bitAt v k) vs := by
  have e := lsum_get (vs := vs) hk
  rw [sum_par fun v hv => val_bd (h v hv) k] at e
  unfold bitAt
  rw [e]
  generalize hq : par (fun v => decide (v.getD k 0 = 1)) vs = q
  cases q <;> rfl
/-! ### rows of one kind -/
structure SetOk (m : Int) (l : List Int) : Prop where
  ris : Rise l
  bd : ∀ x ∈ l, 0 ≤ x ∧ x < m
theorem setOk_iff {m : Int} {l : List Int} : SetOk m l ↔ isSet l m = true := ⟨fun h => isSet_iff.mpr ⟨h.1, h.2⟩, fun h => ⟨(isSet_iff.mp h).1, (isSet_iff.mp h).2⟩⟩
theorem setOk_odd {m : Int} {a b : List Int} (ha : SetOk m a) (hb : SetOk m b) : SetOk m (oddOnes a b) :=
  ⟨odd_ris ha.1 hb.1, fun x hx => by
    rcases odd_mem.mp hx with h | h
    · exact ha.2 x h.1
    · exact hb.2 x h.1⟩
theorem setOk_up {m n : Int} {l : List Int} (h : SetOk m l) (hm : m ≤ n) : SetOk n l := ⟨h.1, fun x hx => ⟨(h.2 x hx).1, by have := (h.2 x hx).2; omega⟩⟩
theorem setOk_nil {m : Int} : SetOk m [] := ⟨List.Pairwise.nil, fun _ h => by cases h⟩
theorem setOk_ext {m n : Int} {a b : List Int} (ha : SetOk m a) (hb : SetOk n b) (h : ∀ x, has a x = has b x) : a = b :=
  ris_same ha.1 hb.1 fun z => by
    have := h z
    unfold has at this
    exact decide_eq_decide.mp this
theorem setOk_len {m : Int} {l : List Int} (h : SetOk m l) : (l.length : Int) ≤ max m 0 := set_len (setOk_iff.mp h)
/-- a row: its set, its value, its numbers -/
structure Wf (m : Int) (w : Nat) (n : Int) (r : Rw) : Prop where
  set : SetOk m r.1
  val : Val w r.2.1
  num : SetOk n r.2.2
theorem wf_joined {m : Int} {w : Nat} {n : Int} {a b : Rw} (ha : Wf m w n a) (hb : Wf m w n b) : Wf m w n (joined a b) :=
  ⟨setOk_odd ha.set hb.set, val_add ha.val hb.val, setOk_odd ha.num hb.num⟩
theorem wf_up {m : Int} {w : Nat} {n k : Int} {r : Rw} (h : Wf m w n r) (hk : n ≤ k) : Wf m w k r := ⟨h.set, h.val, setOk_up h.num hk⟩
/-- what is told of rows bit by bit -/
def Lin (m : Int) (w : Nat) (n : Int) (f : Rw → Bool) : Prop := ∀ a b, Wf m w n a → Wf m w n b → f (joined a b) = xor (f a) (f b)
section lin
variable {m : Int} {w : Nat} {n : Int}
theorem lin_has (x : Int) : Lin m w n fun r => has r.1 x := fun a b _ _ => has_odd a.1 b.1 x
theorem lin_num (x : Int) : Lin m w n fun r => has r.2.2 x := fun a b _ _ => has_odd a.2.2 b.2.2 x
theorem lin_bit (k : Nat) : Lin m w n fun r => bitAt r.2.1 k := fun a b ha hb => bit_add ha.val hb.val k
theorem lin_par (f : Int → Bool) : Lin m w n fun r => par f r.1 := fun a b ha hb => par_odd ha.set.1 hb.set.1
theorem lin_parN (f : Int → Bool) : Lin m w n fun r => par f r.2.2 := fun a b ha hb => par_odd ha.num.1 hb.num.1
theorem lin_xor {f g : Rw → Bool} (hf : Lin m w n f) (hg : Lin m w n g) : Lin m w n fun r => xor (f r) (g r) := fun a b ha hb => by
  show xor (f _) (g _) = xor (xor (f a) (g a)) (xor (f b) (g b))
  rw [hf a b ha hb, hg a b ha hb]
  cases f a <;> cases f b <;> cases g a <;> cases g b <;> rfl
theorem wf_red {r o : Rw} (hr : Wf m w n r) (ho : Wf m w n o) : Wf m w n (redStep r o) := by
  unfold redStep
  split
  · exact wf_joined hr ho
  · exact hr
theorem wf_put {r o : Rw} (hr : Wf m w n r) (ho : Wf m w n o) : Wf m w n (putStep r o) := by
  unfold putStep
  split
  · exact wf_joined ho hr
  · exact ho
theorem reduced_wf : ∀ {rows : List Rw} {r : Rw}, (∀ o ∈ rows, Wf m w n o) → Wf m w n r → Wf m w n (reduced rows r)
  | [], _, _, hr => hr
  | o :: rows, r, h, hr => reduced_wf (rows := rows) (r := redStep r o) (fun q hq => h q (List.mem_cons_of_mem _ hq)) (wf_red hr (h o List.mem_cons_self))
theorem red_lin {f : Rw → Bool} (hf : Lin m w n f) {r o : Rw} (hr : Wf m w n r) (ho : Wf m w n o) (h : f o = false) : f (redStep r o) = f r := by
  unfold redStep
  split
  · rw [hf r o hr ho, h, Bool.xor_false]
  · rfl
theorem reduced_lin {f : Rw → Bool} (hf : Lin m w n f) : ∀ {rows : List Rw} {r : Rw}, (∀ o ∈ rows, Wf m w n o ∧ f o = false) → Wf m w n r → f (reduced rows r) = f r
  | [], _, _, _ => rfl
  | o :: rows, r, h, hr => by
    have ho := h o List.mem_cons_self
    show f (reduced rows (redStep r o)) = _
    rw [reduced_lin hf (rows := rows) (fun q hq => h q (List.mem_cons_of_mem _ hq)) (wf_red hr ho.1), red_lin hf hr ho.1 ho.2]
theorem put_lin {f : Rw → Bool} (hf : Lin m w n f) {r o : Rw} (hr : Wf m w n r) (ho : Wf m w n o) (h : f r = false) : f (putStep r o) = f o := by
  unfold putStep
  split
  · rw [hf o r ho hr, h, Bool.xor_false]
  · rfl
theorem withRow_lin {f : Rw → Bool} (hf : Lin m w n f) {rows : List Rw} {r : Rw} (h : ∀ o ∈ rows, Wf m w n o) (hr : Wf m w n r) :
    (∀ o ∈ withRow rows r, f o = false) ↔ (f r = false ∧ ∀ o ∈ rows, f o = false) := by
  unfold withRow
  constructor
  · intro q
    have hq : f r = false := q r (List.mem_append_right _ List.mem_cons_self)
    refine ⟨hq, fun o ho => ?_⟩
    rw [← put_lin hf hr (h o ho) hq]
    exact q _ (List.mem_append_left _ (List.mem_map_of_mem ho))
  · rintro ⟨h1, h2⟩ o ho
    rcases List.mem_append.mp ho with ho | ho
    · obtain ⟨p, hp, rfl⟩ := List.mem_map.mp ho
      rw [put_lin hf hr (h p hp) h1, h2 p hp]
    · rw [List.mem_singleton.mp ho]; exact h1
theorem withRow_len (rows : List Rw) (r : Rw) : (withRow rows r).length = rows.length + 1 := by
  unfold withRow
  rw [List.length_append, List.length_map]
  rfl
theorem withRow_wf {rows : List Rw} {r : Rw} (h : ∀ o ∈ rows, Wf m w n o) (hr : Wf m w n r) : ∀ o ∈ withRow rows r, Wf m w n o := by
  intro o ho
  unfold withRow at ho
  rcases List.mem_append.mp ho with ho | ho
  · obtain ⟨p, hp, rfl⟩ := List.mem_map.mp ho
    exact wf_put hr (h p hp)
  · rw [List.mem_singleton.mp ho]; exact hr
end lin
/-! ### each row's first place is in no other row -/
theorem hd_mem {l : List Int} (h : l ≠ []) : hd l ∈ l := by
  cases l with
  | nil => exact absurd rfl h
  | cons x l => exact List.mem_cons_self
theorem hd_le {l : List Int} (h : Rise l) : ∀ x ∈ l, hd l ≤ x := by
  cases l with
  | nil => intro x hx; cases hx
  | cons y l =>
    intro x hx
    rcases List.mem_cons.mp hx with rfl | hx
    · exact Int.le_refl _
    · exact Int.le_of_lt ((List.pairwise_cons.mp h).1 x hx)
theorem hd_of {l : List Int} (h : Rise l) {x : Int} (hx : x ∈ l) (hm : ∀ y ∈ l, x ≤ y) : hd l = x := by
  have a := hd_le h x hx
  have b := hm _ (hd_mem fun e => by rw [e] at hx; cases hx)
  omega
structure Ech (m : Int) (w : Nat) (n : Int) (rows : List Rw) : Prop where
  wf : ∀ o ∈ rows, Wf m w n o
  ne : ∀ o ∈ rows, o.1 ≠ []
  off : rows.Pairwise fun a b => hd a.1 ∉ b.1 ∧ hd b.1 ∉ a.1
section ech
variable {m : Int} {w : Nat} {n : Int}
theorem ech_nil : Ech m w n [] := ⟨fun _ h => (List.not_mem_nil h).elim, fun _ h => (List.not_mem_nil h).elim, List.Pairwise.nil⟩
theorem ech_up {k : Int} {rows : List Rw} (h : Ech m w n rows) (hk : n ≤ k) : Ech m w k rows := ⟨fun o ho => wf_up (h.wf o ho) hk, h.ne, h.off⟩
theorem reduced_off : ∀ {rows : List Rw} {r : Rw}, Ech m w n rows → Wf m w n r → ∀ o ∈ rows, hd o.1 ∉ (reduced rows r).1
  | [], _, _, _, o, ho => (List.not_mem_nil ho).elim
  | p :: rows, r, h, hr, o, ho => by
    obtain ⟨h1, h2⟩ := List.pairwise_cons.mp h.off
    have hp := h.wf p List.mem_cons_self
    have hr' := wf_red hr hp
    have he : Ech m w n rows := ⟨fun q hq => h.wf q (List.mem_cons_of_mem _ hq), fun q hq => h.ne q (List.mem_cons_of_mem _ hq), h2⟩
    show hd o.1 ∉ (reduced rows (redStep r p)).1
    rcases List.mem_cons.mp ho with rfl | ho
    · have e := reduced_lin (lin_has (hd o.1)) (rows := rows) (r := redStep r o) (fun q hq => ⟨he.wf q hq, by
        unfold has; exact decide_eq_false (h1 q hq).1⟩) hr'
      have e2 : has (redStep r o).1 (hd o.1) = false := by
        have hm : has o.1 (hd o.1) = true := decide_eq_true (hd_mem (h.ne o List.mem_cons_self))
        unfold redStep
        split
        · rename_i q
          show has (oddOnes r.1 o.1) _ = _
          rw [has_odd, hm, show has r.1 (hd o.1) = true from decide_eq_true q]
          rfl
        · rename_i q
          exact decide_eq_false q
      rw [e2] at e
      exact of_decide_eq_false e
    · exact reduced_off he hr' o ho
theorem put_hd {r o : Rw} (hr : Wf m w n r) (ho : Wf m w n o) (rn : r.1 ≠ []) (on : o.1 ≠ []) (h : hd o.1 ∉ r.1) : (putStep r o).1 ≠ [] ∧ hd (putStep r o).1 = hd o.1 := by
  unfold putStep
  split
  · rename_i q
    have hle := hd_le ho.set.1
    have hlr := hd_le hr.set.1
    have hne : hd r.1 ≠ hd o.1 := fun e => h (e ▸ hd_mem rn)
    have hlt : hd o.1 < hd r.1 := by have := hle _ q; omega
    have hin : hd o.1 ∈ (joined o r).1 := odd_mem.mpr (.inl ⟨hd_mem on, h⟩)
    refine ⟨fun e => (by rw [e] at hin; cases hin), hd_of (odd_ris ho.set.1 hr.set.1) hin fun y hy => ?_⟩
    rcases odd_mem.mp hy with ⟨hy, _⟩ | ⟨hy, _⟩
    · exact hle y hy
    · have := hlr y hy; omega
  · exact ⟨on, rfl⟩
theorem put_off {r o : Rw} (hr : r.1 ≠ []) : hd r.1 ∉ (putStep r o).1 := by
  unfold putStep
  split
  · rename_i q
    show hd r.1 ∉ oddOnes o.1 r.1
    rw [odd_mem]
    rintro (⟨_, h⟩ | ⟨_, h⟩)
    · exact h (hd_mem hr)
    · exact h q
  · rename_i q
    exact q
theorem put_mem {r o : Rw} {x : Int} (h1 : x ∉ r.1) (h2 : x ∉ o.1) : x ∉ (putStep r o).1 := by
  unfold putStep
  split
  · show x ∉ oddOnes o.1 r.1
    rw [odd_mem]
    rintro (⟨h, _⟩ | ⟨h, _⟩)
    · exact h2 h
    · exact h1 h
  · exact h2
theorem ech_withRow {rows : List Rw} {r : Rw} (h : Ech m w n rows) (hr : Wf m w n r) (rn : r.1 ≠ []) (ho : ∀ o ∈ rows, hd o.1 ∉ r.1) : Ech m w n (withRow rows r) := by
  refine ⟨withRow_wf h.wf hr, fun o hq => ?_, ?_⟩
  · unfold withRow at hq
    rcases List.mem_append.mp hq with hq | hq
    · obtain ⟨p, hp, rfl⟩ := List.mem_map.mp hq
      exact (put_hd hr (h.wf p hp) rn (h.ne p hp) (ho p hp)).1
    · rw [List.mem_singleton.mp hq]; exact rn
  · unfold withRow
    refine List.pairwise_append.mpr ⟨List.pairwise_map.mpr (h.off.imp_of_mem fun {a b} ha hb q => ?_), List.pairwise_singleton _ _, fun a ha b hb => ?_⟩
    · rw [(put_hd hr (h.wf a ha) rn (h.ne a ha) (ho a ha)).2, (put_hd hr (h.wf b hb) rn (h.ne b hb) (ho b hb)).2]
      exact ⟨put_mem (ho a ha) q.1, put_mem (ho b hb) q.2⟩
    · obtain ⟨p, hp, rfl⟩ := List.mem_map.mp ha
      rw [List.mem_singleton.mp hb, (put_hd hr (h.wf p hp) rn (h.ne p hp) (ho p hp)).2]
      exact ⟨ho p hp, put_off rn⟩
end ech
end GM

set_option Elab.async false
set_option linter.all false
set_option maxHeartbeats 4000000
/-! GM4: quarrels, a load that fits, plain Lean -/
namespace GM
def pAt (ps : List Par) (i : Int) : Par := ps.getD i.toNat ([], [])
def row0 (p : Par) (k : Int) : Rw := (p.1, p.2, [k])
def rowsFrom (k : Int) (rows : List Rw) : List Par → List Rw × Option (List Int)
  | [] => (rows, none)
  | p :: ps => if (reduced rows (row0 p k)).1 ≠ [] then rowsFrom (k + 1) (withRow rows (reduced rows (row0 p k))) ps
    else if (reduced rows (row0 p k)).2.1 ≠ nought p.2.length then (rows, some (reduced rows (row0 p k)).2.2) else rowsFrom (k + 1) rows ps
def rowsOf (ps : List Par) : List Rw × Option (List Int) := rowsFrom 0 [] ps
structure ParOk (m : Int) (w : Nat) (p : Par) : Prop where
  set : SetOk m p.1
  val : Val w p.2
/-- of a load's bits L: where the row is not the sum of its places' -/
def fitR (L : Int → Nat → Bool) (j : Nat) (r : Rw) : Bool := xor (par (fun x => L x j) r.1) (bitAt r.2.1 j)
def fitP (L : Int → Nat → Bool) (j : Nat) (p : Par) : Bool := xor (par (fun x => L x j) p.1) (bitAt p.2 j)
/-- a row is the sum of the parcels with its numbers -/
structure Told (P : Int → Par) (o : Rw) : Prop where
  s : ∀ x, xor (has o.1 x) (par (fun i => has (P i).1 x) o.2.2) = false
  v : ∀ j, xor (bitAt o.2.1 j) (par (fun i => bitAt (P i).2 j) o.2.2) = false
section
variable {m : Int} {w : Nat} {n : Int} {P : Int → Par} {rows : List Rw} {r : Rw} {L : Int → Nat → Bool}
theorem lin_fit (j : Nat) : Lin m w n (fitR L j) := lin_xor (lin_par _) (lin_bit j)
theorem told_reduced (h : ∀ o ∈ rows, Wf m w n o ∧ Told P o) (hr : Wf m w n r) (ht : Told P r) : Told P (reduced rows r) :=
  ⟨fun x => (reduced_lin (lin_xor (lin_has x) (lin_parN _)) (fun o ho => ⟨(h o ho).1, (h o ho).2.s x⟩) hr).trans (ht.s x),
   fun j => (reduced_lin (lin_xor (lin_bit j) (lin_parN _)) (fun o ho => ⟨(h o ho).1, (h o ho).2.v j⟩) hr).trans (ht.v j)⟩
theorem told_withRow (h : ∀ o ∈ rows, Wf m w n o ∧ Told P o) (hr : Wf m w n r) (ht : Told P r) : ∀ o ∈ withRow rows r, Told P o := fun o ho =>
  ⟨fun x => (withRow_lin (lin_xor (lin_has x) (lin_parN _)) (fun o ho => (h o ho).1) hr).mpr ⟨ht.s x, fun o ho => (h o ho).2.s x⟩ o ho,
   fun j => (withRow_lin (lin_xor (lin_bit j) (lin_parN _)) (fun o ho => (h o ho).1) hr).mpr ⟨ht.v j, fun o ho => (h o ho).2.v j⟩ o ho⟩
theorem told_row0 {p : Par} {k : Int} (h : P k = p) : Told P (row0 p k) := by
  subst h
  exact ⟨fun x => by simp [row0, par], fun j => by simp [row0, par]⟩
theorem wf_row0 {p : Par} {k : Int} (h : ParOk m w p) (hk : 0 ≤ k) : Wf m w (k + 1) (row0 p k) :=
  ⟨h.set, h.val, List.pairwise_singleton _ _, fun x hx => by rw [List.mem_singleton.mp hx]; omega⟩
end
structure RInv (m : Int) (w : Nat) (ps : List Par) (k : Nat) (rows : List Rw) : Prop where
  ech : Ech m w k rows
  told : ∀ o ∈ rows, Told (pAt ps) o
  fit : ∀ L, (∀ o ∈ rows, ∀ j, j < w → fitR L j o = false) ↔ (∀ i : Nat, i < k → ∀ j, j < w → fitP L j (pAt ps i) = false)
  len : rows.length ≤ k
structure Quarrel (w : Nat) (ps : List Par) (q : List Int) : Prop where
  set : SetOk ps.length q
  none : ∀ x, par (fun i => has (pAt ps i).1 x) q = false
  some : ∃ j, j < w ∧ par (fun i => bitAt (pAt ps i).2 j) q = true
  no : ∀ L, ¬ ∀ i : Nat, i < ps.length → ∀ j, j < w → fitP L j (pAt ps i) = false
section
variable {m : Int} {w : Nat} {ps : List Par} {k : Nat} {rows : List Rw} {p : Par}
theorem rinv_nil : RInv m w ps 0 [] := ⟨ech_nil, fun _ h => (List.not_mem_nil h).elim, fun L => ⟨fun _ i h => by omega, fun _ _ h => (List.not_mem_nil h).elim⟩, Nat.le_refl _⟩
theorem pAt_get (h : ps[k]? = some p) : pAt ps (k : Nat) = p := by
  unfold pAt
  rw [Int.toNat_natCast, List.getD_eq_getElem?_getD, h]
  rfl
theorem fit_row0 {L : Int → Nat → Bool} {j : Nat} : fitR L j (row0 p k) = fitP L j p := rfl
theorem red_step (I : RInv m w ps k rows) (h : ps[k]? = some p) (hp : ParOk m w p) :
    Wf m w (k + 1 : Nat) (reduced rows (row0 p k)) ∧ Told (pAt ps) (reduced rows (row0 p k)) ∧ (∀ o ∈ rows, hd o.1 ∉ (reduced rows (row0 p k)).1) ∧ Ech m w (k + 1 : Nat) rows ∧
    ∀ L j, (∀ o ∈ rows, fitR L j o = false) → fitR L j (reduced rows (row0 p k)) = fitP L j p := by
  have he : Ech m w (k + 1 : Nat) rows := ech_up I.ech (by omega)
  have h0 : Wf m w ((k + 1 : Nat) : Int) (row0 p k) := by
    have := wf_row0 (k := (k : Int)) hp (by omega)
    exact this
  refine ⟨reduced_wf he.wf h0, told_reduced (fun o ho => ⟨he.wf o ho, I.told o ho⟩) h0 (told_row0 (pAt_get h)), reduced_off he h0, he, fun L j hf => ?_⟩
  rw [reduced_lin (lin_fit j) (fun o ho => ⟨he.wf o ho, hf o ho⟩) h0]
  rfl
theorem lt_succ_all {Q : Nat → Prop} : (∀ i, i < k + 1 → Q i) ↔ ((∀ i, i < k → Q i) ∧ Q k) :=
  ⟨fun h => ⟨fun i hi => h i (by omega), h k (by omega)⟩, fun h i hi => by
    by_cases e : i = k
    · subst e; exact h.2
    · exact h.1 i (by omega)⟩
theorem rinv_new (I : RInv m w ps k rows) (h : ps[k]? = some p) (hp : ParOk m w p) (hn : (reduced rows (row0 p k)).1 ≠ []) : RInv m w ps (k + 1) (withRow rows (reduced rows (row0 p k))) := by
  obtain ⟨h1, h2, h3, h4, h5⟩ := red_step I h hp
  refine ⟨ech_withRow h4 h1 hn h3, told_withRow (fun o ho => ⟨h4.wf o ho, I.told o ho⟩) h1 h2, fun L => ?_, by rw [withRow_len]; have := I.len; omega⟩
  have e : ∀ j, (∀ o ∈ withRow rows (reduced rows (row0 p k)), fitR L j o = false) ↔ (fitP L j p = false ∧ ∀ o ∈ rows, fitR L j o = false) := fun j => by
    rw [withRow_lin (lin_fit j) h4.wf h1]
    constructor
    · rintro ⟨a, b⟩
      exact ⟨by rw [← h5 L j b]; exact a, b⟩
    · rintro ⟨a, b⟩
      exact ⟨by rw [h5 L j b]; exact a, b⟩
  rw [lt_succ_all, ← I.fit L, pAt_get h]
  constructor
  · intro q
    exact ⟨fun o ho j hj => ((e j).mp fun o ho => q o ho j hj).2 o ho, fun j hj => ((e j).mp fun o ho => q o ho j hj).1⟩
  · rintro ⟨a, b⟩ o ho j hj
    exact (e j).mpr ⟨b j hj, fun o ho => a o ho j hj⟩ o ho
theorem rinv_known (I : RInv m w ps k rows) (h : ps[k]? = some p) (hp : ParOk m w p) (hn : (reduced rows (row0 p k)).1 = []) (hv : (reduced rows (row0 p k)).2.1 = nought w) : RInv m w ps (k + 1) rows := by
  obtain ⟨h1, h2, h3, h4, h5⟩ := red_step I h hp
  refine ⟨h4, I.told, fun L => ?_, by have := I.len; omega⟩
  rw [lt_succ_all, ← I.fit L, pAt_get h]
  refine ⟨fun q => ⟨q, fun j hj => ?_⟩, fun q => q.1⟩
  rw [← h5 L j fun o ho => q o ho j hj]
  unfold fitR
  rw [hn, hv, bit_nought]
  rfl
theorem not_nought {v : List Int} (h : Val w v) (hn : v ≠ nought w) : ∃ j, j < w ∧ bitAt v j = true := by
  refine Decidable.byContradiction fun q => hn (val_ext h (val_nought w) fun j hj => ?_)
  rw [bit_nought]
  cases e : bitAt v j with
  | false => rfl
  | true => exact (q ⟨j, hj, e⟩).elim
theorem quarrel_here (I : RInv m w ps k rows) (h : ps[k]? = some p) (hp : ParOk m w p) (hn : (reduced rows (row0 p k)).1 = []) (hv : (reduced rows (row0 p k)).2.1 ≠ nought w) : Quarrel w ps (reduced rows (row0 p k)).2.2 := by
  obtain ⟨h1, h2, h3, h4, h5⟩ := red_step I h hp
  have hk : k < ps.length := (List.getElem?_eq_some_iff.mp h).1
  obtain ⟨j, hj, hb⟩ := not_nought h1.val hv
  refine ⟨setOk_up h1.num (by omega), fun x => ?_, ⟨j, hj, ?_⟩, fun L q => ?_⟩
  · have := h2.s x
    rw [hn] at this
    simpa [has] using this
  · have := h2.v j
    rw [hb] at this
    simpa using this
  · have f : ∀ o ∈ rows, ∀ j, j < w → fitR L j o = false := (I.fit L).mpr fun i hi => q i (by omega)
    have := h5 L j fun o ho => f o ho j hj
    have q2 := q k hk j hj
    rw [pAt_get h] at q2
    rw [q2] at this
    unfold fitR at this
    rw [hn, hb] at this
    cases this
theorem rowsFrom_spec : ∀ (rest : List Par) {k : Nat} {rows : List Rw}, (∀ p ∈ ps, ParOk m w p) → rest = ps.drop k → k ≤ ps.length → RInv m w ps k rows →
    (∀ q, (rowsFrom k rows rest).2 = some q → Quarrel w ps q) ∧ ((rowsFrom k rows rest).2 = none → RInv m w ps ps.length (rowsFrom k rows rest).1)
  | [], k, rows, hp, hr, hk, I => by
    have e : k = ps.length := by
      have := congrArg List.length hr
      rw [List.length_drop] at this
      have : (0 : Nat) = ps.length - k := this
      omega
    subst e
    exact ⟨fun q h => (by cases h), fun _ => I⟩
  | p :: rest, k, rows, hp, hr, hk, I => by
    have hg : ps[k]? = some p := by
      have := congrArg (fun l => l[0]?) hr
      simp at this
      exact this.symm
    have hkl : k < ps.length := (List.getElem?_eq_some_iff.mp hg).1
    have hd' : rest = ps.drop (k + 1) := by
      have := congrArg List.tail hr
      simpa using this
    have pk := hp p (List.mem_of_getElem? hg)
    have pl := pk.val.1
    unfold rowsFrom
    have cast : ((k : Int) + 1) = ((k + 1 : Nat) : Int) := by omega
    rw [cast]
    split
    · rename_i hn
      exact rowsFrom_spec rest hp hd' hkl (rinv_new I hg pk hn)
    · rename_i hn
      have hn : (reduced rows (row0 p k)).1 = [] := Decidable.byContradiction hn
      rw [pl]
      split
      · rename_i hv
        exact ⟨fun q h => by
          have := Option.some.inj h
          subst this
          exact quarrel_here I hg pk hn hv, fun h => (by cases h)⟩
      · rename_i hv
        exact rowsFrom_spec rest hp hd' hkl (rinv_known I hg pk hn (Decidable.byContradiction hv))
end
/-- what rows_of tells -/
theorem rowsOf_spec {m : Int} {w : Nat} {ps : List Par} (hp : ∀ p ∈ ps, ParOk m w p) : (∀ q, (rowsOf ps).2 = some q → Quarrel w ps q) ∧ ((rowsOf ps).2 = none → RInv m w ps ps.length (rowsOf ps).1) :=
  rowsFrom_spec (k := 0) ps hp rfl (Nat.zero_le _) rinv_nil
/-! ### the load -/
def putRow (ld : List (List Int)) (o : Rw) : List (List Int) := ld.set (hd o.1).toNat o.2.1
def loadFit (m w : Nat) (rows : List Rw) : List (List Int) := rows.foldl putRow (List.replicate m (nought w))
section
variable {m : Int} {w : Nat} {n : Int} {rows : List Rw}
theorem putRow_len : ∀ (rows : List Rw) (ld : List (List Int)), (rows.foldl putRow ld).length = ld.length
  | [], _ => rfl
  | o :: rows, ld => by
    rw [List.foldl_cons, putRow_len rows]
    unfold putRow
    rw [List.length_set]
theorem loadFit_len {k : Nat} : (loadFit k w rows).length = k := by unfold loadFit; rw [putRow_len, List.length_replicate]
theorem putRow_val : ∀ (rows : List Rw) (ld : List (List Int)), (∀ v ∈ ld, Val w v) → (∀ o ∈ rows, Val w o.2.1) → ∀ v ∈ rows.foldl putRow ld, Val w v
  | [], _, h, _ => h
  | o :: rows, ld, h, hr => putRow_val rows _ (fun v hv => by
      rcases List.mem_or_eq_of_mem_set hv with q | q
      · exact h v q
      · rw [q]; exact hr o List.mem_cons_self) fun o ho => hr o (List.mem_cons_of_mem _ ho)
theorem loadFit_val {k : Nat} (h : ∀ o ∈ rows, Val w o.2.1) : ∀ v ∈ loadFit k w rows, Val w v := putRow_val rows _ (fun v hv => by rw [(List.mem_replicate.mp hv).2]; exact val_nought w) h
theorem putRow_other {x : Nat} : ∀ (rows : List Rw) (ld : List (List Int)), (∀ o ∈ rows, (hd o.1).toNat ≠ x) → (rows.foldl putRow ld)[x]? = ld[x]?
  | [], _, _ => rfl
  | o :: rows, ld, h => by
    rw [List.foldl_cons, putRow_other rows _ fun o ho => h o (List.mem_cons_of_mem _ ho)]
    unfold putRow
    rw [List.getElem?_set_ne (h o List.mem_cons_self)]
theorem putRow_hit : ∀ (rows : List Rw) (ld : List (List Int)), Ech m w n rows → ld.length = m.toNat → ∀ o ∈ rows, (rows.foldl putRow ld)[(hd o.1).toNat]? = some o.2.1
  | [], _, _, _, o, ho => (List.not_mem_nil ho).elim
  | p :: rows, ld, h, hl, o, ho => by
    obtain ⟨h1, h2⟩ := List.pairwise_cons.mp h.off
    have he : Ech m w n rows := ⟨fun q hq => h.wf q (List.mem_cons_of_mem _ hq), fun q hq => h.ne q (List.mem_cons_of_mem _ hq), h2⟩
    have bd : ∀ q ∈ p :: rows, 0 ≤ hd q.1 ∧ hd q.1 < m := fun q hq => (h.wf q hq).set.2 _ (hd_mem (h.ne q hq))
    rw [List.foldl_cons]
    rcases List.mem_cons.mp ho with e | ho
    · subst e
      have b0 := bd o List.mem_cons_self
      rw [putRow_other rows _ fun q hq e => by
        have b1 := bd q (List.mem_cons_of_mem _ hq)
        have : hd q.1 = hd o.1 := by omega
        exact (h1 q hq).1 (this ▸ hd_mem (he.ne q hq))]
      unfold putRow
      exact List.getElem?_set_self (by omega)
    · refine putRow_hit rows _ he ?_ o ho
      unfold putRow
      rw [List.length_set, hl]
def bitsOf (ld : List (List Int)) (x : Int) (j : Nat) : Bool := bitAt (ld.getD x.toNat []) j
theorem loadFit_fit (h : Ech m w n rows) {j : Nat} : ∀ o ∈ rows, fitR (bitsOf (loadFit m.toNat w rows)) j o = false := by
  intro o ho
  have hw := h.wf o ho
  have e1 : ∀ x ∈ o.1, bitsOf (loadFit m.toNat w rows) x j = (decide (x = hd o.1) && bitAt o.2.1 j) := by
    intro x hx
    have bx := hw.set.2 x hx
    unfold bitsOf
    rw [List.getD_eq_getElem?_getD]
    by_cases q : x = hd o.1
    · subst q
      have := putRow_hit rows (List.replicate m.toNat (nought w)) h List.length_replicate o ho
      unfold loadFit
      rw [this]
      simp
    · have : (loadFit m.toNat w rows)[x.toNat]? = some (nought w) := by
        unfold loadFit
        rw [putRow_other rows _ fun p hp e => by
          have b1 := (h.wf p hp).set.2 _ (hd_mem (h.ne p hp))
          have e : hd p.1 = x := by omega
          by_cases pq : p = o
          · subst pq; exact q e.symm
          · have off : hd p.1 ∉ o.1 := by
              obtain ⟨i, hi, rfl⟩ := List.mem_iff_getElem.mp hp
              obtain ⟨l, hl, rfl⟩ := List.mem_iff_getElem.mp ho
              have off := List.pairwise_iff_getElem.mp h.off
              by_cases c : i < l
              · exact (off i l hi hl c).1
              · by_cases c2 : l < i
                · exact (off l i hl hi c2).2
                · have : i = l := by omega
                  subst this
                  exact (pq rfl).elim
            exact off (e ▸ hx)]
        rw [List.getElem?_replicate, if_pos (by omega)]
      rw [this]
      simp [q, bit_nought]
  unfold fitR
  rw [par_congr e1]
  cases q : bitAt o.2.1 j with
  | false => rw [par_false fun x _ => by simp]; rfl
  | true =>
    have : par (fun x => decide (x = hd o.1) && true) o.1 = true := by
      have := par_eq (ris_nodup hw.set.1) (hd o.1)
      rw [show has o.1 (hd o.1) = true from decide_eq_true (hd_mem (h.ne o ho))] at this
      exact (par_congr fun x _ => by simp).trans this
    rw [this]
    rfl
end
end GM
namespace GM
/-! ### the laws' own helpers for parcels -/
def lodd (ls : List (List Int)) (m : Nat) : List Int := ((List.range m).filter fun (k : Nat) => decide ((ls.map fun one => b01 (decide ((k : Int) ∈ one))).sum % 2 = 1)).map fun (k : Nat) => (k : Int)
theorem lodd_set (ls : List (List Int)) (m : Nat) : SetOk m (lodd ls m) := by
  unfold lodd
  refine ⟨List.pairwise_map.mpr ((List.pairwise_lt_range.sublist List.filter_sublist).imp fun h => by omega), fun x hx => ?_⟩
  obtain ⟨k, hk, rfl⟩ := List.mem_map.mp hx
  have := List.mem_range.mp (List.mem_filter.mp hk).1
  omega
theorem odd_par (ls : List (List Int)) (x : Int) : decide ((ls.map fun one => b01 (decide (x ∈ one))).sum % 2 = 1) = par (fun one => has one x) ls := by
  rw [sum_par (f := fun one : List Int => b01 (decide (x ∈ one))) fun a _ => by cases decide (x ∈ a) <;> simp [b01]]
  rw [par_congr (f := fun a : List Int => decide (b01 (decide (x ∈ a)) = 1)) (g := fun one => has one x) fun a _ => by unfold has; cases decide (x ∈ a) <;> rfl]
  cases par (fun one => has one x) ls <;> rfl
theorem has_lodd {ls : List (List Int)} {m : Nat} {x : Int} (h : 0 ≤ x ∧ x < m) : has (lodd ls m) x = par (fun one => has one x) ls := by
  rw [← odd_par]
  unfold lodd has
  refine decide_eq_decide.mpr ?_
  rw [List.mem_map]
  constructor
  · rintro ⟨k, hk, rfl⟩
    exact of_decide_eq_true (List.mem_filter.mp hk).2
  · intro q
    refine ⟨x.toNat, List.mem_filter.mpr ⟨List.mem_range.mpr (by omega), ?_⟩, by omega⟩
    rw [show ((x.toNat : Nat) : Int) = x by omega]
    exact decide_eq_true q
/-- what an odd number of sets holds is the set l -/
theorem lodd_is {ls : List (List Int)} {m : Nat} {l : List Int} (hl : SetOk m l) (h : ∀ x, 0 ≤ x ∧ x < (m : Int) → par (fun one => has one x) ls = has l x) : lodd ls m = l := by
  refine setOk_ext (lodd_set ls m) hl fun x => ?_
  by_cases b : 0 ≤ x ∧ x < (m : Int)
  · rw [has_lodd b, h x b]
  · have n : ∀ {l : List Int}, SetOk m l → has l x = false := fun hl => decide_eq_false fun q => b (hl.2 x q)
    rw [n (lodd_set ls m), n hl]
def turned (v : List Int) (c : Int) : List Int := v.take (mix c 10133 v.length).toNat ++ [1 - v.getD (mix c 10133 v.length).toNat 0] ++ v.drop ((mix c 10133 v.length).toNat + 1)
theorem val_turned {w : Nat} {v : List Int} {c : Int} (h : Val w v) (hw : 1 ≤ w) : Val w (turned v c) := by
  have b := mix_lt (c := c) (p := 10133) (m := v.length) (by have := h.1; omega)
  unfold turned
  refine ⟨?_, fun x hx => ?_⟩
  · have := h.1
    simp only [List.length_append, List.length_take, List.length_drop, List.length_cons, List.length_nil]
    omega
  · rcases List.mem_append.mp hx with hx | hx
    · rcases List.mem_append.mp hx with hx | hx
      · exact h.2 x (List.mem_of_mem_take hx)
      · have := val_bd h (mix c 10133 v.length).toNat
        rw [List.mem_singleton.mp hx]
        omega
    · exact h.2 x (List.mem_of_mem_drop hx)
def some3 (c : Int) (bf : List Par) : List Par := [10141, 10151, 10159].map fun (pr : Int) => pAt bf (mix c pr bf.length)
def parcelOf (c : Int) (w : Nat) (ld : List (List Int)) (bf : List Par) : Par :=
  if 4 < mix c 10139 8 ∧ bf ≠ [] then (lodd ((some3 c bf).map fun p => p.1) ld.length, if mix c 10139 8 = 7 then turned (lsum ((some3 c bf).map fun p => p.2) w) c else lsum ((some3 c bf).map fun p => p.2) w)
  else if mix c 10139 8 = 0 then (lset c ld.length, bits (c + 7) w)
  else if mix c 10139 8 = 1 then ([], [lsum [] w, bits c w].getD (mix c 10163 2).toNat [])
  else (lset c ld.length, lsum ((lset c ld.length).map fun p => ld.getD p.toNat []) w)
theorem parcelOf_ok {c : Int} {w : Nat} {ld : List (List Int)} {bf : List Par} (hw : 1 ≤ w) (hl : 1 ≤ ld.length) : ParOk ld.length w (parcelOf c w ld bf) := by
  have b := mix_lt (c := c) (p := 10163) (m := 2) (by decide)
  have hs : SetOk ld.length (lset c ld.length) := setOk_iff.mpr (lset_set (by omega))
  unfold parcelOf
  split
  · refine ⟨lodd_set _ _, ?_⟩
    dsimp only
    split
    · exact val_turned (val_lsum _ _) hw
    · exact val_lsum _ _
  · split
    · exact ⟨hs, val_bits _ _⟩
    · split
      · refine ⟨setOk_nil, ?_⟩
        have : (mix c 10163 2).toNat = 0 ∨ (mix c 10163 2).toNat = 1 := by omega
        rcases this with e | e <;> rw [e]
        · exact val_lsum _ _
        · exact val_bits _ _
      · exact ⟨hs, val_lsum _ _⟩
theorem pAt_in {ps : List Par} {i : Int} (h : 0 ≤ i ∧ i < ps.length) : ps[i.toNat]? = some (pAt ps i) := by
  unfold pAt
  rw [List.getD_eq_getElem?_getD, List.getElem?_eq_getElem (by omega : i.toNat < ps.length)]
  rfl
theorem pAt_mem {ps : List Par} {i : Int} (h : 0 ≤ i ∧ i < ps.length) : pAt ps i ∈ ps := List.mem_of_getElem? (pAt_in h)
/-- a load fits, told as the laws tell it -/
theorem fits_sum {m : Int} {w : Nat} {ld : List (List Int)} {p : Par} (hp : ParOk m w p) (hm : ld.length = m.toNat) (hv : ∀ v ∈ ld, Val w v) (h : ∀ j, j < w → fitP (bitsOf ld) j p = false) : lsum (p.1.map fun x => ld.getD x.toNat []) w = p.2 := by
  refine val_ext (val_lsum _ _) hp.val fun j hj => ?_
  rw [bit_lsum (fun v hv' => ?_) hj, par_map]
  · have := h j hj
    unfold fitP bitsOf at this
    revert this
    cases par (fun x : Int => bitAt (ld.getD x.toNat []) j) p.1 <;> cases bitAt p.2 j <;> simp
  · obtain ⟨x, hx, rfl⟩ := List.mem_map.mp hv'
    have b := hp.set.2 x hx
    rw [List.getD_eq_getElem?_getD, List.getElem?_eq_getElem (by omega : x.toNat < ld.length)]
    exact hv _ (List.getElem_mem _)
theorem sum_fits {w : Nat} {ld : List (List Int)} {p : Par} (hv : ∀ x ∈ p.1, Val w (ld.getD x.toNat [])) (h : lsum (p.1.map fun x => ld.getD x.toNat []) w = p.2) {j : Nat} (hj : j < w) : fitP (bitsOf ld) j p = false := by
  unfold fitP bitsOf
  rw [← h, bit_lsum (fun v hv' => by obtain ⟨x, hx, rfl⟩ := List.mem_map.mp hv'; exact hv x hx) hj, par_map]
  exact Bool.xor_self _
/-- a quarrel's values' sum isn't nought -/
theorem quarrel_one {w : Nat} {ps : List Par} {q : List Int} (h : Quarrel w ps q) (hv : ∀ p ∈ ps, Val w p.2) : (1 : Int) ∈ lsum (q.map fun i => (pAt ps i).2) w := by
  obtain ⟨j, hj, hb⟩ := h.some
  have e := bit_lsum (vs := q.map fun i => (pAt ps i).2) (w := w) (k := j) (fun v hv' => by
    obtain ⟨i, hi, rfl⟩ := List.mem_map.mp hv'
    exact hv _ (pAt_mem (h.set.2 i hi))) hj
  rw [par_map, hb] at e
  unfold bitAt at e
  have e := of_decide_eq_true e
  rw [List.getD_eq_getElem?_getD, List.getElem?_eq_getElem (by rw [lsum_len]; exact hj)] at e
  have e : (lsum (q.map fun i => (pAt ps i).2) w)[j]'(by rw [lsum_len]; exact hj) = 1 := e
  rw [← e]
  exact List.getElem_mem _
theorem quarrel_none {w : Nat} {ps : List Par} {q : List Int} (h : Quarrel w ps q) {m : Nat} : lodd (q.map fun i => (pAt ps i).1) m = [] := by
  refine lodd_is setOk_nil fun x _ => ?_
  rw [par_map, h.none x]
  rfl
end GM
namespace GM
theorem load_good {m : Int} {w : Nat} {ps : List Par} {rows : List Rw} (hp : ∀ p ∈ ps, ParOk m w p) (I : RInv m w ps ps.length rows) : ∀ p ∈ ps, lsum (p.1.map fun x => (loadFit m.toNat w rows).getD x.toNat []) w = p.2 := by
  intro p hm
  obtain ⟨i, hi, rfl⟩ := List.mem_iff_getElem.mp hm
  refine fits_sum (hp _ hm) loadFit_len (loadFit_val fun o ho => (I.ech.wf o ho).val) fun j hj => ?_
  have := (I.fit (bitsOf (loadFit m.toNat w rows))).mp (fun o ho j _ => loadFit_fit I.ech o ho) i hi j hj
  rwa [pAt_get (List.getElem?_eq_getElem hi)] at this
theorem load_ok {m : Int} {w : Nat} {n : Int} {rows : List Rw} (h : Ech m w n rows) : ∀ v ∈ loadFit m.toNat w rows, Val w v := loadFit_val fun o ho => (h.wf o ho).val
end GM
namespace GM
/-! ### suspects -/
def lessOne {α : Type} (ps : List α) (k : Nat) : List α := ps.take k ++ ps.drop (k + 1)
theorem lessOne_mem {α : Type} {ps : List α} {k : Nat} {x : α} (h : x ∈ lessOne ps k) : x ∈ ps := by
  rcases List.mem_append.mp h with h | h
  · exact List.mem_of_mem_take h
  · exact List.mem_of_mem_drop h
theorem lessOne_len {α : Type} {ps : List α} {k : Nat} (h : k < ps.length) : (lessOne ps k).length = ps.length - 1 := by
  unfold lessOne
  rw [List.length_append, List.length_take, List.length_drop]
  omega
def suspectsOf (ps : List Par) : List Int := if (rowsOf ps).2.isNone then [] else ((List.range ps.length).filter fun k => (rowsOf (lessOne ps k)).2.isNone).map fun (k : Nat) => (k : Int)
end GM
namespace GM
/-! ### k12 -/
def k12Step (tr : Bool) (w : Nat) (ld : List (List Int)) (ps : List Par) (c : Int) : List Par :=
  ps ++ [((parcelOf c w ld ps).1, if tr then lsum ((parcelOf c w ld ps).1.map fun x => ld.getD x.toNat []) w else (parcelOf c w ld ps).2)]
def k12Raw (tr : Bool) (w : Nat) (ld : List (List Int)) (cs : List Int) : List Par := cs.foldl (k12Step tr w ld) []
def k12Tr (ns : List Int) : Bool := decide (mix (cellAt ns 2) 10313 3 = 0)
def k12At (ns : List Int) (l : Nat) : Int := mix (cellAt ns 1) 10321 (l + 1)
def turnAt (ns : List Int) (ps : List Par) (i : Int) : List Par := ps.set i.toNat ((pAt ps i).1, turned (pAt ps i).2 (cellAt ns 0))
def k12Ps (ns : List Int) (tr : Bool) (ps : List Par) : List Par := if tr = true ∧ k12At ns ps.length < ps.length then turnAt ns ps (k12At ns ps.length) else ps
def ByLoad (w : Nat) (ld : List (List Int)) (p : Par) : Prop := lsum (p.1.map fun x => ld.getD x.toNat []) w = p.2
section
variable {tr : Bool} {w : Nat} {ld : List (List Int)}
theorem k12Step_ok {ps : List Par} {c : Int} (hw : 1 ≤ w) (hl : 1 ≤ ld.length) (h : ∀ p ∈ ps, ParOk ld.length w p ∧ (tr = true → ByLoad w ld p)) : ∀ p ∈ k12Step tr w ld ps c, ParOk ld.length w p ∧ (tr = true → ByLoad w ld p) := by
  intro p hp
  have ok := parcelOf_ok (c := c) (w := w) (ld := ld) (bf := ps) hw hl
  unfold k12Step at hp
  rcases List.mem_append.mp hp with hp | hp
  · exact h p hp
  · rw [List.mem_singleton.mp hp]
    refine ⟨⟨ok.set, ?_⟩, fun e => ?_⟩
    · dsimp only
      split
      · exact val_lsum _ _
      · exact ok.val
    · unfold ByLoad
      dsimp only
      rw [if_pos e]
theorem k12Step_len {ps : List Par} {c : Int} : (k12Step tr w ld ps c).length = ps.length + 1 := by
  unfold k12Step
  rw [List.length_append]
  rfl
theorem k12Raw_go (hw : 1 ≤ w) (hl : 1 ≤ ld.length) : ∀ (cs : List Int) (ps : List Par), (∀ p ∈ ps, ParOk ld.length w p ∧ (tr = true → ByLoad w ld p)) → (∀ p ∈ cs.foldl (k12Step tr w ld) ps, ParOk ld.length w p ∧ (tr = true → ByLoad w ld p)) ∧ (cs.foldl (k12Step tr w ld) ps).length = ps.length + cs.length
  | [], ps, h => ⟨h, rfl⟩
  | c :: cs, ps, h => by
    obtain ⟨h1, h2⟩ := k12Raw_go hw hl cs (k12Step tr w ld ps c) (k12Step_ok hw hl h)
    refine ⟨h1, ?_⟩
    rw [List.foldl_cons, h2, k12Step_len, List.length_cons]
    omega
theorem lessOne_set {α : Type} (ps : List α) (k : Nat) (a : α) : lessOne (ps.set k a) k = lessOne ps k := by
  unfold lessOne
  rw [List.take_set_of_le (Nat.le_refl _), List.drop_set_of_lt (Nat.lt_succ_self _)]
/-- where all are by the load none quarrel -/
theorem byLoad_none {m : Int} {ps : List Par} (hp : ∀ p ∈ ps, ParOk m w p) (hm : (ld.length : Int) = m) (hv : ∀ v ∈ ld, Val w v) (h : ∀ p ∈ ps, ByLoad w ld p) : (rowsOf ps).2 = none := by
  cases q : (rowsOf ps).2 with
  | none => rfl
  | some q' =>
    refine ((rowsOf_spec hp).1 q' q).no (bitsOf ld) (fun i hi j hj => ?_) |>.elim
    have hm' := pAt_mem (ps := ps) (i := i) ⟨by omega, by omega⟩
    refine sum_fits (fun x hx => ?_) (h _ hm') hj
    have b := (hp _ hm').set.2 x hx
    rw [List.getD_eq_getElem?_getD, List.getElem?_eq_getElem (by omega : x.toNat < ld.length)]
    exact hv _ (List.getElem_mem _)
end
/-- all that the law knows of its parcels -/
theorem k12Ps_ok {w : Nat} {ld : List (List Int)} {cs : List Int} {ns : List Int} (hw : 1 ≤ w) (hl : 1 ≤ ld.length) :
    (∀ p ∈ k12Ps ns (k12Tr ns) (k12Raw (k12Tr ns) w ld cs), ParOk ld.length w p) ∧ (k12Ps ns (k12Tr ns) (k12Raw (k12Tr ns) w ld cs)).length = cs.length := by
  obtain ⟨h1, h2⟩ := k12Raw_go (tr := k12Tr ns) hw hl cs [] fun _ h => (List.not_mem_nil h).elim
  have h1 : ∀ p ∈ k12Raw (k12Tr ns) w ld cs, ParOk ld.length w p := fun p hp => (h1 p hp).1
  have h2 : (k12Raw (k12Tr ns) w ld cs).length = cs.length := by have := h2; rw [List.length_nil, Nat.zero_add] at this; exact this
  generalize k12Raw (k12Tr ns) w ld cs = ps at *
  unfold k12Ps
  split
  · rename_i h
    have b : 0 ≤ k12At ns ps.length := (mix_lt (by omega)).1
    have ok := h1 _ (pAt_mem ⟨b, h.2⟩)
    unfold turnAt
    refine ⟨fun p hp => ?_, by rw [List.length_set, h2]⟩
    rcases List.mem_or_eq_of_mem_set hp with q | q
    · exact h1 p q
    · rw [q]
      exact ⟨ok.set, val_turned ok.val hw⟩
  · exact ⟨h1, h2⟩
theorem k12_last {w : Nat} {ld : List (List Int)} {cs : List Int} {ns : List Int} (hw : 1 ≤ w) (hl : 1 ≤ ld.length) (hv : ∀ v ∈ ld, Val w v) (ht : k12Tr ns = true)
    (hq : (rowsOf (k12Ps ns (k12Tr ns) (k12Raw (k12Tr ns) w ld cs))).2.isNone = false) : k12At ns cs.length ∈ suspectsOf (k12Ps ns (k12Tr ns) (k12Raw (k12Tr ns) w ld cs)) := by
  obtain ⟨o1, o2⟩ := k12Ps_ok (w := w) (ld := ld) (cs := cs) (ns := ns) hw hl
  obtain ⟨h1, h2⟩ := k12Raw_go (tr := k12Tr ns) hw hl cs [] fun _ h => (List.not_mem_nil h).elim
  have h1 : ∀ p ∈ k12Raw (k12Tr ns) w ld cs, ParOk ld.length w p ∧ (k12Tr ns = true → ByLoad w ld p) := h1
  have h2 : (k12Raw (k12Tr ns) w ld cs).length = cs.length := by have := h2; rw [List.length_nil, Nat.zero_add] at this; exact this
  generalize k12Raw (k12Tr ns) w ld cs = ps at *
  have b := mix_lt (c := cellAt ns 1) (p := 10321) (m := (ps.length : Int) + 1) (by omega)
  have b : 0 ≤ k12At ns ps.length ∧ k12At ns ps.length < ps.length + 1 := b
  rw [← h2]
  by_cases c : k12At ns ps.length < ps.length
  · have ek : ((k12At ns ps.length).toNat : Int) = k12At ns ps.length := Int.toNat_of_nonneg b.1
    have less : lessOne (k12Ps ns (k12Tr ns) ps) (k12At ns ps.length).toNat = lessOne ps (k12At ns ps.length).toNat := by
      unfold k12Ps
      rw [if_pos ⟨ht, c⟩]
      exact lessOne_set _ _ _
    unfold suspectsOf
    rw [hq]
    refine List.mem_map.mpr ⟨(k12At ns ps.length).toNat, List.mem_filter.mpr ⟨List.mem_range.mpr (by omega), ?_⟩, ek⟩
    rw [less, byLoad_none (m := ld.length) (fun p hp => (h1 p (lessOne_mem hp)).1) rfl hv fun p hp => (h1 p (lessOne_mem hp)).2 ht]
    rfl
  · exfalso
    have e : k12Ps ns (k12Tr ns) ps = ps := by
      unfold k12Ps
      rw [if_neg fun h => c h.2]
    rw [e, byLoad_none (m := ld.length) (fun p hp => (h1 p hp).1) rfl hv fun p hp => (h1 p hp).2 ht] at hq
    cases hq
end GM

set_option Elab.async false
set_option linter.all false
set_option maxRecDepth 100000
set_option maxHeartbeats 4000000
/-! GY: list(range(n)), rows and parcels as data -/
namespace GM
def upI (n : Nat) : List Int := (List.range n).map fun (k : Nat) => (k : Int)
theorem upI_mem {n : Nat} {x : Int} : x ∈ upI n ↔ 0 ≤ x ∧ x < n := by
  unfold upI
  rw [List.mem_map]
  constructor
  · rintro ⟨k, hk, rfl⟩
    have := List.mem_range.mp hk
    omega
  · rintro ⟨h1, h2⟩
    exact ⟨x.toNat, List.mem_range.mpr (by omega), by omega⟩
theorem upI_ris (n : Nat) : Rise (upI n) := List.pairwise_map.mpr (List.pairwise_lt_range.imp fun h => by omega)
end GM
namespace GL
open PySem PySem.Spec L2
section
variable {X : Cx} {B0 H0 : Hp} {δ : List (Option A)} {e : Expr} {p1 p2 p3 pos : Pos}
theorem n_listRg {n : Int} (h : Pe X B0 H0 δ e (.d (.int n))) (hn : 0 ≤ n ∧ n ≤ 1000) (hc : X.calm = true) (hm : X.mg "list" = none) (hm2 : X.mg "range" = none) (hg : Gl X "list" := by rfl) (hg2 : Gl X "range" := by rfl)
    (na : starEach [e] X.env = (false, eval e X.env) :: starEach [] X.env := by rfl) (na2 : starEach [.Call (.Name "range" p2) [e] [] p3] X.env = (false, eval (.Call (.Name "range" p2) [e] [] p3) X.env) :: starEach [] X.env := by rfl) :
    Pn X B0 H0 δ (.Call (.Name "list" p1) [.Call (.Name "range" p2) [e] [] p3] [] pos) ((GM.upI n.toNat).map .int) :=
  pe_to (pe_listRg hc hg hm (prg_1 hg2 hm2 h na) na2) fun σ H Q ⟨B, E, S, k⟩ => ⟨B, E, S, fun v B' H' E1 r => ⟨n, ra_int r, RgOk.of_le (by decide) (by omega) (by decide) hn.1, fun q hq => by
    refine k q (rgV 0 n) B' _ (E1.tr (Ext.own E1.s hq)) (sub_free E1.h hq) (sub_free E1.s hq) upd_same ?_
    have e : rgV 0 n = (GM.upI n.toNat).map V.int := by
      unfold rgV GM.upI
      rw [List.map_map, Int.sub_zero]
      exact List.map_congr_left fun i _ => by show V.int (0 + (i : Int)) = V.int (i : Int); rw [Int.zero_add]
    rw [e]
    exact ints_dqs _⟩⟩
end
section
variable {X : Cx} {B0 H0 : Hp} {δ : List (Option A)} {e e2 : Expr} {xs : List PyData} {x : PyData} {p1 p2 p3 pos : Pos}
/-- own[i] = e, the index known -/
theorem ws_put {E : AE} {rest : List Stmt} {i j : Nat} {xn : Str} {n : Int} {spos : Pos} (hδ : δ[i]? = some (some (.o xs))) (he : Pe X B0 H0 δ e (.d x)) (hi : Pe X B0 H0 δ e2 (.d (.int n))) (hj : ixN xs.length n = some j) (hf : fixd δ = true) (hr : Ws X B0 H0 (δ.set i (some (.o (xs.set j x)))) rest E) (hN : X.N[i]? = some xn) (hv : Vis X.env.scope xn)
    (h1 : (xn == ("__debug__" : Str)) = false := by decide) (h2 : (xn == ("__classdict__" : Str)) = false := by decide)
    (ha : ∀ v, assign (.Subscript (.Name xn p1) e2 p2) X.env v = (do
      let ov ← holding [v] (eval (.Name xn p1) X.env)
      let iv ← holding [v, ov] (eval e2 X.env)
      standAt p2
      holding [v, ov, iv] (setItem ov iv v)
      release [v, ov, iv] []) := by intro _; rfl)
    (hs : swapsWithSole [.Subscript (.Name xn p1) e2 p2] e spos.line X.env = pure false := by rfl) (hw : swappedStores [.Subscript (.Name xn p1) e2 p2] e X.env = pure none := by rfl) (h3 : (assignEach [.Subscript (.Name xn p1) e2 p2] X.env).map (·.2) = [assign (.Subscript (.Name xn p1) e2 p2) X.env] := by rfl) :
    Ws X B0 H0 δ (.Assign [.Subscript (.Name xn p1) e2 p2] e spos :: rest) E :=
  ws_store hδ he hi hj hf hr hN hv (pg_sub (pe_var (i := i) hN hv h1 h2) hi set_list ha) hs hw h3
/-- x, y = a, b -/
theorem ws_par {E : AE} {rest : List Stmt} {i j : Nat} {n1 n2 : Str} {px py pt pt2 : Pos} {kt k2} {a1 a2 : A} (ha : Pa X B0 H0 δ [e, e2] [a1, a2]) (k1 : keep a1 = true) (k2' : keep a2 = true) (hr : Ws X B0 H0 ((δ.set i (some a1)).set j (some a2)) rest E) (hN : X.N.Nodup) (hi : X.N[i]? = some n1) (hj : X.N[j]? = some n2) (hij : i ≠ j) (hx : X.env.scope.names.lookup n1 = some .local) (hy : X.env.scope.names.lookup n2 = some .local) (hc : X.calm = true)
    (hw : swappedStores [.Tuple [.Name n1 px, .Name n2 py] kt pt] (.Tuple [e, e2] k2 pt2) X.env = pure (some [n1, n2])) (hs : swapsWithSole [.Tuple [.Name n1 px, .Name n2 py] kt pt] (.Tuple [e, e2] k2 pt2) pos.line X.env = pure false := by rfl) :
    Ws X B0 H0 δ (.Assign [.Tuple [.Name n1 px, .Name n2 py] kt pt] (.Tuple [e, e2] k2 pt2) pos :: rest) E := by
  refine ws_cons (W := fun B H δ' => B = B0 ∧ H = H0 ∧ δ' = (δ.set i (some a1)).set j (some a2)) (ps_par hc hN hi hj hij hx hy ha hw hs) (fun B H δ' ⟨h1, h2, h3⟩ => by rw [h1, h2, h3]; exact hr) fun D σ H B E0 S z => ⟨B, E0, S, fun vs B' H' E1 r => ?_⟩
  cases r with
  | cons d1 t =>
    cases t with
    | cons d2 t =>
      cases t
      exact ⟨_, _, rfl, z.nx _ _ _ _ B' H' ⟨rfl, rfl, rfl⟩ E1.b (E0.tr E1) (SD.set (SD.set (S.mono E1) d1 (keep_no k1)) d2 (keep_no k2'))⟩
/-- what is known of a slot is let go -/
theorem set_none_get {δ : List (Option A)} {i j : Nat} {a : A} (h : (δ.set i none)[j]? = some (some a)) : δ[j]? = some (some a) := by
  by_cases q : i = j
  · subst q
    by_cases hi : i < δ.length
    · rw [List.getElem?_set_self hi] at h; cases h
    · rw [List.getElem?_eq_none (by simpa using hi)] at h; cases h
  · rwa [List.getElem?_set_ne q] at h
theorem sd_forget {K : PySem.W.Frag} {H0 B H : Hp} {σ : L2.St} {δ : List (Option A)} (S : SD K H0 B H σ δ) (i : Nat) : SD K H0 B H σ (δ.set i none) :=
  ⟨S.s, by rw [List.length_set]; exact S.len, fun j a h => S.rel j a (set_none_get h), fun j k p xs ys h1 h2 => S.dis j k p xs ys (set_none_get h1) (set_none_get h2), fun j p xs h1 => S.fr j p xs (set_none_get h1)⟩
theorem ws_none {E : AE} {ss : List Stmt} (i : Nat) (h : Ws X B0 H0 (δ.set i none) ss E) : Ws X B0 H0 δ ss E :=
  pss_to h fun D σ H ⟨B, E0, S, z⟩ => ⟨B, E0, sd_forget S i, z⟩
/-- x, y, z = e, a list of three, plain names -/
theorem ws_thrL {E : AE} {rest : List Stmt} {i j l : Nat} {n1 n2 n3 : Str} {px py pz pt : Pos} {kt} {x y z : PyData} (he : Pe X B0 H0 δ e (.d (.list [x, y, z]))) (hr : Ws X B0 H0 (((δ.set i (some (.d x))).set j (some (.d y))).set l (some (.d z))) rest E) (hN : X.N.Nodup) (hi : X.N[i]? = some n1) (hj : X.N[j]? = some n2) (hl : X.N[l]? = some n3) (hx : Loc X.env.scope n1) (hy : Loc X.env.scope n2) (hz : Loc X.env.scope n3) (hc : X.calm = true)
    (hf : X.fn n1 = true ∨ X.env.scope.names.lookup n1 = some .local := by first | exact .inl rfl | exact .inr rfl | assumption) (hf2 : X.fn n2 = true ∨ X.env.scope.names.lookup n2 = some .local := by first | exact .inl rfl | exact .inr rfl | assumption) (hf3 : X.fn n3 = true ∨ X.env.scope.names.lookup n3 = some .local := by first | exact .inl rfl | exact .inr rfl | assumption)
    (s1 : (assignEach [.Name n1 px, .Name n2 py, .Name n3 pz] X.env).map (·.2) = assign (.Name n1 px) X.env :: (assignEach [.Name n2 py, .Name n3 pz] X.env).map (·.2) := by rfl) (s2 : (assignEach [.Name n2 py, .Name n3 pz] X.env).map (·.2) = assign (.Name n2 py) X.env :: (assignEach [.Name n3 pz] X.env).map (·.2) := by rfl) (s3 : (assignEach [.Name n3 pz] X.env).map (·.2) = assign (.Name n3 pz) X.env :: (assignEach [] X.env).map (·.2) := by rfl)
    (hn : (assignEach [.Name n1 px, .Name n2 py, .Name n3 pz] X.env).length = 3 := by rfl) (hst : (assignEach [.Name n1 px, .Name n2 py, .Name n3 pz] X.env).findIdx? (·.1) = none := by rfl)
    (hs : swapsWithSole [.Tuple [.Name n1 px, .Name n2 py, .Name n3 pz] kt pt] e pos.line X.env = pure false := by rfl) (hw : swappedStores [.Tuple [.Name n1 px, .Name n2 py, .Name n3 pz] kt pt] e X.env = pure none := by rfl) (h1 : (assignEach [.Tuple [.Name n1 px, .Name n2 py, .Name n3 pz] kt pt] X.env).map (·.2) = [assign (.Tuple [.Name n1 px, .Name n2 py, .Name n3 pz] kt pt) X.env] := by rfl) :
    Ws X B0 H0 δ (.Assign [.Tuple [.Name n1 px, .Name n2 py, .Name n3 pz] kt pt] e pos :: rest) E := by
  refine ws_cons (W := fun B H δ' => B = B0 ∧ H = H0 ∧ δ' = ((δ.set i (some (.d x))).set j (some (.d y))).set l (some (.d z))) (ps_asg he (pg_lst hc (pgs_cons (pg_name hN hi hx hf) (pgs_cons (pg_name hN hj hy hf2) (pgs_cons (pg_name hN hl hz hf3) pgs_nil s3) s2) s1) hn hst) hs hw h1) (fun B H δ' ⟨h1, h2, h3⟩ => by rw [h1, h2, h3]; exact hr) fun D σ H B E0 S q => ⟨B, E0, S, fun v B' H' E1 r => ?_⟩
  cases r with
  | @lst p vs _ hp hd =>
    cases hd with
    | @cons u _ _ _ d1 t =>
      cases t with
      | @cons u2 _ _ _ d2 t =>
        cases t with
        | @cons u3 _ _ _ d3 t =>
          cases t
          refine ⟨p, [u, u2, u3], rfl, .inl (.inl (E1.s _ _ hp)), rfl, u, [u2, u3], rfl, u2, [u3], rfl, u3, [], rfl, rfl, ?_⟩
          exact q.nx _ _ _ _ B' H' ⟨rfl, rfl, rfl⟩ E1.b (E0.tr E1) (SD.set (a := .d z) (SD.set (a := .d y) (SD.set (a := .d x) (S.mono E1) d1 (fun _ z => nomatch z)) d2 (fun _ z => nomatch z)) d3 (fun _ z => nomatch z))
/-- y = [..], the new list kept as one's own -/
theorem ws_lcO {E : AE} {rest : List Stmt} {st : Stmt} {i : Nat} (h : PS X st (tAsg (tPn X.K B0 H0 δ xs) (gName i))) (hr : Ws X B0 H0 (δ.set i (some (.o xs))) rest E) : Ws X B0 H0 δ (st :: rest) E :=
  ws_cons (W := fun B H δ' => B = B0 ∧ H = H0 ∧ δ' = δ.set i (some (.o xs))) h (fun B H δ' ⟨h1, h2, h3⟩ => by rw [h1, h2, h3]; exact hr) fun D σ H B E0 S z =>
    ⟨B, E0, S, fun p vs B' H' E1 hp hb hl hd => z.nx _ _ _ _ B' H' ⟨rfl, rfl, rfl⟩ E1.b (E0.tr E1) ((S.mono E1).setO ⟨p, vs, rfl, hb, hl, hd⟩ (fun j ys hj hy q => by
      obtain ⟨v, h1, q2, ws, rfl, _, h2, _⟩ := S.rel j _ hy
      rw [q] at h1
      cases h1
      rw [hp] at h2
      cases h2) (sub_free E0.h hp))⟩
end
instance (priority := 600) sl_map {α : Type} {a} {f : α → PyData} {zs : List α} [Ls a (zs.map f)] : SliceR a (fun l u => .d (.list ((cut zs l u).map f))) := ⟨fun X _ _ _ _ _ _ _ _ _ _ h h1 h2 => (n_slice h h1 h2 (fun B H v s r => ls_sl X.K B H v s r)).dat.is (by simp only [cutD, map_cut])⟩
instance (priority := 600) ad_map {α : Type} {a1 a2} {f : α → PyData} {xs ys : List α} [Ls a1 (xs.map f)] [Ls a2 (ys.map f)] : AddR a1 a2 (xs.length + ys.length ≤ 1000) (.d (.list ((xs ++ ys).map f))) := ⟨fun s _ _ _ _ _ _ _ h1 h2 => (n_cat h1 h2 (by rw [List.length_map, List.length_map]; exact s)).dat.is (by rw [List.map_append])⟩
theorem cut_two {α : Type} (zs : List α) (k : Nat) : cut zs none (some (k : Int)) ++ cut zs (some ((k : Int) + 1)) none = GM.lessOne zs k := by
  rw [cut_to (by omega), cut_from (by omega), Int.toNat_natCast, show ((k : Int) + 1).toNat = k + 1 by omega]
  rfl
theorem isN_op (q : Option (List Int)) : isN (match q with | none => PyData.none | some q => li q) = q.isNone := by cases q <;> rfl
theorem cut_mem {α : Type} {zs : List α} {l u : Option Int} {x : α} (h : x ∈ cut zs l u) : x ∈ zs := by
  unfold cut at h
  exact List.mem_of_mem_drop (List.mem_of_mem_take h)
theorem cut_len {α : Type} {zs : List α} {l u : Option Int} : (cut zs l u).length ≤ zs.length := by
  unfold cut
  rw [List.length_take, List.length_drop]
  omega
theorem cut_len2 {α : Type} {zs : List α} {i j : Int} (h : 0 ≤ i) (h2 : i ≤ j) : (cut zs (some i) (some j)).length ≤ (j - i).toNat := by
  unfold cut
  rw [six_nat h, six_nat (by omega), List.length_take, List.length_drop]
  omega
/-- a row, a parcel -/
abbrev rwD (r : GM.Rw) : PyData := .tuple [li r.1, ti r.2.1, li r.2.2]
abbrev prD (p : GM.Par) : PyData := .tuple [li p.1, ti p.2]
abbrev opL : Option (List Int) → PyData
  | none => .none
  | some q => li q
theorem ix_in {l : Nat} {i : Int} (h : 0 ≤ i ∧ i < l) : ixN l i = some i.toNat := by
  unfold ixN
  rw [if_pos h.1, if_pos h.2]
theorem hd_get {l : List Int} (h : l ≠ []) : (l.map PyData.int)[0]? = some (.int (GM.hd l)) := by
  cases l with
  | nil => exact absurd rfl h
  | cons x l => rfl
/-- the sizes that the laws keep to -/
structure Dims (m : Int) (w : Nat) (n : Int) : Prop where
  m : m ≤ 24
  w : w ≤ 32
  n : n ≤ 61
theorem wf_small {m : Int} {w : Nat} {n : Int} {r : GM.Rw} (D : Dims m w n) (h : GM.Wf m w n r) : r.1.length ≤ 100 ∧ r.2.1.length ≤ 100 ∧ r.2.2.length ≤ 100 := by
  have h1 := GM.setOk_len h.set
  have h2 := GM.setOk_len h.num
  have h3 := h.val.1
  have := D.m
  have := D.w
  have := D.n
  omega
theorem sh_pr (p : GM.Par) : Sh 2 (prD p) := sh_tuple (n := 1) fun d hd => by
  rcases List.mem_cons.mp hd with rfl | hd
  · exact sh_li _
  · rw [List.mem_singleton.mp hd]; exact sh_ti _
theorem sh_prs (ps : List GM.Par) : Sh 40 (.list (ps.map prD)) := Sh.up (sh_list (n := 2) fun d hd => by
  obtain ⟨p, _, rfl⟩ := List.mem_map.mp hd
  exact sh_pr p)
def fitD (m w : Int) (ps : List GM.Par) : PyData := match (GM.rowsOf ps).2 with
  | some _ => .none
  | none => .list ((GM.loadFit m.toNat w.toNat (GM.rowsOf ps).1).map ti)
end GL

set_option Elab.async false
set_option linter.all false
set_option maxRecDepth 100000
set_option maxHeartbeats 8000000
namespace K12
open PySem PySem.Spec L2 GL GM
local macro_rules | `(tactic| walk_at "s") => `(tactic| first | trivial | assumption | omega | decide | (simp only [List.length_map, List.length_append, List.length_range, List.length_cons, List.length_nil]; omega))
def topS (i : Nat) : Stmt := PySem.Challenge.pw_rainparcels_k12_suspects.main.body.getD i (.Pass ⟨0, 0, 0, 0⟩)
/-- built-in names that stand -/
structure Bi (mg : Str → Option Value) : Prop where
  b_sorted : mg "sorted" = none
  b_tuple : mg "tuple" = none
  b_zip : mg "zip" = none
  b_range : mg "range" = none
  b_len : mg "len" = none
  b_list : mg "list" = none
  b_isinstance : mg "isinstance" = none
  b_int : mg "int" = none
  b_bool : mg "bool" = none
  b_set : mg "set" = none
  b_sum : mg "sum" = none
abbrev Rel := Hp → Hp → List A → R → Prop
/-! ### odd_ones -/
abbrev s_odd_ones : Stmt := topS 1
theorem sc_odd_ones : FnScope ["one", "other", "place"] ["one", "other"] (defScope s_odd_ones) := ⟨rfl, rfl, rfl, by decide +kernel, rfl, by decide +kernel, by decide +kernel⟩
def rel_odd_ones : Rel := fun _ _ as r => ∃ xs ys : List Int, as = [.d (li xs), .d (li ys)] ∧ (xs.length ≤ 200 ∧ ys.length ≤ 200) ∧ r = .ret (.d (li (oddOnes xs ys)))
theorem ok_odd_ones {P : Program} {w : World} {K : PySem.W.Frag} {mg : Str → Option Value} {base : Heap} {f : Addr} {fd : FuncData} (F : Fun K "odd_ones" "odd_ones" s_odd_ones f fd) (T : Bi mg) : FnOk P w K mg base CX0 1 f fd ["one", "other"] (spG K rel_odd_ones) := by
  refine fn_ws F sc_odd_ones fun B H as r s h => ?_
  obtain ⟨xs, ys, rfl, ⟨hx, hy⟩, rfl⟩ := h
  refine ⟨⟨rfl, by simp [keep]⟩, _, rfl, fun cdv A outer s0 H0 E hr => ?_⟩
  have hx' := List.length_filter_le (fun z => !decide (z ∈ ys)) xs
  have hy' := List.length_filter_le (fun z => !decide (z ∈ xs)) ys
  refine ws_ret (n_sorted (pas_cons (q_add (n_lc (i := 2) (q_iter (p_var 0 rfl)) rfl (fun z hz s H C cl fp => (ts_one (t_cm (q_notIn (p_var 2 rfl) (p_var 1 rfl))))) (fun z hz hf s H C cl fp => (p_var 2 rfl)) (by walk_at "s") rfl sc_odd_ones.nd (by kernel_rfl) (fun _ _ _ _ _ => pg_name (i := 2) sc_odd_ones.nd rfl (.inl rfl))).dat (n_lc (i := 2) (q_iter (p_var 1 rfl)) rfl (fun z hz s H C cl fp => (ts_one (t_cm (q_notIn (p_var 2 rfl) (p_var 0 rfl))))) (fun z hz hf s H C cl fp => (p_var 2 rfl)) (by walk_at "s") rfl sc_odd_ones.nd (by kernel_rfl) (fun _ _ _ _ _ => pg_name (i := 2) sc_odd_ones.nd rfl (.inl rfl))).dat (by walk_at "s")) pas_nil) (srt_uniq (l := xs.filter (fun z => !decide (z ∈ ys)) ++ ys.filter (fun z => !decide (z ∈ xs)))) T.b_sorted).dat ⟨.rfl' s, rfl⟩
/-! ### added -/
abbrev s_added : Stmt := topS 2
theorem sc_added : FnScope ["one", "other", "bit", "more"] ["one", "other"] (defScope s_added) := ⟨rfl, rfl, rfl, by decide +kernel, rfl, by decide +kernel, by decide +kernel⟩
def rel_added : Rel := fun _ _ as r => ∃ xs ys : List Int, as = [.d (ti xs), .d (ti ys)] ∧ (xs.length ≤ 200 ∧ ys.length ≤ 200) ∧ r = .ret (.d (ti (addV xs ys)))
theorem ok_added {P : Program} {w : World} {K : PySem.W.Frag} {mg : Str → Option Value} {base : Heap} {f : Addr} {fd : FuncData} (F : Fun K "added" "added" s_added f fd) (T : Bi mg) : FnOk P w K mg base CX0 1 f fd ["one", "other"] (spG K rel_added) := by
  refine fn_ws F sc_added fun B H as r s h => ?_
  obtain ⟨xs, ys, rfl, ⟨hx, hy⟩, rfl⟩ := h
  refine ⟨⟨rfl, by simp [keep]⟩, _, rfl, fun cdv A outer s0 H0 E hr => ?_⟩
  have hl : (xs.zip ys).length ≤ 1000 := by rw [List.length_zip]; omega
  refine ws_ret (q_tup1 (n_lc2 (i := 2) (j := 3) (i_zip (p_var 0 rfl) (p_var 1 rfl) T.b_zip) (zip_ints xs ys) (by decide) (fun z hz s H C cl fp => (p_mod (q_add (p_var 2 rfl) (p_var 3 rfl) (by walk_at "s")) p_int (by decide))) hl rfl sc_added.nd (by kernel_rfl) (fun _ _ _ _ _ => pg_tup rfl (pgs_cons (pg_name (i := 2) sc_added.nd rfl (.inl rfl)) (pgs_cons (pg_name (i := 3) sc_added.nd rfl (.inl rfl)) pgs_nil)))).dat T.b_tuple) ⟨.rfl' s, ?_⟩
  rw [← add_zip]
  simp only [ti, List.map_map]
  rfl
/-! ### nought -/
abbrev s_nought : Stmt := topS 3
theorem sc_nought : FnScope ["wide"] ["wide"] (defScope s_nought) := ⟨rfl, rfl, rfl, by decide +kernel, rfl, by decide +kernel, by decide +kernel⟩
def rel_nought : Rel := fun _ _ as r => ∃ w : Int, as = [.d (.int w)] ∧ (1 ≤ w ∧ w ≤ 1000) ∧ r = .ret (.d (ti (nought w.toNat)))
theorem ok_nought {P : Program} {w : World} {K : PySem.W.Frag} {mg : Str → Option Value} {base : Heap} {f : Addr} {fd : FuncData} (F : Fun K "nought" "nought" s_nought f fd) (T : Bi mg) : FnOk P w K mg base CX0 1 f fd ["wide"] (spG K rel_nought) := by
  refine fn_ws F sc_nought fun B H as r s h => ?_
  obtain ⟨w, rfl, hw, rfl⟩ := h
  refine ⟨⟨rfl, by simp [keep]⟩, _, rfl, fun cdv A outer s0 H0 E hr => ?_⟩
  refine ws_ret (p_repT (q_tuple (pas_cons p_int pas_nil) (by walk_at "s")) (p_var 0 rfl) hw (by simp) (by decide)) ⟨.rfl' s, ?_⟩
  exact congrArg (fun l => GL.A.d (.tuple l)) (rep_ints w.toNat 0)
/-! ### joined -/
abbrev s_joined : Stmt := topS 5
theorem sc_joined : FnScope ["row", "other"] ["row", "other"] (defScope s_joined) := ⟨rfl, rfl, rfl, by decide +kernel, rfl, by decide +kernel, by decide +kernel⟩
def rel_joined : Rel := fun _ _ as r => ∃ a b : Rw, as = [.d (rwD a), .d (rwD b)] ∧ ((a.1.length ≤ 100 ∧ a.2.1.length ≤ 100 ∧ a.2.2.length ≤ 100) ∧ (b.1.length ≤ 100 ∧ b.2.1.length ≤ 100 ∧ b.2.2.length ≤ 100)) ∧ r = .ret (.d (rwD (joined a b)))
theorem ok_joined {P : Program} {w : World} {K : PySem.W.Frag} {mg : Str → Option Value} {base : Heap} {f : Addr} {fd : FuncData} (F : Fun K "joined" "joined" s_joined f fd) (T : Bi mg) (k_odd_ones : Kn P w K mg base "odd_ones" 1 rel_odd_ones) (k_added : Kn P w K mg base "added" 1 rel_added) : FnOk P w K mg base CX0 2 f fd ["row", "other"] (spG K rel_joined) := by
  refine fn_ws F sc_joined fun B H as r s h => ?_
  obtain ⟨a, b, rfl, ⟨⟨a1, a2, a3⟩, b1, b2, b3⟩, rfl⟩ := h
  refine ⟨⟨rfl, by simp [keep]⟩, _, rfl, fun cdv A outer s0 H0 E hr => ?_⟩
  refine ws_ret (q_tuple (pas_cons (p_call k_odd_ones (hr.mono (by decide)) (pas_cons (p_at (p_var 0 rfl) p_int (at_k 0 rfl)) (pas_cons (p_at (p_var 1 rfl) p_int (at_k 0 rfl)) pas_nil)) (fun _ _ _ _ => ⟨_, _, rfl, ⟨by omega, by omega⟩, rfl⟩)) (pas_cons (p_call k_added (hr.mono (by decide)) (pas_cons (p_at (p_var 0 rfl) p_int (at_k 1 rfl)) (pas_cons (p_at (p_var 1 rfl) p_int (at_k 1 rfl)) pas_nil)) (fun _ _ _ _ => ⟨_, _, rfl, ⟨by omega, by omega⟩, rfl⟩)) (pas_cons (p_call k_odd_ones (hr.mono (by decide)) (pas_cons (p_at (p_var 0 rfl) p_int (at_k 2 rfl)) (pas_cons (p_at (p_var 1 rfl) p_int (at_k 2 rfl)) pas_nil)) (fun _ _ _ _ => ⟨_, _, rfl, ⟨by omega, by omega⟩, rfl⟩)) pas_nil))) (by walk_at "s")) ⟨.rfl' s, rfl⟩
/-! ### reduced -/
abbrev s_reduced : Stmt := topS 6
theorem sc_reduced : FnScope ["rows", "row", "other"] ["rows", "row"] (defScope s_reduced) := ⟨rfl, rfl, rfl, by decide +kernel, rfl, by decide +kernel, by decide +kernel⟩
def rel_reduced : Rel := fun _ _ as r => ∃ (m : Int) (w : Nat) (n : Int) (rows : List Rw) (r0 : Rw), as = [.d (.list (rows.map rwD)), .d (rwD r0)] ∧ (Dims m w n ∧ Ech m w n rows ∧ Wf m w n r0) ∧ r = .ret (.d (rwD (reduced rows r0)))
theorem ok_reduced {P : Program} {w : World} {K : PySem.W.Frag} {mg : Str → Option Value} {base : Heap} {f : Addr} {fd : FuncData} (F : Fun K "reduced" "reduced" s_reduced f fd) (T : Bi mg) (k_joined : Kn P w K mg base "joined" 2 rel_joined) : FnOk P w K mg base CX0 3 f fd ["rows", "row"] (spG K rel_reduced) := by
  refine fn_ws F sc_reduced fun B H as r s h => ?_
  obtain ⟨m, w, n, rows, r0, rfl, ⟨D, he, h0⟩, rfl⟩ := h
  refine ⟨⟨rfl, by simp [keep]⟩, _, rfl, fun cdv A outer s0 H0 E hr => ?_⟩
  refine ws_for (i := 2) (fun k B' H' δ' => B = B' ∧ H = H' ∧ ∃ (acc : Rw) (o : Option GL.A), (Wf m w n acc ∧ reduced rows r0 = reduced (rows.drop k) acc) ∧ δ' = [some (.d (.list (rows.map rwD))), some (.d (rwD acc)), o]) (q_iter (p_var 0 rfl)) ?_ ?_ ?_ rfl sc_reduced.nd (.inl rfl) rfl PassesOwn.never
  · exact ⟨rfl, rfl, r0, none, ⟨h0, rfl⟩, rfl⟩
  · rintro k z _ _ _ hk ⟨rfl, rfl, acc, o, ⟨ha, hf⟩, rfl⟩
    obtain ⟨p, hp, hm, rfl⟩ := map_get hk
    have hpw := he.wf p hm
    have hd1 : rows.drop k = p :: rows.drop (k + 1) := by
      obtain ⟨h1, h2⟩ := List.getElem?_eq_some_iff.mp hp
      rw [List.drop_eq_getElem_cons h1, h2]
    have hs : reduced rows r0 = reduced (rows.drop (k + 1)) (redStep acc p) := by rw [hf, hd1]; rfl
    refine ws_ifJ (fun B' H' δ' => B = B' ∧ H = H' ∧ δ' = [some (.d (.list (rows.map rwD))), some (.d (rwD (redStep acc p))), some (.d (rwD p))]) (t_cm (q_in (p_at (p_at (p_var 2 rfl) p_int (at_k 0 rfl)) p_int (at_k 0 (hd_get (he.ne p hm)))) (p_at (p_var 1 rfl) p_int (at_k 0 rfl)))) (fun hc => ?_) (fun hc => ?_) ?_
    · have hc' : hd p.1 ∈ acc.1 := of_decide_eq_true hc
      refine ws_set (i := 1) rfl (p_call k_joined (hr.mono (by decide)) (pas_cons (p_var 1 rfl) (pas_cons (p_var 2 rfl) pas_nil)) (fun _ _ _ _ => ⟨_, _, rfl, ⟨wf_small D ha, wf_small D hpw⟩, rfl⟩)) rfl ?_ sc_reduced.nd (.inl rfl)
      refine ws_nil ⟨rfl, rfl, ?_⟩
      unfold redStep
      rw [if_pos hc']
      rfl
    · have hc' : ¬ hd p.1 ∈ acc.1 := of_decide_eq_false hc
      refine ws_nil ⟨rfl, rfl, ?_⟩
      unfold redStep
      rw [if_neg hc']
      rfl
    rintro _ _ _ ⟨rfl, rfl, rfl⟩
    exact ws_nil ⟨rfl, rfl, _, _, ⟨wf_red ha hpw, hs⟩, rfl⟩
  · rintro _ _ _ ⟨rfl, rfl, acc, o, ⟨ha, hf⟩, rfl⟩
    refine ws_ret (p_var 1 rfl) ⟨.rfl' s, ?_⟩
    rw [hf, List.length_map, List.drop_length]
    rfl
/-! ### with_row -/
abbrev s_with_row : Stmt := topS 7
theorem sc_with_row : FnScope ["rows", "row", "first", "found", "other"] ["rows", "row"] (defScope s_with_row) := ⟨rfl, rfl, rfl, by decide +kernel, rfl, by decide +kernel, by decide +kernel⟩
def rel_with_row : Rel := fun _ _ as r => ∃ (m : Int) (w : Nat) (n : Int) (rows : List Rw) (r0 : Rw), as = [.d (.list (rows.map rwD)), .d (rwD r0)] ∧ (Dims m w n ∧ (∀ o ∈ rows, Wf m w n o ∧ o.1 ≠ []) ∧ Wf m w n r0 ∧ r0.1 ≠ [] ∧ rows.length ≤ 100) ∧ r = .ret (.d (.list ((withRow rows r0).map rwD)))
theorem ok_with_row {P : Program} {w : World} {K : PySem.W.Frag} {mg : Str → Option Value} {base : Heap} {f : Addr} {fd : FuncData} (F : Fun K "with_row" "with_row" s_with_row f fd) (T : Bi mg) (k_joined : Kn P w K mg base "joined" 2 rel_joined) : FnOk P w K mg base CX0 3 f fd ["rows", "row"] (spG K rel_with_row) := by
  refine fn_ws F sc_with_row fun B H as r s h => ?_
  obtain ⟨m, w, n, rows, r0, rfl, ⟨D, he, h0, hn, hl⟩, rfl⟩ := h
  refine ⟨⟨rfl, by simp [keep]⟩, _, rfl, fun cdv A outer s0 H0 E hr => ?_⟩
  refine ws_set (i := 2) rfl (p_at (p_at (p_var 1 rfl) p_int (at_k 0 rfl)) p_int (at_k 0 (hd_get hn))) rfl ?_ sc_with_row.nd (.inl rfl)
  refine ws_own (i := 3) rfl (qn_list pas_nil (by decide)) ?_ sc_with_row.nd (.inl rfl)
  refine ws_for (i := 4) (fun k B' H' δ' => B = B' ∧ H = H' ∧ ∃ (o : Option GL.A), δ' = [some (.d (.list (rows.map rwD))), some (.d (rwD r0)), some (.d (.int (hd r0.1))), some (.o (((rows.take k).map (putStep r0)).map rwD)), o]) (q_iter (p_var 0 rfl)) ?_ ?_ ?_ rfl sc_with_row.nd (.inl rfl) rfl PassesOwn.never
  · exact ⟨rfl, rfl, none, rfl⟩
  · rintro k z _ _ _ hk ⟨rfl, rfl, o, rfl⟩
    obtain ⟨p, hp, hm, rfl⟩ := map_get hk
    have hpw := (he p hm).1
    have hlk : k < rows.length := (List.getElem?_eq_some_iff.mp hp).1
    refine ws_ifJ (fun B' H' δ' => B = B' ∧ H = H' ∧ δ' = [some (.d (.list (rows.map rwD))), some (.d (rwD r0)), some (.d (.int (hd r0.1))), some (.o (((rows.take k).map (putStep r0)).map rwD)), some (.d (rwD (putStep r0 p)))]) (t_cm (q_in (p_var 2 rfl) (p_at (p_var 4 rfl) p_int (at_k 0 rfl)))) (fun hc => ?_) (fun hc => ?_) ?_
    · have hc' : hd r0.1 ∈ p.1 := of_decide_eq_true hc
      refine ws_set (i := 4) rfl (p_call k_joined (hr.mono (by decide)) (pas_cons (p_var 4 rfl) (pas_cons (p_var 1 rfl) pas_nil)) (fun _ _ _ _ => ⟨_, _, rfl, ⟨wf_small D hpw, wf_small D h0⟩, rfl⟩)) rfl ?_ sc_with_row.nd (.inl rfl)
      refine ws_nil ⟨rfl, rfl, ?_⟩
      unfold putStep
      rw [if_pos hc']
      rfl
    · have hc' : ¬ hd r0.1 ∈ p.1 := of_decide_eq_false hc
      refine ws_nil ⟨rfl, rfl, ?_⟩
      unfold putStep
      rw [if_neg hc']
      rfl
    rintro _ _ _ ⟨rfl, rfl, rfl⟩
    refine ws_app (i := 3) rfl (p_var 4 rfl) (by rw [List.length_map, List.length_map, List.length_take]; omega) rfl ?_ rfl (.inl rfl)
    refine ws_nil ⟨rfl, rfl, some (.d (rwD (putStep r0 p))), ?_⟩
    rw [List.take_add_one, hp, List.map_append, List.map_append]
    rfl
  · rintro _ _ _ ⟨rfl, rfl, o, rfl⟩
    rw [List.length_map, List.take_length]
    refine ws_ret (q_add (p_var 3 rfl) (q_list (pas_cons (p_var 1 rfl) pas_nil) (by walk_at "s")) (by rw [List.length_map, List.length_map]; show _ + 1 ≤ _; omega)) ⟨.rfl' s, ?_⟩
    unfold withRow
    rw [List.map_append]
    rfl
/-! ### rows_of -/
abbrev s_rows_of : Stmt := topS 9
theorem sc_rows_of : FnScope ["parcels", "rows", "number", "places", "value", "row"] ["parcels"] (defScope s_rows_of) := ⟨rfl, rfl, rfl, by decide +kernel, rfl, by decide +kernel, by decide +kernel⟩
def PsOk (m : Int) (w : Nat) (ps : List Par) : Prop := m ≤ 24 ∧ 1 ≤ w ∧ w ≤ 32 ∧ ps.length ≤ 61 ∧ ∀ p ∈ ps, ParOk m w p
def rel_rows_of : Rel := fun _ _ as r => ∃ (m : Int) (w : Nat) (ps : List Par), as = [.d (.list (ps.map prD))] ∧ PsOk m w ps ∧ r = .ret (.d (.tuple [.list ((rowsOf ps).1.map rwD), opL (rowsOf ps).2]))
theorem ok_rows_of {P : Program} {w : World} {K : PySem.W.Frag} {mg : Str → Option Value} {base : Heap} {f : Addr} {fd : FuncData} (F : Fun K "rows_of" "rows_of" s_rows_of f fd) (T : Bi mg) (k_reduced : Kn P w K mg base "reduced" 3 rel_reduced) (k_with_row : Kn P w K mg base "with_row" 3 rel_with_row) (k_nought : Kn P w K mg base "nought" 1 rel_nought) : FnOk P w K mg base CX0 4 f fd ["parcels"] (spG K rel_rows_of) := by
  refine fn_ws F sc_rows_of fun B H as r s h => ?_
  obtain ⟨m, w, ps, rfl, ⟨hm, hw1, hw2, hl, hp⟩, rfl⟩ := h
  refine ⟨⟨rfl, by simp [keep]⟩, _, rfl, fun cdv A outer s0 H0 E hr => ?_⟩
  refine ws_set (i := 1) rfl (q_list pas_nil (by walk_at "s")) rfl ?_ sc_rows_of.nd (.inl rfl)
  refine ws_for (i := 2) (fun k B' H' δ' => B = B' ∧ H = H' ∧ ∃ (rows : List Rw) (o1 o2 o3 o4 : Option GL.A), (RInv m w ps k rows ∧ rowsOf ps = rowsFrom k rows (ps.drop k)) ∧ δ' = [some (.d (.list (ps.map prD))), some (.d (.list (rows.map rwD))), o1, o2, o3, o4]) (i_range (q_len (pas_cons (p_var 0 rfl) pas_nil) T.b_len) (by omega) (by omega) T.b_range) ?_ ?_ ?_ rfl sc_rows_of.nd (.inl rfl) rfl PassesOwn.never
  · exact ⟨rfl, rfl, [], none, none, none, none, ⟨rinv_nil, rfl⟩, rfl⟩
  · rintro k z _ _ _ hk ⟨rfl, rfl, rows, o1, o2, o3, o4, ⟨I, hf⟩, rfl⟩
    obtain ⟨hk2, rfl⟩ := upto_get hk
    have hk3 : k < ps.length := by omega
    have hg : ps[k]? = some ps[k] := List.getElem?_eq_getElem hk3
    generalize ps[k] = p at hg
    have pk := hp p (List.mem_of_getElem? hg)
    have hd1 : ps.drop k = p :: ps.drop (k + 1) := by
      obtain ⟨h1, h2⟩ := List.getElem?_eq_some_iff.mp hg
      rw [List.drop_eq_getElem_cons h1, h2]
    have D : Dims m w ((k + 1 : Nat) : Int) := ⟨hm, hw2, by omega⟩
    obtain ⟨r1, r2, r3, r4, r5⟩ := red_step I hg pk
    have h0 : Wf m w ((k + 1 : Nat) : Int) (row0 p k) := by
      have := wf_row0 (k := (k : Int)) pk (by omega)
      exact this
    rw [hd1] at hf
    unfold rowsFrom at hf
    refine ws_two (i := 3) (j := 4) (p_at (p_var 0 rfl) (p_var 2 rfl) (at_d (f := prD) (by omega) (by rw [Int.toNat_natCast]; exact hg))) ?_ sc_rows_of.nd rfl rfl (.inl rfl) (.inl rfl) rfl
    refine ws_set (i := 5) rfl (p_call k_reduced (hr.mono (by decide)) (pas_cons (p_var 1 rfl) (pas_cons (q_tuple (pas_cons (n_list1 (pas_cons (p_var 3 rfl) pas_nil) T.b_list).dat (pas_cons (q_tup1 (p_var 4 rfl) T.b_tuple) (pas_cons (q_list (pas_cons (p_var 2 rfl) pas_nil) (by walk_at "s")) pas_nil))) (by walk_at "s")) pas_nil)) (fun _ _ _ _ => ⟨_, _, _, _, (row0 p k), rfl, ⟨D, r4, h0⟩, rfl⟩)) rfl ?_ sc_rows_of.nd (.inl rfl)
    generalize hR : reduced rows (row0 p k) = R at *
    refine ws_if (t_cm (q_ne (p_at (p_var 5 rfl) p_int (at_k 0 rfl)) (q_list pas_nil (by walk_at "s")) (by walk_at "s") hr.units)) (fun hc => ?_) (fun hc => ?_)
    · have hn : R.1 ≠ [] := by simpa using hc
      rw [if_pos hn] at hf
      refine ws_set (i := 1) rfl (p_call k_with_row (hr.mono (by decide)) (pas_cons (p_var 1 rfl) (pas_cons (p_var 5 rfl) pas_nil)) (fun _ _ _ _ => ⟨_, _, _, _, _, rfl, ⟨D, fun o ho => ⟨r4.wf o ho, r4.ne o ho⟩, r1, hn, by have := I.len; omega⟩, rfl⟩)) rfl ?_ sc_rows_of.nd (.inl rfl)
      refine ws_nil (ws_nil ⟨rfl, rfl, _, _, _, _, _, ⟨?_, hf⟩, rfl⟩)
      have := rinv_new I hg pk (by rw [hR]; exact hn)
      rwa [hR] at this
    · have hn : R.1 = [] := by simpa using hc
      rw [if_neg (by simpa using hn)] at hf
      have hpl := pk.val.1
      refine ws_if (t_cm (q_ne (p_at (p_var 5 rfl) p_int (at_k 1 rfl)) (p_call k_nought (hr.mono (by decide)) (pas_cons (q_len (pas_cons (p_var 4 rfl) pas_nil) T.b_len) pas_nil) (fun _ _ _ _ => ⟨_, rfl, ⟨by omega, by omega⟩, rfl⟩)) (by walk_at "s") hr.units)) (fun hc => ?_) (fun hc => ?_)
      · have hv : R.2.1 ≠ nought p.2.length := by simpa using hc
        rw [if_pos hv] at hf
        refine ws_ret (q_tuple (pas_cons (p_var 1 rfl) (pas_cons (p_at (p_var 5 rfl) p_int (at_k 2 rfl)) pas_nil)) (by walk_at "s")) ⟨.rfl' s, ?_⟩
        rw [hf]
      · have hv : R.2.1 = nought p.2.length := by simpa using hc
        rw [if_neg (by simpa using hv)] at hf
        refine ws_nil (ws_nil (ws_nil ⟨rfl, rfl, _, _, _, _, _, ⟨?_, hf⟩, rfl⟩))
        exact rinv_known I hg pk (by rw [hR]; exact hn) (by rw [hR, hv, hpl])
  · rintro _ _ _ ⟨rfl, rfl, rows, o1, o2, o3, o4, ⟨I, hf⟩, rfl⟩
    have el : (upto ps.length).length = ps.length := by unfold upto; rw [List.length_map, List.length_range]
    refine ws_ret (q_tuple (pas_cons (p_var 1 rfl) (pas_cons p_non pas_nil)) (by walk_at "s")) ⟨.rfl' s, ?_⟩
    rw [hf, show ps.drop (upto (ps.length : Int).toNat).length = [] by rw [Int.toNat_natCast, el, List.drop_length]]
    rfl
/-! ### quarrel -/
abbrev s_quarrel : Stmt := topS 10
theorem sc_quarrel : FnScope ["parcels"] ["parcels"] (defScope s_quarrel) := ⟨rfl, rfl, rfl, by decide +kernel, rfl, by decide +kernel, by decide +kernel⟩
def rel_quarrel : Rel := fun _ _ as r => ∃ (m : Int) (w : Nat) (ps : List Par), as = [.d (.list (ps.map prD))] ∧ PsOk m w ps ∧ r = .ret (.d (opL (rowsOf ps).2))
theorem ok_quarrel {P : Program} {w : World} {K : PySem.W.Frag} {mg : Str → Option Value} {base : Heap} {f : Addr} {fd : FuncData} (F : Fun K "quarrel" "quarrel" s_quarrel f fd) (T : Bi mg) (k_rows_of : Kn P w K mg base "rows_of" 4 rel_rows_of) : FnOk P w K mg base CX0 5 f fd ["parcels"] (spG K rel_quarrel) := by
  refine fn_ws F sc_quarrel fun B H as r s h => ?_
  obtain ⟨m, w, ps, rfl, hp, rfl⟩ := h
  refine ⟨⟨rfl, by simp [keep]⟩, _, rfl, fun cdv A outer s0 H0 E hr => ?_⟩
  refine ws_ret (p_at (p_call k_rows_of (hr.mono (by decide)) (pas_cons (p_var 0 rfl) pas_nil) (fun _ _ _ _ => ⟨_, _, _, rfl, hp, rfl⟩)) p_int (at_k 1 rfl)) ⟨.rfl' s, rfl⟩
/-! ### fitting -/
abbrev s_fitting : Stmt := topS 11
theorem sc_fitting : FnScope ["parcels", "many", "wide", "rows", "found", "load", "row", "place"] ["parcels", "many", "wide"] (defScope s_fitting) := ⟨rfl, rfl, rfl, by decide +kernel, rfl, by decide +kernel, by decide +kernel⟩
def rel_fitting : Rel := fun _ _ as r => ∃ (m w : Int) (ps : List Par), as = [.d (.list (ps.map prD)), .d (.int m), .d (.int w)] ∧ (0 ≤ m ∧ PsOk m w.toNat ps) ∧ r = .ret (.d (fitD m w ps))
theorem ok_fitting {P : Program} {w : World} {K : PySem.W.Frag} {mg : Str → Option Value} {base : Heap} {f : Addr} {fd : FuncData} (F : Fun K "fitting" "fitting" s_fitting f fd) (T : Bi mg) (k_rows_of : Kn P w K mg base "rows_of" 4 rel_rows_of) (k_nought : Kn P w K mg base "nought" 1 rel_nought) : FnOk P w K mg base CX0 5 f fd ["parcels", "many", "wide"] (spG K rel_fitting) := by
  refine fn_ws F sc_fitting fun B H as r s h => ?_
  obtain ⟨m, w, ps, rfl, ⟨hm0, hp⟩, rfl⟩ := h
  refine ⟨⟨rfl, by simp [keep]⟩, _, rfl, fun cdv A outer s0 H0 E hr => ?_⟩
  have sp := (rowsOf_spec hp.2.2.2.2).2
  obtain ⟨hm, hw1, hw2, hl, hpp⟩ := id hp
  refine ws_two (i := 3) (j := 4) (p_call k_rows_of (hr.mono (by decide)) (pas_cons (p_var 0 rfl) pas_nil) (fun _ _ _ _ => ⟨_, _, _, rfl, hp, rfl⟩)) ?_ sc_fitting.nd rfl rfl (.inl rfl) (.inl rfl) rfl
  unfold fitD
  generalize rowsOf ps = R at *
  obtain ⟨rows, q⟩ := R
  cases q with
  | some q =>
    refine ws_if (t_cm (c_notN (p_var 4 rfl) p_non)) (fun hc => ?_) (fun hc => ?_)
    · refine ws_ret p_non ⟨.rfl' s, rfl⟩
    · cases hc
  | none =>
    have I := sp rfl
    refine ws_if (t_cm (c_notN (p_var 4 rfl) p_non)) (fun hc => ?_) (fun hc => ?_)
    · cases hc
    refine ws_nil ?_
    refine ws_lcO (i := 5) (s_lcAI (em := ti) (i := 7) (i_range (p_var 1 rfl) (by omega) (by omega) T.b_range) rfl (fun z hz s H C cl fp => (p_call k_nought (hr.mono (by decide)) (pas_cons (p_var 2 rfl) pas_nil) (fun _ _ _ _ => ⟨_, rfl, (by omega), rfl⟩))) (by rw [List.length_range]; omega) rfl sc_fitting.nd (by kernel_rfl) (fun _ _ _ _ _ => pg_name (i := 7) sc_fitting.nd rfl (.inl rfl)) rfl rfl (sw_true rfl rfl rfl (by kernel_rfl))) ?_
    refine ws_for (i := 6) (fun k B' H' δ' => B = B' ∧ H = H' ∧ ∃ (ld : List (List Int)) (o : Option GL.A), (ld = (rows.take k).foldl putRow (List.replicate m.toNat (nought w.toNat))) ∧ δ' = [some (.d (.list (ps.map prD))), some (.d (.int m)), some (.d (.int w)), some (.d (.list (rows.map rwD))), some (.d .none), some (.o (ld.map ti)), o, none]) (q_iter (p_var 3 rfl)) ?_ ?_ ?_ rfl sc_fitting.nd (.inl rfl) rfl PassesOwn.never
    · refine ⟨rfl, rfl, _, none, ?_, rfl⟩
      show List.map _ _ = List.replicate _ _
      rw [List.map_const', List.length_range]
    · rintro k z _ _ _ hk ⟨rfl, rfl, ld, o, hld, rfl⟩
      obtain ⟨p, hg, hm2, rfl⟩ := map_get hk
      have pw := I.ech.wf p hm2
      have pn := I.ech.ne p hm2
      have pb := pw.set.2 _ (hd_mem pn)
      have hll : ld.length = m.toNat := by rw [hld, putRow_len, List.length_replicate]
      refine ws_put (i := 5) rfl (p_at (p_var 6 rfl) p_int (at_k 1 rfl)) (p_at (p_at (p_var 6 rfl) p_int (at_k 0 rfl)) p_int (at_k 0 (hd_get pn))) (ix_in ⟨pb.1, by rw [List.length_map]; omega⟩) rfl ?_ rfl (.inl rfl)
      refine ws_nil ⟨rfl, rfl, putRow ld p, some (.d (rwD p)), ?_, ?_⟩
      · rw [List.take_add_one, hg, List.foldl_append, ← hld]
        rfl
      · unfold putRow
        rw [List.map_set]
        rfl
    rintro _ _ _ ⟨rfl, rfl, ld, o, hld, rfl⟩
    rw [List.length_map, List.take_length] at hld
    refine ws_let 5 rfl ?_
    refine ws_ret (p_var 5 rfl) ⟨.rfl' s, ?_⟩
    rw [hld]
    rfl
/-! ### suspects -/
abbrev s_suspects : Stmt := topS 12
theorem sc_suspects : FnScope ["parcels", "number"] ["parcels"] (defScope s_suspects) := ⟨rfl, rfl, rfl, by decide +kernel, rfl, by decide +kernel, by decide +kernel⟩
def rel_suspects : Rel := fun _ _ as r => ∃ (m : Int) (w : Nat) (ps : List Par), as = [.d (.list (ps.map prD))] ∧ PsOk m w ps ∧ r = .ret (.d (li (suspectsOf ps)))
theorem ok_suspects {P : Program} {w : World} {K : PySem.W.Frag} {mg : Str → Option Value} {base : Heap} {f : Addr} {fd : FuncData} (F : Fun K "suspects" "suspects" s_suspects f fd) (T : Bi mg) (k_quarrel : Kn P w K mg base "quarrel" 5 rel_quarrel) : FnOk P w K mg base CX0 6 f fd ["parcels"] (spG K rel_suspects) := by
  refine fn_ws F sc_suspects fun B H as r s h => ?_
  obtain ⟨m, w, ps, rfl, hp, rfl⟩ := h
  refine ⟨⟨rfl, by simp [keep]⟩, _, rfl, fun cdv A outer s0 H0 E hr => ?_⟩
  obtain ⟨hm, hw1, hw2, hl, hpp⟩ := id hp
  refine ws_if (t_cm (c_isN (p_call k_quarrel (hr.mono (by decide)) (pas_cons (p_var 0 rfl) pas_nil) (fun _ _ _ _ => ⟨_, _, _, rfl, hp, rfl⟩)) p_non)) (fun hc => ?_) (fun hc => ?_)
  · have e : (rowsOf ps).2.isNone = true := by
      cases q : (rowsOf ps).2 with
      | none => rfl
      | some _ => rw [q] at hc; cases hc
    refine ws_ret (q_list pas_nil (by walk_at "s")) ⟨.rfl' s, ?_⟩
    unfold suspectsOf
    rw [if_pos e]
  · have e : (rowsOf ps).2.isNone = false := by
      cases q : (rowsOf ps).2 with
      | none => rw [q] at hc; cases hc
      | some _ => rfl
    refine ws_nil ?_
    have ok : ∀ z : Nat, PsOk m w (cut ps none (some (z : Int)) ++ cut ps (some ((z : Int) + 1)) none) := fun z => by
      have l1 := cut_len (zs := ps) (l := none) (u := some (z : Int))
      by_cases hz : z < ps.length
      · rw [cut_two]
        exact ⟨hm, hw1, hw2, by rw [lessOne_len hz]; omega, fun p hp => hpp p (lessOne_mem hp)⟩
      · rw [cut_two]
        unfold lessOne
        rw [List.take_of_length_le (by omega), List.drop_of_length_le (by omega), List.append_nil]
        exact hp
    refine ws_ret (n_lcI (em := PyData.int) (i := 1) (i_range (q_len (pas_cons (p_var 0 rfl) pas_nil) T.b_len) (by omega) (by omega) T.b_range) rfl (fun z hz s H C cl fp => (ts_one (t_cm (c_isN (p_call k_quarrel (hr.mono (by decide)) (pas_cons (q_add (q_slice (p_var 0 rfl) o_none (o_some (p_var 1 rfl))) (q_slice (p_var 0 rfl) (o_some (q_add (p_var 1 rfl) p_int trivial)) o_none) (by
      have l1 := cut_len (zs := ps) (l := none) (u := some (z : Int))
      have l2 := cut_len (zs := ps) (l := some ((z : Int) + 1)) (u := none)
      omega)) pas_nil) (fun _ _ _ _ => ⟨_, _, _, rfl, (ok z), rfl⟩)) p_non)))) (fun z hz hf s H C cl fp => (p_var 1 rfl)) (by rw [List.length_range]; omega) rfl sc_suspects.nd (by kernel_rfl) (fun _ _ _ _ _ => pg_name (i := 1) sc_suspects.nd rfl (.inl rfl))).dat ⟨.rfl' s, ?_⟩
    unfold suspectsOf
    rw [e]
    have ef : (List.range (ps.length : Int).toNat).filter (fun z : Nat => isN (opL (rowsOf (cut ps none (some (z : Int)) ++ cut ps (some ((z : Int) + 1)) none)).2)) = (List.range ps.length).filter fun k => (rowsOf (lessOne ps k)).2.isNone := by
      rw [Int.toNat_natCast]
      refine List.filter_congr fun k _ => ?_
      rw [cut_two]
      exact isN_op _
    rw [ef]
    rfl
/-! ### _law_whole -/
abbrev s_l_whole : Stmt := topS 14
theorem sc_l_whole : FnScope ["_law_found"] ["_law_found"] (defScope s_l_whole) := ⟨rfl, rfl, rfl, by decide +kernel, rfl, by decide +kernel, by decide +kernel⟩
def rel_l_whole : Rel := fun _ _ as r => ∃ x : PyData, as = [.d x] ∧ r = .ret (.d (.bool (isK x "int" && !isK x "bool")))
theorem ok_l_whole {P : Program} {w : World} {K : PySem.W.Frag} {mg : Str → Option Value} {base : Heap} {f : Addr} {fd : FuncData} (F : Fun K "_law_whole" "_law_whole" s_l_whole f fd) (T : Bi mg) : FnOk P w K mg base CX0 1 f fd ["_law_found"] (spG K rel_l_whole) := by
  refine fn_ws F sc_l_whole fun B H as r s h => ?_
  obtain ⟨x, rfl, rfl⟩ := h
  refine ⟨⟨rfl, by simp [keep]⟩, _, rfl, fun cdv A outer s0 H0 E hr => ?_⟩
  refine ws_ret (p_and (q_isi (p_var 0 rfl) T.b_int PyProof.Rows.boot_int T.b_isinstance) (fun hb => (p_one (p_not (q_isi (p_var 0 rfl) T.b_bool PyProof.Rows.boot_bool T.b_isinstance))))) ⟨.rfl' s, rfl⟩
/-! ### _law_cell_at -/
abbrev s_l_cell_at : Stmt := topS 15
theorem sc_l_cell_at : FnScope ["_law_script", "_law_k"] ["_law_script", "_law_k"] (defScope s_l_cell_at) := ⟨rfl, rfl, rfl, by decide +kernel, rfl, by decide +kernel, by decide +kernel⟩
def rel_l_cell_at : Rel := fun _ _ as r => ∃ (ns : List Int) (k : Int), as = [.s ns, .d (.int k)] ∧ 0 ≤ k ∧ r = .ret (.d (.int (cellAt ns k)))
theorem ok_l_cell_at {P : Program} {w : World} {K : PySem.W.Frag} {mg : Str → Option Value} {base : Heap} {f : Addr} {fd : FuncData} (F : Fun K "_law_cell_at" "_law_cell_at" s_l_cell_at f fd) (T : Bi mg) : FnOk P w K mg base CX0 1 f fd ["_law_script", "_law_k"] (spG K rel_l_cell_at) := by
  refine fn_ws F sc_l_cell_at fun B H as r s h => ?_
  obtain ⟨ns, k, rfl, hk, rfl⟩ := h
  refine ⟨⟨rfl, by simp [keep]⟩, _, rfl, fun cdv A outer s0 H0 E hr => ?_⟩
  refine ws_if (t_cm (c_lt (p_var 1 rfl) (q_len (pas_cons (p_var 0 rfl) pas_nil) T.b_len))) (fun hc => ?_) (fun hc => ?_)
  · have hl : k < ns.length := by simpa using hc
    refine ws_ret (p_at (p_var 0 rfl) (p_var 1 rfl) (at_i ⟨hk, hl⟩)) ⟨.rfl' s, rfl⟩
  · have hl : ¬ k < ns.length := by simpa using hc
    refine ws_nil ?_
    refine ws_ret p_int ⟨.rfl' s, ?_⟩
    unfold cellAt
    rw [List.getD_eq_getElem?_getD, List.getElem?_eq_none (by omega)]
    rfl
/-! ### _law_mix -/
abbrev s_l_mix : Stmt := topS 16
theorem sc_l_mix : FnScope ["_law_cell", "_law_prime", "_law_many"] ["_law_cell", "_law_prime", "_law_many"] (defScope s_l_mix) := ⟨rfl, rfl, rfl, by decide +kernel, rfl, by decide +kernel, by decide +kernel⟩
def rel_l_mix : Rel := fun _ _ as r => ∃ c p m, as = [.d (.int c), .d (.int p), .d (.int m)] ∧ (0 < p ∧ 0 < m) ∧ r = .ret (.d (.int (mix c p m)))
theorem ok_l_mix {P : Program} {w : World} {K : PySem.W.Frag} {mg : Str → Option Value} {base : Heap} {f : Addr} {fd : FuncData} (F : Fun K "_law_mix" "_law_mix" s_l_mix f fd) (T : Bi mg) : FnOk P w K mg base CX0 1 f fd ["_law_cell", "_law_prime", "_law_many"] (spG K rel_l_mix) := by
  refine fn_ws F sc_l_mix fun B H as r s h => ?_
  obtain ⟨c, p, m, rfl, ⟨hp, hm⟩, rfl⟩ := h
  refine ⟨⟨rfl, by simp [keep]⟩, _, rfl, fun cdv A outer s0 H0 E hr => ?_⟩
  refine ws_ret (p_mod (p_mod (p_mul (p_var 0 rfl) p_int (.inr (by decide))) (p_var 1 rfl) (by walk_at "s")) (p_var 2 rfl) (by walk_at "s")) ⟨.rfl' s, rfl⟩
/-! ### _law_mixed -/
abbrev s_l_mixed : Stmt := topS 17
theorem sc_l_mixed : FnScope ["_law_cell", "_law_k", "_law_many", "_law_m"] ["_law_cell", "_law_k", "_law_many"] (defScope s_l_mixed) := ⟨rfl, rfl, rfl, by decide +kernel, rfl, by decide +kernel, by decide +kernel⟩
def rel_l_mixed : Rel := fun _ _ as r => ∃ c k m, as = [.d (.int c), .d (.int k), .d (.int m)] ∧ 0 < m ∧ r = .ret (.d (.int (mixed c k m)))
theorem ok_l_mixed {P : Program} {w : World} {K : PySem.W.Frag} {mg : Str → Option Value} {base : Heap} {f : Addr} {fd : FuncData} (F : Fun K "_law_mixed" "_law_mixed" s_l_mixed f fd) (T : Bi mg) : FnOk P w K mg base CX0 1 f fd ["_law_cell", "_law_k", "_law_many"] (spG K rel_l_mixed) := by
  refine fn_ws F sc_l_mixed fun B H as r s h => ?_
  obtain ⟨c, k, m, rfl, hm, rfl⟩ := h
  refine ⟨⟨rfl, by simp [keep]⟩, _, rfl, fun cdv A outer s0 H0 E hr => ?_⟩
  refine ws_set (i := 3) rfl (p_mod (p_mul (q_add (q_add (p_var 0 rfl) (p_mul p_int (p_var 1 rfl) (.inl (by decide))) (by walk_at "s")) p_int (by walk_at "s")) p_int (.inr (by decide))) p_int (by decide)) rfl ?_ sc_l_mixed.nd (.inl rfl)
  have b := Int.emod_lt_of_pos ((c + 7919 * k + 11) * 48271) (by decide : (0 : Int) < 2147483647)
  have b2 := Int.emod_nonneg ((c + 7919 * k + 11) * 48271) (by decide : (2147483647 : Int) ≠ 0)
  refine ws_ret (p_mod (p_fdiv (p_mod (p_mul (p_var 3 rfl) (p_var 3 rfl) (.inl ⟨by omega, by omega⟩)) p_int (by decide)) p_int ⟨by decide, by decide⟩) (p_var 2 rfl) (by walk_at "s")) ⟨.rfl' s, rfl⟩
/-! ### _law_bits -/
abbrev s_l_bits : Stmt := topS 18
theorem sc_l_bits : FnScope ["_law_cell", "_law_wide", "_law_k"] ["_law_cell", "_law_wide"] (defScope s_l_bits) := ⟨rfl, rfl, rfl, by decide +kernel, rfl, by decide +kernel, by decide +kernel⟩
def rel_l_bits : Rel := fun _ _ as r => ∃ (c w : Int), as = [.d (.int c), .d (.int w)] ∧ (0 ≤ w ∧ w ≤ 100) ∧ r = .ret (.d (ti (bits c w.toNat)))
theorem ok_l_bits {P : Program} {w : World} {K : PySem.W.Frag} {mg : Str → Option Value} {base : Heap} {f : Addr} {fd : FuncData} (F : Fun K "_law_bits" "_law_bits" s_l_bits f fd) (T : Bi mg) (k_l_mixed : Kn P w K mg base "_law_mixed" 1 rel_l_mixed) : FnOk P w K mg base CX0 2 f fd ["_law_cell", "_law_wide"] (spG K rel_l_bits) := by
  refine fn_ws F sc_l_bits fun B H as r s h => ?_
  obtain ⟨c, w, rfl, ⟨h1, h2⟩, rfl⟩ := h
  refine ⟨⟨rfl, by simp [keep]⟩, _, rfl, fun cdv A outer s0 H0 E hr => ?_⟩
  refine ws_ret (q_tup1 (n_lcAI (em := PyData.int) (i := 2) (i_range (p_var 1 rfl) (by omega) h1 T.b_range) rfl (fun z hz s H C cl fp => (p_call k_l_mixed (hr.mono (by decide)) (pas_cons (p_var 0 rfl) (pas_cons (p_var 2 rfl) (pas_cons p_int pas_nil))) (fun _ _ _ _ => ⟨_, _, _, rfl, (by decide), rfl⟩))) (by rw [List.length_range]; omega) rfl sc_l_bits.nd (by kernel_rfl) (fun _ _ _ _ _ => pg_name (i := 2) sc_l_bits.nd rfl (.inl rfl))).dat T.b_tuple) ⟨.rfl' s, rfl⟩
/-! ### _law_set -/
abbrev s_l_set : Stmt := topS 19
theorem sc_l_set : FnScope ["_law_cell", "_law_many", "_law_way", "_law_place"] ["_law_cell", "_law_many"] (defScope s_l_set) := ⟨rfl, rfl, rfl, by decide +kernel, rfl, by decide +kernel, by decide +kernel⟩
def rel_l_set : Rel := fun _ _ as r => ∃ (c m : Int), as = [.d (.int c), .d (.int m)] ∧ (0 < m ∧ m ≤ 100) ∧ r = .ret (.d (li (lset c m)))
theorem ok_l_set {P : Program} {w : World} {K : PySem.W.Frag} {mg : Str → Option Value} {base : Heap} {f : Addr} {fd : FuncData} (F : Fun K "_law_set" "_law_set" s_l_set f fd) (T : Bi mg) (k_l_mix : Kn P w K mg base "_law_mix" 1 rel_l_mix) (k_l_mixed : Kn P w K mg base "_law_mixed" 1 rel_l_mixed) : FnOk P w K mg base CX0 2 f fd ["_law_cell", "_law_many"] (spG K rel_l_set) := by
  refine fn_ws F sc_l_set fun B H as r s h => ?_
  obtain ⟨c, m, rfl, ⟨h1, h2⟩, rfl⟩ := h
  refine ⟨⟨rfl, by simp [keep]⟩, _, rfl, fun cdv A outer s0 H0 E hr => ?_⟩
  refine ws_set (i := 2) rfl (p_call k_l_mix (hr.mono (by decide)) (pas_cons (p_var 0 rfl) (pas_cons p_int (pas_cons p_int pas_nil))) (fun _ _ _ _ => ⟨_, _, _, rfl, ⟨by decide, by decide⟩, rfl⟩)) rfl ?_ sc_l_set.nd (.inl rfl)
  refine ws_if (t_cm (q_eq (p_var 2 rfl) p_int (by walk_at "s") hr.units)) (fun hc => ?_) (fun hc => ?_)
  · have e : mix c 10037 4 = 0 := by simpa using hc
    refine ws_ret (q_list (pas_cons (p_call k_l_mix (hr.mono (by decide)) (pas_cons (p_var 0 rfl) (pas_cons p_int (pas_cons (p_var 1 rfl) pas_nil))) (fun _ _ _ _ => ⟨_, _, _, rfl, ⟨by decide, by omega⟩, rfl⟩)) pas_nil) (by walk_at "s")) ⟨.rfl' s, ?_⟩
    unfold lset
    rw [if_pos e]
  · have e : ¬ mix c 10037 4 = 0 := by simpa using hc
    refine ws_nil ?_
    refine ws_if (t_cm (q_eq (p_var 2 rfl) p_int (by walk_at "s") hr.units)) (fun hc => ?_) (fun hc => ?_)
    · have e2 : mix c 10037 4 = 1 := by simpa using hc
      refine ws_ret (n_sortedSet (q_list (pas_cons (p_call k_l_mix (hr.mono (by decide)) (pas_cons (p_var 0 rfl) (pas_cons p_int (pas_cons (p_var 1 rfl) pas_nil))) (fun _ _ _ _ => ⟨_, _, _, rfl, ⟨by decide, by omega⟩, rfl⟩)) (pas_cons (p_call k_l_mix (hr.mono (by decide)) (pas_cons (p_var 0 rfl) (pas_cons p_int (pas_cons (p_var 1 rfl) pas_nil))) (fun _ _ _ _ => ⟨_, _, _, rfl, ⟨by decide, by omega⟩, rfl⟩)) pas_nil)) (by walk_at "s")) (by show 2 < 60; decide) (sset_uniq (l := [mix c 10067 m, mix c 10069 m])) rfl T.b_sorted T.b_set).dat ⟨.rfl' s, ?_⟩
      unfold lset
      rw [if_neg e, if_pos e2]
    · have e2 : ¬ mix c 10037 4 = 1 := by simpa using hc
      refine ws_nil ?_
      refine ws_ret (n_lcI (em := PyData.int) (i := 3) (i_range (p_var 1 rfl) (by omega) (by omega) T.b_range) rfl (fun z hz s H C cl fp => (ts_one (t_cm (q_eq (p_call k_l_mixed (hr.mono (by decide)) (pas_cons (p_var 0 rfl) (pas_cons (q_add p_int (p_var 3 rfl) (by walk_at "s")) (pas_cons p_int pas_nil))) (fun _ _ _ _ => ⟨_, _, _, rfl, (by decide), rfl⟩)) p_int (by walk_at "s") hr.units)))) (fun z hz hf s H C cl fp => (p_var 3 rfl)) (by rw [List.length_range]; omega) rfl sc_l_set.nd (by kernel_rfl) (fun _ _ _ _ _ => pg_name (i := 3) sc_l_set.nd rfl (.inl rfl))).dat ⟨.rfl' s, ?_⟩
      unfold lset
      rw [if_neg e, if_neg e2]
/-! ### _law_odd -/
abbrev s_l_odd : Stmt := topS 20
theorem sc_l_odd : FnScope ["_law_sets", "_law_many", "_law_place", "_law_one"] ["_law_sets", "_law_many"] (defScope s_l_odd) := ⟨rfl, rfl, rfl, by decide +kernel, rfl, by decide +kernel, by decide +kernel⟩
def rel_l_odd : Rel := fun _ _ as r => ∃ (ls : List (List Int)) (m : Int), as = [.d (.list (ls.map li)), .d (.int m)] ∧ (0 ≤ m ∧ m ≤ 100 ∧ ls.length ≤ 200) ∧ r = .ret (.d (li (lodd ls m.toNat)))
theorem ok_l_odd {P : Program} {w : World} {K : PySem.W.Frag} {mg : Str → Option Value} {base : Heap} {f : Addr} {fd : FuncData} (F : Fun K "_law_odd" "_law_odd" s_l_odd f fd) (T : Bi mg) : FnOk P w K mg base CX0 1 f fd ["_law_sets", "_law_many"] (spG K rel_l_odd) := by
  refine fn_ws F sc_l_odd fun B H as r s h => ?_
  obtain ⟨ls, m, rfl, ⟨h0, h1, h2⟩, rfl⟩ := h
  refine ⟨⟨rfl, by simp [keep]⟩, _, rfl, fun cdv A outer s0 H0 E hr => ?_⟩
  refine ws_ret (n_lcI (em := PyData.int) (i := 2) (i_range (p_var 1 rfl) (by omega) h0 T.b_range) rfl (fun z hz s H C cl fp => (ts_one (t_cm (q_eq (p_mod (p_sum (pas_cons (n_lcAI (em := PyData.int) (i := 3) (q_iter (p_var 0 rfl)) rfl (fun z hz s H C cl fp => (p_intB (pas_cons (p_cm (q_in (p_var 2 rfl) (p_var 3 rfl))) pas_nil) T.b_int)) (by omega) rfl sc_l_odd.nd (by kernel_rfl) (fun _ _ _ _ _ => pg_name (i := 3) sc_l_odd.nd rfl (.inl rfl))).dat pas_nil) rfl T.b_sum) p_int (by decide)) p_int (by walk_at "s") hr.units)))) (fun z hz hf s H C cl fp => (p_var 2 rfl)) (by rw [List.length_range]; omega) rfl sc_l_odd.nd (by kernel_rfl) (fun _ _ _ _ _ => pg_name (i := 2) sc_l_odd.nd rfl (.inr rfl))).dat ⟨.rfl' s, rfl⟩
/-! ### _law_sum -/
abbrev s_l_sum : Stmt := topS 21
theorem sc_l_sum : FnScope ["_law_values", "_law_wide", "_law_k", "_law_value_here"] ["_law_values", "_law_wide"] (defScope s_l_sum) := ⟨rfl, rfl, rfl, by decide +kernel, rfl, by decide +kernel, by decide +kernel⟩
def rel_l_sum : Rel := fun _ _ as r => ∃ (vs : List (List Int)) (w : Int), as = [.d (.list (vs.map ti)), .d (.int w)] ∧ (0 ≤ w ∧ w ≤ 100 ∧ vs.length ≤ 200 ∧ ∀ v ∈ vs, v.length = w.toNat) ∧ r = .ret (.d (ti (lsum vs w.toNat)))
theorem ok_l_sum {P : Program} {w : World} {K : PySem.W.Frag} {mg : Str → Option Value} {base : Heap} {f : Addr} {fd : FuncData} (F : Fun K "_law_sum" "_law_sum" s_l_sum f fd) (T : Bi mg) : FnOk P w K mg base CX0 1 f fd ["_law_values", "_law_wide"] (spG K rel_l_sum) := by
  refine fn_ws F sc_l_sum fun B H as r s h => ?_
  obtain ⟨vs, w, rfl, ⟨h1, h2, h3, h4⟩, rfl⟩ := h
  refine ⟨⟨rfl, by simp [keep]⟩, _, rfl, fun cdv A outer s0 H0 E hr => ?_⟩
  refine ws_ret (q_tup1 (n_lcAI (em := PyData.int) (i := 2) (i_range (p_var 1 rfl) (by omega) h1 T.b_range) rfl (fun z hz s H C cl fp => (p_mod (p_sum (pas_cons (n_lcAI (em := PyData.int) (i := 3) (q_iter (p_var 0 rfl)) rfl (fun z hz s H C cl fp => (p_at (p_var 3 rfl) (p_var 2 rfl) (at_i (by have := h4 _ hz; have := List.mem_range.mp (by assumption); omega)))) (by omega) rfl sc_l_sum.nd (by kernel_rfl) (fun _ _ _ _ _ => pg_name (i := 3) sc_l_sum.nd rfl (.inl rfl))).dat pas_nil) rfl T.b_sum) p_int (by decide))) (by rw [List.length_range]; omega) rfl sc_l_sum.nd (by kernel_rfl) (fun _ _ _ _ _ => pg_name (i := 2) sc_l_sum.nd rfl (.inr rfl))).dat T.b_tuple) ⟨.rfl' s, rfl⟩
/-! ### _law_sizes -/
abbrev s_l_sizes : Stmt := topS 22
theorem sc_l_sizes : FnScope ["_law_one", "_law_other", "_law_many", "_law_wide"] ["_law_one", "_law_other"] (defScope s_l_sizes) := ⟨rfl, rfl, rfl, by decide +kernel, rfl, by decide +kernel, by decide +kernel⟩
def rel_l_sizes : Rel := fun _ _ as r => ∃ (c d : Int), as = [.d (.int c), .d (.int d)] ∧ r = .ret (.d (.list [.int (sizeMany c), .int (sizeWide d)]))
theorem ok_l_sizes {P : Program} {w : World} {K : PySem.W.Frag} {mg : Str → Option Value} {base : Heap} {f : Addr} {fd : FuncData} (F : Fun K "_law_sizes" "_law_sizes" s_l_sizes f fd) (T : Bi mg) (k_l_mix : Kn P w K mg base "_law_mix" 1 rel_l_mix) : FnOk P w K mg base CX0 2 f fd ["_law_one", "_law_other"] (spG K rel_l_sizes) := by
  refine fn_ws F sc_l_sizes fun B H as r s h => ?_
  obtain ⟨c, d, rfl, rfl⟩ := h
  refine ⟨⟨rfl, by simp [keep]⟩, _, rfl, fun cdv A outer s0 H0 E hr => ?_⟩
  have h3 := mix_lt (c := c) (p := 10103) (m := 3) (by decide)
  have h4 := mix_lt (c := d) (p := 10111) (m := 2) (by decide)
  refine ws_set (a := .d ((.list ([1 + mix c 10079 7, 1 + mix c 10079 7, 1 + mix c 10091 24].map .int)))) (i := 2) rfl (q_list (pas_cons (q_add p_int (p_call k_l_mix (hr.mono (by decide)) (pas_cons (p_var 0 rfl) (pas_cons p_int (pas_cons p_int pas_nil))) (fun _ _ _ _ => ⟨_, _, _, rfl, ⟨by decide, by decide⟩, rfl⟩)) (by walk_at "s")) (pas_cons (q_add p_int (p_call k_l_mix (hr.mono (by decide)) (pas_cons (p_var 0 rfl) (pas_cons p_int (pas_cons p_int pas_nil))) (fun _ _ _ _ => ⟨_, _, _, rfl, ⟨by decide, by decide⟩, rfl⟩)) (by walk_at "s")) (pas_cons (q_add p_int (p_call k_l_mix (hr.mono (by decide)) (pas_cons (p_var 0 rfl) (pas_cons p_int (pas_cons p_int pas_nil))) (fun _ _ _ _ => ⟨_, _, _, rfl, ⟨by decide, by decide⟩, rfl⟩)) (by walk_at "s")) pas_nil))) (by walk_at "s")) rfl ?_ sc_l_sizes.nd (.inl rfl)
  refine ws_set (a := .d ((.list ([1 + mix d 10093 4, 1 + mix d 10099 32].map .int)))) (i := 3) rfl (q_list (pas_cons (q_add p_int (p_call k_l_mix (hr.mono (by decide)) (pas_cons (p_var 1 rfl) (pas_cons p_int (pas_cons p_int pas_nil))) (fun _ _ _ _ => ⟨_, _, _, rfl, ⟨by decide, by decide⟩, rfl⟩)) (by walk_at "s")) (pas_cons (q_add p_int (p_call k_l_mix (hr.mono (by decide)) (pas_cons (p_var 1 rfl) (pas_cons p_int (pas_cons p_int pas_nil))) (fun _ _ _ _ => ⟨_, _, _, rfl, ⟨by decide, by decide⟩, rfl⟩)) (by walk_at "s")) pas_nil)) (by walk_at "s")) rfl ?_ sc_l_sizes.nd (.inl rfl)
  refine ws_ret (q_list (pas_cons (p_at (p_var 2 rfl) (p_call k_l_mix (hr.mono (by decide)) (pas_cons (p_var 0 rfl) (pas_cons p_int (pas_cons p_int pas_nil))) (fun _ _ _ _ => ⟨_, _, _, rfl, ⟨by decide, by decide⟩, rfl⟩)) (at_i ⟨h3.1, by show _ < (3 : Int); exact h3.2⟩)) (pas_cons (p_at (p_var 3 rfl) (p_call k_l_mix (hr.mono (by decide)) (pas_cons (p_var 1 rfl) (pas_cons p_int (pas_cons p_int pas_nil))) (fun _ _ _ _ => ⟨_, _, _, rfl, ⟨by decide, by decide⟩, rfl⟩)) (at_i ⟨h4.1, by show _ < (2 : Int); exact h4.2⟩)) pas_nil)) (by walk_at "s")) ⟨.rfl' s, rfl⟩
/-! ### _law_load -/
abbrev s_l_load : Stmt := topS 23
theorem sc_l_load : FnScope ["_law_cell", "_law_many", "_law_wide", "_law_place"] ["_law_cell", "_law_many", "_law_wide"] (defScope s_l_load) := ⟨rfl, rfl, rfl, by decide +kernel, rfl, by decide +kernel, by decide +kernel⟩
def rel_l_load : Rel := fun _ _ as r => ∃ (c m w : Int), as = [.d (.int c), .d (.int m), .d (.int w)] ∧ (0 ≤ m ∧ m ≤ 100 ∧ 0 ≤ w ∧ w ≤ 100) ∧ r = .ret (.d (.list ((loadOf c m.toNat w.toNat).map ti)))
theorem ok_l_load {P : Program} {w : World} {K : PySem.W.Frag} {mg : Str → Option Value} {base : Heap} {f : Addr} {fd : FuncData} (F : Fun K "_law_load" "_law_load" s_l_load f fd) (T : Bi mg) (k_l_bits : Kn P w K mg base "_law_bits" 2 rel_l_bits) : FnOk P w K mg base CX0 3 f fd ["_law_cell", "_law_many", "_law_wide"] (spG K rel_l_load) := by
  refine fn_ws F sc_l_load fun B H as r s h => ?_
  obtain ⟨c, m, w, rfl, ⟨h0, h1, h2, h3⟩, rfl⟩ := h
  refine ⟨⟨rfl, by simp [keep]⟩, _, rfl, fun cdv A outer s0 H0 E hr => ?_⟩
  refine ws_ret (n_lcAI (em := ti) (i := 3) (i_range (p_var 1 rfl) (by omega) h0 T.b_range) rfl (fun z hz s H C cl fp => (p_call k_l_bits (hr.mono (by decide)) (pas_cons (q_add (p_var 0 rfl) (p_mul p_int (p_var 3 rfl) (.inl (by decide))) (by walk_at "s")) (pas_cons (p_var 2 rfl) pas_nil)) (fun _ _ _ _ => ⟨_, _, rfl, ⟨h2, h3⟩, rfl⟩))) (by rw [List.length_range]; omega) rfl sc_l_load.nd (by kernel_rfl) (fun _ _ _ _ _ => pg_name (i := 3) sc_l_load.nd rfl (.inl rfl))).dat ⟨.rfl' s, rfl⟩
/-! ### _law_turned -/
abbrev s_l_turned : Stmt := topS 24
theorem sc_l_turned : FnScope ["_law_value_here", "_law_cell", "_law_at"] ["_law_value_here", "_law_cell"] (defScope s_l_turned) := ⟨rfl, rfl, rfl, by decide +kernel, rfl, by decide +kernel, by decide +kernel⟩
def rel_l_turned : Rel := fun _ _ as r => ∃ (v : List Int) (c : Int), as = [.d (ti v), .d (.int c)] ∧ (1 ≤ v.length ∧ v.length ≤ 100) ∧ r = .ret (.d (ti (turned v c)))
theorem ok_l_turned {P : Program} {w : World} {K : PySem.W.Frag} {mg : Str → Option Value} {base : Heap} {f : Addr} {fd : FuncData} (F : Fun K "_law_turned" "_law_turned" s_l_turned f fd) (T : Bi mg) (k_l_mix : Kn P w K mg base "_law_mix" 1 rel_l_mix) : FnOk P w K mg base CX0 2 f fd ["_law_value_here", "_law_cell"] (spG K rel_l_turned) := by
  refine fn_ws F sc_l_turned fun B H as r s h => ?_
  obtain ⟨v, c, rfl, ⟨h1, h2⟩, rfl⟩ := h
  refine ⟨⟨rfl, by simp [keep]⟩, _, rfl, fun cdv A outer s0 H0 E hr => ?_⟩
  have b := mix_lt (c := c) (p := 10133) (m := v.length) (by omega)
  refine ws_set (i := 2) rfl (p_call k_l_mix (hr.mono (by decide)) (pas_cons (p_var 1 rfl) (pas_cons p_int (pas_cons (q_len (pas_cons (p_var 0 rfl) pas_nil) T.b_len) pas_nil))) (fun _ _ _ _ => ⟨_, _, _, rfl, ⟨by decide, by omega⟩, rfl⟩)) rfl ?_ sc_l_turned.nd (.inl rfl)
  refine ws_ret (q_add (q_add (q_slice (p_var 0 rfl) o_none (o_some (p_var 2 rfl))) (q_tuple (pas_cons (p_sub p_int (p_at (p_var 0 rfl) (p_var 2 rfl) (at_i ⟨b.1, b.2⟩))) pas_nil) (by walk_at "s")) (by have := cut_len (zs := v) (l := none) (u := some (mix c 10133 v.length)); simp only [List.length_cons, List.length_nil]; omega)) (q_slice (p_var 0 rfl) (o_some (q_add (p_var 2 rfl) p_int trivial)) o_none) (by have := cut_len (zs := v) (l := none) (u := some (mix c 10133 v.length)); have := cut_len (zs := v) (l := some (mix c 10133 v.length + 1)) (u := none); simp only [List.length_append, List.length_cons, List.length_nil]; omega)) ⟨.rfl' s, ?_⟩
  rw [cut_to b.1, cut_from (by omega)]
  unfold turned
  rw [show (mix c 10133 v.length + 1).toNat = (mix c 10133 v.length).toNat + 1 by omega]
/-! ### _law_parcel -/
abbrev s_l_parcel : Stmt := topS 25
theorem sc_l_parcel : FnScope ["_law_cell", "_law_load_here", "_law_before", "_law_many", "_law_wide", "_law_places", "_law_way", "_law_some", "_law_value_here", "_law_prime", "_law_one", "_law_place"] ["_law_cell", "_law_load_here", "_law_before"] (defScope s_l_parcel) := ⟨rfl, rfl, rfl, by decide +kernel, rfl, by decide +kernel, by decide +kernel⟩
def rel_l_parcel : Rel := fun _ _ as r => ∃ (c : Int) (w : Nat) (ld : List (List Int)) (bf : List Par), as = [.d (.int c), .d (.list (ld.map ti)), .r (bf.map prD)] ∧ (1 ≤ ld.length ∧ ld.length ≤ 24 ∧ 1 ≤ w ∧ w ≤ 32 ∧ (∀ v ∈ ld, v.length = w) ∧ bf.length ≤ 200 ∧ ∀ p ∈ bf, p.2.length = w) ∧ r = .ret (.d (prD (parcelOf c w ld bf)))
theorem ok_l_parcel {P : Program} {w : World} {K : PySem.W.Frag} {mg : Str → Option Value} {base : Heap} {f : Addr} {fd : FuncData} (F : Fun K "_law_parcel" "_law_parcel" s_l_parcel f fd) (T : Bi mg) (k_l_set : Kn P w K mg base "_law_set" 2 rel_l_set) (k_l_mix : Kn P w K mg base "_law_mix" 1 rel_l_mix) (k_l_odd : Kn P w K mg base "_law_odd" 1 rel_l_odd) (k_l_sum : Kn P w K mg base "_law_sum" 1 rel_l_sum) (k_l_turned : Kn P w K mg base "_law_turned" 2 rel_l_turned) (k_l_bits : Kn P w K mg base "_law_bits" 2 rel_l_bits) : FnOk P w K mg base CX0 3 f fd ["_law_cell", "_law_load_here", "_law_before"] (spG K rel_l_parcel) := by
  refine fn_ws F sc_l_parcel fun B H as r s h => ?_
  obtain ⟨c, w, ld, bf, rfl, ⟨hl1, hl2, hw1, hw2, hv, hb, hbw⟩, rfl⟩ := h
  refine ⟨⟨rfl, by simp [keep]⟩, _, rfl, fun cdv A outer s0 H0 E hr => ?_⟩
  obtain ⟨v0, hv0⟩ : ∃ v0, ld[0]? = some v0 := ⟨ld[0], List.getElem?_eq_getElem (by omega)⟩
  have hw0 : v0.length = w := hv v0 (List.mem_of_getElem? hv0)
  have hs := lset_set (c := c) (m := ld.length) (by omega)
  have hsl := set_len hs
  have b8 := mix_lt (c := c) (p := 10139) (m := 8) (by decide)
  refine ws_par (i := 3) (j := 4) (pas_cons (q_len (pas_cons (p_var 1 rfl) pas_nil) T.b_len) (pas_cons (q_len (pas_cons (p_at (p_var 1 rfl) p_int (at_k 0 (by rw [List.getElem?_map, hv0]; rfl))) pas_nil) T.b_len) pas_nil)) rfl rfl ?_ sc_l_parcel.nd rfl rfl (by decide) rfl rfl rfl (by kernel_rfl)
  rw [hw0]
  refine ws_set (i := 5) rfl (p_call k_l_set (hr.mono (by decide)) (pas_cons (p_var 0 rfl) (pas_cons (p_var 3 rfl) pas_nil)) (fun _ _ _ _ => ⟨_, _, rfl, ⟨by omega, by omega⟩, rfl⟩)) rfl ?_ sc_l_parcel.nd (.inl rfl)
  refine ws_set (i := 6) rfl (p_call k_l_mix (hr.mono (by decide)) (pas_cons (p_var 0 rfl) (pas_cons p_int (pas_cons p_int pas_nil))) (fun _ _ _ _ => ⟨_, _, _, rfl, ⟨by decide, by decide⟩, rfl⟩)) rfl ?_ sc_l_parcel.nd (.inl rfl)
  have sb : Sh 40 (.list (bf.map prD)) := sh_prs bf
  refine ws_if (t_w (w_and (t_cm (c_gt (p_var 6 rfl) p_int)) (fun hb => (w_and1 (t_cm (q_ne (p_var 2 rfl) (q_list pas_nil (by walk_at "s")) ⟨sb, sh_list (n := 39) (fun _ h => by cases h)⟩ hr.units)))))) (fun hc => ?_) (fun hc => ?_)
  · have hc' : 4 < mix c 10139 8 ∧ bf ≠ [] := by
      refine ⟨by have := (Bool.and_eq_true _ _ ▸ hc).1; exact of_decide_eq_true this, fun e => ?_⟩
      subst e
      have := (Bool.and_eq_true _ _ ▸ hc).2
      have z : PyData.eqv (.list []) (.list []) = true := Sh.same (n := 1) (sh_list (n := 0) fun _ h => by cases h)
      simp [z] at this
    have bl : 0 < bf.length := List.length_pos_iff.mpr hc'.2
    have bx : ∀ pr : Int, 0 ≤ mix c pr bf.length ∧ mix c pr bf.length < bf.length := fun pr => mix_lt (by omega)
    have s3 : ∀ p ∈ some3 c bf, p.2.length = w := fun p hp => by
      unfold some3 at hp
      obtain ⟨pr, _, rfl⟩ := List.mem_map.mp hp
      exact hbw _ (pAt_mem (bx pr))
    have s3l : (some3 c bf).length = 3 := rfl
    refine ws_lc (i := 7) (s_lcAI (em := prD) (i := 9) (q_iter (q_list (pas_cons p_int (pas_cons p_int (pas_cons p_int pas_nil))) (by walk_at "s"))) (show List.map PyData.int [10141, 10151, 10159] = List.map PyData.int [10141, 10151, 10159] from rfl) (fun z hz s H C cl fp => (p_at (p_var 2 rfl) (p_call k_l_mix (hr.mono (by decide)) (pas_cons (p_var 0 rfl) (pas_cons (p_var 9 rfl) (pas_cons (q_len (pas_cons (p_var 2 rfl) pas_nil) T.b_len) pas_nil))) (fun _ _ _ _ => ⟨_, _, _, rfl, ⟨by rcases List.mem_cons.mp hz with rfl | hz; decide; rcases List.mem_cons.mp hz with rfl | hz; decide; rw [List.mem_singleton.mp hz]; decide, by omega⟩, rfl⟩)) (at_d (f := prD) (bx z).1 (pAt_in (bx z))))) (by decide) rfl sc_l_parcel.nd (by kernel_rfl) (fun _ _ _ _ _ => pg_name (i := 9) sc_l_parcel.nd rfl (.inl rfl)) rfl rfl (sw_true rfl rfl rfl (by kernel_rfl))) ?_
    have e3 : List.map (fun z => pAt bf (mix c z ↑bf.length)) [10141, 10151, 10159] = some3 c bf := rfl
    rw [e3]
    refine ws_set (i := 5) rfl (p_call k_l_odd (hr.mono (by decide)) (pas_cons (n_lcAI (em := li) (i := 10) (q_iter (p_var 7 rfl)) rfl (fun z hz s H C cl fp => (p_at (p_var 10 rfl) p_int (at_k 0 rfl))) (by rw [s3l]; decide) rfl sc_l_parcel.nd (by kernel_rfl) (fun _ _ _ _ _ => pg_name (i := 10) sc_l_parcel.nd rfl (.inl rfl))).dat (pas_cons (p_var 3 rfl) pas_nil)) (fun _ _ _ _ => ⟨_, _, rfl, ⟨by omega, by omega, by rw [List.length_map, s3l]; decide⟩, rfl⟩)) rfl ?_ sc_l_parcel.nd (.inl rfl)
    refine ws_set (i := 8) rfl (p_call k_l_sum (hr.mono (by decide)) (pas_cons (n_lcAI (em := ti) (i := 10) (q_iter (p_var 7 rfl)) rfl (fun z hz s H C cl fp => (p_at (p_var 10 rfl) p_int (at_k 1 rfl))) (by rw [s3l]; decide) rfl sc_l_parcel.nd (by kernel_rfl) (fun _ _ _ _ _ => pg_name (i := 10) sc_l_parcel.nd rfl (.inl rfl))).dat (pas_cons (p_var 4 rfl) pas_nil)) (fun _ _ _ _ => ⟨_, _, rfl, ⟨by omega, by omega, by rw [List.length_map, s3l]; decide, fun v hv => by
      obtain ⟨p, hp, rfl⟩ := List.mem_map.mp hv
      rw [s3 p hp]; omega⟩, rfl⟩)) rfl ?_ sc_l_parcel.nd (.inl rfl)
    have e1 : ((w : Nat) : Int).toNat = w := by omega
    have e2 : ((ld.length : Nat) : Int).toNat = ld.length := by omega
    rw [e1, e2]
    have vl := lsum_len ((some3 c bf).map fun p => p.2) w
    refine ws_if (t_cm (q_eq (p_var 6 rfl) p_int (by walk_at "s") hr.units)) (fun hc => ?_) (fun hc => ?_)
    · have h7 : mix c 10139 8 = 7 := by simpa using hc
      refine ws_set (i := 8) rfl (p_call k_l_turned (hr.mono (by decide)) (pas_cons (p_var 8 rfl) (pas_cons (p_var 0 rfl) pas_nil)) (fun _ _ _ _ => ⟨_, _, rfl, ⟨by rw [vl]; exact hw1, by rw [vl]; omega⟩, rfl⟩)) rfl ?_ sc_l_parcel.nd (.inl rfl)
      refine ws_nil ?_
      refine ws_ret (q_tuple (pas_cons (p_var 5 rfl) (pas_cons (p_var 8 rfl) pas_nil)) (by walk_at "s")) ⟨.rfl' s, ?_⟩
      unfold parcelOf
      rw [if_pos hc', if_pos h7]
    · have h7 : ¬ mix c 10139 8 = 7 := by simpa using hc
      refine ws_nil ?_
      refine ws_ret (q_tuple (pas_cons (p_var 5 rfl) (pas_cons (p_var 8 rfl) pas_nil)) (by walk_at "s")) ⟨.rfl' s, ?_⟩
      unfold parcelOf
      rw [if_pos hc', if_neg h7]
  have hc' : ¬ (4 < mix c 10139 8 ∧ bf ≠ []) := by
    rintro ⟨q1, q2⟩
    rw [decide_eq_true q1] at hc
    have z : PyData.eqv (.list (bf.map prD)) (.list []) = false := by
      cases bf with
      | nil => exact absurd rfl q2
      | cons p bf => simp [PyData.eqv, PyData.eqvAll]
    simp [z] at hc
  refine ws_nil ?_
  refine ws_if (t_cm (q_eq (p_var 6 rfl) p_int (by walk_at "s") hr.units)) (fun hc => ?_) (fun hc => ?_)
  · have h0 : mix c 10139 8 = 0 := by simpa using hc
    refine ws_ret (q_tuple (pas_cons (p_var 5 rfl) (pas_cons (p_call k_l_bits (hr.mono (by decide)) (pas_cons (q_add (p_var 0 rfl) p_int (by walk_at "s")) (pas_cons (p_var 4 rfl) pas_nil)) (fun _ _ _ _ => ⟨_, _, rfl, ⟨by omega, by omega⟩, rfl⟩)) pas_nil)) (by walk_at "s")) ⟨.rfl' s, ?_⟩
    unfold parcelOf
    rw [if_neg hc', if_pos h0]
    rfl
  have h0 : ¬ mix c 10139 8 = 0 := by simpa using hc
  refine ws_nil ?_
  refine ws_if (t_cm (q_eq (p_var 6 rfl) p_int (by walk_at "s") hr.units)) (fun hc => ?_) (fun hc => ?_)
  · have h1 : mix c 10139 8 = 1 := by simpa using hc
    have b2 := mix_lt (c := c) (p := 10163) (m := 2) (by decide)
    have g : [lsum [] w, bits c w][(mix c 10163 2).toNat]? = some ([lsum [] w, bits c w].getD (mix c 10163 2).toNat []) := by
      have : (mix c 10163 2).toNat = 0 ∨ (mix c 10163 2).toNat = 1 := by omega
      rcases this with e | e <;> rw [e] <;> rfl
    refine ws_ret (q_tuple (pas_cons (q_list pas_nil (by walk_at "s")) (pas_cons (p_at (q_list (pas_cons (p_call k_l_sum (hr.mono (by decide)) (pas_cons (q_list pas_nil (by walk_at "s")) (pas_cons (p_var 4 rfl) pas_nil)) (fun _ _ _ _ => ⟨([] : List (List Int)), _, rfl, ⟨by omega, by omega, by show 0 ≤ 200; decide, fun v hv => by cases hv⟩, rfl⟩)) (pas_cons (p_call k_l_bits (hr.mono (by decide)) (pas_cons (p_var 0 rfl) (pas_cons (p_var 4 rfl) pas_nil)) (fun _ _ _ _ => ⟨_, _, rfl, ⟨by omega, by omega⟩, rfl⟩)) pas_nil)) (by walk_at "s")) (p_call k_l_mix (hr.mono (by decide)) (pas_cons (p_var 0 rfl) (pas_cons p_int (pas_cons p_int pas_nil))) (fun _ _ _ _ => ⟨_, _, _, rfl, ⟨by decide, by decide⟩, rfl⟩)) (at_d (f := ti) (ns := [lsum [] w, bits c w]) b2.1 g)) pas_nil)) (by walk_at "s")) ⟨.rfl' s, ?_⟩
    unfold parcelOf
    rw [if_neg hc', if_neg h0, if_pos h1]
  have h1 : ¬ mix c 10139 8 = 1 := by simpa using hc
  refine ws_nil ?_
  have get : ∀ x ∈ lset c ld.length, ld[x.toNat]? = some (ld.getD x.toNat []) ∧ (ld.getD x.toNat []).length = w := fun x hx => by
    have b := (isSet_iff.mp hs).2 x hx
    have e := List.getElem?_eq_getElem (l := ld) (i := x.toNat) (by omega)
    rw [List.getD_eq_getElem?_getD, e]
    exact ⟨rfl, hv _ (List.getElem_mem _)⟩
  refine ws_ret (q_tuple (pas_cons (p_var 5 rfl) (pas_cons (p_call k_l_sum (hr.mono (by decide)) (pas_cons (n_lcAI (em := ti) (i := 11) (q_iter (p_var 5 rfl)) rfl (fun z hz s H C cl fp => (p_at (p_var 1 rfl) (p_var 11 rfl) (at_d (f := ti) ((isSet_iff.mp hs).2 z hz).1 (get z hz).1))) (by omega) rfl sc_l_parcel.nd (by kernel_rfl) (fun _ _ _ _ _ => pg_name (i := 11) sc_l_parcel.nd rfl (.inl rfl))).dat (pas_cons (p_var 4 rfl) pas_nil)) (fun _ _ _ _ => ⟨_, _, rfl, ⟨by omega, by omega, by rw [List.length_map]; omega, fun v hv => by
    obtain ⟨x, hx, rfl⟩ := List.mem_map.mp hv
    rw [(get x hx).2]; omega⟩, rfl⟩)) pas_nil)) (by walk_at "s")) ⟨.rfl' s, ?_⟩
  unfold parcelOf
  rw [if_neg hc', if_neg h0, if_neg h1]
  rfl
/-! ### _law_rising -/
abbrev s_l_rising : Stmt := topS 26
theorem sc_l_rising : FnScope ["_law_found", "_law_some", "_law_k"] ["_law_found", "_law_some"] (defScope s_l_rising) := ⟨rfl, rfl, rfl, by decide +kernel, rfl, by decide +kernel, by decide +kernel⟩
def rel_l_rising : Rel := fun _ _ as r => ∃ (q ks : List Int), as = [.d (li q), .d (li ks)] ∧ (Rise q ∧ (∀ x ∈ q, x ∈ ks) ∧ q.length ≤ 1000) ∧ r = .ret (.d (.bool true))
theorem ok_l_rising {P : Program} {w : World} {K : PySem.W.Frag} {mg : Str → Option Value} {base : Heap} {f : Addr} {fd : FuncData} (F : Fun K "_law_rising" "_law_rising" s_l_rising f fd) (T : Bi mg) (k_l_whole : Kn P w K mg base "_law_whole" 1 rel_l_whole) : FnOk P w K mg base CX0 2 f fd ["_law_found", "_law_some"] (spG K rel_l_rising) := by
  refine fn_ws F sc_l_rising fun B H as r s h => ?_
  obtain ⟨q, ks, rfl, ⟨hq, hk, hl⟩, rfl⟩ := h
  refine ⟨⟨rfl, by simp [keep]⟩, _, rfl, fun cdv A outer s0 H0 E hr => ?_⟩
  refine ws_if (t_not (t_of (q_isi (p_var 0 rfl) T.b_list PyProof.Rows.boot_list T.b_isinstance))) (fun hc => ?_) (fun hc => ?_)
  · cases hc
  refine ws_nil ?_
  refine ws_for (i := 2) (fun k B' H' δ' => B = B' ∧ H = H' ∧ ∃ (o : Option GL.A), δ' = [some (.d (li q)), some (.d (li ks)), o]) (i_range (q_len (pas_cons (p_var 0 rfl) pas_nil) T.b_len) (by omega) (by omega) T.b_range) ?_ ?_ ?_ rfl sc_l_rising.nd (.inl rfl) rfl PassesOwn.never
  · exact ⟨rfl, rfl, none, rfl⟩
  · rintro k z _ _ _ hk2 ⟨rfl, rfl, o, rfl⟩
    obtain ⟨hk3, rfl⟩ := upto_get hk2
    have hk4 : k < q.length := by omega
    refine ws_if (t_w (w_or (t_not (t_of (p_call k_l_whole (hr.mono (by decide)) (pas_cons (p_at (p_var 0 rfl) (p_var 2 rfl) (at_i ⟨by omega, by omega⟩)) pas_nil) (fun _ _ _ _ => ⟨_, rfl, rfl⟩)))) (fun hb => (w_or (t_cm (q_notIn (p_at (p_var 0 rfl) (p_var 2 rfl) (at_i ⟨by omega, by omega⟩)) (p_var 1 rfl))) (fun hb => (w_or1 (t_w (w_and (t_cm (c_gt (p_var 2 rfl) p_int)) (fun hb => (w_and1 (t_cm (c_le (p_at (p_var 0 rfl) (p_var 2 rfl) (at_i ⟨by omega, by omega⟩)) (p_at (p_var 0 rfl) (p_sub (p_var 2 rfl) p_int) (at_i (by have hb := of_decide_eq_true hb; exact ⟨by omega, by omega⟩))))))))))))))) (fun hc => ?_) (fun hc => ?_)
    · exfalso
      have e1 : q.getD k 0 ∈ ks := hk _ (getD_in hk4)
      have e2 : 0 < k → q.getD (k - 1) 0 < q.getD k 0 := fun h => rise_get hq (by omega) hk4
      simp [isK, tn] at hc
      simp only [List.getD_eq_getElem?_getD] at e1 e2
      rcases hc with h | ⟨h1, h2⟩
      · exact h e1
      · have := e2 h1
        omega
    exact ws_nil (ws_nil ⟨rfl, rfl, _, rfl⟩)
  · rintro _ _ _ ⟨rfl, rfl, o, rfl⟩
    refine ws_ret p_bl ⟨.rfl' s, rfl⟩
/-! ### _law_value -/
abbrev s_l_value : Stmt := topS 27
theorem sc_l_value : FnScope ["_law_found", "_law_wide", "_law_bit"] ["_law_found", "_law_wide"] (defScope s_l_value) := ⟨rfl, rfl, rfl, by decide +kernel, rfl, by decide +kernel, by decide +kernel⟩
def rel_l_value : Rel := fun _ _ as r => ∃ (v : List Int) (w : Int), as = [.d (ti v), .d (.int w)] ∧ v.length ≤ 200 ∧ r = .ret (.d (.bool (decide ((v.length : Int) = w))))
theorem ok_l_value {P : Program} {w : World} {K : PySem.W.Frag} {mg : Str → Option Value} {base : Heap} {f : Addr} {fd : FuncData} (F : Fun K "_law_value" "_law_value" s_l_value f fd) (T : Bi mg) (k_l_whole : Kn P w K mg base "_law_whole" 1 rel_l_whole) : FnOk P w K mg base CX0 2 f fd ["_law_found", "_law_wide"] (spG K rel_l_value) := by
  refine fn_ws F sc_l_value fun B H as r s h => ?_
  obtain ⟨v, w, rfl, hv, rfl⟩ := h
  refine ⟨⟨rfl, by simp [keep]⟩, _, rfl, fun cdv A outer s0 H0 E hr => ?_⟩
  refine ws_if (t_w (w_or (t_not (t_of (q_isi (p_var 0 rfl) T.b_tuple PyProof.Rows.boot_tuple T.b_isinstance))) (fun hb => (w_or1 (t_cm (q_ne (q_len (pas_cons (p_var 0 rfl) pas_nil) T.b_len) (p_var 1 rfl) (by walk_at "s") hr.units)))))) (fun hc => ?_) (fun hc => ?_)
  · have e : ¬ (v.length : Int) = w := by simpa [isK, tn] using hc
    refine ws_ret p_bl ⟨.rfl' s, ?_⟩
    rw [decide_eq_false e]
  · have e : (v.length : Int) = w := by simpa [isK, tn] using hc
    refine ws_nil ?_
    refine ws_ret (p_cm (q_eq (n_lcI (em := PyData.int) (i := 2) (q_iter (p_var 0 rfl)) rfl (fun z hz s H C cl fp => (ts_one (t_not (t_of (p_call k_l_whole (hr.mono (by decide)) (pas_cons (p_var 2 rfl) pas_nil) (fun _ _ _ _ => ⟨_, rfl, rfl⟩)))))) (fun z hz hf s H C cl fp => (p_var 2 rfl)) (by omega) rfl sc_l_value.nd (by kernel_rfl) (fun _ _ _ _ _ => pg_name (i := 2) sc_l_value.nd rfl (.inl rfl))).dat (q_list pas_nil (by walk_at "s")) (by walk_at "s") hr.units)) ⟨.rfl' s, ?_⟩
    rw [decide_eq_true e]
    simp [isK, tn]
/-! ### _law_fits -/
abbrev s_l_fits : Stmt := topS 33
theorem sc_l_fits : FnScope ["_law_parcels_here", "_law_many", "_law_wide", "_law_load_here", "_law_piece", "_law_one", "_law_place"] ["_law_parcels_here", "_law_many", "_law_wide"] (defScope s_l_fits) := ⟨rfl, rfl, rfl, by decide +kernel, rfl, by decide +kernel, by decide +kernel⟩
def rel_l_fits : Rel := fun _ _ as r => ∃ (ps : List Par) (m w : Int), as = [.d (.list (ps.map prD)), .d (.int m), .d (.int w)] ∧ (0 ≤ m ∧ PsOk m w.toNat ps) ∧ r = .ret (.d (.bool (rowsOf ps).2.isNone))
theorem ok_l_fits {P : Program} {w : World} {K : PySem.W.Frag} {mg : Str → Option Value} {base : Heap} {f : Addr} {fd : FuncData} (F : Fun K "_law_fits" "_law_fits" s_l_fits f fd) (T : Bi mg) (k_fitting : Kn P w K mg base "fitting" 5 rel_fitting) (k_l_value : Kn P w K mg base "_law_value" 2 rel_l_value) (k_l_sum : Kn P w K mg base "_law_sum" 1 rel_l_sum) : FnOk P w K mg base CX0 6 f fd ["_law_parcels_here", "_law_many", "_law_wide"] (spG K rel_l_fits) := by
  refine fn_ws F sc_l_fits fun B H as r s h => ?_
  obtain ⟨ps, m, w, rfl, ⟨hm0, hpo⟩, rfl⟩ := h
  refine ⟨⟨rfl, by simp [keep]⟩, _, rfl, fun cdv A outer s0 H0 E hr => ?_⟩
  obtain ⟨hm, hw1, hw2, hl, hp⟩ := id hpo
  refine ws_set (i := 3) rfl (p_call k_fitting (hr.mono (by decide)) (pas_cons (p_var 0 rfl) (pas_cons (p_var 1 rfl) (pas_cons (p_var 2 rfl) pas_nil))) (fun _ _ _ _ => ⟨_, _, _, rfl, ⟨hm0, hpo⟩, rfl⟩)) rfl ?_ sc_l_fits.nd (.inr rfl)
  have sp := rowsOf_spec hp
  unfold fitD
  generalize rowsOf ps = R at *
  obtain ⟨rows, q⟩ := R
  cases q with
  | some q =>
    refine ws_if (t_w (w_or (c := false) (t_not (t_of (q_isi (p_var 3 rfl) T.b_list PyProof.Rows.boot_list T.b_isinstance))) (fun hb => False.elim (by cases hb)))) (fun hc => ?_) (fun hc => ?_)
    · refine ws_ret p_bl ⟨.rfl' s, rfl⟩
    · cases hc
  | none =>
    have I := sp.2 rfl
    have h1 : ((loadFit m.toNat w.toNat rows).length : Int) = m := by rw [loadFit_len]; omega
    have h2 : ∀ v ∈ loadFit m.toNat w.toNat rows, (v.length : Int) = w := fun v hv => by have := (load_ok I.ech v hv).1; omega
    have h3 := load_good hp I
    dsimp only at *
    generalize loadFit m.toNat w.toNat rows = ld at *
    refine ws_if (t_w (w_or (t_not (t_of (q_isi (p_var 3 rfl) T.b_list PyProof.Rows.boot_list T.b_isinstance))) (fun hb => (w_or1 (t_cm (q_ne (q_len (pas_cons (p_var 3 rfl) pas_nil) T.b_len) (p_var 1 rfl) (by walk_at "s") hr.units)))))) (fun hc => ?_) (fun hc => ?_)
    · exfalso
      rw [h1] at hc
      simp [isK, tn] at hc
    refine ws_nil ?_
    have s0 : ∀ zs : List PyData, (∀ d ∈ zs, Sh 3 d) → Sh 40 (.list zs) := fun zs h => Sh.up (sh_list (n := 3) h)
    have z0 : PyData.eqv (.list []) (.list []) = true := Sh.same (n := 1) (sh_list (n := 0) fun _ h => by cases h)
    have s1 : Sh 40 (.list []) := s0 [] fun _ h => by cases h
    have e1 : ld.filter (fun z => !decide ((z.length : Int) = w)) = [] := List.filter_eq_nil_iff.mpr fun v hv => by simp [h2 v hv]
    refine ws_if (t_cm (q_ne (n_lcI (em := ti) (i := 4) (q_iter (p_var 3 rfl)) rfl (fun z hz s H C cl fp => (ts_one (t_not (t_of (p_call k_l_value (hr.mono (by decide)) (pas_cons (p_var 4 rfl) (pas_cons (p_var 2 rfl) pas_nil)) (fun _ _ _ _ => ⟨_, _, rfl, (by have := h2 z hz; omega), rfl⟩)))))) (fun z hz hf s H C cl fp => (p_var 4 rfl)) (by omega) rfl sc_l_fits.nd (by kernel_rfl) (fun _ _ _ _ _ => pg_name (i := 4) sc_l_fits.nd rfl (.inl rfl))).dat (q_list pas_nil (by walk_at "s")) ⟨s0 _ fun d hd => by
      obtain ⟨v, _, rfl⟩ := List.mem_map.mp hd
      exact Sh.up (sh_ti _), s1⟩ hr.units)) (fun hc => ?_) (fun hc => ?_)
    · exfalso
      have e2 := e1
      simp only [List.map_id'] at hc
      rw [e2] at hc
      simp [z0] at hc
    refine ws_nil ?_
    have get : ∀ p ∈ ps, ∀ x ∈ p.1, 0 ≤ x ∧ ld[x.toNat]? = some (ld.getD x.toNat []) ∧ ((ld.getD x.toNat []).length : Int) = w := fun p hp2 x hx => by
      have b := (hp p hp2).set.2 x hx
      have e := List.getElem?_eq_getElem (l := ld) (i := x.toNat) (by omega)
      rw [List.getD_eq_getElem?_getD, e]
      exact ⟨b.1, rfl, h2 _ (List.getElem_mem _)⟩
    have pl : ∀ p ∈ ps, p.1.length ≤ 24 := fun p hp2 => by
      have := setOk_len (hp p hp2).set
      omega
    have e3 : ps.filter (fun p => !decide (lsum (p.1.map fun x => ld.getD x.toNat []) w.toNat = p.2)) = [] := List.filter_eq_nil_iff.mpr fun p hp => by rw [h3 p hp]; simp
    refine ws_ret (p_cm (q_eq (n_lcI (em := prD) (i := 5) (q_iter (p_var 0 rfl)) rfl (fun z hz s H C cl fp => (ts_one (t_cm (q_ne (p_call k_l_sum (hr.mono (by decide)) (pas_cons (n_lcAI (em := ti) (i := 6) (q_iter (p_at (p_var 5 rfl) p_int (at_k 0 rfl))) rfl (fun z hz s H C cl fp => (p_at (p_var 3 rfl) (p_var 6 rfl) (at_d (f := ti) (get _ (by assumption) _ hz).1 (get _ (by assumption) _ hz).2.1))) (by have := pl _ (by assumption); omega) rfl sc_l_fits.nd (by kernel_rfl) (fun _ _ _ _ _ => pg_name (i := 6) sc_l_fits.nd rfl (.inl rfl))).dat (pas_cons (p_var 2 rfl) pas_nil)) (fun _ _ _ _ => ⟨_, _, rfl, ⟨by omega, by omega, by rw [List.length_map]; have := pl z hz; omega, fun v hv => by
      obtain ⟨x, hx, rfl⟩ := List.mem_map.mp hv
      have := (get z hz x hx).2.2
      omega⟩, rfl⟩)) (p_at (p_var 5 rfl) p_int (at_k 1 rfl)) trivial hr.units)))) (fun z hz hf s H C cl fp => (p_var 5 rfl)) (by omega) rfl sc_l_fits.nd (by kernel_rfl) (fun _ _ _ _ _ => pg_name (i := 5) sc_l_fits.nd rfl (.inl rfl))).dat (q_list pas_nil (by walk_at "s")) ⟨s0 _ fun d hd => by
        obtain ⟨v, _, rfl⟩ := List.mem_map.mp hd
        exact Sh.up (sh_pr _), s1⟩ hr.units)) ⟨.rfl' s, ?_⟩
    rw [List.map_id', e3]
    exact congrArg (fun b => GL.A.d (.bool b)) z0
/-! ### _law_quarrels -/
abbrev s_l_quarrels : Stmt := topS 34
theorem sc_l_quarrels : FnScope ["_law_parcels_here", "_law_wide", "_law_found", "_law_k"] ["_law_parcels_here", "_law_wide"] (defScope s_l_quarrels) := ⟨rfl, rfl, rfl, by decide +kernel, rfl, by decide +kernel, by decide +kernel⟩
def rel_l_quarrels : Rel := fun _ _ as r => ∃ (ps : List Par) (w : Int), as = [.d (.list (ps.map prD)), .d (.int w)] ∧ (∃ m, PsOk m w.toNat ps) ∧ r = .ret (.d (.bool (rowsOf ps).2.isSome))
theorem ok_l_quarrels {P : Program} {w : World} {K : PySem.W.Frag} {mg : Str → Option Value} {base : Heap} {f : Addr} {fd : FuncData} (F : Fun K "_law_quarrels" "_law_quarrels" s_l_quarrels f fd) (T : Bi mg) (k_quarrel : Kn P w K mg base "quarrel" 5 rel_quarrel) (k_l_odd : Kn P w K mg base "_law_odd" 1 rel_l_odd) (k_l_sum : Kn P w K mg base "_law_sum" 1 rel_l_sum) (k_l_rising : Kn P w K mg base "_law_rising" 2 rel_l_rising) : FnOk P w K mg base CX0 6 f fd ["_law_parcels_here", "_law_wide"] (spG K rel_l_quarrels) := by
  refine fn_ws F sc_l_quarrels fun B H as r s h => ?_
  obtain ⟨ps, w, rfl, ⟨m, hpo⟩, rfl⟩ := h
  refine ⟨⟨rfl, by simp [keep]⟩, _, rfl, fun cdv A outer s0 H0 E hr => ?_⟩
  obtain ⟨hm, hw1, hw2, hl, hp⟩ := id hpo
  refine ws_set (i := 2) rfl (p_call k_quarrel (hr.mono (by decide)) (pas_cons (p_var 0 rfl) pas_nil) (fun _ _ _ _ => ⟨_, _, _, rfl, hpo, rfl⟩)) rfl ?_ sc_l_quarrels.nd (.inl rfl)
  have sp := rowsOf_spec hp
  generalize rowsOf ps = R at *
  obtain ⟨rows, q⟩ := R
  cases q with
  | none =>
    refine ws_if (t_w (w_or (c := false) (t_cm (c_isN (p_var 2 rfl) p_non)) (fun hb => False.elim (by cases hb)))) (fun hc => ?_) (fun hc => ?_)
    · refine ws_ret p_bl ⟨.rfl' s, rfl⟩
    · cases hc
  | some q =>
    have Q := sp.1 q rfl
    have ql := setOk_len Q.set
    refine ws_if (t_w (w_or (t_cm (c_isN (p_var 2 rfl) p_non)) (fun hb => (w_or1 (t_not (t_of (p_call k_l_rising (hr.mono (by decide)) (pas_cons (p_var 2 rfl) (pas_cons (n_listRg (q_len (pas_cons (p_var 0 rfl) pas_nil) T.b_len) ⟨by omega, by omega⟩ rfl T.b_list T.b_range).dat pas_nil)) (fun _ _ _ _ => ⟨_, _, rfl, ⟨Q.set.1, fun x hx => upI_mem.mpr (by have := Q.set.2 x hx; omega), by omega⟩, rfl⟩)))))))) (fun hc => ?_) (fun hc => ?_)
    · cases hc
    refine ws_nil ?_
    have pg : ∀ z ∈ q, ps[z.toNat]? = some (pAt ps z) := fun z hz => pAt_in (Q.set.2 z hz)
    refine ws_if (t_cm (q_ne (p_call k_l_odd (hr.mono (by decide)) (pas_cons (n_lcAI (em := li) (i := 3) (q_iter (p_var 2 rfl)) rfl (fun z hz s H C cl fp => (p_at (p_at (p_var 0 rfl) (p_var 3 rfl) (at_d (f := prD) (Q.set.2 z hz).1 (pg z hz))) p_int (at_k 0 rfl))) (by omega) rfl sc_l_quarrels.nd (by kernel_rfl) (fun _ _ _ _ _ => pg_name (i := 3) sc_l_quarrels.nd rfl (.inl rfl))).dat (pas_cons p_int pas_nil)) (fun _ _ _ _ => ⟨_, _, rfl, ⟨by decide, by decide, by rw [List.length_map]; omega⟩, rfl⟩)) (q_list pas_nil (by walk_at "s")) (by walk_at "s") hr.units)) (fun hc => ?_) (fun hc => ?_)
    · exfalso
      rw [quarrel_none Q] at hc
      simp at hc
    refine ws_nil ?_
    refine ws_ret (p_cm (q_in p_int (p_call k_l_sum (hr.mono (by decide)) (pas_cons (n_lcAI (em := ti) (i := 3) (q_iter (p_var 2 rfl)) rfl (fun z hz s H C cl fp => (p_at (p_at (p_var 0 rfl) (p_var 3 rfl) (at_d (f := prD) (Q.set.2 z hz).1 (pg z hz))) p_int (at_k 1 rfl))) (by omega) rfl sc_l_quarrels.nd (by kernel_rfl) (fun _ _ _ _ _ => pg_name (i := 3) sc_l_quarrels.nd rfl (.inl rfl))).dat (pas_cons (p_var 1 rfl) pas_nil)) (fun _ _ _ _ => ⟨_, _, rfl, ⟨by omega, by omega, by rw [List.length_map]; omega, fun v hv => by
      obtain ⟨z, hz, rfl⟩ := List.mem_map.mp hv
      exact (hp _ (pAt_mem (Q.set.2 z hz))).val.1⟩, rfl⟩)))) ⟨.rfl' s, ?_⟩
    rw [decide_eq_true (quarrel_one Q fun p h => (hp p h).val)]
    rfl
/-! ### _law_parcels -/
abbrev s_l_parcels : Stmt := topS 35
theorem sc_l_parcels : FnScope ["_law_script", "_law_load_here", "_law_parcels_here", "_law_true", "_law_cell", "_law_places", "_law_value_here", "_law_at", "_law_place"] ["_law_script", "_law_load_here"] (defScope s_l_parcels) := ⟨rfl, rfl, rfl, by decide +kernel, rfl, by decide +kernel, by decide +kernel⟩
def rel_l_parcels : Rel := fun _ _ as r => ∃ (ns : List Int) (w : Nat) (ld : List (List Int)), as = [.s ns, .d (.list (ld.map ti))] ∧ (1 ≤ ld.length ∧ ld.length ≤ 24 ∧ 1 ≤ w ∧ w ≤ 32 ∧ ∀ v ∈ ld, Val w v) ∧ r = .ret (.d (.list [.list ((k12Ps ns (k12Tr ns) (k12Raw (k12Tr ns) w ld (cut ns (some 3) (some 12)))).map prD), .bool (k12Tr ns), .int (k12At ns (cut ns (some 3) (some 12)).length)]))
theorem ok_l_parcels {P : Program} {w : World} {K : PySem.W.Frag} {mg : Str → Option Value} {base : Heap} {f : Addr} {fd : FuncData} (F : Fun K "_law_parcels" "_law_parcels" s_l_parcels f fd) (T : Bi mg) (k_l_mix : Kn P w K mg base "_law_mix" 1 rel_l_mix) (k_l_parcel : Kn P w K mg base "_law_parcel" 3 rel_l_parcel) (k_l_cell_at : Kn P w K mg base "_law_cell_at" 1 rel_l_cell_at) (k_l_sum : Kn P w K mg base "_law_sum" 1 rel_l_sum) (k_l_turned : Kn P w K mg base "_law_turned" 2 rel_l_turned) : FnOk P w K mg base CX0 4 f fd ["_law_script", "_law_load_here"] (spG K rel_l_parcels) := by
  refine fn_ws F sc_l_parcels fun B H as r s h => ?_
  obtain ⟨ns, w, ld, rfl, ⟨hl1, hl2, hw1, hw2, hlv⟩, rfl⟩ := h
  refine ⟨⟨rfl, by simp [keep]⟩, _, rfl, fun cdv A outer s0 H0 E hr => ?_⟩
  obtain ⟨v0, hv0⟩ : ∃ v0, ld[0]? = some v0 := ⟨ld[0], List.getElem?_eq_getElem (by omega)⟩
  have hw0 : v0.length = w := (hlv v0 (List.mem_of_getElem? hv0)).1
  refine ws_own (i := 2) rfl (qn_list pas_nil (by decide)) ?_ sc_l_parcels.nd (.inl rfl)
  refine ws_set (i := 3) rfl (p_cm (q_eq (p_call k_l_mix (hr.mono (by decide)) (pas_cons (p_call k_l_cell_at (hr.mono (by decide)) (pas_cons (p_var 0 rfl) (pas_cons p_int pas_nil)) (fun _ _ _ _ => ⟨_, _, rfl, (by decide), rfl⟩)) (pas_cons p_int (pas_cons p_int pas_nil))) (fun _ _ _ _ => ⟨_, _, _, rfl, ⟨by decide, by decide⟩, rfl⟩)) p_int (by walk_at "s") hr.units)) rfl ?_ sc_l_parcels.nd (.inl rfl)
  have hcl : (cut ns (some 3) (some 12)).length ≤ 9 := cut_len2 (by decide) (by decide)
  generalize hcs : cut ns (some 3) (some 12) = cs at *
  refine ws_for (i := 4) (fun k B' H' δ' => B = B' ∧ H = H' ∧ ∃ (ps : List Par) (o1 o2 o3 : Option GL.A), ((ps.length = k ∧ ∀ p ∈ ps, ParOk ld.length w p) ∧ k12Raw (k12Tr ns) w ld cs = (cs.drop k).foldl (k12Step (k12Tr ns) w ld) ps) ∧ δ' = [some (.s ns), some (.d (.list (ld.map ti))), some (.o (ps.map prD)), some (.d (.bool (k12Tr ns))), o1, o2, o3, none, none]) (q_iter (q_slice (p_var 0 rfl) (o_some p_int) (o_some p_int))) ?_ ?_ ?_ rfl sc_l_parcels.nd (.inl rfl) rfl PassesOwn.never
  · exact ⟨rfl, rfl, [], none, none, none, ⟨⟨rfl, fun _ h => by cases h⟩, rfl⟩, rfl⟩
  · rintro k z _ _ _ hk ⟨rfl, rfl, ps, o1, o2, o3, ⟨⟨hpl, hpp⟩, hf⟩, rfl⟩
    rw [hcs] at hk
    obtain ⟨c, hc1, hcm, rfl⟩ := map_get hk
    have hkl : k < 9 := by have := (List.getElem?_eq_some_iff.mp hc1).1; omega
    have hd1 : cs.drop k = c :: cs.drop (k + 1) := by
      obtain ⟨h1, h2⟩ := List.getElem?_eq_some_iff.mp hc1
      rw [List.drop_eq_getElem_cons h1, h2]
    rw [hd1, List.foldl_cons] at hf
    have ok := parcelOf_ok (c := c) (w := w) (ld := ld) (bf := ps) hw1 hl1
    refine ws_two (i := 5) (j := 6) (p_call k_l_parcel (hr.mono (by decide)) (pas_cons (p_var 4 rfl) (pas_cons (p_var 1 rfl) (pas_cons (p_varR 2 rfl) pas_nil))) (fun _ _ _ _ => ⟨_, _, _, _, rfl, ⟨by omega, by omega, by omega, by omega, fun v hv => (hlv v hv).1, by omega, fun p hp => (hpp p hp).val.1⟩, rfl⟩)) ?_ sc_l_parcels.nd rfl rfl (.inl rfl) (.inl rfl) rfl
    unfold k12Step at hf
    have hlen : (k12Step (k12Tr ns) w ld ps c).length = k + 1 := by rw [k12Step_len, hpl]
    have hok : ∀ p ∈ k12Step (k12Tr ns) w ld ps c, ParOk ld.length w p := by
      intro p hp
      unfold k12Step at hp
      rcases List.mem_append.mp hp with hp | hp
      · exact hpp p hp
      · rw [List.mem_singleton.mp hp]
        refine ⟨ok.set, ?_⟩
        dsimp only
        split
        · exact val_lsum _ _
        · exact ok.val
    unfold k12Step at hlen hok
    generalize parcelOf c w ld ps = p at *
    obtain ⟨pl, v⟩ := p
    have get : ∀ x ∈ pl, ld[x.toNat]? = some (ld.getD x.toNat []) ∧ (ld.getD x.toNat []).length = w := fun x hx => by
      have b := ok.set.2 x hx
      have e := List.getElem?_eq_getElem (l := ld) (i := x.toNat) (by omega)
      rw [List.getD_eq_getElem?_getD, e]
      exact ⟨rfl, (hlv _ (List.getElem_mem _)).1⟩
    have pll := setOk_len ok.set
    have pll : (pl.length : Int) ≤ max (ld.length : Int) 0 := pll
    have ew : ((w : Nat) : Int).toNat = w := by omega
    refine ws_ifJ (fun B' H' δ' => B = B' ∧ H = H' ∧ δ' = [some (.s ns), some (.d (.list (ld.map ti))), some (.o (ps.map prD)), some (.d (.bool (k12Tr ns))), some (.d (.int c)), some (.d (li pl)), some (.d (ti (if k12Tr ns then lsum (pl.map fun x => ld.getD x.toNat []) w else v))), none, none]) (t_of (p_var 3 rfl)) (fun hc => ?_) (fun hc => ?_) ?_
    · refine ws_set (i := 6) rfl (p_call k_l_sum (hr.mono (by decide)) (pas_cons (n_lcAI (em := ti) (i := 8) (q_iter (p_var 5 rfl)) rfl (fun z hz s H C cl fp => (p_at (p_var 1 rfl) (p_var 8 rfl) (at_d (f := ti) (ok.set.2 z hz).1 (get z hz).1))) (by omega) rfl sc_l_parcels.nd (by kernel_rfl) (fun _ _ _ _ _ => pg_name (i := 8) sc_l_parcels.nd rfl (.inl rfl))).dat (pas_cons (q_len (pas_cons (p_at (p_var 1 rfl) p_int (at_k 0 (by rw [List.getElem?_map, hv0]; rfl))) pas_nil) T.b_len) pas_nil)) (fun _ _ _ _ => ⟨_, _, rfl, ⟨by omega, by omega, by rw [List.length_map]; omega, fun v hv => by
        obtain ⟨x, hx, rfl⟩ := List.mem_map.mp hv
        rw [(get x hx).2]; omega⟩, rfl⟩)) rfl ?_ sc_l_parcels.nd (.inl rfl)
      rw [hw0, ew]
      refine ws_nil ⟨rfl, rfl, ?_⟩
      rw [if_pos hc]
      rfl
    · refine ws_nil ⟨rfl, rfl, ?_⟩
      rw [if_neg (by rw [hc]; decide)]
      rfl
    rintro _ _ _ ⟨rfl, rfl, rfl⟩
    refine ws_app (i := 2) rfl (q_tuple (pas_cons (p_var 5 rfl) (pas_cons (p_var 6 rfl) pas_nil)) (by walk_at "s")) (by rw [List.length_map]; omega) rfl ?_ rfl (.inl rfl)
    refine ws_nil ⟨rfl, rfl, _, some (.d (.int c)), some (.d (li pl)), some (.d (ti (if k12Tr ns then lsum (pl.map fun x => ld.getD x.toNat []) w else v))), ⟨⟨hlen, hok⟩, hf⟩, ?_⟩
    rw [List.map_append]
    rfl
  rintro _ _ _ ⟨rfl, rfl, ps, o1, o2, o3, ⟨⟨hpl, hpp⟩, hf⟩, rfl⟩
  rw [hcs] at hpl hf
  rw [List.length_map] at hpl hf
  rw [List.drop_length] at hf
  have hf : k12Raw (k12Tr ns) w ld cs = ps := hf
  rw [hf]
  have b := mix_lt (c := cellAt ns 1) (p := 10321) (m := (ps.length : Int) + 1) (by omega)
  refine ws_set (i := 7) rfl (p_call k_l_mix (hr.mono (by decide)) (pas_cons (p_call k_l_cell_at (hr.mono (by decide)) (pas_cons (p_var 0 rfl) (pas_cons p_int pas_nil)) (fun _ _ _ _ => ⟨_, _, rfl, (by decide), rfl⟩)) (pas_cons p_int (pas_cons (q_add (q_len (pas_cons (p_var 2 rfl) pas_nil) T.b_len) p_int (by walk_at "s")) pas_nil))) (fun _ _ _ _ => ⟨_, _, _, rfl, ⟨by decide, by omega⟩, rfl⟩)) rfl ?_ sc_l_parcels.nd (.inl rfl)
  have b : 0 ≤ k12At ns ps.length ∧ k12At ns ps.length < ps.length + 1 := b
  have e9 : mix (cellAt ns 1) 10321 ((ps.length : Int) + 1) = k12At ns ps.length := rfl
  rw [e9]
  rw [← hpl]
  refine ws_none 4 (ws_none 5 (ws_none 6 ?_))
  refine ws_ifJ (fun B' H' δ' => B = B' ∧ H = H' ∧ δ' = [some (.s ns), some (.d (.list (ld.map ti))), some (.o ((k12Ps ns (k12Tr ns) ps).map prD)), some (.d (.bool (k12Tr ns))), none, none, none, some (.d (.int (k12At ns ps.length))), none]) (t_w (w_and (t_of (p_var 3 rfl)) (fun hb => (w_and1 (t_cm (c_lt (p_var 7 rfl) (q_len (pas_cons (p_var 2 rfl) pas_nil) T.b_len))))))) (fun hc => ?_) (fun hc => ?_) ?_
  · have hc' : k12Tr ns = true ∧ k12At ns ps.length < ps.length := by simpa using hc
    have ok := hpp _ (pAt_mem ⟨b.1, hc'.2⟩)
    refine ws_put (i := 2) rfl (q_tuple (pas_cons (p_at (p_at (p_var 2 rfl) (p_var 7 rfl) (at_d (f := prD) b.1 (pAt_in ⟨b.1, hc'.2⟩))) p_int (at_k 0 rfl)) (pas_cons (p_call k_l_turned (hr.mono (by decide)) (pas_cons (p_at (p_at (p_var 2 rfl) (p_var 7 rfl) (at_d (f := prD) b.1 (pAt_in ⟨b.1, hc'.2⟩))) p_int (at_k 1 rfl)) (pas_cons (p_call k_l_cell_at (hr.mono (by decide)) (pas_cons (p_var 0 rfl) (pas_cons p_int pas_nil)) (fun _ _ _ _ => ⟨_, _, rfl, (by decide), rfl⟩)) pas_nil)) (fun _ _ _ _ => ⟨_, _, rfl, ⟨by have := ok.val.1; omega, by have := ok.val.1; omega⟩, rfl⟩)) pas_nil)) (by walk_at "s")) (p_var 7 rfl) (ix_in ⟨b.1, by rw [List.length_map]; exact hc'.2⟩) rfl ?_ rfl (.inl rfl)
    refine ws_nil ⟨rfl, rfl, ?_⟩
    unfold k12Ps
    rw [if_pos hc']
    unfold turnAt
    rw [List.map_set]
    rfl
  · have hc' : ¬ (k12Tr ns = true ∧ k12At ns ps.length < ps.length) := by
      rintro ⟨h1, h2⟩
      rw [h1, decide_eq_true h2] at hc
      cases hc
    refine ws_nil ⟨rfl, rfl, ?_⟩
    unfold k12Ps
    rw [if_neg hc']
    rfl
  rintro _ _ _ ⟨rfl, rfl, rfl⟩
  refine ws_let 2 rfl ?_
  refine ws_ret (q_list (pas_cons (p_var 2 rfl) (pas_cons (p_var 3 rfl) (pas_cons (p_var 7 rfl) pas_nil))) (by walk_at "s")) ⟨.rfl' s, rfl⟩
/-! ### law -/
abbrev s_law : Stmt := topS 36
theorem sc_law : FnScope ["_law_script", "_law_many", "_law_wide", "_law_load_here", "_law_parcels_here", "_law_true", "_law_at", "_law_copied", "_law_found", "_law_k", "_law_rest", "_law_one"] ["_law_script"] (defScope s_law) := ⟨rfl, rfl, rfl, by decide +kernel, rfl, by decide +kernel, by decide +kernel⟩
def rel_law : Rel := fun _ _ as r => ∃ ns : List Int, as = [.s ns] ∧ ns.length ≤ 63 ∧ r = .ret (.d (.bool true))
theorem ok_law {P : Program} {w : World} {K : PySem.W.Frag} {mg : Str → Option Value} {base : Heap} {f : Addr} {fd : FuncData} (F : Fun K "law" "law" s_law f fd) (T : Bi mg) (k_l_sizes : Kn P w K mg base "_law_sizes" 2 rel_l_sizes) (k_l_load : Kn P w K mg base "_law_load" 3 rel_l_load) (k_l_parcels : Kn P w K mg base "_law_parcels" 4 rel_l_parcels) (k_suspects : Kn P w K mg base "suspects" 6 rel_suspects) (k_l_fits : Kn P w K mg base "_law_fits" 6 rel_l_fits) (k_l_cell_at : Kn P w K mg base "_law_cell_at" 1 rel_l_cell_at) (k_l_rising : Kn P w K mg base "_law_rising" 2 rel_l_rising) (k_l_quarrels : Kn P w K mg base "_law_quarrels" 6 rel_l_quarrels) : FnOk P w K mg base CX0 7 f fd ["_law_script"] (spG K rel_law) := by
  refine fn_ws F sc_law fun B H as r s h => ?_
  obtain ⟨ns, rfl, hn, rfl⟩ := h
  refine ⟨⟨rfl, by simp [keep]⟩, _, rfl, fun cdv A outer s0 H0 E hr => ?_⟩
  have hm := sizeMany_bd (cellAt ns 0)
  have hw := sizeWide_bd (cellAt ns 1)
  generalize hM : sizeMany (cellAt ns 0) = many at hm
  generalize hW : sizeWide (cellAt ns 1) = wide at hw
  refine ws_twoL (i := 1) (j := 2) (p_call k_l_sizes (hr.mono (by decide)) (pas_cons (p_call k_l_cell_at (hr.mono (by decide)) (pas_cons (p_var 0 rfl) (pas_cons p_int pas_nil)) (fun _ _ _ _ => ⟨_, _, rfl, (by decide), rfl⟩)) (pas_cons (p_call k_l_cell_at (hr.mono (by decide)) (pas_cons (p_var 0 rfl) (pas_cons p_int pas_nil)) (fun _ _ _ _ => ⟨_, _, rfl, (by decide), rfl⟩)) pas_nil)) (fun _ _ _ _ => ⟨_, _, rfl, rfl⟩)) ?_ sc_law.nd rfl rfl (.inl rfl) (.inl rfl) rfl
  rw [hM, hW]
  refine ws_set (i := 3) rfl (p_call k_l_load (hr.mono (by decide)) (pas_cons (p_call k_l_cell_at (hr.mono (by decide)) (pas_cons (p_var 0 rfl) (pas_cons p_int pas_nil)) (fun _ _ _ _ => ⟨_, _, rfl, (by decide), rfl⟩)) (pas_cons (p_var 1 rfl) (pas_cons (p_var 2 rfl) pas_nil))) (fun _ _ _ _ => ⟨_, _, _, rfl, ⟨by omega, by omega, by omega, by omega⟩, rfl⟩)) rfl ?_ sc_law.nd (.inl rfl)
  have hld := loadOf_len (cellAt ns 2) many.toNat wide.toNat
  have hlv : ∀ v ∈ loadOf (cellAt ns 2) many.toNat wide.toNat, Val wide.toNat v := loadOf_val
  generalize hL : loadOf (cellAt ns 2) many.toNat wide.toNat = ld at hld hlv
  have hlm : ((ld.length : Nat) : Int) = many := by omega
  have hcl : (cut ns (some 3) (some 12)).length ≤ 9 := cut_len2 (by decide) (by decide)
  refine ws_thrL (i := 4) (j := 5) (l := 6) (p_call k_l_parcels (hr.mono (by decide)) (pas_cons (p_var 0 rfl) (pas_cons (p_var 3 rfl) pas_nil)) (fun _ _ _ _ => ⟨_, _, _, rfl, ⟨by omega, by omega, by omega, by omega, hlv⟩, rfl⟩)) ?_ sc_law.nd rfl rfl rfl (.inl rfl) (.inl rfl) (.inl rfl) rfl
  generalize hcs : cut ns (some 3) (some 12) = cs at *
  obtain ⟨o1, o2⟩ := k12Ps_ok (w := wide.toNat) (ld := ld) (cs := cs) (ns := ns) (by omega) (by omega)
  have lst := k12_last (w := wide.toNat) (ld := ld) (cs := cs) (ns := ns) (by omega) (by omega) hlv
  rw [hlm] at o1
  generalize k12Ps ns (k12Tr ns) (k12Raw (k12Tr ns) wide.toNat ld cs) = ps at *
  have ok : PsOk many wide.toNat ps := ⟨by omega, by omega, by omega, by omega, o1⟩
  refine ws_lc (xs := ps.map prD) (i := 7) (s_lcA (i := 11) (q_iter (p_var 4 rfl)) rfl (fun z hz s H C cl fp => (q_tuple (pas_cons (n_list1 (pas_cons (p_at (p_var 11 rfl) p_int (at_k 0 rfl)) pas_nil) T.b_list).dat (pas_cons (p_at (p_var 11 rfl) p_int (at_k 1 rfl)) pas_nil)) (by walk_at "s"))) (by omega) rfl sc_law.nd (by kernel_rfl) (fun _ _ _ _ _ => pg_name (i := 11) sc_law.nd rfl (.inl rfl)) rfl rfl (sw_true rfl rfl rfl (by kernel_rfl))) ?_
  refine ws_set (i := 8) rfl (p_call k_suspects (hr.mono (by decide)) (pas_cons (p_var 7 rfl) pas_nil) (fun _ _ _ _ => ⟨_, _, _, rfl, ok, rfl⟩)) rfl ?_ sc_law.nd (.inl rfl)
  have sr : Rise (suspectsOf ps) ∧ (∀ x ∈ suspectsOf ps, x ∈ upI ps.length) ∧ (suspectsOf ps).length ≤ 1000 := by
    unfold suspectsOf
    split
    · exact ⟨List.Pairwise.nil, fun _ h => (List.not_mem_nil h).elim, by decide⟩
    · refine ⟨List.pairwise_map.mpr ((List.pairwise_lt_range.sublist List.filter_sublist).imp fun h => by omega), fun x hx => ?_, ?_⟩
      · obtain ⟨k, hk, rfl⟩ := List.mem_map.mp hx
        have := List.mem_range.mp (List.mem_filter.mp hk).1
        exact upI_mem.mpr (by omega)
      · rw [List.length_map]
        have := List.length_filter_le (fun k => (rowsOf (lessOne ps k)).2.isNone) (List.range ps.length)
        rw [List.length_range] at this
        omega
  refine ws_if (t_w (w_or (t_cm (q_ne (p_var 7 rfl) (p_var 4 rfl) ⟨sh_prs ps, sh_prs ps⟩ hr.units)) (fun hb => (w_or1 (t_not (t_of (p_call k_l_rising (hr.mono (by decide)) (pas_cons (p_var 8 rfl) (pas_cons (n_listRg (q_len (pas_cons (p_var 4 rfl) pas_nil) T.b_len) ⟨by omega, by omega⟩ rfl T.b_list T.b_range).dat pas_nil)) (fun _ _ _ _ => ⟨_, _, rfl, sr, rfl⟩)))))))) (fun hc => ?_) (fun hc => ?_)
  · exfalso
    rw [(sh_prs ps).same] at hc
    cases hc
  refine ws_nil ?_
  refine ws_if (t_of (p_call k_l_fits (hr.mono (by decide)) (pas_cons (p_var 4 rfl) (pas_cons (p_var 1 rfl) (pas_cons (p_var 2 rfl) pas_nil))) (fun _ _ _ _ => ⟨_, _, _, rfl, ⟨by omega, ok⟩, rfl⟩))) (fun hc => ?_) (fun hc => ?_)
  · refine ws_ret (p_cm (q_eq (p_var 8 rfl) (q_list pas_nil (by walk_at "s")) (by walk_at "s") hr.units)) ⟨.rfl' s, ?_⟩
    unfold suspectsOf
    rw [if_pos hc]
    rfl
  have hnone : (rowsOf ps).2.isNone = false := hc
  refine ws_nil ?_
  refine ws_for (i := 9) (fun k B' H' δ' => B = B' ∧ H = H' ∧ ∃ (o1 o2 : Option GL.A), δ' = [some (.s ns), some (.d (.int many)), some (.d (.int wide)), some (.d (.list (ld.map ti))), some (.d (.list (ps.map prD))), some (.d (.bool (k12Tr ns))), some (.d (.int (k12At ns cs.length))), some (.d (.list (ps.map prD))), some (.d (li (suspectsOf ps))), o1, o2, none]) (i_range (q_len (pas_cons (p_var 4 rfl) pas_nil) T.b_len) (by omega) (by omega) T.b_range) ?_ ?_ ?_ rfl sc_law.nd (.inl rfl) rfl PassesOwn.never
  · exact ⟨rfl, rfl, none, none, rfl⟩
  · rintro k z _ _ _ hk ⟨rfl, rfl, o1', o2', rfl⟩
    obtain ⟨hk2, rfl⟩ := upto_get hk
    have hk3 : k < ps.length := by omega
    refine ws_set (i := 10) rfl (q_add (q_slice (p_var 4 rfl) o_none (o_some (p_var 9 rfl))) (q_slice (p_var 4 rfl) (o_some (q_add (p_var 9 rfl) p_int trivial)) o_none) (by
      have l1 := cut_len (zs := ps) (l := none) (u := some (k : Int))
      have l2 := cut_len (zs := ps) (l := some ((k : Int) + 1)) (u := none)
      omega)) rfl ?_ sc_law.nd (.inl rfl)
    rw [cut_two]
    have ok2 : PsOk many wide.toNat (lessOne ps k) := ⟨by omega, by omega, by omega, by rw [lessOne_len hk3]; omega, fun p hp => o1 p (lessOne_mem hp)⟩
    have hin : (k : Int) ∈ suspectsOf ps ↔ (rowsOf (lessOne ps k)).2.isNone = true := by
      unfold suspectsOf
      rw [hnone]
      constructor
      · intro h
        obtain ⟨j, hj, e⟩ := List.mem_map.mp h
        have e : j = k := by omega
        subst e
        exact (List.mem_filter.mp hj).2
      · intro h
        exact List.mem_map.mpr ⟨k, List.mem_filter.mpr ⟨List.mem_range.mpr hk3, h⟩, rfl⟩
    refine ws_if (t_w (w_or (t_w (w_and (t_cm (q_in (p_var 9 rfl) (p_var 8 rfl))) (fun hb => (w_and1 (t_not (t_of (p_call k_l_fits (hr.mono (by decide)) (pas_cons (p_var 10 rfl) (pas_cons (p_var 1 rfl) (pas_cons (p_var 2 rfl) pas_nil))) (fun _ _ _ _ => ⟨_, _, _, rfl, ⟨by omega, ok2⟩, rfl⟩)))))))) (fun hb => (w_or1 (t_w (w_and (t_cm (q_notIn (p_var 9 rfl) (p_var 8 rfl))) (fun hb => (w_and1 (t_not (t_of (p_call k_l_quarrels (hr.mono (by decide)) (pas_cons (p_var 10 rfl) (pas_cons (p_var 2 rfl) pas_nil)) (fun _ _ _ _ => ⟨_, _, rfl, ⟨many, ok2⟩, rfl⟩)))))))))))) (fun hc => ?_) (fun hc => ?_)
    · exfalso
      by_cases q : (k : Int) ∈ suspectsOf ps
      · rw [decide_eq_true q, hin.mp q] at hc
        cases hc
      · have e : (rowsOf (lessOne ps k)).2.isNone = false := by
          cases r : (rowsOf (lessOne ps k)).2.isNone with
          | false => rfl
          | true => exact (q (hin.mpr r)).elim
        have e2 : (rowsOf (lessOne ps k)).2.isSome = true := by
          cases r : (rowsOf (lessOne ps k)).2 with
          | none => rw [r] at e; cases e
          | some _ => rfl
        rw [decide_eq_false q, e2] at hc
        cases hc
    exact ws_nil (ws_nil ⟨rfl, rfl, _, _, rfl⟩)
  rintro _ _ _ ⟨rfl, rfl, o1', o2', rfl⟩
  refine ws_ret (p_or (p_not (p_var 5 rfl)) (fun hb => (p_one (p_cm (q_in (p_var 6 rfl) (p_var 8 rfl)))))) ⟨.rfl' s, ?_⟩
  cases ht : k12Tr ns with
  | false => rfl
  | true =>
    rw [decide_eq_true (lst ht hnone)]
    rfl
theorem all_mk {l : PySem.W.OpenLaw} {w : World} {K : PySem.W.Frag} {h : Heap} {mg : Str → Option Value} {fa f1 f2 f3 f4 f5 f6 f7 f8 f9 f10 f11 f12 f13 f14 f15 f16 f17 f18 f19 f20 f21 f22 f23 f24 f25 f26 f27 f28 : Addr} (X : K.In h) (G : h.Ns mainGlobals mg) (hfa : mg "law" = some (.ref fa))
    {od1 an1 od2 an2 od3 an3 od4 an4 od5 an5 od6 an6 od7 an7 od8 an8 od9 an9 od10 an10 od11 an11 od12 an12 od13 an13 od14 an14 od15 an15 od16 an16 od17 an17 od18 an18 od19 an19 od20 an20 od21 an21 od22 an22 od23 an23 od24 an24 od25 an25 od26 an26 od27 an27 od28 an28 : Option Addr} {sl1 sl2 sl3 sl4 sl5 sl6 sl7 sl8 sl9 sl10 sl11 sl12 sl13 sl14 sl15 sl16 sl17 sl18 sl19 sl20 sl21 sl22 sl23 sl24 sl25 sl26 sl27 sl28 : Array (Option Value)} {oc1 kV1 dc1 pm1 cd1 ct1 oc2 kV2 dc2 pm2 cd2 ct2 oc3 kV3 dc3 pm3 cd3 ct3 oc4 kV4 dc4 pm4 cd4 ct4 oc5 kV5 dc5 pm5 cd5 ct5 oc6 kV6 dc6 pm6 cd6 ct6 oc7 kV7 dc7 pm7 cd7 ct7 oc8 kV8 dc8 pm8 cd8 ct8 oc9 kV9 dc9 pm9 cd9 ct9 oc10 kV10 dc10 pm10 cd10 ct10 oc11 kV11 dc11 pm11 cd11 ct11 oc12 kV12 dc12 pm12 cd12 ct12 oc13 kV13 dc13 pm13 cd13 ct13 oc14 kV14 dc14 pm14 cd14 ct14 oc15 kV15 dc15 pm15 cd15 ct15 oc16 kV16 dc16 pm16 cd16 ct16 oc17 kV17 dc17 pm17 cd17 ct17 oc18 kV18 dc18 pm18 cd18 ct18 oc19 kV19 dc19 pm19 cd19 ct19 oc20 kV20 dc20 pm20 cd20 ct20 oc21 kV21 dc21 pm21 cd21 ct21 oc22 kV22 dc22 pm22 cd22 ct22 oc23 kV23 dc23 pm23 cd23 ct23 oc24 kV24 dc24 pm24 cd24 ct24 oc25 kV25 dc25 pm25 cd25 ct25 oc26 kV26 dc26 pm26 cd26 ct26 oc27 kV27 dc27 pm27 cd27 ct27 oc28 kV28 dc28 pm28 cd28 ct28 : Value}
    (a1 : PySem.W.nsIn K mainGlobals "odd_ones" = some (some (.ref f1))) (l1 : K.lookup f1 = some ⟨oc1, od1, .func (PySem.W.fnOf "odd_ones" "odd_ones" (defArgs s_odd_ones) (defBody s_odd_ones) (defScope s_odd_ones) .none kV1 dc1 pm1 an1 cd1 ct1), sl1⟩) (c1 : PySem.W.codeIn K cd1 "odd_ones" = true) (k1 : PySem.W.keepIn K (.ref f1) = true)
    (a2 : PySem.W.nsIn K mainGlobals "added" = some (some (.ref f2))) (l2 : K.lookup f2 = some ⟨oc2, od2, .func (PySem.W.fnOf "added" "added" (defArgs s_added) (defBody s_added) (defScope s_added) .none kV2 dc2 pm2 an2 cd2 ct2), sl2⟩) (c2 : PySem.W.codeIn K cd2 "added" = true) (k2 : PySem.W.keepIn K (.ref f2) = true)
    (a3 : PySem.W.nsIn K mainGlobals "nought" = some (some (.ref f3))) (l3 : K.lookup f3 = some ⟨oc3, od3, .func (PySem.W.fnOf "nought" "nought" (defArgs s_nought) (defBody s_nought) (defScope s_nought) .none kV3 dc3 pm3 an3 cd3 ct3), sl3⟩) (c3 : PySem.W.codeIn K cd3 "nought" = true) (k3 : PySem.W.keepIn K (.ref f3) = true)
    (a4 : PySem.W.nsIn K mainGlobals "joined" = some (some (.ref f4))) (l4 : K.lookup f4 = some ⟨oc4, od4, .func (PySem.W.fnOf "joined" "joined" (defArgs s_joined) (defBody s_joined) (defScope s_joined) .none kV4 dc4 pm4 an4 cd4 ct4), sl4⟩) (c4 : PySem.W.codeIn K cd4 "joined" = true) (k4 : PySem.W.keepIn K (.ref f4) = true)
    (a5 : PySem.W.nsIn K mainGlobals "reduced" = some (some (.ref f5))) (l5 : K.lookup f5 = some ⟨oc5, od5, .func (PySem.W.fnOf "reduced" "reduced" (defArgs s_reduced) (defBody s_reduced) (defScope s_reduced) .none kV5 dc5 pm5 an5 cd5 ct5), sl5⟩) (c5 : PySem.W.codeIn K cd5 "reduced" = true) (k5 : PySem.W.keepIn K (.ref f5) = true)
    (a6 : PySem.W.nsIn K mainGlobals "with_row" = some (some (.ref f6))) (l6 : K.lookup f6 = some ⟨oc6, od6, .func (PySem.W.fnOf "with_row" "with_row" (defArgs s_with_row) (defBody s_with_row) (defScope s_with_row) .none kV6 dc6 pm6 an6 cd6 ct6), sl6⟩) (c6 : PySem.W.codeIn K cd6 "with_row" = true) (k6 : PySem.W.keepIn K (.ref f6) = true)
    (a7 : PySem.W.nsIn K mainGlobals "rows_of" = some (some (.ref f7))) (l7 : K.lookup f7 = some ⟨oc7, od7, .func (PySem.W.fnOf "rows_of" "rows_of" (defArgs s_rows_of) (defBody s_rows_of) (defScope s_rows_of) .none kV7 dc7 pm7 an7 cd7 ct7), sl7⟩) (c7 : PySem.W.codeIn K cd7 "rows_of" = true) (k7 : PySem.W.keepIn K (.ref f7) = true)
    (a8 : PySem.W.nsIn K mainGlobals "quarrel" = some (some (.ref f8))) (l8 : K.lookup f8 = some ⟨oc8, od8, .func (PySem.W.fnOf "quarrel" "quarrel" (defArgs s_quarrel) (defBody s_quarrel) (defScope s_quarrel) .none kV8 dc8 pm8 an8 cd8 ct8), sl8⟩) (c8 : PySem.W.codeIn K cd8 "quarrel" = true) (k8 : PySem.W.keepIn K (.ref f8) = true)
    (a9 : PySem.W.nsIn K mainGlobals "fitting" = some (some (.ref f9))) (l9 : K.lookup f9 = some ⟨oc9, od9, .func (PySem.W.fnOf "fitting" "fitting" (defArgs s_fitting) (defBody s_fitting) (defScope s_fitting) .none kV9 dc9 pm9 an9 cd9 ct9), sl9⟩) (c9 : PySem.W.codeIn K cd9 "fitting" = true) (k9 : PySem.W.keepIn K (.ref f9) = true)
    (a10 : PySem.W.nsIn K mainGlobals "suspects" = some (some (.ref f10))) (l10 : K.lookup f10 = some ⟨oc10, od10, .func (PySem.W.fnOf "suspects" "suspects" (defArgs s_suspects) (defBody s_suspects) (defScope s_suspects) .none kV10 dc10 pm10 an10 cd10 ct10), sl10⟩) (c10 : PySem.W.codeIn K cd10 "suspects" = true) (k10 : PySem.W.keepIn K (.ref f10) = true)
    (a11 : PySem.W.nsIn K mainGlobals "_law_whole" = some (some (.ref f11))) (l11 : K.lookup f11 = some ⟨oc11, od11, .func (PySem.W.fnOf "_law_whole" "_law_whole" (defArgs s_l_whole) (defBody s_l_whole) (defScope s_l_whole) .none kV11 dc11 pm11 an11 cd11 ct11), sl11⟩) (c11 : PySem.W.codeIn K cd11 "_law_whole" = true) (k11 : PySem.W.keepIn K (.ref f11) = true)
    (a12 : PySem.W.nsIn K mainGlobals "_law_cell_at" = some (some (.ref f12))) (l12 : K.lookup f12 = some ⟨oc12, od12, .func (PySem.W.fnOf "_law_cell_at" "_law_cell_at" (defArgs s_l_cell_at) (defBody s_l_cell_at) (defScope s_l_cell_at) .none kV12 dc12 pm12 an12 cd12 ct12), sl12⟩) (c12 : PySem.W.codeIn K cd12 "_law_cell_at" = true) (k12 : PySem.W.keepIn K (.ref f12) = true)
    (a13 : PySem.W.nsIn K mainGlobals "_law_mix" = some (some (.ref f13))) (l13 : K.lookup f13 = some ⟨oc13, od13, .func (PySem.W.fnOf "_law_mix" "_law_mix" (defArgs s_l_mix) (defBody s_l_mix) (defScope s_l_mix) .none kV13 dc13 pm13 an13 cd13 ct13), sl13⟩) (c13 : PySem.W.codeIn K cd13 "_law_mix" = true) (k13 : PySem.W.keepIn K (.ref f13) = true)
    (a14 : PySem.W.nsIn K mainGlobals "_law_mixed" = some (some (.ref f14))) (l14 : K.lookup f14 = some ⟨oc14, od14, .func (PySem.W.fnOf "_law_mixed" "_law_mixed" (defArgs s_l_mixed) (defBody s_l_mixed) (defScope s_l_mixed) .none kV14 dc14 pm14 an14 cd14 ct14), sl14⟩) (c14 : PySem.W.codeIn K cd14 "_law_mixed" = true) (k14 : PySem.W.keepIn K (.ref f14) = true)
    (a15 : PySem.W.nsIn K mainGlobals "_law_bits" = some (some (.ref f15))) (l15 : K.lookup f15 = some ⟨oc15, od15, .func (PySem.W.fnOf "_law_bits" "_law_bits" (defArgs s_l_bits) (defBody s_l_bits) (defScope s_l_bits) .none kV15 dc15 pm15 an15 cd15 ct15), sl15⟩) (c15 : PySem.W.codeIn K cd15 "_law_bits" = true) (k15 : PySem.W.keepIn K (.ref f15) = true)
    (a16 : PySem.W.nsIn K mainGlobals "_law_set" = some (some (.ref f16))) (l16 : K.lookup f16 = some ⟨oc16, od16, .func (PySem.W.fnOf "_law_set" "_law_set" (defArgs s_l_set) (defBody s_l_set) (defScope s_l_set) .none kV16 dc16 pm16 an16 cd16 ct16), sl16⟩) (c16 : PySem.W.codeIn K cd16 "_law_set" = true) (k16 : PySem.W.keepIn K (.ref f16) = true)
    (a17 : PySem.W.nsIn K mainGlobals "_law_odd" = some (some (.ref f17))) (l17 : K.lookup f17 = some ⟨oc17, od17, .func (PySem.W.fnOf "_law_odd" "_law_odd" (defArgs s_l_odd) (defBody s_l_odd) (defScope s_l_odd) .none kV17 dc17 pm17 an17 cd17 ct17), sl17⟩) (c17 : PySem.W.codeIn K cd17 "_law_odd" = true) (k17 : PySem.W.keepIn K (.ref f17) = true)
    (a18 : PySem.W.nsIn K mainGlobals "_law_sum" = some (some (.ref f18))) (l18 : K.lookup f18 = some ⟨oc18, od18, .func (PySem.W.fnOf "_law_sum" "_law_sum" (defArgs s_l_sum) (defBody s_l_sum) (defScope s_l_sum) .none kV18 dc18 pm18 an18 cd18 ct18), sl18⟩) (c18 : PySem.W.codeIn K cd18 "_law_sum" = true) (k18 : PySem.W.keepIn K (.ref f18) = true)
    (a19 : PySem.W.nsIn K mainGlobals "_law_sizes" = some (some (.ref f19))) (l19 : K.lookup f19 = some ⟨oc19, od19, .func (PySem.W.fnOf "_law_sizes" "_law_sizes" (defArgs s_l_sizes) (defBody s_l_sizes) (defScope s_l_sizes) .none kV19 dc19 pm19 an19 cd19 ct19), sl19⟩) (c19 : PySem.W.codeIn K cd19 "_law_sizes" = true) (k19 : PySem.W.keepIn K (.ref f19) = true)
    (a20 : PySem.W.nsIn K mainGlobals "_law_load" = some (some (.ref f20))) (l20 : K.lookup f20 = some ⟨oc20, od20, .func (PySem.W.fnOf "_law_load" "_law_load" (defArgs s_l_load) (defBody s_l_load) (defScope s_l_load) .none kV20 dc20 pm20 an20 cd20 ct20), sl20⟩) (c20 : PySem.W.codeIn K cd20 "_law_load" = true) (k20 : PySem.W.keepIn K (.ref f20) = true)
    (a21 : PySem.W.nsIn K mainGlobals "_law_turned" = some (some (.ref f21))) (l21 : K.lookup f21 = some ⟨oc21, od21, .func (PySem.W.fnOf "_law_turned" "_law_turned" (defArgs s_l_turned) (defBody s_l_turned) (defScope s_l_turned) .none kV21 dc21 pm21 an21 cd21 ct21), sl21⟩) (c21 : PySem.W.codeIn K cd21 "_law_turned" = true) (k21 : PySem.W.keepIn K (.ref f21) = true)
    (a22 : PySem.W.nsIn K mainGlobals "_law_parcel" = some (some (.ref f22))) (l22 : K.lookup f22 = some ⟨oc22, od22, .func (PySem.W.fnOf "_law_parcel" "_law_parcel" (defArgs s_l_parcel) (defBody s_l_parcel) (defScope s_l_parcel) .none kV22 dc22 pm22 an22 cd22 ct22), sl22⟩) (c22 : PySem.W.codeIn K cd22 "_law_parcel" = true) (k22 : PySem.W.keepIn K (.ref f22) = true)
    (a23 : PySem.W.nsIn K mainGlobals "_law_rising" = some (some (.ref f23))) (l23 : K.lookup f23 = some ⟨oc23, od23, .func (PySem.W.fnOf "_law_rising" "_law_rising" (defArgs s_l_rising) (defBody s_l_rising) (defScope s_l_rising) .none kV23 dc23 pm23 an23 cd23 ct23), sl23⟩) (c23 : PySem.W.codeIn K cd23 "_law_rising" = true) (k23 : PySem.W.keepIn K (.ref f23) = true)
    (a24 : PySem.W.nsIn K mainGlobals "_law_value" = some (some (.ref f24))) (l24 : K.lookup f24 = some ⟨oc24, od24, .func (PySem.W.fnOf "_law_value" "_law_value" (defArgs s_l_value) (defBody s_l_value) (defScope s_l_value) .none kV24 dc24 pm24 an24 cd24 ct24), sl24⟩) (c24 : PySem.W.codeIn K cd24 "_law_value" = true) (k24 : PySem.W.keepIn K (.ref f24) = true)
    (a25 : PySem.W.nsIn K mainGlobals "_law_fits" = some (some (.ref f25))) (l25 : K.lookup f25 = some ⟨oc25, od25, .func (PySem.W.fnOf "_law_fits" "_law_fits" (defArgs s_l_fits) (defBody s_l_fits) (defScope s_l_fits) .none kV25 dc25 pm25 an25 cd25 ct25), sl25⟩) (c25 : PySem.W.codeIn K cd25 "_law_fits" = true) (k25 : PySem.W.keepIn K (.ref f25) = true)
    (a26 : PySem.W.nsIn K mainGlobals "_law_quarrels" = some (some (.ref f26))) (l26 : K.lookup f26 = some ⟨oc26, od26, .func (PySem.W.fnOf "_law_quarrels" "_law_quarrels" (defArgs s_l_quarrels) (defBody s_l_quarrels) (defScope s_l_quarrels) .none kV26 dc26 pm26 an26 cd26 ct26), sl26⟩) (c26 : PySem.W.codeIn K cd26 "_law_quarrels" = true) (k26 : PySem.W.keepIn K (.ref f26) = true)
    (a27 : PySem.W.nsIn K mainGlobals "_law_parcels" = some (some (.ref f27))) (l27 : K.lookup f27 = some ⟨oc27, od27, .func (PySem.W.fnOf "_law_parcels" "_law_parcels" (defArgs s_l_parcels) (defBody s_l_parcels) (defScope s_l_parcels) .none kV27 dc27 pm27 an27 cd27 ct27), sl27⟩) (c27 : PySem.W.codeIn K cd27 "_law_parcels" = true) (k27 : PySem.W.keepIn K (.ref f27) = true)
    (a28 : PySem.W.nsIn K mainGlobals "law" = some (some (.ref f28))) (l28 : K.lookup f28 = some ⟨oc28, od28, .func (PySem.W.fnOf "law" "law" (defArgs s_law) (defBody s_law) (defScope s_law) .none kV28 dc28 pm28 an28 cd28 ct28), sl28⟩) (c28 : PySem.W.codeIn K cd28 "law" = true) (k28 : PySem.W.keepIn K (.ref f28) = true)
    (z_sorted : PySem.W.nsIn K mainGlobals "sorted" = some none)
    (z_tuple : PySem.W.nsIn K mainGlobals "tuple" = some none)
    (z_zip : PySem.W.nsIn K mainGlobals "zip" = some none)
    (z_range : PySem.W.nsIn K mainGlobals "range" = some none)
    (z_len : PySem.W.nsIn K mainGlobals "len" = some none)
    (z_list : PySem.W.nsIn K mainGlobals "list" = some none)
    (z_isinstance : PySem.W.nsIn K mainGlobals "isinstance" = some none)
    (z_int : PySem.W.nsIn K mainGlobals "int" = some none)
    (z_bool : PySem.W.nsIn K mainGlobals "bool" = some none)
    (z_set : PySem.W.nsIn K mainGlobals "set" = some none)
    (z_sum : PySem.W.nsIn K mainGlobals "sum" = some none) : ∃ fd : FuncData, (∀ (s : Shared) (v : Value), BindsTo s fd ⟨[v], []⟩ [("_law_script", v)]) ∧ ∀ base : Heap, K.In base → base.Ns mainGlobals mg → FnOk l.prog w K mg base CX0 7 fa fd ["_law_script"] (spG K rel_law) := by
  have e := hfa.symm.trans (PySem.W.mg_of X G a28)
  cases e
  have T : Bi mg := ⟨PySem.W.mg_none_of X G z_sorted, PySem.W.mg_none_of X G z_tuple, PySem.W.mg_none_of X G z_zip, PySem.W.mg_none_of X G z_range, PySem.W.mg_none_of X G z_len, PySem.W.mg_none_of X G z_list, PySem.W.mg_none_of X G z_isinstance, PySem.W.mg_none_of X G z_int, PySem.W.mg_none_of X G z_bool, PySem.W.mg_none_of X G z_set, PySem.W.mg_none_of X G z_sum⟩
  refine ⟨PySem.W.fnOf "law" "law" (defArgs s_law) (defBody s_law) (defScope s_law) .none kV28 dc28 pm28 an28 cd28 ct28, fun s v => .of_eq rfl, fun base _ _ => ?_⟩
  have F1 := fun_mk (st := s_odd_ones) l1 c1 k1
  have k_odd_ones : Kn l.prog w K mg base "odd_ones" 1 rel_odd_ones := kn_of (ok_odd_ones F1 T ) (PySem.W.mg_of X G a1) k1 (F1.binds (ps := ["one", "other"]) fun _ _ _ _ _ _ us hl => match us, hl with | [_, _], _ => rfl)
  have F2 := fun_mk (st := s_added) l2 c2 k2
  have k_added : Kn l.prog w K mg base "added" 1 rel_added := kn_of (ok_added F2 T ) (PySem.W.mg_of X G a2) k2 (F2.binds (ps := ["one", "other"]) fun _ _ _ _ _ _ us hl => match us, hl with | [_, _], _ => rfl)
  have F3 := fun_mk (st := s_nought) l3 c3 k3
  have k_nought : Kn l.prog w K mg base "nought" 1 rel_nought := kn_of (ok_nought F3 T ) (PySem.W.mg_of X G a3) k3 (F3.binds (ps := ["wide"]) fun _ _ _ _ _ _ us hl => match us, hl with | [_], _ => rfl)
  have F4 := fun_mk (st := s_joined) l4 c4 k4
  have k_joined : Kn l.prog w K mg base "joined" 2 rel_joined := kn_of (ok_joined F4 T k_odd_ones k_added) (PySem.W.mg_of X G a4) k4 (F4.binds (ps := ["row", "other"]) fun _ _ _ _ _ _ us hl => match us, hl with | [_, _], _ => rfl)
  have F5 := fun_mk (st := s_reduced) l5 c5 k5
  have k_reduced : Kn l.prog w K mg base "reduced" 3 rel_reduced := kn_of (ok_reduced F5 T k_joined) (PySem.W.mg_of X G a5) k5 (F5.binds (ps := ["rows", "row"]) fun _ _ _ _ _ _ us hl => match us, hl with | [_, _], _ => rfl)
  have F6 := fun_mk (st := s_with_row) l6 c6 k6
  have k_with_row : Kn l.prog w K mg base "with_row" 3 rel_with_row := kn_of (ok_with_row F6 T k_joined) (PySem.W.mg_of X G a6) k6 (F6.binds (ps := ["rows", "row"]) fun _ _ _ _ _ _ us hl => match us, hl with | [_, _], _ => rfl)
  have F7 := fun_mk (st := s_rows_of) l7 c7 k7
  have k_rows_of : Kn l.prog w K mg base "rows_of" 4 rel_rows_of := kn_of (ok_rows_of F7 T k_reduced k_with_row k_nought) (PySem.W.mg_of X G a7) k7 (F7.binds (ps := ["parcels"]) fun _ _ _ _ _ _ us hl => match us, hl with | [_], _ => rfl)
  have F8 := fun_mk (st := s_quarrel) l8 c8 k8
  have k_quarrel : Kn l.prog w K mg base "quarrel" 5 rel_quarrel := kn_of (ok_quarrel F8 T k_rows_of) (PySem.W.mg_of X G a8) k8 (F8.binds (ps := ["parcels"]) fun _ _ _ _ _ _ us hl => match us, hl with | [_], _ => rfl)
  have F9 := fun_mk (st := s_fitting) l9 c9 k9
  have k_fitting : Kn l.prog w K mg base "fitting" 5 rel_fitting := kn_of (ok_fitting F9 T k_rows_of k_nought) (PySem.W.mg_of X G a9) k9 (F9.binds (ps := ["parcels", "many", "wide"]) fun _ _ _ _ _ _ us hl => match us, hl with | [_, _, _], _ => rfl)
  have F10 := fun_mk (st := s_suspects) l10 c10 k10
  have k_suspects : Kn l.prog w K mg base "suspects" 6 rel_suspects := kn_of (ok_suspects F10 T k_quarrel) (PySem.W.mg_of X G a10) k10 (F10.binds (ps := ["parcels"]) fun _ _ _ _ _ _ us hl => match us, hl with | [_], _ => rfl)
  have F11 := fun_mk (st := s_l_whole) l11 c11 k11
  have k_l_whole : Kn l.prog w K mg base "_law_whole" 1 rel_l_whole := kn_of (ok_l_whole F11 T ) (PySem.W.mg_of X G a11) k11 (F11.binds (ps := ["_law_found"]) fun _ _ _ _ _ _ us hl => match us, hl with | [_], _ => rfl)
  have F12 := fun_mk (st := s_l_cell_at) l12 c12 k12
  have k_l_cell_at : Kn l.prog w K mg base "_law_cell_at" 1 rel_l_cell_at := kn_of (ok_l_cell_at F12 T ) (PySem.W.mg_of X G a12) k12 (F12.binds (ps := ["_law_script", "_law_k"]) fun _ _ _ _ _ _ us hl => match us, hl with | [_, _], _ => rfl)
  have F13 := fun_mk (st := s_l_mix) l13 c13 k13
  have k_l_mix : Kn l.prog w K mg base "_law_mix" 1 rel_l_mix := kn_of (ok_l_mix F13 T ) (PySem.W.mg_of X G a13) k13 (F13.binds (ps := ["_law_cell", "_law_prime", "_law_many"]) fun _ _ _ _ _ _ us hl => match us, hl with | [_, _, _], _ => rfl)
  have F14 := fun_mk (st := s_l_mixed) l14 c14 k14
  have k_l_mixed : Kn l.prog w K mg base "_law_mixed" 1 rel_l_mixed := kn_of (ok_l_mixed F14 T ) (PySem.W.mg_of X G a14) k14 (F14.binds (ps := ["_law_cell", "_law_k", "_law_many"]) fun _ _ _ _ _ _ us hl => match us, hl with | [_, _, _], _ => rfl)
  have F15 := fun_mk (st := s_l_bits) l15 c15 k15
  have k_l_bits : Kn l.prog w K mg base "_law_bits" 2 rel_l_bits := kn_of (ok_l_bits F15 T k_l_mixed) (PySem.W.mg_of X G a15) k15 (F15.binds (ps := ["_law_cell", "_law_wide"]) fun _ _ _ _ _ _ us hl => match us, hl with | [_, _], _ => rfl)
  have F16 := fun_mk (st := s_l_set) l16 c16 k16
  have k_l_set : Kn l.prog w K mg base "_law_set" 2 rel_l_set := kn_of (ok_l_set F16 T k_l_mix k_l_mixed) (PySem.W.mg_of X G a16) k16 (F16.binds (ps := ["_law_cell", "_law_many"]) fun _ _ _ _ _ _ us hl => match us, hl with | [_, _], _ => rfl)
  have F17 := fun_mk (st := s_l_odd) l17 c17 k17
  have k_l_odd : Kn l.prog w K mg base "_law_odd" 1 rel_l_odd := kn_of (ok_l_odd F17 T ) (PySem.W.mg_of X G a17) k17 (F17.binds (ps := ["_law_sets", "_law_many"]) fun _ _ _ _ _ _ us hl => match us, hl with | [_, _], _ => rfl)
  have F18 := fun_mk (st := s_l_sum) l18 c18 k18
  have k_l_sum : Kn l.prog w K mg base "_law_sum" 1 rel_l_sum := kn_of (ok_l_sum F18 T ) (PySem.W.mg_of X G a18) k18 (F18.binds (ps := ["_law_values", "_law_wide"]) fun _ _ _ _ _ _ us hl => match us, hl with | [_, _], _ => rfl)
  have F19 := fun_mk (st := s_l_sizes) l19 c19 k19
  have k_l_sizes : Kn l.prog w K mg base "_law_sizes" 2 rel_l_sizes := kn_of (ok_l_sizes F19 T k_l_mix) (PySem.W.mg_of X G a19) k19 (F19.binds (ps := ["_law_one", "_law_other"]) fun _ _ _ _ _ _ us hl => match us, hl with | [_, _], _ => rfl)
  have F20 := fun_mk (st := s_l_load) l20 c20 k20
  have k_l_load : Kn l.prog w K mg base "_law_load" 3 rel_l_load := kn_of (ok_l_load F20 T k_l_bits) (PySem.W.mg_of X G a20) k20 (F20.binds (ps := ["_law_cell", "_law_many", "_law_wide"]) fun _ _ _ _ _ _ us hl => match us, hl with | [_, _, _], _ => rfl)
  have F21 := fun_mk (st := s_l_turned) l21 c21 k21
  have k_l_turned : Kn l.prog w K mg base "_law_turned" 2 rel_l_turned := kn_of (ok_l_turned F21 T k_l_mix) (PySem.W.mg_of X G a21) k21 (F21.binds (ps := ["_law_value_here", "_law_cell"]) fun _ _ _ _ _ _ us hl => match us, hl with | [_, _], _ => rfl)
  have F22 := fun_mk (st := s_l_parcel) l22 c22 k22
  have k_l_parcel : Kn l.prog w K mg base "_law_parcel" 3 rel_l_parcel := kn_of (ok_l_parcel F22 T k_l_set k_l_mix k_l_odd k_l_sum k_l_turned k_l_bits) (PySem.W.mg_of X G a22) k22 (F22.binds (ps := ["_law_cell", "_law_load_here", "_law_before"]) fun _ _ _ _ _ _ us hl => match us, hl with | [_, _, _], _ => rfl)
  have F23 := fun_mk (st := s_l_rising) l23 c23 k23
  have k_l_rising : Kn l.prog w K mg base "_law_rising" 2 rel_l_rising := kn_of (ok_l_rising F23 T k_l_whole) (PySem.W.mg_of X G a23) k23 (F23.binds (ps := ["_law_found", "_law_some"]) fun _ _ _ _ _ _ us hl => match us, hl with | [_, _], _ => rfl)
  have F24 := fun_mk (st := s_l_value) l24 c24 k24
  have k_l_value : Kn l.prog w K mg base "_law_value" 2 rel_l_value := kn_of (ok_l_value F24 T k_l_whole) (PySem.W.mg_of X G a24) k24 (F24.binds (ps := ["_law_found", "_law_wide"]) fun _ _ _ _ _ _ us hl => match us, hl with | [_, _], _ => rfl)
  have F25 := fun_mk (st := s_l_fits) l25 c25 k25
  have k_l_fits : Kn l.prog w K mg base "_law_fits" 6 rel_l_fits := kn_of (ok_l_fits F25 T k_fitting k_l_value k_l_sum) (PySem.W.mg_of X G a25) k25 (F25.binds (ps := ["_law_parcels_here", "_law_many", "_law_wide"]) fun _ _ _ _ _ _ us hl => match us, hl with | [_, _, _], _ => rfl)
  have F26 := fun_mk (st := s_l_quarrels) l26 c26 k26
  have k_l_quarrels : Kn l.prog w K mg base "_law_quarrels" 6 rel_l_quarrels := kn_of (ok_l_quarrels F26 T k_quarrel k_l_odd k_l_sum k_l_rising) (PySem.W.mg_of X G a26) k26 (F26.binds (ps := ["_law_parcels_here", "_law_wide"]) fun _ _ _ _ _ _ us hl => match us, hl with | [_, _], _ => rfl)
  have F27 := fun_mk (st := s_l_parcels) l27 c27 k27
  have k_l_parcels : Kn l.prog w K mg base "_law_parcels" 4 rel_l_parcels := kn_of (ok_l_parcels F27 T k_l_mix k_l_parcel k_l_cell_at k_l_sum k_l_turned) (PySem.W.mg_of X G a27) k27 (F27.binds (ps := ["_law_script", "_law_load_here"]) fun _ _ _ _ _ _ us hl => match us, hl with | [_, _], _ => rfl)
  have F28 := fun_mk (st := s_law) l28 c28 k28
  exact ok_law F28 T k_l_sizes k_l_load k_l_parcels k_suspects k_l_fits k_l_cell_at k_l_rising k_l_quarrels
end K12
open PySem PySem.W PyProof.Rows in
set_option maxRecDepth 100000 in
set_option maxHeartbeats 0 in
theorem PySem.Challenge.cw_rainparcels_k12_suspects_holds : PySem.Challenge.rw_rainparcels_k12_suspects.Holds := by
  w_on; o_law; k_head; (case hw => w_witness2)
  k_fill
  refine L2.walk_of (l := PySem.Challenge.rw_rainparcels_k12_suspects) (n := 63) (k := 7) (x := "_law_script") (CX := fun _ => L2.CX0) (sp := fun w => GL.spG _ K12.rel_law) rfl (by decide) rfl ⟨rfl, by decide, by decide⟩ (fun w h Y => PySem.W.kIn_of Y) ?F (fun w H a ns hl _ hS => GL.law_in hl hS fun _ _ => ⟨ns, rfl, hl, rfl⟩) (fun _ _ _ _ _ z => z)
  case F =>
    intro w mg fa h KX G hmg
    refine' K12.all_mk KX G hmg ?a1 ?l1 ?c1 ?k1 ?a2 ?l2 ?c2 ?k2 ?a3 ?l3 ?c3 ?k3 ?a4 ?l4 ?c4 ?k4 ?a5 ?l5 ?c5 ?k5 ?a6 ?l6 ?c6 ?k6 ?a7 ?l7 ?c7 ?k7 ?a8 ?l8 ?c8 ?k8 ?a9 ?l9 ?c9 ?k9 ?a10 ?l10 ?c10 ?k10 ?a11 ?l11 ?c11 ?k11 ?a12 ?l12 ?c12 ?k12 ?a13 ?l13 ?c13 ?k13 ?a14 ?l14 ?c14 ?k14 ?a15 ?l15 ?c15 ?k15 ?a16 ?l16 ?c16 ?k16 ?a17 ?l17 ?c17 ?k17 ?a18 ?l18 ?c18 ?k18 ?a19 ?l19 ?c19 ?k19 ?a20 ?l20 ?c20 ?k20 ?a21 ?l21 ?c21 ?k21 ?a22 ?l22 ?c22 ?k22 ?a23 ?l23 ?c23 ?k23 ?a24 ?l24 ?c24 ?k24 ?a25 ?l25 ?c25 ?k25 ?a26 ?l26 ?c26 ?k26 ?a27 ?l27 ?c27 ?k27 ?a28 ?l28 ?c28 ?k28 ?z_sorted ?z_tuple ?z_zip ?z_range ?z_len ?z_list ?z_isinstance ?z_int ?z_bool ?z_set ?z_sum
    (case a1 => k_is)
    (case l1 => k_is)
    (case c1 => k_is)
    (case k1 => k_is)
    (case a2 => k_is)
    (case l2 => k_is)
    (case c2 => k_is)
    (case k2 => k_is)
    (case a3 => k_is)
    (case l3 => k_is)
    (case c3 => k_is)
    (case k3 => k_is)
    (case a4 => k_is)
    (case l4 => k_is)
    (case c4 => k_is)
    (case k4 => k_is)
    (case a5 => k_is)
    (case l5 => k_is)
    (case c5 => k_is)
    (case k5 => k_is)
    (case a6 => k_is)
    (case l6 => k_is)
    (case c6 => k_is)
    (case k6 => k_is)
    (case a7 => k_is)
    (case l7 => k_is)
    (case c7 => k_is)
    (case k7 => k_is)
    (case a8 => k_is)
    (case l8 => k_is)
    (case c8 => k_is)
    (case k8 => k_is)
    (case a9 => k_is)
    (case l9 => k_is)
    (case c9 => k_is)
    (case k9 => k_is)
    (case a10 => k_is)
    (case l10 => k_is)
    (case c10 => k_is)
    (case k10 => k_is)
    (case a11 => k_is)
    (case l11 => k_is)
    (case c11 => k_is)
    (case k11 => k_is)
    (case a12 => k_is)
    (case l12 => k_is)
    (case c12 => k_is)
    (case k12 => k_is)
    (case a13 => k_is)
    (case l13 => k_is)
    (case c13 => k_is)
    (case k13 => k_is)
    (case a14 => k_is)
    (case l14 => k_is)
    (case c14 => k_is)
    (case k14 => k_is)
    (case a15 => k_is)
    (case l15 => k_is)
    (case c15 => k_is)
    (case k15 => k_is)
    (case a16 => k_is)
    (case l16 => k_is)
    (case c16 => k_is)
    (case k16 => k_is)
    (case a17 => k_is)
    (case l17 => k_is)
    (case c17 => k_is)
    (case k17 => k_is)
    (case a18 => k_is)
    (case l18 => k_is)
    (case c18 => k_is)
    (case k18 => k_is)
    (case a19 => k_is)
    (case l19 => k_is)
    (case c19 => k_is)
    (case k19 => k_is)
    (case a20 => k_is)
    (case l20 => k_is)
    (case c20 => k_is)
    (case k20 => k_is)
    (case a21 => k_is)
    (case l21 => k_is)
    (case c21 => k_is)
    (case k21 => k_is)
    (case a22 => k_is)
    (case l22 => k_is)
    (case c22 => k_is)
    (case k22 => k_is)
    (case a23 => k_is)
    (case l23 => k_is)
    (case c23 => k_is)
    (case k23 => k_is)
    (case a24 => k_is)
    (case l24 => k_is)
    (case c24 => k_is)
    (case k24 => k_is)
    (case a25 => k_is)
    (case l25 => k_is)
    (case c25 => k_is)
    (case k25 => k_is)
    (case a26 => k_is)
    (case l26 => k_is)
    (case c26 => k_is)
    (case k26 => k_is)
    (case a27 => k_is)
    (case l27 => k_is)
    (case c27 => k_is)
    (case k27 => k_is)
    (case a28 => k_is)
    (case l28 => k_is)
    (case c28 => k_is)
    (case k28 => k_is)
    (case z_sorted => k_is)
    (case z_tuple => k_is)
    (case z_zip => k_is)
    (case z_range => k_is)
    (case z_len => k_is)
    (case z_list => k_is)
    (case z_isinstance => k_is)
    (case z_int => k_is)
    (case z_bool => k_is)
    (case z_set => k_is)
    (case z_sum => k_is)

