import PyProof.Rows.All
import PySem.Challenge.RW_longhours_k54_curves_by_values
import HandS.ForMost
import HandS.IsInst
import HandS.NoneIn
import HandS.RaiseMore
import HandS.Flow
import KE.GoesMore
set_option autoImplicit true
set_option relaxedAutoImplicit true
set_option Elab.async false
set_option linter.all false
set_option maxRecDepth 100000
set_option maxHeartbeats 4000000
/-! DL: deep data over the hand layer. A: data, what stands where, the state. -/
namespace DL
open PySem PySem.Spec PyProof.Rows L2

/-- deep data -/
inductive D where
  | non | bl (b : Bool) | int (i : Int) | str (x : Str)
  | tup (xs : List D) | lst (xs : List D)
  | obj (C : Nat) (ns : List Str) (xs : List D)
  /-- the script -/
  | scr (ns : List Int)

/-- the written part, and where its classes stand -/
structure Gm where
  K : PySem.W.Frag
  cA : Nat → Addr

theorem sqt_same {K : PySem.W.Frag} {H H' : Hp} {a : Addr} {xs : List V} (e : Same H H') (h : SqT K H a xs) : SqT K H' a xs := by
  rcases h with (h | ⟨o, h⟩) | h
  · exact .inl (.inl (e _ _ h))
  · exact .inl (.inr ⟨o, e _ _ h⟩)
  · exact .inr h

mutual
def Rp (G : Gm) (H : Hp) : D → V → Prop
  | .non, v => v = .non
  | .bl b, v => v = .bl b
  | .int i, v => v = .int i
  | .str x, v => v = .str x
  | .tup ds, v => ∃ a vs, v = V.ref a ∧ SqT G.K H a vs ∧ Rps G H ds vs
  | .lst ds, v => ∃ a vs, v = V.ref a ∧ H a = some (.lst vs) ∧ Rps G H ds vs
  | .obj C ns ds, v => ∃ a dx vs, v = V.ref a ∧ H a = some (.ins (G.cA C) dx (ns.zip vs)) ∧ H dx = some (.own a) ∧ ns.length = ds.length ∧ Rps G H ds vs
  | .scr ns, v => ∃ a, v = V.ref a ∧ SqL G.K H a (ns.map V.int)
def Rps (G : Gm) (H : Hp) : List D → List V → Prop
  | [], vs => vs = []
  | d :: ds, vs => ∃ v r, vs = v :: r ∧ Rp G H d v ∧ Rps G H ds r
end

variable {G : Gm}

mutual
theorem Rp.mono {H H' : Hp} (e : Same H H') : ∀ (d : D) (v : V), Rp G H d v → Rp G H' d v
  | .non, _, h => by unfold Rp at h ⊢; exact h
  | .bl _, _, h => by unfold Rp at h ⊢; exact h
  | .int _, _, h => by unfold Rp at h ⊢; exact h
  | .str _, _, h => by unfold Rp at h ⊢; exact h
  | .tup ds, v, h => by
    unfold Rp at h ⊢
    obtain ⟨a, vs, h1, h2, h3⟩ := h
    exact ⟨a, vs, h1, sqt_same e h2, Rps.mono e ds vs h3⟩
  | .lst ds, v, h => by
    unfold Rp at h ⊢
    obtain ⟨a, vs, h1, h2, h3⟩ := h
    exact ⟨a, vs, h1, e _ _ h2, Rps.mono e ds vs h3⟩
  | .obj C ns ds, v, h => by
    unfold Rp at h ⊢
    obtain ⟨a, dx, vs, h1, h2, h3, h4, h5⟩ := h
    exact ⟨a, dx, vs, h1, e _ _ h2, e _ _ h3, h4, Rps.mono e ds vs h5⟩
  | .scr ns, v, h => by
    unfold Rp at h ⊢
    obtain ⟨a, h1, h2⟩ := h
    exact ⟨a, h1, e.seq h2⟩
theorem Rps.mono {H H' : Hp} (e : Same H H') : ∀ (ds : List D) (vs : List V), Rps G H ds vs → Rps G H' ds vs
  | [], _, h => by unfold Rps at h ⊢; exact h
  | d :: ds, vs, h => by
    unfold Rps at h ⊢
    obtain ⟨v, r, h1, h2, h3⟩ := h
    exact ⟨v, r, h1, Rp.mono e d v h2, Rps.mono e ds r h3⟩
end

theorem Rps.len {H : Hp} : ∀ {ds : List D} {vs : List V}, Rps G H ds vs → vs.length = ds.length
  | [], _, h => by unfold Rps at h; subst h; rfl
  | d :: ds, vs, h => by
    unfold Rps at h
    obtain ⟨v, r, rfl, _, h3⟩ := h
    rw [List.length_cons, List.length_cons, Rps.len h3]
theorem Rps.get {H : Hp} : ∀ {ds : List D} {vs : List V} {i : Nat} {d : D}, Rps G H ds vs → ds[i]? = some d → ∃ v, vs[i]? = some v ∧ Rp G H d v
  | [], _, _, _, _, e => by simp at e
  | d :: ds, vs, 0, x, h, e => by
    unfold Rps at h
    obtain ⟨v, r, rfl, h2, _⟩ := h
    simp at e; subst e
    exact ⟨v, rfl, h2⟩
  | d :: ds, vs, i + 1, x, h, e => by
    unfold Rps at h
    obtain ⟨v, r, rfl, _, h3⟩ := h
    obtain ⟨w, e1, e2⟩ := Rps.get (i := i) h3 (by simpa using e)
    exact ⟨w, by simpa using e1, e2⟩
theorem Rps.getV {H : Hp} : ∀ {ds : List D} {vs : List V} {i : Nat} {v : V}, Rps G H ds vs → vs[i]? = some v → ∃ d, ds[i]? = some d ∧ Rp G H d v := fun {ds vs i v} h e => by
  have hl : i < ds.length := by rw [← h.len]; exact (List.getElem?_eq_some_iff.mp e).1
  obtain ⟨w, e1, e2⟩ := h.get (List.getElem?_eq_getElem hl)
  rw [e] at e1; cases e1
  exact ⟨_, List.getElem?_eq_getElem hl, e2⟩
theorem Rps.nil {H : Hp} : Rps G H [] [] := by unfold Rps; rfl
theorem Rps.cons {H : Hp} {d : D} {v : V} {ds : List D} {vs : List V} (h : Rp G H d v) (t : Rps G H ds vs) : Rps G H (d :: ds) (v :: vs) := by
  unfold Rps; exact ⟨v, vs, rfl, h, t⟩
theorem Rps.append {H : Hp} : ∀ {ds es : List D} {vs ws : List V}, Rps G H ds vs → Rps G H es ws → Rps G H (ds ++ es) (vs ++ ws)
  | [], _, _, _, h, t => by unfold Rps at h; subst h; exact t
  | d :: ds, es, vs, ws, h, t => by
    unfold Rps at h
    obtain ⟨v, r, rfl, h2, h3⟩ := h
    exact Rps.cons h2 (Rps.append h3 t)
theorem Rps.drop {H : Hp} : ∀ {ds : List D} {vs : List V} (n : Nat), Rps G H ds vs → Rps G H (ds.drop n) (vs.drop n)
  | _, _, 0, h => h
  | [], _, n + 1, h => by unfold Rps at h; subst h; exact Rps.nil
  | d :: ds, vs, n + 1, h => by
    unfold Rps at h
    obtain ⟨v, r, rfl, h2, h3⟩ := h
    exact Rps.drop n h3
theorem Rps.take {H : Hp} : ∀ {ds : List D} {vs : List V} (n : Nat), Rps G H ds vs → Rps G H (ds.take n) (vs.take n)
  | _, _, 0, _ => Rps.nil
  | [], _, n + 1, h => by unfold Rps at h; subst h; exact Rps.nil
  | d :: ds, vs, n + 1, h => by
    unfold Rps at h
    obtain ⟨v, r, rfl, h2, h3⟩ := h
    exact Rps.cons h2 (Rps.take n h3)
theorem Rps.set {H : Hp} {d : D} {v : V} (hd : Rp G H d v) : ∀ {ds : List D} {vs : List V} (n : Nat), Rps G H ds vs → Rps G H (ds.set n d) (vs.set n v)
  | [], _, _, h => by unfold Rps at h; subst h; exact Rps.nil
  | _ :: ds, vs, 0, h => by
    unfold Rps at h
    obtain ⟨v, r, rfl, h2, h3⟩ := h
    exact Rps.cons hd h3
  | _ :: ds, vs, n + 1, h => by
    unfold Rps at h
    obtain ⟨v, r, rfl, h2, h3⟩ := h
    exact Rps.cons h2 (Rps.set hd n h3)
theorem Rps.atI {H : Hp} {ds : List D} {vs : List V} {i : Int} {d : D} (h : Rps G H ds vs) (e : atI ds i = some d) : ∃ v, atI vs i = some v ∧ Rp G H d v := by
  unfold L2.atI at e ⊢
  rw [h.len]
  cases q : ixN ds.length i with
  | none => rw [q] at e; cases e
  | some j =>
    rw [q] at e
    exact h.get e

/-! ### slots, results -/
inductive Sl where
  | no | val (d : D) | own (ds : List D) | cst
/-- an expression's value: clean data; the owned list in a slot; the cell -/
inductive R where
  | c (d : D) | o (i : Nat) | k
/-- how a statement ends -/
inductive Fl where
  | nx | bk | ct | rt (d : D)
  /-- a new list that nobody else knows -/
  | rf (ds : List D)

/-- a def's frame: what stood at its entry (but the cell), what may not be reached, the cell -/
structure Fr where
  He : Hp
  ban : Addr → Prop
  pc : Option Addr

abbrev VS := List (Option V)

def SlOk (G : Gm) (F : Fr) (H0 H : Hp) (σ : VS) (i : Nat) : Sl → Prop
  | .no => True
  | .val d => ∃ v, σ[i]? = some (some v) ∧ Rp G H0 d v
  | .own ds => ∃ p vs, σ[i]? = some (some (V.ref p)) ∧ H0 p = none ∧ F.He p = none ∧ F.pc ≠ some p ∧ H p = some (.lst vs) ∧ Rps G H0 ds vs
  | .cst => ∃ p, F.pc = some p ∧ σ[i]? = some (some (V.ref p))
def PcOk (G : Gm) (He H0 H : Hp) : Option Addr → Option D → Prop
  | none, none => True
  | some p, some (.lst ds) => H0 p = none ∧ He p = none ∧ ∃ vs, H p = some (.lst vs) ∧ Rps G H0 ds vs
  | some p, some (.obj C ns ds) => H0 p = none ∧ He p = none ∧ ∃ dx vs, H p = some (.ins (G.cA C) dx (ns.zip vs)) ∧ H dx = some (.own p) ∧ H0 dx = none ∧ He dx = none ∧ ns.length = ds.length ∧ Rps G H0 ds vs
  | _, _ => False

structure StOk (G : Gm) (F : Fr) (H0 H : Hp) (S : List Sl) (cs : Option D) (σ : VS) : Prop where
  ex : Same H0 H
  he : Same F.He H
  bn : ∀ a, F.ban a → F.He a ≠ none ∧ H0 a = none
  len : S.length = σ.length
  sl : ∀ (i : Nat) (s : Sl), S[i]? = some s → SlOk G F H0 H σ i s
  ds : ∀ (i j : Nat) (p : Addr) (xs ys : List D), i ≠ j → S[i]? = some (Sl.own xs) → S[j]? = some (Sl.own ys) → σ[i]? = some (some (V.ref p)) → σ[j]? = some (some (V.ref p)) → False
  pc : PcOk G F.He H0 H F.pc cs

/-- the heap and its known part grow; nothing that stood apart is taken in -/
structure Gr (H0 H H0' H' : Hp) : Prop where
  a : Same H0 H0'
  b : Same H H'
  c : Same H0' H'
  d : ∀ x, H x ≠ none → H0 x = none → H0' x = none
theorem Gr.refl {H0 H : Hp} (h : Same H0 H) : Gr H0 H H0 H := ⟨Same.refl _, Same.refl _, h, fun _ _ q => q⟩
theorem Same.ne {H H' : Hp} (e : Same H H') {a : Addr} (h : H a ≠ none) : H' a ≠ none := by
  cases q : H a with
  | none => exact absurd q h
  | some o => rw [e a o q]; simp
theorem Gr.trans {H0 H H1 H' H2 H'' : Hp} (x : Gr H0 H H1 H') (y : Gr H1 H' H2 H'') : Gr H0 H H2 H'' :=
  ⟨x.a.trans y.a, x.b.trans y.b, y.c, fun q h1 h2 => y.d q (Same.ne x.b h1) (x.d q h1 h2)⟩
theorem ne_none {H : Hp} {a : Addr} {o : HO} (h : H a = some o) : H a ≠ none := by rw [h]; simp

section
variable {F : Fr} {H0 H H0' H' : Hp} {S : List Sl} {cs : Option D} {σ : VS}
theorem SlOk.grow (g : Gr H0 H H0' H') {i : Nat} : ∀ {s : Sl}, SlOk G F H0 H σ i s → SlOk G F H0' H' σ i s
  | .no, _ => trivial
  | .val d, h => let ⟨v, e, r⟩ := h; ⟨v, e, r.mono g.a⟩
  | .own ds, h => let ⟨p, vs, e, h1, h2, h3, h4, h5⟩ := h; ⟨p, vs, e, g.d p (ne_none h4) h1, h2, h3, g.b _ _ h4, h5.mono g.a⟩
  | .cst, h => h
theorem PcOk.grow {He : Hp} (g : Gr H0 H H0' H') : ∀ {pc : Option Addr} {cs : Option D}, PcOk G He H0 H pc cs → PcOk G He H0' H' pc cs
  | none, none, _ => trivial
  | some p, some (.lst ds), h => let ⟨h1, h2, vs, h3, h4⟩ := h; ⟨g.d p (ne_none h3) h1, h2, vs, g.b _ _ h3, h4.mono g.a⟩
  | some p, some (.obj C ns ds), h => let ⟨h1, h2, dx, vs, h3, h4, h5, h6, h7, h8⟩ := h
    ⟨g.d p (ne_none h3) h1, h2, dx, vs, g.b _ _ h3, g.b _ _ h4, g.d dx (ne_none h4) h5, h6, h7, h8.mono g.a⟩
  | none, some _, h => h.elim
  | some _, none, h => h.elim
  | some _, some .non, h => h.elim
  | some _, some (.bl _), h => h.elim
  | some _, some (.int _), h => h.elim
  | some _, some (.str _), h => h.elim
  | some _, some (.tup _), h => h.elim
  | some _, some (.scr _), h => h.elim
theorem StOk.grow (I : StOk G F H0 H S cs σ) (g : Gr H0 H H0' H') : StOk G F H0' H' S cs σ :=
  ⟨g.c, I.he.trans g.b, fun a h => ⟨(I.bn a h).1, g.d a (Same.ne I.he (I.bn a h).1) (I.bn a h).2⟩, I.len, fun i s e => (I.sl i s e).grow g, I.ds, I.pc.grow g⟩
/-- a new known object -/
theorem Gr.new (e : Same H0 H) {p : Addr} (o : HO) (h : H p = none) : Gr H0 H (upd H0 p o) (upd H p o) := by
  have h0 : H0 p = none := e.free h
  refine ⟨fun b x q => ?_, fun b x q => ?_, fun b x q => ?_, fun x h1 h2 => ?_⟩
  · rw [upd_ne (ne_of_none q h0)]; exact q
  · rw [upd_ne (ne_of_none q h)]; exact q
  · by_cases hb : b = p
    · subst hb; rw [upd_same] at q ⊢; exact q
    · rw [upd_ne hb] at q ⊢; exact e _ _ q
  · have : x ≠ p := fun z => h1 (z ▸ h)
    rw [upd_ne this]; exact h2
/-- a new object, not known -/
theorem Gr.off (e : Same H0 H) {p : Addr} (o : HO) (h : H p = none) : Gr H0 H H0 (upd H p o) := by
  refine ⟨Same.refl _, fun b x q => ?_, fun b x q => ?_, fun x h1 h2 => h2⟩
  · rw [upd_ne (ne_of_none q h)]; exact q
  · rw [upd_ne (ne_of_none (e _ _ q) h)]; exact e _ _ q
theorem upd_at {p : Addr} {o : HO} : upd H p o p = some o := upd_same
/-- an object that is only owned is taken in -/
theorem Gr.freeze (e : Same H0 H) {p : Addr} {o : HO} (h : H p = some o) : Same H0 (upd H0 p o) ∧ Same (upd H0 p o) H := by
  refine ⟨fun b x q => ?_, fun b x q => ?_⟩
  · by_cases hb : b = p
    · subst hb; rw [upd_same]; rw [e _ _ q] at h; exact h.symm ▸ rfl
    · rw [upd_ne hb]; exact q
  · by_cases hb : b = p
    · subst hb; rw [upd_same] at q; cases q; exact h
    · rw [upd_ne hb] at q; exact e _ _ q
end
end DL

set_option autoImplicit true
set_option relaxedAutoImplicit true
set_option Elab.async false
set_option linter.all false
set_option maxRecDepth 100000
set_option maxHeartbeats 4000000
/-! DL, B: expressions, tests, arguments. -/
namespace DL
open PySem PySem.Spec PyProof.Rows L2

abbrev DE := List Sl → Option D → Option (R × Option D)
abbrev DT := List Sl → Option D → Option (Bool × Option D)
abbrev DA := List Sl → Option D → Option (List R × Option D)
abbrev DF := List Sl → Option D → Option (List D × Option D)
abbrev DS := List Sl → Option D → Option (Fl × List Sl × Option D)
abbrev DG := D → List Sl → Option (List Sl)

variable {G : Gm}

def RR (G : Gm) (F : Fr) (H0 : Hp) (σ : VS) : R → V → Prop
  | .c d, v => Rp G H0 d v
  | .o i, v => σ[i]? = some (some v)
  | .k, v => ∃ p, F.pc = some p ∧ v = V.ref p
def RRs (G : Gm) (F : Fr) (H0 : Hp) (σ : VS) : List R → List V → Prop
  | [], vs => vs = []
  | r :: rs, vs => ∃ v w, vs = v :: w ∧ RR G F H0 σ r v ∧ RRs G F H0 σ rs w
theorem RR.mono {F : Fr} {H0 H0' : Hp} {σ : VS} (e : Same H0 H0') : ∀ {r : R} {v : V}, RR G F H0 σ r v → RR G F H0' σ r v
  | .c d, v, h => Rp.mono e d v h
  | .o i, v, h => h
  | .k, v, h => h
theorem RRs.mono {F : Fr} {H0 H0' : Hp} {σ : VS} (e : Same H0 H0') : ∀ {rs : List R} {vs : List V}, RRs G F H0 σ rs vs → RRs G F H0' σ rs vs
  | [], vs, h => h
  | r :: rs, vs, h => let ⟨v, w, e1, h1, h2⟩ := h; ⟨v, w, e1, h1.mono e, RRs.mono e h2⟩

/-- what a value reads as -/
def rd (S : List Sl) (cs : Option D) : R → Option D
  | .c d => some d
  | .o i => match S[i]? with
    | some (.own ds) => some (.lst ds)
    | _ => none
  | .k => cs
def rds (S : List Sl) (cs : Option D) : List R → Option (List D)
  | [] => some []
  | r :: rs => match rd S cs r with
    | some d => match rds S cs rs with
      | some ds => some (d :: ds)
      | none => none
    | none => none
/-- clean values alone -/
def cleans : List R → Option (List D)
  | [] => some []
  | .c d :: rs => match cleans rs with
    | some ds => some (d :: ds)
    | none => none
  | _ :: _ => none

/-- the value as it may be read now (an owned list's items are known) -/
def RB (G : Gm) (H0 H : Hp) : D → V → Prop
  | .lst ds, v => ∃ a vs, v = V.ref a ∧ H a = some (.lst vs) ∧ Rps G H0 ds vs
  | .obj C ns ds, v => ∃ a dx vs, v = V.ref a ∧ H a = some (.ins (G.cA C) dx (ns.zip vs)) ∧ ns.length = ds.length ∧ Rps G H0 ds vs
  | d, v => Rp G H0 d v
def RBs (G : Gm) (H0 H : Hp) : List D → List V → Prop
  | [], vs => vs = []
  | d :: ds, vs => ∃ v w, vs = v :: w ∧ RB G H0 H d v ∧ RBs G H0 H ds w
theorem Rp.rb {H0 H : Hp} (e : Same H0 H) : ∀ {d : D} {v : V}, Rp G H0 d v → RB G H0 H d v
  | .non, _, h => h
  | .bl _, _, h => h
  | .int _, _, h => h
  | .str _, _, h => h
  | .tup _, _, h => h
  | .scr _, _, h => h
  | .lst ds, v, h => by
    unfold Rp at h
    obtain ⟨a, vs, h1, h2, h3⟩ := h
    exact ⟨a, vs, h1, e _ _ h2, h3⟩
  | .obj C ns ds, v, h => by
    unfold Rp at h
    obtain ⟨a, dx, vs, h1, h2, h3, h4, h5⟩ := h
    exact ⟨a, dx, vs, h1, e _ _ h2, h4, h5⟩

section
variable {F : Fr} {H0 H : Hp} {S : List Sl} {cs : Option D} {σ : VS}
theorem rd_ok (I : StOk G F H0 H S cs σ) {r : R} {v : V} {d : D} (h : RR G F H0 σ r v) (e : rd S cs r = some d) : RB G H0 H d v := by
  cases r with
  | c x => cases e; exact Rp.rb I.ex h
  | o i =>
    have e' : (match S[i]? with
      | some (.own ds) => some (D.lst ds)
      | _ => none) = some d := e
    split at e'
    · rename_i ds q
      cases e'
      obtain ⟨p, vs, e1, _, _, _, e5, e6⟩ := I.sl _ _ q
      rw [show σ[i]? = some (some v) from h] at e1
      cases e1
      exact ⟨p, vs, rfl, e5, e6⟩
    · cases e'
  | k =>
    obtain ⟨p, e1, rfl⟩ := h
    have e' : cs = some d := e
    have q := I.pc
    rw [e1, e'] at q
    cases d with
    | lst ds => obtain ⟨_, _, vs, h3, h4⟩ := q; exact ⟨p, vs, rfl, h3, h4⟩
    | obj C ns ds => obtain ⟨_, _, dx, vs, h3, _, _, _, h7, h8⟩ := q; exact ⟨p, dx, vs, rfl, h3, h7, h8⟩
    | non => exact False.elim q
    | bl _ => exact False.elim q
    | int _ => exact False.elim q
    | str _ => exact False.elim q
    | tup _ => exact False.elim q
    | scr _ => exact False.elim q
theorem rds_ok (I : StOk G F H0 H S cs σ) : ∀ {rs : List R} {vs : List V} {ds : List D}, RRs G F H0 σ rs vs → rds S cs rs = some ds → RBs G H0 H ds vs
  | [], vs, ds, h, e => by cases e; exact h
  | r :: rs, vs, ds, h, e => by
    obtain ⟨v, w, rfl, h1, h2⟩ := h
    unfold rds at e
    split at e
    · rename_i d q
      split at e
      · rename_i ds' q'
        cases e
        exact ⟨v, w, rfl, rd_ok I h1 q, rds_ok I h2 q'⟩
      · cases e
    · cases e
theorem cleans_ok : ∀ {rs : List R} {vs : List V} {ds : List D}, RRs G F H0 σ rs vs → cleans rs = some ds → Rps G H0 ds vs
  | [], vs, ds, h, e => by cases e; exact (show vs = [] from h) ▸ Rps.nil
  | .c d :: rs, vs, ds, h, e => by
    obtain ⟨v, w, rfl, h1, h2⟩ := h
    unfold cleans at e
    split at e
    · rename_i ds' q'
      cases e
      exact Rps.cons h1 (cleans_ok h2 q')
    · cases e
  | .o _ :: _, _, _, _, e => by cases e
  | .k :: _, _, _, _, e => by cases e
end

/-- what follows, from a value r -/
def Fin (G : Gm) (F : Fr) (H0 : Hp) (S : List Sl) (cs : Option D) (σ : VS) (r : R) (Q : VK) : Prop :=
  ∀ v H0' H', Same H0 H0' → StOk G F H0' H' S cs σ → RR G F H0' σ r v → Q v H'
theorem Fin.mono {F : Fr} {H0 H0' : Hp} {S : List Sl} {cs : Option D} {σ : VS} {r : R} {Q : VK} (e : Same H0 H0') (h : Fin G F H0 S cs σ r Q) : Fin G F H0' S cs σ r Q :=
  fun v Ha Hb e' I q => h v Ha Hb (e.trans e') I q

structure SimE (G : Gm) (t : TE) (f : DE) : Prop where
  run : ∀ (F : Fr) (H0 H : Hp) (S : List Sl) (cs : Option D) (σ : VS) (Q : VK), StOk G F H0 H S cs σ → ∀ r cs', f S cs = some (r, cs') → Fin G F H0 S cs' σ r Q → t σ H Q
structure SimT (G : Gm) (t : TT) (f : DT) : Prop where
  run : ∀ (F : Fr) (H0 H : Hp) (S : List Sl) (cs : Option D) (σ : VS) (Q : Bool → Hp → Prop), StOk G F H0 H S cs σ → ∀ b cs', f S cs = some (b, cs') →
    (∀ H0' H', Same H0 H0' → StOk G F H0' H' S cs' σ → Q b H') → t σ H Q
structure SimA (G : Gm) (t : TA) (f : DA) : Prop where
  run : ∀ (F : Fr) (H0 H : Hp) (S : List Sl) (cs : Option D) (σ : VS) (Q : List V → Hp → Prop), StOk G F H0 H S cs σ → ∀ rs cs', f S cs = some (rs, cs') →
    (∀ vs H0' H', Same H0 H0' → StOk G F H0' H' S cs' σ → RRs G F H0' σ rs vs → Q vs H') → t σ H Q
/-- p is apart from all that is owned -/
def Apart (F : Fr) (S : List Sl) (σ : VS) (p : Addr) : Prop := F.pc ≠ some p ∧ ∀ (i : Nat) (xs : List D), S[i]? = some (Sl.own xs) → σ[i]? ≠ some (some (V.ref p))
/-- a new list, owned by nobody yet -/
def FinF (G : Gm) (F : Fr) (H0 : Hp) (S : List Sl) (cs : Option D) (σ : VS) (ds : List D) (Q : VK) : Prop :=
  ∀ p vs H0' H', Same H0 H0' → StOk G F H0' H' S cs σ → H0' p = none → F.He p = none → Apart F S σ p → H' p = some (.lst vs) → Rps G H0' ds vs → Q (.ref p) H'
structure SimF (G : Gm) (t : TE) (f : DF) : Prop where
  run : ∀ (F : Fr) (H0 H : Hp) (S : List Sl) (cs : Option D) (σ : VS) (Q : VK), StOk G F H0 H S cs σ → ∀ ds cs', f S cs = some (ds, cs') → FinF G F H0 S cs' σ ds Q → t σ H Q

theorem StOk.apart {F : Fr} {H0 H : Hp} {S : List Sl} {cs : Option D} {σ : VS} (I : StOk G F H0 H S cs σ) {p : Addr} (h : H p = none) : Apart F S σ p := by
  refine ⟨fun e => ?_, fun i xs e q => ?_⟩
  · have z := I.pc
    rw [e] at z
    cases cs with
    | none => exact z
    | some d =>
      cases d with
      | lst ds => obtain ⟨_, _, vs, h3, _⟩ := z; rw [h] at h3; cases h3
      | obj C ns ds => obtain ⟨_, _, dx, vs, h3, _⟩ := z; rw [h] at h3; cases h3
      | _ => exact z
  · obtain ⟨p', vs, e1, _, _, _, e5, _⟩ := I.sl _ _ e
    rw [q] at e1; cases e1
    rw [h] at e5; cases e5
/-- a fresh list is taken in -/
theorem StOk.freezeF {F : Fr} {H0 H : Hp} {S : List Sl} {cs : Option D} {σ : VS} (I : StOk G F H0 H S cs σ) {p : Addr} {o : HO} (hp : H p = some o) (h0 : H0 p = none) (he : F.He p = none) (ap : Apart F S σ p)
    (hcell : ∀ x, o ≠ .own x) : Same H0 (upd H0 p o) ∧ StOk G F (upd H0 p o) H S cs σ := by
  obtain ⟨s1, s2⟩ := Gr.freeze I.ex hp
  refine ⟨s1, s2, I.he, fun a h => ⟨(I.bn a h).1, ?_⟩, I.len, fun i s e => ?_, I.ds, ?_⟩
  · have : a ≠ p := fun z => (I.bn a h).1 (z ▸ he)
    rw [upd_ne this]; exact (I.bn a h).2
  · have q := I.sl i s e
    cases s with
    | no => trivial
    | val d => obtain ⟨v, e1, r⟩ := q; exact ⟨v, e1, r.mono s1⟩
    | own ds =>
      obtain ⟨p', vs, e1, h1, h2, h3, h4, h5⟩ := q
      have : p' ≠ p := fun z => ap.2 i ds e (z ▸ e1)
      exact ⟨p', vs, e1, by rw [upd_ne this]; exact h1, h2, h3, h4, h5.mono s1⟩
    | cst => exact q
  · have q := I.pc
    cases e : F.pc with
    | none => rw [e] at q; cases cs with
      | none => trivial
      | some d => cases d <;> exact q
    | some p' =>
      have hne : p' ≠ p := fun z => ap.1 (z ▸ e)
      rw [e] at q
      cases cs with
      | none => exact q
      | some d =>
        cases d with
        | lst ds => obtain ⟨h1, h2, vs, h3, h4⟩ := q; exact ⟨by rw [upd_ne hne]; exact h1, h2, vs, h3, h4.mono s1⟩
        | obj C ns ds =>
          obtain ⟨h1, h2, dx, vs, h3, h4, h5, h6, h7, h8⟩ := q
          have hdx : dx ≠ p := fun z => by
            rw [z, hp] at h4
            exact hcell _ (Option.some.inj h4)
          exact ⟨by rw [upd_ne hne]; exact h1, h2, dx, vs, h3, h4, by rw [upd_ne hdx]; exact h5, h6, h7, h8.mono s1⟩
        | _ => exact q

/-- as a value: the new list is known from now on -/
def dFz (f : DF) : DE := fun S cs => match f S cs with
  | some (ds, c1) => some (.c (.lst ds), c1)
  | none => none
theorem SimF.fz {t : TE} {f : DF} (h : SimF G t f) : SimE G t (dFz f) := by
  refine ⟨fun F H0 H S cs σ Q I r cs' e q => ?_⟩
  unfold dFz at e
  split at e
  · rename_i ds c1 e1
    cases e
    refine h.run F H0 H S cs σ Q I ds _ e1 fun p vs Ha Hb s1 I1 h0 he ap hp rs => ?_
    obtain ⟨s2, I2⟩ := I1.freezeF hp h0 he ap (fun _ z => nomatch z)
    refine q _ _ _ (s1.trans s2) I2 ?_
    show Rp G _ (.lst ds) _
    unfold Rp
    exact ⟨p, vs, rfl, upd_same, rs.mono s2⟩
  · cases e

/-! ### judgements: the layer's and ours together -/
structure DExp (X : Cx) (K : PySem.W.Frag) (cA : Nat → Addr) (e : Expr) (t : TE) (f : DE) : Prop where
  pe : PE X e t
  sim : SimE ⟨K, cA⟩ t f
structure DFsh (X : Cx) (K : PySem.W.Frag) (cA : Nat → Addr) (e : Expr) (t : TE) (f : DF) : Prop where
  pe : PE X e t
  sim : SimF ⟨K, cA⟩ t f
structure DTst (X : Cx) (K : PySem.W.Frag) (cA : Nat → Addr) (e : Expr) (t : TT) (f : DT) : Prop where
  pt : PT X e t
  sim : SimT ⟨K, cA⟩ t f
structure DTsw (X : Cx) (K : PySem.W.Frag) (cA : Nat → Addr) (e : Expr) (t : TT) (f : DT) : Prop where
  pw : PW X e t
  sim : SimT ⟨K, cA⟩ t f
structure DArg (X : Cx) (K : PySem.W.Frag) (cA : Nat → Addr) (es : List Expr) (t : TA) (f : DA) : Prop where
  pa : PA X es t
  sim : SimA ⟨K, cA⟩ t f
theorem DFsh.fz {X : Cx} {K : PySem.W.Frag} {cA : Nat → Addr} {e : Expr} {t : TE} {f : DF} (h : DFsh X K cA e t f) : DExp X K cA e t (dFz f) := ⟨h.pe, h.sim.fz⟩
theorem DTsw.tst {X : Cx} {K : PySem.W.Frag} {cA : Nat → Addr} {e : Expr} {t : TT} {f : DT} (h : DTsw X K cA e t f) : DTst X K cA e t f := ⟨h.pw.pt, h.sim⟩

/-! ### names, constants -/
def dVar (i : Nat) : DE := fun S cs => match S[i]? with
  | some (.val d) => some (.c d, cs)
  | some (.own _) => some (.o i, cs)
  | some .cst => some (.k, cs)
  | _ => none
theorem sim_var {i : Nat} : SimE G (tVar i) (dVar i) := by
  refine ⟨fun F H0 H S cs σ Q I r cs' e q => ?_⟩
  unfold dVar at e
  split at e
  · rename_i d e1
    cases e
    obtain ⟨v, e2, h⟩ := I.sl _ _ e1
    exact ⟨v, e2, q v H0 H (Same.refl _) I h⟩
  · rename_i ds e1
    cases e
    obtain ⟨p, vs, e2, _⟩ := I.sl _ _ e1
    exact ⟨_, e2, q _ H0 H (Same.refl _) I e2⟩
  · rename_i e1
    cases e
    obtain ⟨p, e2, e3⟩ := I.sl _ _ e1
    exact ⟨_, e3, q _ H0 H (Same.refl _) I ⟨p, e2, rfl⟩⟩
  · cases e
def dC (d : D) : DE := fun _ cs => some (.c d, cs)
theorem sim_c {v : V} {d : D} (h : ∀ H, Rp G H d v) : SimE G (tC v) (dC d) := by
  refine ⟨fun F H0 H S cs σ Q I r cs' e q => ?_⟩
  cases e
  exact q v H0 H (Same.refl _) I (h _)
section
variable {X : Cx} {K : PySem.W.Frag} {cA : Nat → Addr}
theorem dx_var (i : Nat) {x : Str} {pos : Pos} (hN : X.N[i]? = some x := by rfl) (hv : Vis X.env.scope x := by first | exact Or.inl rfl | exact Or.inr (Or.inl rfl) | exact Or.inr (Or.inr rfl)) (hd : (x == ("__debug__" : Str)) = false := by decide)
    (hcd : (x == ("__classdict__" : Str)) = false := by decide) : DExp X K cA (.Name x pos) (tVar i) (dVar i) := ⟨pe_var hN hv hd hcd, sim_var⟩
theorem dx_int {i j pos} : DExp X K cA (.Constant (.int i) j pos) (tC (.int i)) (dC (.int i)) := ⟨pe_int, sim_c fun _ => by unfold Rp; rfl⟩
theorem dx_bl {b j pos} : DExp X K cA (.Constant (.bool b) j pos) (tC (.bl b)) (dC (.bl b)) := ⟨pe_bl, sim_c fun _ => by unfold Rp; rfl⟩
theorem dx_non {j pos} : DExp X K cA (.Constant .none j pos) (tC .non) (dC .non) := ⟨pe_non, sim_c fun _ => by unfold Rp; rfl⟩
theorem dx_str {x j pos} : DExp X K cA (.Constant (.str x) j pos) (tC (.str x)) (dC (.str x)) := ⟨pe_str, sim_c fun _ => by unfold Rp; rfl⟩
/-- a module's number -/
theorem dx_gint {x : Str} {i : Int} {t : Tok} {pos : Pos} (hm : X.mg x = some (.int i t)) (hg : Gl X x := by rfl) (hd : (x == ("__debug__" : Str)) = false := by decide) : DExp X K cA (.Name x pos) (tC (.int i)) (dC (.int i)) :=
  ⟨pe_glob hg hm ⟨_, rfl⟩ hd, sim_c fun _ => by unfold Rp; rfl⟩
end

/-! ### two values -/
def OpSim (G : Gm) (r : R2) (op : D → D → Option D) : Prop :=
  ∀ (F : Fr) (H0 H : Hp) (S : List Sl) (cs : Option D) (σ : VS) (Q : VK) (x y z : D) (v w : V), StOk G F H0 H S cs σ → Rp G H0 x v → Rp G H0 y w → op x y = some z → Fin G F H0 S cs σ (.c z) Q → r v w H Q
def dOp (op : D → D → Option D) (f g : DE) : DE := fun S cs => match f S cs with
  | some (.c x, c1) => match g S c1 with
    | some (.c y, c2) => match op x y with
      | some z => some (.c z, c2)
      | none => none
    | _ => none
  | _ => none
theorem sim_op {r : R2} {op : D → D → Option D} {ta tb : TE} {f g : DE} (ho : OpSim G r op) (ha : SimE G ta f) (hb : SimE G tb g) : SimE G (tOp r ta tb) (dOp op f g) := by
  refine ⟨fun F H0 H S cs σ Q I r cs' e q => ?_⟩
  unfold dOp at e
  split at e
  · rename_i x c1 e1
    split at e
    · rename_i y c2 e2
      split at e
      · rename_i z e3
        cases e
        refine ha.run F H0 H S cs σ _ I _ _ e1 fun v Ha Hb s1 I1 r1 => ?_
        refine hb.run F Ha Hb S c1 σ _ I1 _ _ e2 fun w Hc Hd s2 I2 r2 => ?_
        exact ho F Hc Hd S _ σ Q x y z v w I2 (Rp.mono s2 _ _ r1) r2 e3 (q.mono (s1.trans s2))
      · cases e
    · cases e
  · cases e
def orD (op op' : D → D → Option D) (x y : D) : Option D := match op x y with
  | some z => some z
  | none => op' x y
theorem OpSim.or {r r' : R2} {op op' : D → D → Option D} (h : OpSim G r op) (h' : OpSim G r' op') : OpSim G (fun x y H Q => r x y H Q ∨ r' x y H Q) (orD op op') := by
  intro F H0 H S cs σ Q x y z v w I rx ry e q
  unfold orD at e
  split at e
  · rename_i z' e1
    cases e
    exact .inl (h F H0 H S cs σ Q x y _ v w I rx ry e1 q)
  · exact .inr (h' F H0 H S cs σ Q x y _ v w I rx ry e q)
/-- a value that leaves the heap as it is -/
theorem Fin.here {F : Fr} {H0 H : Hp} {S : List Sl} {cs : Option D} {σ : VS} {z : D} {Q : VK} (q : Fin G F H0 S cs σ (.c z) Q) (I : StOk G F H0 H S cs σ) {v : V} (h : Rp G H0 z v) : Q v H := q v H0 H (Same.refl _) I h

def oInt (C : Int → Int → Bool) (g : Int → Int → D) : D → D → Option D
  | .int i, .int j => if C i j = true then some (g i j) else none
  | _, _ => none
theorem ops_I {C : Int → Int → Prop} {c : Int → Int → Bool} {g : Int → Int → V} {d : Int → Int → D} (hc : ∀ i j, c i j = true → C i j) (hd : ∀ H i j, Rp G H (d i j) (g i j)) : OpSim G (rI C g) (oInt c d) := by
  intro F H0 H S cs σ Q x y z v w I rx ry e q
  unfold oInt at e
  split at e
  · rename_i i j
    split at e
    · rename_i hC
      cases e
      unfold Rp at rx ry
      exact ⟨i, j, rx, ry, hc _ _ hC, q.here I (hd _ _ _)⟩
    · cases e
  · cases e
theorem ops_I0 {g : Int → Int → V} {d : Int → Int → D} (hd : ∀ H i j, Rp G H (d i j) (g i j)) : OpSim G (rI0 g) (oInt (fun _ _ => true) d) := by
  intro F H0 H S cs σ Q x y z v w I rx ry e q
  unfold oInt at e
  split at e
  · rename_i i j
    split at e
    · cases e
      unfold Rp at rx ry
      exact ⟨i, j, rx, ry, q.here I (hd _ _ _)⟩
    · cases e
  · cases e
theorem rp_int {H : Hp} {i : Int} : Rp G H (.int i) (.int i) := by unfold Rp; rfl
theorem rp_bl {H : Hp} {b : Bool} : Rp G H (.bl b) (.bl b) := by unfold Rp; rfl
theorem rp_non {H : Hp} : Rp G H .non .non := by unfold Rp; rfl
theorem rp_str {H : Hp} {x : Str} : Rp G H (.str x) (.str x) := by unfold Rp; rfl

abbrev oAddI : D → D → Option D := oInt (fun _ _ => true) fun i j => .int (i + j)
abbrev oSub : D → D → Option D := oInt (fun _ _ => true) fun i j => .int (i - j)
abbrev bMul (i j : Int) : Bool := decide (-(2 ^ 64) < i ∧ i < 2 ^ 64) || decide (-(2 ^ 64) < j ∧ j < 2 ^ 64)
abbrev oMulI : D → D → Option D := oInt bMul fun i j => .int (i * j)
abbrev oFdiv : D → D → Option D := oInt (fun _ j => decide (j ≠ 0 ∧ j.natAbs < 1073741824)) fun i j => .int (i.fdiv j)
abbrev oMod : D → D → Option D := oInt (fun _ j => decide (j ≠ 0)) fun i j => .int (i.fmod j)
abbrev oPow : D → D → Option D := oInt (fun i j => decide (0 ≤ j ∧ j ≤ 1000000 ∧ i.natAbs < 2 ^ 64)) fun i j => .int (i ^ j.toNat)
theorem bMul_ok {i j : Int} (h : bMul i j = true) : CMul i j := by
  unfold CMul
  rw [Bool.or_eq_true] at h
  exact h.imp of_decide_eq_true of_decide_eq_true

/-- strings -/
def oAddS : D → D → Option D
  | .str x, .str y => if x.length + y.length ≤ sizeLine then some (.str (x ++ y)) else none
  | _, _ => none
theorem ops_addS : OpSim G (fun x y H Q => ∃ i j, x = .str i ∧ y = .str j ∧ i.length + j.length ≤ sizeLine ∧ Q (.str (i ++ j)) H) oAddS := by
  intro F H0 H S cs σ Q x y z v w I rx ry e q
  unfold oAddS at e
  split at e
  · split at e
    · rename_i hl
      cases e
      unfold Rp at rx ry
      exact ⟨_, _, rx, ry, hl, q.here I rp_str⟩
    · cases e
  · cases e
/-- tuples -/
def oAddT : D → D → Option D
  | .tup xs, .tup ys => if xs ≠ [] ∧ xs.length + ys.length ≤ sizeLine then some (.tup (xs ++ ys)) else none
  | _, _ => none
theorem StOk.new {F : Fr} {H0 H : Hp} {S : List Sl} {cs : Option D} {σ : VS} (I : StOk G F H0 H S cs σ) {p : Addr} (o : HO) (h : H p = none) : StOk G F (upd H0 p o) (upd H p o) S cs σ := I.grow (Gr.new I.ex o h)
theorem same_new {H0 H : Hp} (e : Same H0 H) {p : Addr} (o : HO) (h : H p = none) : Same H0 (upd H0 p o) := (Gr.new e o h).a
theorem ops_addT : OpSim G (rCatT G.K) oAddT := by
  intro F H0 H S cs σ Q x y z v w I rx ry e q
  unfold oAddT at e
  split at e
  · rename_i xs ys
    split at e
    · rename_i hl
      cases e
      unfold Rp at rx ry
      obtain ⟨a, vs, rfl, ha, hs⟩ := rx
      obtain ⟨b, ws, rfl, hb, ht⟩ := ry
      refine ⟨a, b, vs, ws, rfl, rfl, sqt_same I.ex ha, sqt_same I.ex hb, fun z => ?_, ?_, fun z => ?_, fun z p hp => ?_⟩
      · have := hs.len
        rw [z] at this
        cases xs with
        | nil => exact hl.1 rfl
        | cons _ _ => cases this
      · rw [hs.len, ht.len]; exact hl.2
      · refine q.here I ?_
        unfold Rp
        have e0 : ys = [] := by
          have := ht.len
          rw [z] at this
          cases ys with
          | nil => rfl
          | cons _ _ => cases this
        rw [e0, List.append_nil]
        exact ⟨a, vs, rfl, ha, hs⟩
      · refine q _ _ _ (same_new I.ex _ hp) (I.new _ hp) ?_
        show Rp G _ (.tup _) _
        unfold Rp
        exact ⟨p, _, rfl, .inl (.inl upd_same), (hs.append ht).mono (same_new I.ex _ hp)⟩
    · cases e
  · cases e
/-- lists -/
def oAddL : D → D → Option D
  | .lst xs, .lst ys => if xs.length + ys.length ≤ sizeLine then some (.lst (xs ++ ys)) else none
  | _, _ => none
theorem ops_addL : OpSim G rCat oAddL := by
  intro F H0 H S cs σ Q x y z v w I rx ry e q
  unfold oAddL at e
  split at e
  · rename_i xs ys
    split at e
    · rename_i hl
      cases e
      unfold Rp at rx ry
      obtain ⟨a, vs, rfl, ha, hs⟩ := rx
      obtain ⟨b, ws, rfl, hb, ht⟩ := ry
      refine ⟨a, b, vs, ws, rfl, rfl, I.ex _ _ ha, I.ex _ _ hb, ?_, fun p hp => ?_⟩
      · rw [hs.len, ht.len]; exact hl
      · refine q _ _ _ (same_new I.ex _ hp) (I.new _ hp) ?_
        show Rp G _ (.lst _) _
        unfold Rp
        exact ⟨p, _, rfl, upd_same, (hs.append ht).mono (same_new I.ex _ hp)⟩
    · cases e
  · cases e
/-- a + b: ints, strings, tuples, lists -/
def oAdd : D → D → Option D := orD oAddI (orD oAddS (orD oAddT oAddL))
def rAddA (K : PySem.W.Frag) : R2 := fun x y H Q => rI0 (fun i j => .int (i + j)) x y H Q ∨ ((∃ i j, x = .str i ∧ y = .str j ∧ i.length + j.length ≤ sizeLine ∧ Q (.str (i ++ j)) H) ∨ (rCatT K x y H Q ∨ rCat x y H Q))
theorem ops_add : OpSim G (rAddA G.K) oAdd := OpSim.or (ops_I0 fun _ _ _ => rp_int) (OpSim.or ops_addS (OpSim.or ops_addT ops_addL))
theorem op_addA {X : Cx} : OpR X (binaryOp .Add) (rAddA X.K) := op_add.or (op_add_str.or (op_catT.or op_cat))
/-- lists times ints -/
def oMulL : D → D → Option D
  | .lst xs, .int k => if -(2 ^ 63) ≤ k ∧ k < 2 ^ 63 ∧ xs.length * k.toNat ≤ sizeLine then some (.lst (List.replicate k.toNat xs).flatten) else none
  | _, _ => none
theorem Rps.rep {H : Hp} {ds : List D} {vs : List V} (h : Rps G H ds vs) : ∀ k : Nat, Rps G H (List.replicate k ds).flatten (List.replicate k vs).flatten
  | 0 => Rps.nil
  | k + 1 => by
    rw [List.replicate_succ, List.replicate_succ, List.flatten_cons, List.flatten_cons]
    exact h.append (Rps.rep h k)
theorem ops_mulL : OpSim G rRep oMulL := by
  intro F H0 H S cs σ Q x y z v w I rx ry e q
  unfold oMulL at e
  split at e
  · rename_i xs k
    split at e
    · rename_i hl
      cases e
      unfold Rp at rx ry
      obtain ⟨a, vs, rfl, ha, hs⟩ := rx
      refine ⟨a, k, vs, rfl, ry, I.ex _ _ ha, hl.1, hl.2.1, ?_, fun p hp => ?_⟩
      · rw [hs.len]; exact hl.2.2
      · refine q _ _ _ (same_new I.ex _ hp) (I.new _ hp) ?_
        show Rp G _ (.lst _) _
        unfold Rp
        exact ⟨p, _, rfl, upd_same, (hs.rep _).mono (same_new I.ex _ hp)⟩
    · cases e
  · cases e
def oMul : D → D → Option D := orD oMulI oMulL
def rMulA : R2 := fun x y H Q => rI CMul (fun i j => .int (i * j)) x y H Q ∨ rRep x y H Q
theorem ops_mul : OpSim G rMulA oMul := OpSim.or (ops_I (fun _ _ h => bMul_ok h) fun _ _ _ => rp_int) ops_mulL
theorem op_mulA {X : Cx} : OpR X (binaryOp .Mult) rMulA := op_mul.or op_rep
theorem ops_sub : OpSim G (rI0 fun i j => .int (i - j)) oSub := ops_I0 fun _ _ _ => rp_int
theorem ops_fdiv : OpSim G (rI CDivN fun i j => .int (i.fdiv j)) oFdiv := ops_I (fun i j h => show j ≠ 0 ∧ j.natAbs < 1073741824 from of_decide_eq_true h) fun _ _ _ => rp_int
theorem ops_mod : OpSim G (rI (fun _ j => j ≠ 0) fun i j => .int (i.fmod j)) oMod := ops_I (fun _ _ h => of_decide_eq_true h) fun _ _ _ => rp_int
theorem ops_pow : OpSim G (rI CPow fun i j => .int (i ^ j.toNat)) oPow := ops_I (fun i j h => show 0 ≤ j ∧ j ≤ 1000000 ∧ i.natAbs < 2 ^ 64 from of_decide_eq_true h) fun _ _ _ => rp_int

/-! ### comparisons -/
abbrev oLt : D → D → Option D := oInt (fun _ _ => true) fun i j => .bl (decide (i < j))
abbrev oLe : D → D → Option D := oInt (fun _ _ => true) fun i j => .bl (decide (i ≤ j))
abbrev oGt : D → D → Option D := oInt (fun _ _ => true) fun i j => .bl (decide (j < i))
abbrev oGe : D → D → Option D := oInt (fun _ _ => true) fun i j => .bl (decide (j ≤ i))
theorem ops_lt : OpSim G (rI0 fun i j => .bl (decide (i < j))) oLt := ops_I0 fun _ _ _ => rp_bl
theorem ops_le : OpSim G (rI0 fun i j => .bl (decide (i ≤ j))) oLe := ops_I0 fun _ _ _ => rp_bl
theorem ops_gt : OpSim G (rI0 fun i j => .bl (decide (j < i))) oGt := ops_I0 fun _ _ _ => rp_bl
theorem ops_ge : OpSim G (rI0 fun i j => .bl (decide (j ≤ i))) oGe := ops_I0 fun _ _ _ => rp_bl
/-- is None -/
def isNonD : D → Bool
  | .non => true
  | _ => false
def oIsN : D → D → Option D := fun x y => match y with
  | .non => some (.bl (isNonD x))
  | _ => none
def oNotN : D → D → Option D := fun x y => match y with
  | .non => some (.bl (!isNonD x))
  | _ => none
theorem isnon_of {H : Hp} {x : D} {v : V} (h : Rp G H x v) : decide (v = .non) = isNonD x := by
  cases x with
  | non => unfold Rp at h; subst h; rfl
  | bl _ => unfold Rp at h; subst h; rfl
  | int _ => unfold Rp at h; subst h; rfl
  | str _ => unfold Rp at h; subst h; rfl
  | tup _ => unfold Rp at h; obtain ⟨a, vs, rfl, _⟩ := h; rfl
  | lst _ => unfold Rp at h; obtain ⟨a, vs, rfl, _⟩ := h; rfl
  | obj _ _ _ => unfold Rp at h; obtain ⟨a, dx, vs, rfl, _⟩ := h; rfl
  | scr _ => unfold Rp at h; obtain ⟨a, rfl, _⟩ := h; rfl
theorem ops_isN : OpSim G (fun x y H Q => y = .non ∧ Q (.bl (decide (x = .non))) H) oIsN := by
  intro F H0 H S cs σ Q x y z v w I rx ry e q
  unfold oIsN at e
  split at e
  · cases e
    unfold Rp at ry
    exact ⟨ry, q.here I (by rw [isnon_of rx]; exact rp_bl)⟩
  · cases e
theorem ops_notN : OpSim G (fun x y H Q => y = .non ∧ Q (.bl (!decide (x = .non))) H) oNotN := by
  intro F H0 H S cs σ Q x y z v w I rx ry e q
  unfold oNotN at e
  split at e
  · cases e
    unfold Rp at ry
    exact ⟨ry, q.here I (by rw [isnon_of rx]; exact rp_bl)⟩
  · cases e
mutual
def toPy : D → PyData
  | .non => .none
  | .bl b => .bool b
  | .int i => .int i
  | .str x => .str x
  | .tup ds => .tuple (toPys ds)
  | .lst ds => .list (toPys ds)
  | .obj _ _ _ => .dict []
  | .scr _ => .dict []
def toPys : List D → List PyData
  | [] => []
  | d :: ds => toPy d :: toPys ds
end
mutual
def plain : D → Bool
  | .obj _ _ _ => false
  | .scr _ => false
  | .tup ds => plains ds
  | .lst ds => plains ds
  | _ => true
def plains : List D → Bool
  | [] => true
  | d :: ds => plain d && plains ds
end
mutual
theorem Rp.dp {H0 H : Hp} (e : Same H0 H) : ∀ (d : D) (v : V), Rp G H0 d v → plain d = true → Dp G.K H v (toPy d)
  | .non, v, h, _ => by unfold Rp at h; subst h; exact .non
  | .bl b, v, h, _ => by unfold Rp at h; subst h; exact .bl b
  | .int i, v, h, _ => by unfold Rp at h; subst h; exact .int i
  | .str x, v, h, _ => by unfold Rp at h; subst h; exact .str x
  | .tup ds, v, h, q => by
    unfold Rp at h
    obtain ⟨a, vs, rfl, h2, h3⟩ := h
    exact .tup (sqt_same e h2) (Rps.dp e ds vs h3 (by unfold plain at q; exact q))
  | .lst ds, v, h, q => by
    unfold Rp at h
    obtain ⟨a, vs, rfl, h2, h3⟩ := h
    exact .lst (.inl (.inl (e _ _ h2))) (Rps.dp e ds vs h3 (by unfold plain at q; exact q))
  | .obj _ _ _, v, h, q => by unfold plain at q; cases q
  | .scr _, v, h, q => by unfold plain at q; cases q
theorem Rps.dp {H0 H : Hp} (e : Same H0 H) : ∀ (ds : List D) (vs : List V), Rps G H0 ds vs → plains ds = true → DpAll G.K H vs (toPys ds)
  | [], vs, h, _ => by unfold Rps at h; subst h; exact .nil
  | d :: ds, vs, h, q => by
    unfold Rps at h
    obtain ⟨v, r, rfl, h2, h3⟩ := h
    unfold plains at q
    rw [Bool.and_eq_true] at q
    exact .cons (Rp.dp e d v h2 q.1) (Rps.dp e ds r h3 q.2)
end
def okD (d : D) : Bool := plain d && SeqAt.shaped (toPy d)
def eqD (x y : D) : Bool := PyData.eqv (toPy x) (toPy y)
def oEq : D → D → Option D := fun x y => if okD x = true ∧ okD y = true then some (.bl (eqD x y)) else none
def oNe : D → D → Option D := fun x y => if okD x = true ∧ okD y = true then some (.bl (!eqD x y)) else none
theorem ops_eq : OpSim G (rEqD G.K) oEq := by
  intro F H0 H S cs σ Q x y z v w I rx ry e q
  unfold oEq at e
  split at e
  · rename_i hk
    cases e
    have h1 := Bool.and_eq_true_iff.mp hk.1
    have h2 := Bool.and_eq_true_iff.mp hk.2
    exact ⟨_, _, Rp.dp I.ex x v rx h1.1, Rp.dp I.ex y w ry h2.1, h1.2, h2.2, q.here I rp_bl⟩
  · cases e
theorem ops_ne : OpSim G (rNeD G.K) oNe := by
  intro F H0 H S cs σ Q x y z v w I rx ry e q
  unfold oNe at e
  split at e
  · rename_i hk
    cases e
    have h1 := Bool.and_eq_true_iff.mp hk.1
    have h2 := Bool.and_eq_true_iff.mp hk.2
    exact ⟨_, _, Rp.dp I.ex x v rx h1.1, Rp.dp I.ex y w ry h2.1, h1.2, h2.2, q.here I rp_bl⟩
  · cases e

/-! ### one value -/
def dNeg (f : DE) : DE := fun S cs => match f S cs with
  | some (.c (.int i), c1) => some (.c (.int (-i)), c1)
  | _ => none
theorem sim_neg {ta : TE} {f : DE} (ha : SimE G ta f) : SimE G (tUn (rU fun i => .int (-i)) ta) (dNeg f) := by
  refine ⟨fun F H0 H S cs σ Q I r cs' e q => ?_⟩
  unfold dNeg at e
  split at e
  · rename_i i c1 e1
    cases e
    refine ha.run F H0 H S cs σ _ I _ _ e1 fun v Ha Hb s1 I1 r1 => ?_
    have r1' : Rp G Ha (.int i) v := r1
    unfold Rp at r1'
    exact ⟨i, r1', (q.mono s1).here I1 rp_int⟩
  · cases e

/-! ### truth -/
def truD : D → Option Bool
  | .non => some false
  | .bl b => some b
  | .int i => some (i != 0)
  | .str x => if x.length ≤ sizeLine then some ((x.length : Int) != 0) else none
  | .lst ds => some !ds.isEmpty
  | .tup ds => some !ds.isEmpty
  | _ => none
theorem isEmpty_rps {H : Hp} {ds : List D} {vs : List V} (h : Rps G H ds vs) : vs.isEmpty = ds.isEmpty := by
  have := h.len
  cases ds <;> cases vs <;> first | rfl | cases this
theorem tru_rb {H0 H : Hp} (ex : Same H0 H) {d : D} {v : V} {b : Bool} (h : RB G H0 H d v) (e : truD d = some b) : TruV G.K v H b := by
  cases d with
  | non => unfold RB Rp at h; subst h; cases e; rfl
  | bl _ => unfold RB Rp at h; subst h; cases e; rfl
  | int _ => unfold RB Rp at h; subst h; cases e; rfl
  | str x =>
    unfold RB Rp at h; subst h
    have e' : (if x.length ≤ sizeLine then some ((x.length : Int) != 0) else none) = some b := e
    split at e'
    · cases e'; exact ⟨by assumption, rfl⟩
    · cases e'
  | lst ds =>
    unfold RB at h
    obtain ⟨a, vs, rfl, h2, h3⟩ := h
    cases e
    exact .inl ⟨vs, .inl (.inl h2), by rw [isEmpty_rps h3]⟩
  | tup ds =>
    unfold RB Rp at h
    obtain ⟨a, vs, rfl, h2, h3⟩ := h
    cases e
    exact .inr (.inl ⟨vs, sqt_same ex h2, by rw [isEmpty_rps h3]⟩)
  | obj _ _ _ => cases e
  | scr _ => cases e
/-- a value as a test -/
def dTru (f : DE) : DT := fun S cs => match f S cs with
  | some (r, c1) => match rd S c1 r with
    | some d => match truD d with
      | some b => some (b, c1)
      | none => none
    | none => none
  | none => none
theorem sim_tru {ta : TE} {f : DE} (ha : SimE G ta f) : SimT G (fun σ H Q => ta σ H fun x H' => ∃ k, TruV G.K x H' k ∧ Q k H') (dTru f) := by
  refine ⟨fun F H0 H S cs σ Q I b cs' e q => ?_⟩
  unfold dTru at e
  split at e
  · rename_i r c1 e1
    split at e
    · rename_i d e2
      split at e
      · rename_i b' e3
        cases e
        exact ha.run F H0 H S cs σ _ I _ _ e1 fun v Ha Hb s1 I1 r1 => ⟨_, tru_rb I1.ex (rd_ok I1 r1 e2) e3, q _ _ s1 I1⟩
      · cases e
    · cases e
  · cases e
/-- a bool as a test -/
def dTst (f : DE) : DT := fun S cs => match f S cs with
  | some (.c (.bl b), c1) => some (b, c1)
  | _ => none
theorem sim_tst {ta : TE} {f : DE} (ha : SimE G ta f) : SimT G (tTest ta) (dTst f) := by
  refine ⟨fun F H0 H S cs σ Q I b cs' e q => ?_⟩
  unfold dTst at e
  split at e
  · rename_i b' c1 e1
    cases e
    refine ha.run F H0 H S cs σ _ I _ _ e1 fun v Ha Hb s1 I1 r1 => ?_
    have r1' : Rp G Ha (.bl _) v := r1
    unfold Rp at r1'
    exact ⟨_, r1', q _ _ s1 I1⟩
  · cases e
def dAnd (f g : DT) : DT := fun S cs => match f S cs with
  | some (true, c1) => g S c1
  | some (false, c1) => some (false, c1)
  | none => none
def dOr (f g : DT) : DT := fun S cs => match f S cs with
  | some (true, c1) => some (true, c1)
  | some (false, c1) => g S c1
  | none => none
def dNot (f : DT) : DT := fun S cs => match f S cs with
  | some (b, c1) => some (!b, c1)
  | none => none
theorem sim_and {t u : TT} {f g : DT} (hf : SimT G t f) (hg : SimT G u g) : SimT G (tAnd t u) (dAnd f g) := by
  refine ⟨fun F H0 H S cs σ Q I b cs' e q => ?_⟩
  unfold dAnd at e
  split at e
  · rename_i c1 e1
    refine hf.run F H0 H S cs σ _ I _ _ e1 fun Ha Hb s1 I1 => ?_
    rw [if_pos rfl]
    exact hg.run F Ha Hb S c1 σ Q I1 _ _ e fun Hc Hd s2 I2 => q _ _ (s1.trans s2) I2
  · rename_i c1 e1
    cases e
    exact hf.run F H0 H S cs σ _ I _ _ e1 fun Ha Hb s1 I1 => iteF (q _ _ s1 I1)
  · cases e
theorem sim_or {t u : TT} {f g : DT} (hf : SimT G t f) (hg : SimT G u g) : SimT G (tOr t u) (dOr f g) := by
  refine ⟨fun F H0 H S cs σ Q I b cs' e q => ?_⟩
  unfold dOr at e
  split at e
  · rename_i c1 e1
    cases e
    exact hf.run F H0 H S cs σ _ I _ _ e1 fun Ha Hb s1 I1 => iteT (q _ _ s1 I1)
  · rename_i c1 e1
    refine hf.run F H0 H S cs σ _ I _ _ e1 fun Ha Hb s1 I1 => ?_
    rw [if_neg Bool.false_ne_true]
    exact hg.run F Ha Hb S c1 σ Q I1 _ _ e fun Hc Hd s2 I2 => q _ _ (s1.trans s2) I2
  · cases e
theorem sim_not {t : TT} {f : DT} (hf : SimT G t f) : SimT G (tNot t) (dNot f) := by
  refine ⟨fun F H0 H S cs σ Q I b cs' e q => ?_⟩
  unfold dNot at e
  split at e
  · rename_i b' c1 e1
    cases e
    exact hf.run F H0 H S cs σ _ I _ _ e1 fun Ha Hb s1 I1 => q _ _ s1 I1
  · cases e
/-- a if t else b -/
def dIf (c : DT) (f g : DE) : DE := fun S cs => match c S cs with
  | some (true, c1) => f S c1
  | some (false, c1) => g S c1
  | none => none
theorem sim_if {t : TT} {c : DT} {ta tb : TE} {f g : DE} (hc : SimT G t c) (hf : SimE G ta f) (hg : SimE G tb g) : SimE G (tIf t ta tb) (dIf c f g) := by
  refine ⟨fun F H0 H S cs σ Q I r cs' e q => ?_⟩
  unfold dIf at e
  split at e
  · rename_i c1 e1
    refine hc.run F H0 H S cs σ _ I _ _ e1 fun Ha Hb s1 I1 => ?_
    rw [if_pos rfl]
    exact hf.run F Ha Hb S c1 σ Q I1 _ _ e (q.mono s1)
  · rename_i c1 e1
    refine hc.run F H0 H S cs σ _ I _ _ e1 fun Ha Hb s1 I1 => ?_
    rw [if_neg Bool.false_ne_true]
    exact hg.run F Ha Hb S c1 σ Q I1 _ _ e (q.mono s1)
  · cases e
/-- a and b, a or b, not a as values, by truth -/
def dAndV (f g : DE) : DE := fun S cs => match f S cs with
  | some (.c x, c1) => match truD x with
    | some true => g S c1
    | some false => some (.c x, c1)
    | none => none
  | _ => none
def dOrV (f g : DE) : DE := fun S cs => match f S cs with
  | some (.c x, c1) => match truD x with
    | some true => some (.c x, c1)
    | some false => g S c1
    | none => none
  | _ => none
def dNotV (f : DE) : DE := fun S cs => match f S cs with
  | some (r, c1) => match rd S c1 r with
    | some d => match truD d with
      | some b => some (.c (.bl (!b)), c1)
      | none => none
    | none => none
  | none => none
theorem sim_andV {ta tb : TE} {f g : DE} (hf : SimE G ta f) (hg : SimE G tb g) : SimE G (tAndT G.K ta tb) (dAndV f g) := by
  refine ⟨fun F H0 H S cs σ Q I r cs' e q => ?_⟩
  unfold dAndV at e
  split at e
  · rename_i x c1 e1
    refine hf.run F H0 H S cs σ _ I _ _ e1 fun v Ha Hb s1 I1 r1 => ?_
    split at e
    · rename_i e2
      refine ⟨true, tru_rb I1.ex (Rp.rb I1.ex r1) e2, ?_⟩
      rw [if_pos rfl]
      exact hg.run F Ha Hb S c1 σ Q I1 _ _ e (q.mono s1)
    · rename_i e2
      cases e
      exact ⟨false, tru_rb I1.ex (Rp.rb I1.ex r1) e2, iteF ((q.mono s1).here I1 r1)⟩
    · cases e
  · cases e
theorem sim_orV {ta tb : TE} {f g : DE} (hf : SimE G ta f) (hg : SimE G tb g) : SimE G (tOrT G.K ta tb) (dOrV f g) := by
  refine ⟨fun F H0 H S cs σ Q I r cs' e q => ?_⟩
  unfold dOrV at e
  split at e
  · rename_i x c1 e1
    refine hf.run F H0 H S cs σ _ I _ _ e1 fun v Ha Hb s1 I1 r1 => ?_
    split at e
    · rename_i e2
      cases e
      exact ⟨true, tru_rb I1.ex (Rp.rb I1.ex r1) e2, iteT ((q.mono s1).here I1 r1)⟩
    · rename_i e2
      refine ⟨false, tru_rb I1.ex (Rp.rb I1.ex r1) e2, ?_⟩
      rw [if_neg Bool.false_ne_true]
      exact hg.run F Ha Hb S c1 σ Q I1 _ _ e (q.mono s1)
    · cases e
  · cases e
theorem sim_notV {ta : TE} {f : DE} (hf : SimE G ta f) : SimE G (tNotT G.K ta) (dNotV f) := by
  refine ⟨fun F H0 H S cs σ Q I r cs' e q => ?_⟩
  unfold dNotV at e
  split at e
  · rename_i r c1 e1
    split at e
    · rename_i d e2
      split at e
      · rename_i b' e3
        cases e
        exact hf.run F H0 H S cs σ _ I _ _ e1 fun v Ha Hb s1 I1 r1 => ⟨_, tru_rb I1.ex (rd_ok I1 r1 e2) e3, (q.mono s1).here I1 rp_bl⟩
      · cases e
    · cases e
  · cases e

/-! ### arguments -/
def dNil : DA := fun _ cs => some ([], cs)
def dCons (f : DE) (g : DA) : DA := fun S cs => match f S cs with
  | some (r, c1) => match g S c1 with
    | some (rs, c2) => some (r :: rs, c2)
    | none => none
  | none => none
theorem sim_nil : SimA G tNil dNil := by
  refine ⟨fun F H0 H S cs σ Q I rs cs' e q => ?_⟩
  cases e
  exact q [] H0 H (Same.refl _) I rfl
theorem sim_cons {ta : TE} {tr : TA} {f : DE} {g : DA} (hf : SimE G ta f) (hg : SimA G tr g) : SimA G (tCons ta tr) (dCons f g) := by
  refine ⟨fun F H0 H S cs σ Q I rs cs' e q => ?_⟩
  unfold dCons at e
  split at e
  · rename_i r c1 e1
    split at e
    · rename_i rs' c2 e2
      cases e
      refine hf.run F H0 H S cs σ _ I _ _ e1 fun v Ha Hb s1 I1 r1 => ?_
      exact hg.run F Ha Hb S c1 σ _ I1 _ _ e2 fun vs Hc Hd s2 I2 r2 => q _ _ _ (s1.trans s2) I2 ⟨v, vs, rfl, r1.mono s2, r2⟩
    · cases e
  · cases e
/-- displays -/
def dTup (f : DA) : DE := fun S cs => match f S cs with
  | some (rs, c1) => match cleans rs with
    | some ds => if ds.length ≤ sizeLine then some (.c (.tup ds), c1) else none
    | none => none
  | none => none
theorem cleans_len : ∀ {rs : List R} {ds : List D}, cleans rs = some ds → rs.length = ds.length
  | [], ds, e => by cases e; rfl
  | .c d :: rs, ds, e => by
    unfold cleans at e
    split at e
    · rename_i ds' q'
      cases e
      rw [List.length_cons, List.length_cons, cleans_len q']
    · cases e
  | .o _ :: _, _, e => by cases e
  | .k :: _, _, e => by cases e
theorem sim_tup {t : TA} {f : DA} (hf : SimA G t f) : SimE G (tTup t) (dTup f) := by
  refine ⟨fun F H0 H S cs σ Q I r cs' e q => ?_⟩
  unfold dTup at e
  split at e
  · rename_i rs c1 e1
    split at e
    · rename_i ds e2
      split at e
      · rename_i hl
        cases e
        refine hf.run F H0 H S cs σ _ I _ _ e1 fun vs Ha Hb s1 I1 r1 => ?_
        have rp := cleans_ok r1 e2
        refine ⟨by rw [rp.len]; exact hl, fun p hp => q _ _ _ (s1.trans (same_new I1.ex _ hp)) (I1.new _ hp) ?_⟩
        show Rp G _ (.tup ds) _
        unfold Rp
        exact ⟨p, vs, rfl, .inl (.inl upd_same), rp.mono (same_new I1.ex _ hp)⟩
      · cases e
    · cases e
  · cases e
def dLst (f : DA) : DF := fun S cs => match f S cs with
  | some (rs, c1) => match cleans rs with
    | some ds => if ds.length ≤ sizeLine then some (ds, c1) else none
    | none => none
  | none => none
theorem StOk.off {F : Fr} {H0 H : Hp} {S : List Sl} {cs : Option D} {σ : VS} (I : StOk G F H0 H S cs σ) {p : Addr} (o : HO) (h : H p = none) : StOk G F H0 (upd H p o) S cs σ := I.grow (Gr.off I.ex o h)
/-- a new list is laid -/
theorem FinF.laid {F : Fr} {H0 H : Hp} {S : List Sl} {cs : Option D} {σ : VS} {ds : List D} {vs : List V} {Q : VK} (q : FinF G F H0 S cs σ ds Q) (I : StOk G F H0 H S cs σ) (h : Rps G H0 ds vs) {p : Addr} (hp : H p = none) : Q (.ref p) (upd H p (.lst vs)) :=
  q p vs H0 _ (Same.refl _) (I.off _ hp) (I.ex.free hp) (I.he.free hp) (I.apart hp) upd_same h
theorem FinF.mono {F : Fr} {H0 H0' : Hp} {S : List Sl} {cs : Option D} {σ : VS} {ds : List D} {Q : VK} (e : Same H0 H0') (q : FinF G F H0 S cs σ ds Q) : FinF G F H0' S cs σ ds Q := fun p vs Ha Hb s => q p vs Ha Hb (e.trans s)
theorem sim_lst {t : TA} {f : DA} (hf : SimA G t f) : SimF G (tLst t) (dLst f) := by
  refine ⟨fun F H0 H S cs σ Q I r cs' e q => ?_⟩
  unfold dLst at e
  split at e
  · rename_i rs c1 e1
    split at e
    · rename_i ds e2
      split at e
      · rename_i hl
        cases e
        refine hf.run F H0 H S cs σ _ I _ _ e1 fun vs Ha Hb s1 I1 r1 => ?_
        have rp := cleans_ok r1 e2
        exact ⟨by rw [rp.len]; exact hl, fun p hp => (q.mono s1).laid I1 rp hp⟩
      · cases e
    · cases e
  · cases e
end DL

set_option autoImplicit true
set_option relaxedAutoImplicit true
set_option Elab.async false
set_option linter.all false
set_option maxRecDepth 100000
set_option maxHeartbeats 4000000
/-! DL, C: subscripts, slices, built-ins, calls, comprehensions. -/
namespace DL
open PySem PySem.Spec PyProof.Rows L2
variable {G : Gm}

/-! ### subscripts -/
def ixD (x y : D) : Option D := match x, y with
  | .lst ds, .int i => atI ds i
  | .tup ds, .int i => atI ds i
  | .str z, .int i => if z.length ≤ sizeLine then (match atI z.cps.toList i with | some c => some (.str ⟨#[c]⟩) | none => none) else none
  | _, _ => none
/-- a subscript's base may be an owned list -/
def dIx (f g : DE) : DE := fun S cs => match f S cs with
  | some (r, c1) => match g S c1 with
    | some (.c y, c2) => match rd S c2 r with
      | some x => match ixD x y with
        | some z => some (.c z, c2)
        | none => none
      | none => none
    | _ => none
  | none => none
theorem ix_rb {F : Fr} {H0 H : Hp} {S : List Sl} {cs : Option D} {σ : VS} {Q : VK} {x y z : D} {v w : V} (I : StOk G F H0 H S cs σ) (rx : RB G H0 H x v) (ry : Rp G H0 y w) (e : ixD x y = some z) (q : Fin G F H0 S cs σ (.c z) Q) : rIx G.K v w H Q := by
  unfold ixD at e
  split at e
  · rename_i ds i
    unfold RB at rx
    unfold Rp at ry
    obtain ⟨a, vs, rfl, h2, h3⟩ := rx
    obtain ⟨u, e1, r1⟩ := h3.atI e
    exact .inl ⟨a, vs, i, u, rfl, ry, .inl (.inl h2), e1, q.here I r1⟩
  · rename_i ds i
    unfold RB Rp at rx
    unfold Rp at ry
    obtain ⟨a, vs, rfl, h2, h3⟩ := rx
    obtain ⟨u, e1, r1⟩ := h3.atI e
    exact .inr (.inl ⟨a, vs, i, u, rfl, ry, sqt_same I.ex h2, e1, q.here I r1⟩)
  · rename_i z' i
    unfold RB Rp at rx
    unfold Rp at ry
    split at e
    · rename_i hl
      split at e
      · rename_i c e1
        cases e
        exact .inr (.inr ⟨z', i, c, rx, ry, hl, e1, q.here I rp_str⟩)
      · cases e
    · cases e
  · cases e
theorem sim_ix {ta tb : TE} {f g : DE} (ha : SimE G ta f) (hb : SimE G tb g) : SimE G (tOp (rIx G.K) ta tb) (dIx f g) := by
  refine ⟨fun F H0 H S cs σ Q I r cs' e q => ?_⟩
  unfold dIx at e
  split at e
  · rename_i r1 c1 e1
    split at e
    · rename_i y c2 e2
      split at e
      · rename_i x e3
        split at e
        · rename_i z e4
          cases e
          refine ha.run F H0 H S cs σ _ I _ _ e1 fun v Ha Hb s1 I1 q1 => ?_
          refine hb.run F Ha Hb S c1 σ _ I1 _ _ e2 fun w Hc Hd s2 I2 q2 => ?_
          exact ix_rb I2 (rd_ok I2 (q1.mono s2) e3) q2 e4 (q.mono (s1.trans s2))
        · cases e
      · cases e
    · cases e
  · cases e

/-! ### slices -/
abbrev DO := List Sl → Option D → Option (Option Int × Option D)
structure SimO (G : Gm) (t : TO) (f : DO) : Prop where
  run : ∀ (F : Fr) (H0 H : Hp) (S : List Sl) (cs : Option D) (σ : VS) (Q : Option Int → Hp → Prop), StOk G F H0 H S cs σ → ∀ o cs', f S cs = some (o, cs') →
    (∀ H0' H', Same H0 H0' → StOk G F H0' H' S cs' σ → Q o H') → t σ H Q
def dNoPart : DO := fun _ cs => some (none, cs)
def dPart (f : DE) : DO := fun S cs => match f S cs with
  | some (.c (.int i), c1) => some (some i, c1)
  | _ => none
theorem sim_nopart : SimO G tNoPart dNoPart := by
  refine ⟨fun F H0 H S cs σ Q I o cs' e q => ?_⟩
  cases e
  exact q H0 H (Same.refl _) I
theorem sim_part {ta : TE} {f : DE} (ha : SimE G ta f) : SimO G (tPart ta) (dPart f) := by
  refine ⟨fun F H0 H S cs σ Q I o cs' e q => ?_⟩
  unfold dPart at e
  split at e
  · rename_i i c1 e1
    cases e
    refine ha.run F H0 H S cs σ _ I _ _ e1 fun v Ha Hb s1 I1 r1 => ?_
    have r1' : Rp G Ha (.int i) v := r1
    unfold Rp at r1'
    exact ⟨i, r1', q _ _ s1 I1⟩
  · cases e
def cutD {α : Type} (xs : List α) (lo hi : Option Int) : List α := (xs.drop (HT.sIx xs.length 0 lo)).take (HT.sIx xs.length xs.length hi - HT.sIx xs.length 0 lo)
theorem Rps.cut {H : Hp} {ds : List D} {vs : List V} (h : Rps G H ds vs) (lo hi : Option Int) : Rps G H (cutD ds lo hi) (cutV vs lo hi) := by
  unfold cutD cutV
  rw [h.len]
  exact (h.drop _).take _
/-- a list's slice, as a new list -/
def dSlF (f : DE) (lo hi : DO) : DF := fun S cs => match f S cs with
  | some (r, c1) => match lo S c1 with
    | some (a, c2) => match hi S c2 with
      | some (b, c3) => match rd S c3 r with
        | some (.lst ds) => some (cutD ds a b, c3)
        | some (.scr ns) => some (cutD (ns.map D.int) a b, c3)
        | _ => none
      | none => none
    | none => none
  | none => none
theorem rps_ints {H : Hp} : ∀ ns : List Int, Rps G H (ns.map D.int) (ns.map V.int)
  | [] => Rps.nil
  | n :: ns => Rps.cons rp_int (rps_ints ns)
theorem sim_slF {ta : TE} {tl th : TO} {f : DE} {lo hi : DO} (ha : SimE G ta f) (hl : SimO G tl lo) (hh : SimO G th hi) : SimF G (tSl (rSlL G.K) ta tl th) (dSlF f lo hi) := by
  refine ⟨fun F H0 H S cs σ Q I r cs' e q => ?_⟩
  unfold dSlF at e
  split at e
  · rename_i r1 c1 e1
    split at e
    · rename_i a c2 e2
      split at e
      · rename_i b c3 e3
        split at e
        · rename_i ds e4
          cases e
          refine ha.run F H0 H S cs σ _ I _ _ e1 fun v Ha Hb s1 I1 q1 => ?_
          refine hl.run F Ha Hb S c1 σ _ I1 _ _ e2 fun Hc Hd s2 I2 => ?_
          refine hh.run F Hc Hd S c2 σ _ I2 _ _ e3 fun He Hf s3 I3 => ?_
          have rb := rd_ok I3 (q1.mono (s2.trans s3)) e4
          unfold RB at rb
          obtain ⟨p, vs, rfl, h2, h3⟩ := rb
          exact ⟨p, vs, rfl, .inl (.inl h2), fun p' hp => (q.mono ((s1.trans s2).trans s3)).laid I3 (h3.cut a b) hp⟩
        · rename_i ns e4
          cases e
          refine ha.run F H0 H S cs σ _ I _ _ e1 fun v Ha Hb s1 I1 q1 => ?_
          refine hl.run F Ha Hb S c1 σ _ I1 _ _ e2 fun Hc Hd s2 I2 => ?_
          refine hh.run F Hc Hd S c2 σ _ I2 _ _ e3 fun He Hf s3 I3 => ?_
          have rb := rd_ok I3 (q1.mono (s2.trans s3)) e4
          unfold RB Rp at rb
          obtain ⟨p, rfl, h2⟩ := rb
          exact ⟨p, _, rfl, I3.ex.seq h2, fun p' hp => (q.mono ((s1.trans s2).trans s3)).laid I3 ((rps_ints ns).cut a b) hp⟩
        · cases e
      · cases e
    · cases e
  · cases e

/-! ### built-ins -/
/-- a call whose value is made of what the arguments read -/
def CallSim (G : Gm) (r : List V → Hp → VK → Prop) (op : List D → Option D) : Prop :=
  ∀ (F : Fr) (H0 H : Hp) (S : List Sl) (cs : Option D) (σ : VS) (Q : VK) (xs : List D) (z : D) (vs : List V), StOk G F H0 H S cs σ → RBs G H0 H xs vs → op xs = some z → Fin G F H0 S cs σ (.c z) Q → r vs H Q
def CallSimF (G : Gm) (r : List V → Hp → VK → Prop) (op : List D → Option (List D)) : Prop :=
  ∀ (F : Fr) (H0 H : Hp) (S : List Sl) (cs : Option D) (σ : VS) (Q : VK) (xs zs : List D) (vs : List V), StOk G F H0 H S cs σ → RBs G H0 H xs vs → op xs = some zs → FinF G F H0 S cs σ zs Q → r vs H Q
def dCB (op : List D → Option D) (f : DA) : DE := fun S cs => match f S cs with
  | some (rs, c1) => match rds S c1 rs with
    | some xs => match op xs with
      | some z => some (.c z, c1)
      | none => none
    | none => none
  | none => none
theorem sim_cb {r : List V → Hp → VK → Prop} {op : List D → Option D} {t : TA} {f : DA} (ho : CallSim G r op) (hf : SimA G t f) : SimE G (tCB r t) (dCB op f) := by
  refine ⟨fun F H0 H S cs σ Q I r cs' e q => ?_⟩
  unfold dCB at e
  split at e
  · rename_i rs c1 e1
    split at e
    · rename_i xs e2
      split at e
      · rename_i z e3
        cases e
        exact hf.run F H0 H S cs σ _ I _ _ e1 fun vs Ha Hb s1 I1 r1 => ho F Ha Hb S _ σ Q xs z vs I1 (rds_ok I1 r1 e2) e3 (q.mono s1)
      · cases e
    · cases e
  · cases e
def dCBF (op : List D → Option (List D)) (f : DA) : DF := fun S cs => match f S cs with
  | some (rs, c1) => match rds S c1 rs with
    | some xs => match op xs with
      | some z => some (z, c1)
      | none => none
    | none => none
  | none => none
theorem sim_cbF {r : List V → Hp → VK → Prop} {op : List D → Option (List D)} {t : TA} {f : DA} (ho : CallSimF G r op) (hf : SimA G t f) : SimF G (tCB r t) (dCBF op f) := by
  refine ⟨fun F H0 H S cs σ Q I r cs' e q => ?_⟩
  unfold dCBF at e
  split at e
  · rename_i rs c1 e1
    split at e
    · rename_i xs e2
      split at e
      · rename_i z e3
        cases e
        exact hf.run F H0 H S cs σ _ I _ _ e1 fun vs Ha Hb s1 I1 r1 => ho F Ha Hb S _ σ Q xs _ vs I1 (rds_ok I1 r1 e2) e3 (q.mono s1)
      · cases e
    · cases e
  · cases e
theorem RBs.one {H0 H : Hp} {x : D} {vs : List V} (h : RBs G H0 H [x] vs) : ∃ v, vs = [v] ∧ RB G H0 H x v := by
  obtain ⟨v, w, rfl, h1, rfl⟩ := h
  exact ⟨v, rfl, h1⟩
theorem RBs.two {H0 H : Hp} {x y : D} {vs : List V} (h : RBs G H0 H [x, y] vs) : ∃ v w, vs = [v, w] ∧ RB G H0 H x v ∧ RB G H0 H y w := by
  obtain ⟨v, w, rfl, h1, w2, w3, rfl, h2, rfl⟩ := h
  exact ⟨v, w2, rfl, h1, h2⟩
/-- what stands in a list or a tuple -/
def itemsD : D → Option (List D)
  | .lst ds => some ds
  | .tup ds => some ds
  | _ => none
theorem seq_rb {H0 H : Hp} (ex : Same H0 H) {x : D} {v : V} {ds : List D} (h : RB G H0 H x v) (e : itemsD x = some ds) : ∃ a vs, v = .ref a ∧ (SqL G.K H a vs ∨ SqT G.K H a vs) ∧ Rps G H0 ds vs := by
  cases x with
  | lst xs => cases e; obtain ⟨a, vs, e1, h2, h3⟩ := h; exact ⟨a, vs, e1, .inl (.inl (.inl h2)), h3⟩
  | tup xs =>
    cases e
    unfold RB Rp at h
    obtain ⟨a, vs, e1, h2, h3⟩ := h
    exact ⟨a, vs, e1, .inr (sqt_same ex h2), h3⟩
  | _ => cases e

/-- len -/
def oLen : List D → Option D
  | [.str x] => if x.length ≤ sizeLine then some (.int x.length) else none
  | [x] => match itemsD x with
    | some ds => some (.int ds.length)
    | none => none
  | _ => none
def rLenA (K : PySem.W.Frag) : List V → Hp → VK → Prop := fun xs H Q => ∃ x n, xs = [x] ∧ LenV K x H n ∧ Q (.int n) H
theorem cs_len : CallSim G (rLenA G.K) oLen := by
  intro F H0 H S cs σ Q xs z vs I rb e q
  unfold oLen at e
  split at e
  · split at e
    · rename_i x hl
      cases e
      obtain ⟨v, rfl, h⟩ := rb.one
      unfold RB Rp at h
      subst h
      exact ⟨_, _, rfl, ⟨hl, rfl⟩, q.here I rp_int⟩
    · cases e
  · split at e
    · rename_i x ds e1
      cases e
      obtain ⟨v, rfl, h⟩ := rb.one
      obtain ⟨a, vs, rfl, hs, hr⟩ := seq_rb I.ex h e1
      refine ⟨_, ds.length, rfl, ?_, q.here I rp_int⟩
      rcases hs with hs | hs
      · exact .inl ⟨vs, hs, hr.len.symm⟩
      · exact .inr ⟨vs, hs, hr.len.symm⟩
    · cases e
  · cases e
/-- abs, int, bool -/
def oAbs : List D → Option D
  | [.int i] => some (.int (if i < 0 then -i else i))
  | _ => none
theorem cs_abs : CallSim G (fun xs H Q => ∃ i, xs = [.int i] ∧ Q (.int (if i < 0 then -i else i)) H) oAbs := by
  intro F H0 H S cs σ Q xs z vs I rb e q
  unfold oAbs at e
  split at e
  · cases e
    obtain ⟨v, rfl, h⟩ := rb.one
    unfold RB Rp at h
    subst h
    exact ⟨_, rfl, q.here I rp_int⟩
  · cases e
def oToInt : List D → Option D
  | [.int i] => some (.int i)
  | [.bl k] => some (.int (if k then 1 else 0))
  | _ => none
theorem cs_int : CallSim G (fun xs H Q => (∃ i, xs = [.int i] ∧ Q (.int i) H) ∨ ∃ k, xs = [.bl k] ∧ Q (.int (if k then 1 else 0)) H) oToInt := by
  intro F H0 H S cs σ Q xs z vs I rb e q
  unfold oToInt at e
  split at e
  · cases e
    obtain ⟨v, rfl, h⟩ := rb.one
    unfold RB Rp at h
    subst h
    exact .inl ⟨_, rfl, q.here I rp_int⟩
  · cases e
    obtain ⟨v, rfl, h⟩ := rb.one
    unfold RB Rp at h
    subst h
    exact .inr ⟨_, rfl, q.here I rp_int⟩
  · cases e
def oMax2 : List D → Option D
  | [.int i, .int j] => some (.int (if j > i then j else i))
  | _ => none
def oMin2 : List D → Option D
  | [.int i, .int j] => some (.int (if j < i then j else i))
  | _ => none
theorem cs_max2 : CallSim G (fun xs H Q => ∃ i j, xs = [.int i, .int j] ∧ Q (.int (if j > i then j else i)) H) oMax2 := by
  intro F H0 H S cs σ Q xs z vs I rb e q
  unfold oMax2 at e
  split at e
  · cases e
    obtain ⟨v, w, rfl, h1, h2⟩ := rb.two
    unfold RB Rp at h1 h2
    subst h1; subst h2
    exact ⟨_, _, rfl, q.here I rp_int⟩
  · cases e
theorem cs_min2 : CallSim G (fun xs H Q => ∃ i j, xs = [.int i, .int j] ∧ Q (.int (if j < i then j else i)) H) oMin2 := by
  intro F H0 H S cs σ Q xs z vs I rb e q
  unfold oMin2 at e
  split at e
  · cases e
    obtain ⟨v, w, rfl, h1, h2⟩ := rb.two
    unfold RB Rp at h1 h2
    subst h1; subst h2
    exact ⟨_, _, rfl, q.here I rp_int⟩
  · cases e
/-- the ints of a list -/
def intsD : List D → Option (List Int)
  | [] => some []
  | .int i :: r => match intsD r with
    | some ns => some (i :: ns)
    | none => none
  | _ => none
def blsD : List D → Option (List Bool)
  | [] => some []
  | .bl i :: r => match blsD r with
    | some ns => some (i :: ns)
    | none => none
  | _ => none
theorem rps_intsD {H : Hp} : ∀ {ds : List D} {vs : List V} {ns : List Int}, Rps G H ds vs → intsD ds = some ns → vs = ns.map V.int
  | [], vs, ns, h, e => by cases e; unfold Rps at h; exact h
  | .int i :: r, vs, ns, h, e => by
    unfold Rps at h
    obtain ⟨v, w, rfl, h1, h2⟩ := h
    unfold intsD at e
    split at e
    · rename_i ns' e1
      cases e
      unfold Rp at h1
      rw [h1, rps_intsD h2 e1]; rfl
    · cases e
  | .non :: _, _, _, _, e => by cases e
  | .bl _ :: _, _, _, _, e => by cases e
  | .str _ :: _, _, _, _, e => by cases e
  | .tup _ :: _, _, _, _, e => by cases e
  | .lst _ :: _, _, _, _, e => by cases e
  | .obj _ _ _ :: _, _, _, _, e => by cases e
  | .scr _ :: _, _, _, _, e => by cases e
theorem rps_blsD {H : Hp} : ∀ {ds : List D} {vs : List V} {ns : List Bool}, Rps G H ds vs → blsD ds = some ns → vs = ns.map V.bl
  | [], vs, ns, h, e => by cases e; unfold Rps at h; exact h
  | .bl i :: r, vs, ns, h, e => by
    unfold Rps at h
    obtain ⟨v, w, rfl, h1, h2⟩ := h
    unfold blsD at e
    split at e
    · rename_i ns' e1
      cases e
      unfold Rp at h1
      rw [h1, rps_blsD h2 e1]; rfl
    · cases e
  | .non :: _, _, _, _, e => by cases e
  | .int _ :: _, _, _, _, e => by cases e
  | .str _ :: _, _, _, _, e => by cases e
  | .tup _ :: _, _, _, _, e => by cases e
  | .lst _ :: _, _, _, _, e => by cases e
  | .obj _ _ _ :: _, _, _, _, e => by cases e
  | .scr _ :: _, _, _, _, e => by cases e
/-- all, any of a list of truth values -/
def oAll : List D → Option D
  | [.lst ds] => match blsD ds with
    | some bs => some (.bl (bs.all id))
    | none => none
  | _ => none
def oAny : List D → Option D
  | [.lst ds] => match blsD ds with
    | some bs => some (.bl (bs.any id))
    | none => none
  | _ => none
theorem cs_all : CallSim G (rAll G.K) oAll := by
  intro F H0 H S cs σ Q xs z vs I rb e q
  unfold oAll at e
  split at e
  · split at e
    · rename_i ds bs e1
      cases e
      obtain ⟨v, rfl, h⟩ := rb.one
      unfold RB at h
      obtain ⟨a, ws, rfl, h2, h3⟩ := h
      exact ⟨a, bs, rfl, .inl (.inl (by rw [h2, rps_blsD h3 e1])), q.here I rp_bl⟩
    · cases e
  · cases e
theorem cs_any : CallSim G (rAny G.K) oAny := by
  intro F H0 H S cs σ Q xs z vs I rb e q
  unfold oAny at e
  split at e
  · split at e
    · rename_i ds bs e1
      cases e
      obtain ⟨v, rfl, h⟩ := rb.one
      unfold RB at h
      obtain ⟨a, ws, rfl, h2, h3⟩ := h
      exact ⟨a, bs, rfl, .inl (.inl (by rw [h2, rps_blsD h3 e1])), q.here I rp_bl⟩
    · cases e
  · cases e
/-- the greatest, the least of a list of ints -/
def maxI : List Int → Int
  | [] => 0
  | [x] => x
  | x :: r => if maxI r > x then maxI r else x
def minI : List Int → Int
  | [] => 0
  | [x] => x
  | x :: r => if minI r < x then minI r else x
theorem maxI_cons (x y : Int) (r : List Int) : maxI (x :: y :: r) = if maxI (y :: r) > x then maxI (y :: r) else x := rfl
theorem minI_cons (x y : Int) (r : List Int) : minI (x :: y :: r) = if minI (y :: r) < x then minI (y :: r) else x := rfl
theorem maxI_ge : ∀ {ns : List Int} {y : Int}, y ∈ ns → y ≤ maxI ns
  | [x], y, h => by rw [List.mem_singleton.mp h]; exact Int.le_refl _
  | x :: z :: r, y, h => by
    rw [maxI_cons]
    rcases List.mem_cons.mp h with e | h
    · split <;> omega
    · have := maxI_ge h
      split <;> omega
theorem maxI_mem : ∀ {ns : List Int}, ns ≠ [] → maxI ns ∈ ns
  | [], h => absurd rfl h
  | [x], _ => List.mem_singleton.mpr rfl
  | x :: y :: r, _ => by
    rw [maxI_cons]
    split
    · exact List.mem_cons_of_mem _ (maxI_mem (by simp))
    · exact List.mem_cons_self
theorem minI_le : ∀ {ns : List Int} {y : Int}, y ∈ ns → minI ns ≤ y
  | [x], y, h => by rw [List.mem_singleton.mp h]; exact Int.le_refl _
  | x :: z :: r, y, h => by
    rw [minI_cons]
    rcases List.mem_cons.mp h with e | h
    · split <;> omega
    · have := minI_le h
      split <;> omega
theorem minI_mem : ∀ {ns : List Int}, ns ≠ [] → minI ns ∈ ns
  | [], h => absurd rfl h
  | [x], _ => List.mem_singleton.mpr rfl
  | x :: y :: r, _ => by
    rw [minI_cons]
    split
    · exact List.mem_cons_of_mem _ (minI_mem (by simp))
    · exact List.mem_cons_self
def oMaxL : List D → Option D
  | [.lst ds] => match intsD ds with
    | some ns => if ns = [] then none else some (.int (maxI ns))
    | none => none
  | _ => none
def oMinL : List D → Option D
  | [.lst ds] => match intsD ds with
    | some ns => if ns = [] then none else some (.int (minI ns))
    | none => none
  | _ => none
def oSumL : List D → Option D
  | [.lst ds] => match intsD ds with
    | some ns => some (.int ns.sum)
    | none => none
  | _ => none
theorem pos_of_ne {α : Type} {l : List α} (h : ¬ l = []) : 0 < l.length := by
  cases l with
  | nil => exact absurd rfl h
  | cons _ _ => exact Nat.succ_pos _
theorem cs_maxL : CallSim G (rMax G.K) oMaxL := by
  intro F H0 H S cs σ Q xs z vs I rb e q
  unfold oMaxL at e
  split at e
  · split at e
    · rename_i ds ns e1
      split at e
      · cases e
      · rename_i hn
        cases e
        obtain ⟨v, rfl, h⟩ := rb.one
        unfold RB at h
        obtain ⟨a, ws, rfl, h2, h3⟩ := h
        refine ⟨a, ns, rfl, .inl (.inl (by rw [h2, rps_intsD h3 e1])), pos_of_ne hn, fun m hm hle => ?_⟩
        have : m = maxI ns := Int.le_antisymm (maxI_ge hm) (hle _ (maxI_mem hn))
        subst this
        exact q.here I rp_int
    · cases e
  · cases e
theorem cs_minL : CallSim G (rMin G.K) oMinL := by
  intro F H0 H S cs σ Q xs z vs I rb e q
  unfold oMinL at e
  split at e
  · split at e
    · rename_i ds ns e1
      split at e
      · cases e
      · rename_i hn
        cases e
        obtain ⟨v, rfl, h⟩ := rb.one
        unfold RB at h
        obtain ⟨a, ws, rfl, h2, h3⟩ := h
        refine ⟨a, ns, rfl, .inl (.inl (by rw [h2, rps_intsD h3 e1])), pos_of_ne hn, fun m hm hle => ?_⟩
        have : m = minI ns := Int.le_antisymm (hle _ (minI_mem hn)) (minI_le hm)
        subst this
        exact q.here I rp_int
    · cases e
  · cases e
theorem cs_sumL : CallSim G (rSum G.K) oSumL := by
  intro F H0 H S cs σ Q xs z vs I rb e q
  unfold oSumL at e
  split at e
  · split at e
    · rename_i ds ns e1
      cases e
      obtain ⟨v, rfl, h⟩ := rb.one
      unfold RB at h
      obtain ⟨a, ws, rfl, h2, h3⟩ := h
      exact ⟨a, ns, rfl, .inl (.inl (by rw [h2, rps_intsD h3 e1])), q.here I rp_int⟩
    · cases e
  · cases e
/-- tuple(x) -/
def oTuple : List D → Option D
  | [.lst ds] => some (.tup ds)
  | [.tup ds] => some (.tup ds)
  | _ => none
def rTupleA (K : PySem.W.Frag) : List V → Hp → VK → Prop := fun xs H Q => ∃ p ys, xs = [.ref p] ∧ ((SqL K H p ys ∧ ∀ l, H l = none → Q (.ref l) (upd H l (.tup ys))) ∨ (SqT K H p ys ∧ Q (.ref p) H))
theorem cs_tuple : CallSim G (rTupleA G.K) oTuple := by
  intro F H0 H S cs σ Q xs z vs I rb e q
  unfold oTuple at e
  split at e
  · rename_i ds
    cases e
    obtain ⟨v, rfl, h⟩ := rb.one
    unfold RB at h
    obtain ⟨a, ws, rfl, h2, h3⟩ := h
    refine ⟨a, ws, rfl, .inl ⟨.inl (.inl h2), fun l hl => q _ _ _ (same_new I.ex _ hl) (I.new _ hl) ?_⟩⟩
    show Rp G _ (.tup ds) _
    unfold Rp
    exact ⟨l, ws, rfl, .inl (.inl upd_same), h3.mono (same_new I.ex _ hl)⟩
  · rename_i ds
    cases e
    obtain ⟨v, rfl, h⟩ := rb.one
    unfold RB at h
    have h' := h
    unfold Rp at h
    obtain ⟨a, ws, rfl, h2, h3⟩ := h
    exact ⟨a, ws, rfl, .inr ⟨sqt_same I.ex h2, q.here I h'⟩⟩
  · cases e
/-- list(x) -/
def oList : List D → Option (List D)
  | [x] => itemsD x
  | _ => none
def rListA (K : PySem.W.Frag) : List V → Hp → VK → Prop := fun xs H Q => ∃ p ys, xs = [.ref p] ∧ (SqL K H p ys ∨ SqT K H p ys) ∧ ∀ l, H l = none → Q (.ref l) (upd H l (.lst ys))
theorem cs_list : CallSimF G (rListA G.K) oList := by
  intro F H0 H S cs σ Q xs zs vs I rb e q
  unfold oList at e
  split at e
  · obtain ⟨v, rfl, h⟩ := rb.one
    obtain ⟨a, ws, rfl, hs, hr⟩ := seq_rb I.ex h e
    exact ⟨a, ws, rfl, hs, fun l hl => q.laid I hr hl⟩
  · cases e

/-! ### calls of the text's defs -/
/-- what a def without the cell promises -/
def spF (G : Gm) (m : List D → Option D) : Sp := fun vs H Q _ => ∃ H0 ds d, Same H0 H ∧ Rps G H0 ds vs ∧ m ds = some d ∧ ∀ v H0' H', Gr H0 H H0' H' → Rp G H0' d v → Q v H'
/-- what a def promises whose first argument is the cell -/
def spC (G : Gm) (m : D → List D → Option (D × D)) : Sp := fun ws H Q _ => ∃ p vs He H0 c ds d c', ws = .ref p :: vs ∧ Same H0 H ∧ Same He H ∧ PcOk G He H0 H (some p) (some c) ∧ Rps G H0 ds vs ∧ m c ds = some (d, c') ∧
  ∀ v H0' H', Same H0 H0' → Same H0' H' → Same He H' → (∀ a, He a ≠ none → H0 a = none → H0' a = none) → PcOk G He H0' H' (some p) (some c') → Rp G H0' d v → Q v H'
def dCall (m : List D → Option D) (f : DA) : DE := fun S cs => match f S cs with
  | some (rs, c1) => match cleans rs with
    | some ds => match m ds with
      | some d => some (.c d, c1)
      | none => none
    | none => none
  | none => none
theorem sim_call {m : List D → Option D} {t : TA} {f : DA} {E : XK} (hf : SimA G t f) : SimE G (tCall (spF G m) [] E t) (dCall m f) := by
  refine ⟨fun F H0 H S cs σ Q I r cs' e q => ?_⟩
  unfold dCall at e
  split at e
  · rename_i rs c1 e1
    split at e
    · rename_i ds e2
      split at e
      · rename_i d e3
        cases e
        refine hf.run F H0 H S cs σ _ I _ _ e1 fun vs Ha Hb s1 I1 r1 => ?_
        rw [List.append_nil]
        exact ⟨Ha, ds, d, I1.ex, cleans_ok r1 e2, e3, fun v H0' H' g rp => q _ _ _ (s1.trans g.a) (I1.grow g) rp⟩
      · cases e
    · cases e
  · cases e
end DL

set_option autoImplicit true
set_option relaxedAutoImplicit true
set_option Elab.async false
set_option linter.all false
set_option maxRecDepth 100000
set_option maxHeartbeats 4000000
/-! DL, D: calls with the cell, instances, isinstance. -/
namespace DL
open PySem PySem.Spec PyProof.Rows L2
variable {G : Gm}

/-! ### the cell handed on -/
def dCallC (m : D → List D → Option (D × D)) (f : DA) : DE := fun S cs => match f S cs with
  | some (.k :: rs, some c) => match cleans rs with
    | some ds => match m c ds with
      | some (d, c') => some (.c d, some c')
      | none => none
    | none => none
  | _ => none
/-- all that stands but the cell -/
def but (H : Hp) (p dx : Addr) : Hp := fun a => if a = p ∨ a = dx then none else H a
theorem but_same {H : Hp} {p dx : Addr} : Same (but H p dx) H := fun a o e => by
  unfold but at e
  split at e
  · cases e
  · exact e
theorem but_ne {H : Hp} {p dx a : Addr} (h1 : a ≠ p) (h2 : a ≠ dx) : but H p dx a = H a := by
  unfold but
  rw [if_neg (fun z => z.elim h1 h2)]
theorem but_p {H : Hp} {p dx : Addr} : but H p dx p = none := by unfold but; rw [if_pos (.inl rfl)]
theorem but_dx {H : Hp} {p dx : Addr} : but H p dx dx = none := by unfold but; rw [if_pos (.inr rfl)]
section
variable {F : Fr} {H0 H H0' H' : Hp} {S : List Sl} {σ : VS} {p : Addr} {c c' : D}
/-- the cell's own dict, or itself -/
theorem pc_dx (h : PcOk G F.He H0 H (some p) (some c)) : ∃ dx, (dx = p ∨ H dx = some (.own p)) ∧ F.He dx = none ∧ H0 dx = none ∧ PcOk G (but H p dx) H0 H (some p) (some c) := by
  cases c with
  | lst ds => obtain ⟨h1, h2, vs, h3, h4⟩ := h; exact ⟨p, .inl rfl, h2, h1, h1, but_p, vs, h3, h4⟩
  | obj C ns ds =>
    obtain ⟨h1, h2, dx, vs, h3, h4, h5, h6, h7, h8⟩ := h
    exact ⟨dx, .inr h4, h6, h5, h1, but_p, dx, vs, h3, h4, h5, but_dx, h7, h8⟩
  | _ => exact False.elim h
theorem pc_back {dx : Addr} (h : PcOk G (but H p dx) H0' H' (some p) (some c')) (he : Same F.He H) (hp : F.He p = none) (hd : F.He dx = none) : PcOk G F.He H0' H' (some p) (some c') := by
  cases c' with
  | lst ds => obtain ⟨h1, h2, vs, h3, h4⟩ := h; exact ⟨h1, hp, vs, h3, h4⟩
  | obj C ns ds =>
    obtain ⟨h1, h2, dx', vs, h3, h4, h5, h6, h7, h8⟩ := h
    refine ⟨h1, hp, dx', vs, h3, h4, h5, ?_, h7, h8⟩
    cases q : F.He dx' with
    | none => rfl
    | some o =>
      have e := he _ _ q
      by_cases z1 : dx' = p
      · rw [z1, hp] at q; cases q
      · by_cases z2 : dx' = dx
        · rw [z2, hd] at q; cases q
        · rw [but_ne z1 z2, e] at h6; cases h6
  | _ => exact False.elim h
/-- behind a call that was handed the cell -/
theorem StOk.after (I : StOk G F H0 H S (some c) σ) (hpc : F.pc = some p) {dx : Addr} (hdx : dx = p ∨ H dx = some (.own p)) (hd : F.He dx = none) (h0d : H0 dx = none) (s1 : Same H0 H0') (s2 : Same H0' H') (s3 : Same (but H p dx) H')
    (s4 : ∀ a, but H p dx a ≠ none → H0 a = none → H0' a = none) (h : PcOk G (but H p dx) H0' H' (some p) (some c')) : StOk G F H0' H' S (some c') σ := by
  have hp : F.He p = none := by
    have q := I.pc
    rw [hpc] at q
    cases c with
    | lst ds => exact q.2.1
    | obj C ns ds => exact q.2.1
    | _ => exact False.elim q
  have keepH : ∀ a o, F.He a = some o → but H p dx a = some o := fun a o e => by
    rw [but_ne (fun z => by rw [z, hp] at e; cases e) (fun z => by rw [z, hd] at e; cases e)]
    exact I.he _ _ e
  refine ⟨s2, fun a o e => s3 _ _ (keepH a o e), fun a b => ⟨(I.bn a b).1, ?_⟩, I.len, fun i s e => ?_, I.ds, ?_⟩
  · refine s4 a ?_ (I.bn a b).2
    cases q : F.He a with
    | none => exact absurd q (I.bn a b).1
    | some o => rw [keepH a o q]; simp
  · have q := I.sl i s e
    cases s with
    | no => trivial
    | val d => obtain ⟨v, e1, r⟩ := q; exact ⟨v, e1, r.mono s1⟩
    | own ds =>
      obtain ⟨a, vs, e1, h1, h2, h3, h4, h5⟩ := q
      have n1 : a ≠ p := fun z => h3 (by rw [hpc, z])
      have n2 : a ≠ dx := fun z => by
        rcases hdx with w | w
        · exact n1 (z.trans w)
        · rw [← z, h4] at w; cases w
      have q1 : but H p dx a = some (.lst vs) := by rw [but_ne n1 n2]; exact h4
      exact ⟨a, vs, e1, s4 a (by rw [q1]; simp) h1, h2, h3, s3 _ _ q1, h5.mono s1⟩
    | cst => exact q
  · rw [hpc]
    exact pc_back h I.he hp hd
end
theorem sim_callC {m : D → List D → Option (D × D)} {t : TA} {f : DA} {E : XK} (hf : SimA G t f) : SimE G (tCall (spC G m) [] E t) (dCallC m f) := by
  refine ⟨fun F H0 H S cs σ Q I r cs' e q => ?_⟩
  unfold dCallC at e
  split at e
  · rename_i rs c e1
    split at e
    · rename_i ds e2
      split at e
      · rename_i d c' e3
        cases e
        refine hf.run F H0 H S cs σ _ I _ _ e1 fun vs Ha Hb s1 I1 r1 => ?_
        obtain ⟨v, w, rfl, ⟨p, hpc, rfl⟩, r2⟩ := r1
        rw [List.append_nil]
        have hc := I1.pc
        rw [hpc] at hc
        obtain ⟨dx, z1, z2, z3, z4⟩ := pc_dx (F := F) hc
        exact ⟨p, w, but Hb p dx, Ha, c, ds, d, c', rfl, I1.ex, but_same, z4, cleans_ok r2 e2, e3, fun v H0' H' a1 a2 a3 a4 a5 rp => q _ _ _ (s1.trans a1) (I1.after hpc z1 z2 z3 a1 a2 a3 a4 a5) rp⟩
      · cases e
    · cases e
  · cases e
/-- a fresh list comes back -/
def spN (G : Gm) (m : List D → Option (List D)) : Sp := fun vs H Q _ => ∃ H0 ds d, Same H0 H ∧ Rps G H0 ds vs ∧ m ds = some d ∧ ∀ p ws H0' H', Gr H0 H H0' H' → H p = none → H0' p = none → H' p = some (.lst ws) → Rps G H0' d ws → Q (.ref p) H'
def dCallN (m : List D → Option (List D)) (f : DA) : DF := fun S cs => match f S cs with
  | some (rs, c1) => match cleans rs with
    | some ds => match m ds with
      | some d => some (d, c1)
      | none => none
    | none => none
  | none => none
theorem sim_callN {m : List D → Option (List D)} {t : TA} {f : DA} {E : XK} (hf : SimA G t f) : SimF G (tCall (spN G m) [] E t) (dCallN m f) := by
  refine ⟨fun F H0 H S cs σ Q I r cs' e q => ?_⟩
  unfold dCallN at e
  split at e
  · rename_i rs c1 e1
    split at e
    · rename_i ds e2
      split at e
      · rename_i d e3
        cases e
        refine hf.run F H0 H S cs σ _ I _ _ e1 fun vs Ha Hb s1 I1 r1 => ?_
        rw [List.append_nil]
        exact ⟨Ha, ds, _, I1.ex, cleans_ok r1 e2, e3, fun p ws H0' H' g hp h0 hl rp => q p ws _ _ (s1.trans g.a) (I1.grow g) h0 (I1.he.free hp) (I1.apart hp) hl rp⟩
      · cases e
    · cases e
  · cases e

/-! ### instances -/
def fldD : List Str → List D → Str → Option D
  | n :: ns, d :: ds, f => if f = n then some d else fldD ns ds f
  | _, _, _ => none
theorem fld_rp {H : Hp} {f : Str} {z : D} : ∀ {ns : List Str} {ds : List D} {vs : List V}, Rps G H ds vs → fldD ns ds f = some z → ∃ v, (ns.zip vs).lookup f = some v ∧ Rp G H z v
  | [], _, _, _, e => by unfold fldD at e; cases e
  | _ :: _, [], _, _, e => by unfold fldD at e; cases e
  | n :: ns, d :: ds, vs, h, e => by
    unfold Rps at h
    obtain ⟨v, w, rfl, h1, h2⟩ := h
    unfold fldD at e
    rw [List.zip_cons_cons, List.lookup_cons]
    split at e
    · rename_i hf
      cases e
      subst hf
      rw [beq_self_eq_true]
      exact ⟨v, rfl, h1⟩
    · rename_i hf
      rw [show (f == n) = false from beq_eq_false_iff_ne.mpr hf]
      exact fld_rp h2 e
theorem fld_no {f : Str} : ∀ {ns : List Str} {vs : List V}, f ∉ ns → (ns.zip vs).lookup f = none
  | [], _, _ => rfl
  | _ :: _, [], _ => rfl
  | n :: ns, v :: vs, h => by
    rw [List.zip_cons_cons, List.lookup_cons, show (f == n) = false from beq_eq_false_iff_ne.mpr fun z => h (z ▸ List.mem_cons_self)]
    exact fld_no fun z => h (List.mem_cons_of_mem _ z)
/-- e.f -/
def dFld (C : Nat) (fl : Str) (f : DE) : DE := fun S cs => match f S cs with
  | some (r, c1) => match rd S c1 r with
    | some (.obj C' ns ds) => if C' = C then (match fldD ns ds fl with
      | some z => some (.c z, c1)
      | none => none) else none
    | _ => none
  | none => none
theorem sim_fld {C : Nat} {fl : Str} {ta : TE} {f : DE} (hC : Cls G.K (G.cA C)) (hn : NoAttr G.K (G.cA C) fl) (hf : SimE G ta f) : SimE G (tFld G.K ta fl) (dFld C fl f) := by
  refine ⟨fun F H0 H S cs σ Q I r cs' e q => ?_⟩
  unfold dFld at e
  split at e
  · rename_i r1 c1 e1
    split at e
    · rename_i C' ns ds e2
      split at e
      · rename_i hc
        split at e
        · rename_i z e3
          cases e
          subst hc
          refine hf.run F H0 H S cs σ _ I _ _ e1 fun v Ha Hb s1 I1 q1 => ?_
          have rb := rd_ok I1 q1 e2
          unfold RB at rb
          obtain ⟨a, dx, vs, rfl, h2, h3, h4⟩ := rb
          obtain ⟨u, hu, ru⟩ := fld_rp h4 e3
          exact ⟨a, _, dx, _, u, rfl, h2, hC, hn, hu, (q.mono s1).here I1 ru⟩
        · cases e
      · cases e
    · cases e
  · cases e
/-- o.m(..), the object known data -/
def dMeth (C : Nat) (mn : Str) (m : List D → Option D) (fo : DE) (f : DA) : DE := fun S cs => match fo S cs with
  | some (.c (.obj C' ns ds), c1) => if C' = C ∧ mn ∉ ns then (match f S c1 with
    | some (rs, c2) => match cleans rs with
      | some xs => match m (.obj C' ns ds :: xs) with
        | some z => some (.c z, c2)
        | none => none
      | none => none
    | none => none) else none
  | _ => none
theorem sim_meth {C : Nat} {mn : Str} {m : List D → Option D} {to : TE} {fo : DE} {t : TA} {f : DA} {E : XK} (ho : SimE G to fo) (hf : SimA G t f) : SimE G (tMeth (G.cA C) mn (spF G m) [] E to t) (dMeth C mn m fo f) := by
  refine ⟨fun F H0 H S cs σ Q I r cs' e q => ?_⟩
  unfold dMeth at e
  split at e
  · rename_i C' ns ds c1 e1
    split at e
    · rename_i hc
      split at e
      · rename_i rs c2 e2
        split at e
        · rename_i xs e3
          split at e
          · rename_i z e4
            cases e
            obtain ⟨rfl, hm⟩ := hc
            refine ho.run F H0 H S cs σ _ I _ _ e1 fun v Ha Hb s1 I1 q1 => ?_
            have q1' : Rp G Ha (.obj C' ns ds) v := q1
            have rb := q1'
            unfold Rp at rb
            obtain ⟨a, dx, vs, rfl, h2, h3, h4, h5⟩ := rb
            refine ⟨a, dx, _, rfl, I1.ex _ _ h2, fld_no hm, hf.run F Ha Hb S c1 σ _ I1 _ _ e2 fun us Hc Hd s2 I2 r2 => ?_⟩
            rw [List.append_nil]
            exact ⟨Hc, _, z, I2.ex, Rps.cons (Rp.mono s2 _ _ q1') (cleans_ok r2 e3), e4, fun v H0' H' g rp => q _ _ _ ((s1.trans s2).trans g.a) (I2.grow g) rp⟩
          · cases e
        · cases e
      · cases e
    · cases e
  · cases e
/-- C(..), its __init__ -/
def dMake (C : Nat) (m : D → List D → Option (D × D)) (f : DA) : DE := fun S cs => match f S cs with
  | some (rs, c1) => match cleans rs with
    | some ds => match m (.obj C [] []) ds with
      | some (.non, .obj C' ns es) => if C' = C then some (.c (.obj C' ns es), c1) else none
      | _ => none
    | none => none
  | none => none
theorem sim_make {C : Nat} {m : D → List D → Option (D × D)} {t : TA} {f : DA} {E : XK} (hf : SimA G t f) : SimE G (tMake (G.cA C) (spC G m) [] E t) (dMake C m f) := by
  refine ⟨fun F H0 H S cs σ Q I r cs' e q => ?_⟩
  unfold dMake at e
  split at e
  · rename_i rs c1 e1
    split at e
    · rename_i ds e2
      split at e
      · rename_i C' ns es e3
        split at e
        · rename_i hc
          cases e
          subst hc
          refine hf.run F H0 H S cs σ _ I _ _ e1 fun vs Ha Hb s1 I1 r1 => ?_
          intro x dx hx hdx hne
          have hxdx : (upd Hb dx (.own x)) x = none := by rw [upd_ne (Ne.symm hne)]; exact hx
          rw [List.append_nil]
          have sm : Same Hb (upd (upd Hb dx (.own x)) x (.ins (G.cA C') dx [])) := fun b o z => by
            rw [upd_ne (ne_of_none z hx), upd_ne (ne_of_none z hdx)]; exact z
          refine ⟨x, vs, Hb, Ha, .obj C' [] [], ds, _, _, rfl, I1.ex.trans sm, sm, ⟨I1.ex.free hx, hx, dx, [], upd_same, ?_, I1.ex.free hdx, hdx, rfl, Rps.nil⟩, cleans_ok r1 e2, e3, ?_⟩
          · rw [upd_ne hne]; exact upd_same
          · intro v H0' H' a1 a2 a3 a4 a5 rp
            obtain ⟨b1, b2, dy, us, b3, b4, b5, b6, b7, b8⟩ := a5
            unfold Rp at rp
            refine ⟨rp, ?_⟩
            have I2 : StOk G F H0' H' S cs' σ := I1.grow ⟨a1, a3, a2, a4⟩
            -- the instance and its dict are taken in
            have hdyx : dy ≠ x := fun z => by rw [z, b3] at b4; cases b4
            obtain ⟨t1, t2⟩ := Gr.freeze I2.ex b4
            have h0x : upd H0' dy (.own x) x = none := by rw [upd_ne (Ne.symm hdyx)]; exact b1
            obtain ⟨t3, t4⟩ := Gr.freeze t2 b3
            have I3 : StOk G F (upd (upd H0' dy (.own x)) x (.ins (G.cA C') dy (ns.zip us))) H' S cs' σ := by
              have nn : ∀ a, F.He a ≠ none → a ≠ x ∧ a ≠ dy := fun a z => by
                have z2 : Hb a ≠ none := Same.ne I1.he z
                exact ⟨fun w => z2 (w ▸ hx), fun w => z2 (w ▸ b6)⟩
              refine ⟨t4, I2.he, fun a z => ⟨(I2.bn a z).1, ?_⟩, I2.len, fun i s ei => ?_, I2.ds, ?_⟩
              · have := nn a (I2.bn a z).1
                rw [upd_ne this.1, upd_ne this.2]; exact (I2.bn a z).2
              · have w := I2.sl i s ei
                have w1 := I1.sl i s ei
                cases s with
                | no => trivial
                | val d => obtain ⟨v, e1, r⟩ := w; exact ⟨v, e1, r.mono (t1.trans t3)⟩
                | own zs =>
                  obtain ⟨p', vs', u1, u2, u3, u4, u5, u6⟩ := w
                  obtain ⟨p2, vs2, w1, _, _, _, w5, _⟩ := w1
                  rw [u1] at w1; cases w1
                  have n1 : p' ≠ x := ne_of_none w5 hx
                  have n2 : p' ≠ dy := ne_of_none w5 b6
                  exact ⟨p', vs', u1, by rw [upd_ne n1, upd_ne n2]; exact u2, u3, u4, u5, u6.mono (t1.trans t3)⟩
                | cst => exact w
              · have w := I2.pc
                have w1 := I1.pc
                cases ep : F.pc with
                | none => rw [ep] at w; cases cs' with
                  | none => trivial
                  | some d => cases d <;> exact w
                | some p' =>
                  rw [ep] at w w1
                  cases cs' with
                  | none => exact w
                  | some d =>
                    cases d with
                    | lst zs =>
                      obtain ⟨u1, u2, vs', u3, u4⟩ := w
                      obtain ⟨_, _, vs2, w3, _⟩ := w1
                      exact ⟨by rw [upd_ne (ne_of_none w3 hx), upd_ne (ne_of_none w3 b6)]; exact u1, u2, vs', u3, u4.mono (t1.trans t3)⟩
                    | obj C2 ns2 zs =>
                      obtain ⟨u1, u2, dz, vs', u3, u4, u5, u6, u7, u8⟩ := w
                      obtain ⟨_, _, dz2, vs2, w3, w4, _, _, _, _⟩ := w1
                      have e3' := a3 _ _ w3
                      have hz : dz2 = dz := by
                        have z := Option.some.inj (e3'.symm.trans u3)
                        injection z
                      rw [hz] at w4
                      exact ⟨by rw [upd_ne (ne_of_none w3 hx), upd_ne (ne_of_none w3 b6)]; exact u1, u2, dz, vs', u3, u4, by rw [upd_ne (ne_of_none w4 hx), upd_ne (ne_of_none w4 b6)]; exact u5, u6, u7, u8.mono (t1.trans t3)⟩
                    | _ => exact w
            refine q _ _ _ ((s1.trans a1).trans (t1.trans t3)) I3 ?_
            show Rp G _ (.obj C' ns es) _
            unfold Rp
            exact ⟨x, dy, us, rfl, upd_same, by rw [upd_ne hdyx]; exact upd_same, b7, b8.mono (t1.trans t3)⟩
        · cases e
      · cases e
    · cases e
  · cases e

/-! ### isinstance(e, T) of a built-in type -/
def tyD : D → String
  | .non => "NoneType"
  | .bl _ => "bool"
  | .int _ => "int"
  | .str _ => "str"
  | .tup _ => "tuple"
  | .lst _ => "list"
  | .obj _ _ _ => ""
  | .scr _ => ""
/-- the answers -/
def isiD : D → String → Option Bool
  | .non, "bool" => some false | .non, "int" => some false | .non, "str" => some false | .non, "tuple" => some false | .non, "list" => some false
  | .bl _, "bool" => some true | .bl _, "int" => some true | .bl _, "str" => some false | .bl _, "tuple" => some false | .bl _, "list" => some false
  | .int _, "bool" => some false | .int _, "int" => some true | .int _, "str" => some false | .int _, "tuple" => some false | .int _, "list" => some false
  | .str _, "bool" => some false | .str _, "int" => some false | .str _, "str" => some true | .str _, "tuple" => some false | .str _, "list" => some false
  | .tup _, "bool" => some false | .tup _, "int" => some false | .tup _, "str" => some false | .tup _, "tuple" => some true | .tup _, "list" => some false
  | .lst _, "bool" => some false | .lst _, "int" => some false | .lst _, "str" => some false | .lst _, "tuple" => some false | .lst _, "list" => some true
  | _, _ => none
theorem isi_kit {K : PySem.W.Frag} {d : D} {T : String} {b : Bool} (h : isiD d T = some b) : PySem.W.kitOne K (.type (tyD d)) (.type T) = some b := by
  unfold isiD at h
  split at h <;> first | (cases h; done) | (cases h; dsimp only [tyD]; exact kit_ty (by decide +kernel))
theorem tyx_rb {H0 H : Hp} (ex : Same H0 H) {d : D} {v : V} {T : String} {b : Bool} (h : RB G H0 H d v) (e : isiD d T = some b) : TyX G.K H v (.type (tyD d)) := by
  cases d with
  | non => unfold RB Rp at h; subst h; exact .base .non
  | bl _ => unfold RB Rp at h; subst h; exact .base (.bl _)
  | int _ => unfold RB Rp at h; subst h; exact .base (.int _)
  | str _ => unfold RB Rp at h; subst h; exact .base (.str _)
  | tup ds =>
    unfold RB Rp at h
    obtain ⟨a, vs, rfl, h2, h3⟩ := h
    rcases sqt_same ex h2 with (h2 | ⟨o, h2⟩) | ⟨o, its, n, h2, h4, _⟩
    · exact .base (.tup h2)
    · exact .fTuple h2
    · exact .kTuple h2 h4
  | lst ds =>
    unfold RB at h
    obtain ⟨a, vs, rfl, h2, h3⟩ := h
    exact .base (.lst h2)
  | obj C ns ds => unfold isiD at e; cases e
  | scr ns => unfold isiD at e; cases e
def dIsi (T : String) (f : DE) : DE := fun S cs => match f S cs with
  | some (r, c1) => match rd S c1 r with
    | some d => match isiD d T with
      | some b => some (.c (.bl b), c1)
      | none => none
    | none => none
  | none => none
theorem sim_isi {T : String} {ta : TE} {f : DE} (hf : SimE G ta f) : SimE G (tCB (rIsi G.K) (tCons ta (tCons (tC (.ty T)) tNil))) (dIsi T f) := by
  refine ⟨fun F H0 H S cs σ Q I r cs' e q => ?_⟩
  unfold dIsi at e
  split at e
  · rename_i r1 c1 e1
    split at e
    · rename_i d e2
      split at e
      · rename_i b e3
        cases e
        refine hf.run F H0 H S cs σ _ I _ _ e1 fun v Ha Hb s1 I1 q1 => ?_
        exact ⟨v, .ty T, _, _, b, rfl, .ty T, tyx_rb I1.ex (rd_ok I1 q1 e2) e3, isi_kit e3, (q.mono s1).here I1 rp_bl⟩
      · cases e
    · cases e
  · cases e
section
variable {X : Cx} {K : PySem.W.Frag} {cA : Nat → Addr}
theorem dx_isi {T : String} {x : Str} {p p2 pos : Pos} {a : Expr} {ta : TE} {f : DE} (hm : X.mg "isinstance" = none) (ht : X.mg x = none) (hb : bootBuiltins x = some (.type T)) (ha : DExp X K cA a ta f)
    (hg : Gl X "isinstance" := by rfl) (hgt : Gl X x := by rfl) (hn : x ≠ "__name__" := by decide) (hd : (x == ("__debug__" : Str)) = false := by decide)
    (hs1 : starEach (a :: [.Name x p2]) X.env = (false, eval a X.env) :: starEach [.Name x p2] X.env := by rfl) (hpl : ((backTo pos (starEach [Expr.Name x p2] X.env)).any fun x => x.fst) = false := by rfl) (hK : X.K = K := by rfl) :
    DExp X K cA (.Call (.Name "isinstance" p) [a, .Name x p2] [] pos) (tCB (rIsi K) (tCons ta (tCons (tC (.ty T)) tNil))) (dIsi T f) := by
  subst hK
  exact ⟨pe_callB call_isi hg hm (by decide +kernel) (pa_cons ha.pe (pa_cons (pe_bltn hgt ht hb rfl hn hd) pa_nil) hs1) (he := hs1) (hpl := hpl), sim_isi ha.sim⟩
end
end DL

set_option autoImplicit true
set_option relaxedAutoImplicit true
set_option Elab.async false
set_option linter.all false
set_option maxRecDepth 100000
set_option maxHeartbeats 4000000
/-! DL, E: what is walked, targets, comprehensions. -/
namespace DL
open PySem PySem.Spec PyProof.Rows L2
variable {G : Gm}

/-! ### slots stored, forgotten -/
def wipeD (S : List Sl) : List Nat → List Sl
  | [] => S
  | v :: vs => (wipeD S vs).set v .no
def noOwn (S : List Sl) (vs : List Nat) : Bool := vs.all fun v => match S[v]? with
  | some (.own _) => false
  | some .cst => false
  | _ => true
theorem wipeD_get {S : List Sl} {i : Nat} : ∀ {vs : List Nat}, i ∉ vs → (wipeD S vs)[i]? = S[i]?
  | [], _ => rfl
  | v :: vs, h => by
    unfold wipeD
    rw [List.getElem?_set_ne (show v ≠ i from fun z => h (by rw [z]; exact List.mem_cons_self))]
    exact wipeD_get fun z => h (List.mem_cons_of_mem _ z)
theorem wipeV_get {σ : VS} {i : Nat} : ∀ {vs : List Nat}, i ∉ vs → (wipe σ vs)[i]? = σ[i]?
  | [], _ => rfl
  | v :: vs, h => by
    unfold wipe
    rw [List.getElem?_set_ne (show v ≠ i from fun z => h (by rw [z]; exact List.mem_cons_self))]
    exact wipeV_get fun z => h (List.mem_cons_of_mem _ z)
theorem wipeD_len (S : List Sl) : ∀ vs : List Nat, (wipeD S vs).length = S.length
  | [] => rfl
  | v :: vs => by unfold wipeD; rw [List.length_set, wipeD_len S vs]
theorem wipeD_in {S : List Sl} {i : Nat} {s : Sl} : ∀ {vs : List Nat}, i ∈ vs → (wipeD S vs)[i]? = some s → s = .no
  | v :: vs, h, e => by
    unfold wipeD at e
    by_cases hv : v = i
    · subst hv
      by_cases hl : v < (wipeD S vs).length
      · rw [List.getElem?_set_self hl] at e; cases e; rfl
      · rw [List.getElem?_eq_none (by rw [List.length_set]; omega)] at e; cases e
    · rw [List.getElem?_set_ne hv] at e
      exact wipeD_in ((List.mem_cons.mp h).resolve_left (fun z => hv z.symm)) e
/-- what is forgotten may have been anything -/
theorem wipeD_set {S : List Sl} {i : Nat} {s : Sl} : ∀ {vs : List Nat}, i ∈ vs → wipeD (S.set i s) vs = wipeD S vs
  | v :: vs, h => by
    unfold wipeD
    by_cases hm : i ∈ vs
    · rw [wipeD_set hm]
    · have e : i = v := (List.mem_cons.mp h).resolve_right hm
      subst e
      have : wipeD (S.set i s) vs = (wipeD S vs).set i s := by
        clear h
        induction vs with
        | nil => rfl
        | cons w ws ih =>
          unfold wipeD
          have n : i ≠ w := fun z => hm (z ▸ List.mem_cons_self)
          rw [ih (fun z => hm (List.mem_cons_of_mem _ z)), List.set_comm _ _ n]
      rw [this, List.set_set]
theorem wipeV_set {σ : VS} {i : Nat} {s : Option V} : ∀ {vs : List Nat}, i ∈ vs → wipe (σ.set i s) vs = wipe σ vs
  | v :: vs, h => by
    unfold wipe
    by_cases hm : i ∈ vs
    · rw [wipeV_set hm]
    · have e : i = v := (List.mem_cons.mp h).resolve_right hm
      subst e
      have : wipe (σ.set i s) vs = (wipe σ vs).set i s := by
        clear h
        induction vs with
        | nil => rfl
        | cons w ws ih =>
          unfold wipe
          have n : i ≠ w := fun z => hm (z ▸ List.mem_cons_self)
          rw [ih (fun z => hm (List.mem_cons_of_mem _ z)), List.set_comm _ _ n]
      rw [this, List.set_set]
theorem wipeD_wipe {S : List Sl} {vs : List Nat} : wipeD (wipeD S vs) vs = wipeD S vs := by
  have h : ∀ (us : List Nat), (∀ u ∈ us, u ∈ vs) → wipeD (wipeD S us) vs = wipeD S vs := by
    intro us
    induction us with
    | nil => intro _; rfl
    | cons u us ih =>
      intro hu
      show wipeD ((wipeD S us).set u .no) vs = _
      rw [wipeD_set (hu u List.mem_cons_self)]
      exact ih fun w hw => hu w (List.mem_cons_of_mem _ hw)
  exact h vs fun _ h => h

section
variable {F : Fr} {H0 H H0' H' : Hp} {S : List Sl} {cs cs' : Option D} {σ : VS}
theorem StOk.setNo (I : StOk G F H0 H S cs σ) (i : Nat) : StOk G F H0 H (S.set i .no) cs (σ.set i none) := by
  refine ⟨I.ex, I.he, I.bn, by rw [List.length_set, List.length_set]; exact I.len, fun j s e => ?_, fun j k p xs ys n e1 e2 e3 e4 => ?_, I.pc⟩
  · by_cases hj : i = j
    · subst hj
      by_cases hl : i < S.length
      · rw [List.getElem?_set_self hl] at e; cases e; trivial
      · rw [List.getElem?_eq_none (by rw [List.length_set]; omega)] at e; cases e
    · rw [List.getElem?_set_ne hj] at e
      have q := I.sl j s e
      cases s with
      | no => trivial
      | val d => obtain ⟨v, e1, r⟩ := q; exact ⟨v, by rw [List.getElem?_set_ne hj]; exact e1, r⟩
      | own ds => obtain ⟨p, vs, e1, r⟩ := q; exact ⟨p, vs, by rw [List.getElem?_set_ne hj]; exact e1, r⟩
      | cst => obtain ⟨p, e0, e1⟩ := q; exact ⟨p, e0, by rw [List.getElem?_set_ne hj]; exact e1⟩
  · have hj : i ≠ j := fun z => by
      subst z
      by_cases hl : i < S.length
      · rw [List.getElem?_set_self hl] at e1; cases e1
      · rw [List.getElem?_eq_none (by rw [List.length_set]; omega)] at e1; cases e1
    have hk : i ≠ k := fun z => by
      subst z
      by_cases hl : i < S.length
      · rw [List.getElem?_set_self hl] at e2; cases e2
      · rw [List.getElem?_eq_none (by rw [List.length_set]; omega)] at e2; cases e2
    rw [List.getElem?_set_ne hj] at e1 e3
    rw [List.getElem?_set_ne hk] at e2 e4
    exact I.ds j k p xs ys n e1 e2 e3 e4
theorem StOk.setVal (I : StOk G F H0 H S cs σ) (i : Nat) {d : D} {v : V} (r : Rp G H0 d v) : StOk G F H0 H (S.set i (.val d)) cs (σ.set i (some v)) := by
  refine ⟨I.ex, I.he, I.bn, by rw [List.length_set, List.length_set]; exact I.len, fun j s e => ?_, fun j k p xs ys n e1 e2 e3 e4 => ?_, I.pc⟩
  · by_cases hj : i = j
    · subst hj
      by_cases hl : i < S.length
      · rw [List.getElem?_set_self hl] at e; cases e
        exact ⟨v, by rw [List.getElem?_set_self (by rw [← I.len]; exact hl)], r⟩
      · rw [List.getElem?_eq_none (by rw [List.length_set]; omega)] at e; cases e
    · rw [List.getElem?_set_ne hj] at e
      have q := I.sl j s e
      cases s with
      | no => trivial
      | val d => obtain ⟨v, e1, r⟩ := q; exact ⟨v, by rw [List.getElem?_set_ne hj]; exact e1, r⟩
      | own ds => obtain ⟨p, vs, e1, r⟩ := q; exact ⟨p, vs, by rw [List.getElem?_set_ne hj]; exact e1, r⟩
      | cst => obtain ⟨p, e0, e1⟩ := q; exact ⟨p, e0, by rw [List.getElem?_set_ne hj]; exact e1⟩
  · have hj : i ≠ j := fun z => by
      subst z
      by_cases hl : i < S.length
      · rw [List.getElem?_set_self hl] at e1; cases e1
      · rw [List.getElem?_eq_none (by rw [List.length_set]; omega)] at e1; cases e1
    have hk : i ≠ k := fun z => by
      subst z
      by_cases hl : i < S.length
      · rw [List.getElem?_set_self hl] at e2; cases e2
      · rw [List.getElem?_eq_none (by rw [List.length_set]; omega)] at e2; cases e2
    rw [List.getElem?_set_ne hj] at e1 e3
    rw [List.getElem?_set_ne hk] at e2 e4
    exact I.ds j k p xs ys n e1 e2 e3 e4
theorem StOk.wiped (I : StOk G F H0 H S cs σ) : ∀ vs : List Nat, StOk G F H0 H (wipeD S vs) cs (wipe σ vs)
  | [] => I
  | v :: vs => (I.wiped vs).setNo v
/-- behind a block: the slots that it forgot are as they were -/
theorem StOk.unwiped {vs : List Nat} (I : StOk G F H0 H S cs σ) (no : noOwn S vs = true) (s1 : Same H0 H0') (I' : StOk G F H0' H' (wipeD S vs) cs' (wipe σ vs)) : StOk G F H0' H' S cs' σ := by
  have own : ∀ (i : Nat) (xs : List D), S[i]? = some (.own xs) → i ∉ vs := fun i xs e hm => by
    have := List.all_eq_true.mp no i hm
    rw [e] at this
    cases this
  refine ⟨I'.ex, I'.he, I'.bn, I.len, fun i s e => ?_, I.ds, I'.pc⟩
  by_cases hi : i ∈ vs
  · have h1 := List.all_eq_true.mp no i hi
    rw [e] at h1
    have q := I.sl i s e
    cases s with
    | no => trivial
    | val d => obtain ⟨v, e1, r⟩ := q; exact ⟨v, e1, r.mono s1⟩
    | own _ => cases h1
    | cst => cases h1
  · have q := I'.sl i s (by rw [wipeD_get hi]; exact e)
    cases s with
    | no => trivial
    | val d => obtain ⟨v, e1, r⟩ := q; exact ⟨v, by rw [← wipeV_get hi]; exact e1, r⟩
    | own ds => obtain ⟨p, us, e1, r⟩ := q; exact ⟨p, us, by rw [← wipeV_get hi]; exact e1, r⟩
    | cst => obtain ⟨p, e0, e1⟩ := q; exact ⟨p, e0, by rw [← wipeV_get hi]; exact e1⟩
theorem Apart.wiped {p : Addr} (h : Apart F S σ p) (vs : List Nat) : Apart F (wipeD S vs) (wipe σ vs) p := by
  refine ⟨h.1, fun i xs e q => ?_⟩
  have hi : i ∉ vs := fun hm => by cases wipeD_in hm e
  rw [wipeD_get hi] at e
  rw [wipeV_get hi] at q
  exact h.2 i xs e q
theorem Apart.setVal {p : Addr} (h : Apart F S σ p) (i : Nat) (d : D) (v : Option V) : Apart F (S.set i (.val d)) (σ.set i v) p := by
  refine ⟨h.1, fun j xs e q => ?_⟩
  have hj : i ≠ j := fun z => by
    subst z
    by_cases hl : i < S.length
    · rw [List.getElem?_set_self hl] at e; cases e
    · rw [List.getElem?_eq_none (by rw [List.length_set]; omega)] at e; cases e
  rw [List.getElem?_set_ne hj] at e q
  exact h.2 j xs e q
/-- an address that is apart is written -/
theorem StOk.mutOff (I : StOk G F H0 H S cs σ) {p : Addr} {o : HO} (h0 : H0 p = none) (he : F.He p = none) (ap : Apart F S σ p) (hx : ∀ x, H p ≠ some (.own x)) : StOk G F H0 (upd H p o) S cs σ := by
  have nx : ∀ b u, F.He b = some u → b ≠ p := fun b u e z => by rw [z, he] at e; cases e
  refine ⟨fun b u e => by rw [upd_ne (ne_of_none e h0)]; exact I.ex _ _ e, fun b u e => by rw [upd_ne (nx b u e)]; exact I.he _ _ e, I.bn, I.len, fun i s e => ?_, I.ds, ?_⟩
  · have q := I.sl i s e
    cases s with
    | no => trivial
    | val d => exact q
    | own ds =>
      obtain ⟨p', vs, e1, h1, h2, h3, h4, h5⟩ := q
      have : p' ≠ p := fun z => ap.2 i ds e (z ▸ e1)
      exact ⟨p', vs, e1, h1, h2, h3, by rw [upd_ne this]; exact h4, h5⟩
    | cst => exact q
  · have q := I.pc
    cases e : F.pc with
    | none => rw [e] at q; cases cs with
      | none => trivial
      | some d => cases d <;> exact q
    | some p' =>
      have hne : p' ≠ p := fun z => ap.1 (z ▸ e)
      rw [e] at q
      cases cs with
      | none => exact q
      | some d =>
        cases d with
        | lst ds => obtain ⟨h1, h2, vs, h3, h4⟩ := q; exact ⟨h1, h2, vs, by rw [upd_ne hne]; exact h3, h4⟩
        | obj C ns ds =>
          obtain ⟨h1, h2, dx, vs, h3, h4, h5, h6, h7, h8⟩ := q
          have hdx : dx ≠ p := fun z => hx _ (z ▸ h4)
          exact ⟨h1, h2, dx, vs, by rw [upd_ne hne]; exact h3, by rw [upd_ne hdx]; exact h4, h5, h6, h7, h8⟩
        | _ => exact q
/-- an address that is apart is kept for a while -/
def Fr.keep (F : Fr) (p : Addr) (o : HO) : Fr := { F with He := upd F.He p o, ban := fun a => F.ban a ∨ a = p }
theorem StOk.kept (I : StOk G F H0 H S cs σ) {p : Addr} {o : HO} (hp : H p = some o) (h0 : H0 p = none) (ap : Apart F S σ p) (hx : ∀ x, o ≠ .own x) : StOk G (F.keep p o) H0 H S cs σ := by
  refine ⟨I.ex, fun b u e => ?_, fun a h => ?_, I.len, fun i s e => ?_, I.ds, ?_⟩
  · by_cases hb : b = p
    · subst hb
      have e' : some o = some u := (upd_same (H := F.He)).symm.trans e
      rw [← e']; exact hp
    · have e' : F.He b = some u := (upd_ne (H := F.He) (o := o) hb).symm.trans e
      exact I.he _ _ e'
  · by_cases ha : a = p
    · subst ha
      exact ⟨by show upd F.He a o a ≠ none; rw [upd_same]; simp, h0⟩
    · rcases h with h | h
      · exact ⟨by show upd F.He p o a ≠ none; rw [upd_ne ha]; exact (I.bn a h).1, (I.bn a h).2⟩
      · exact absurd h ha
  · have q := I.sl i s e
    cases s with
    | no => trivial
    | val d => exact q
    | own ds =>
      obtain ⟨p', vs, e1, h1, h2, h3, h4, h5⟩ := q
      have : p' ≠ p := fun z => ap.2 i ds e (z ▸ e1)
      exact ⟨p', vs, e1, h1, by show upd F.He p o p' = none; rw [upd_ne this]; exact h2, h3, h4, h5⟩
    | cst => exact q
  · have q := I.pc
    show PcOk G (upd F.He p o) H0 H F.pc cs
    cases e : F.pc with
    | none => rw [e] at q; cases cs with
      | none => trivial
      | some d => cases d <;> exact q
    | some p' =>
      have hne : p' ≠ p := fun z => ap.1 (z ▸ e)
      rw [e] at q
      cases cs with
      | none => exact q
      | some d =>
        cases d with
        | lst ds => obtain ⟨h1, h2, vs, h3, h4⟩ := q; exact ⟨h1, by rw [upd_ne hne]; exact h2, vs, h3, h4⟩
        | obj C ns ds =>
          obtain ⟨h1, h2, dx, vs, h3, h4, h5, h6, h7, h8⟩ := q
          have hdx : dx ≠ p := fun z => by rw [z, hp] at h4; exact hx _ (Option.some.inj h4)
          exact ⟨h1, by rw [upd_ne hne]; exact h2, dx, vs, h3, h4, h5, by rw [upd_ne hdx]; exact h6, h7, h8⟩
        | _ => exact q
theorem StOk.unkept {p : Addr} {o : HO} (hp : F.He p = none) (hb : ∀ a, F.ban a → F.He a ≠ none) (I : StOk G (F.keep p o) H0 H S cs σ) : StOk G F H0 H S cs σ ∧ H p = some o ∧ H0 p = none := by
  have back : ∀ a, upd F.He p o a = none → F.He a = none := fun a h => by
    by_cases ha : a = p
    · rw [ha]; exact hp
    · rw [upd_ne ha] at h; exact h
  refine ⟨⟨I.ex, fun b u e => I.he b u ?_, fun a h => ⟨?_, (I.bn a (.inl h)).2⟩, I.len, fun i s e => ?_, I.ds, ?_⟩, I.he p o (show upd F.He p o p = some o from upd_same), (I.bn p (.inr rfl)).2⟩
  · show upd F.He p o b = some u
    rw [upd_ne (fun z => by rw [z, hp] at e; cases e)]; exact e
  · exact hb a h
  · have q := I.sl i s e
    cases s with
    | no => trivial
    | val d => exact q
    | own ds => obtain ⟨p', vs, e1, h1, h2, h3, h4, h5⟩ := q; exact ⟨p', vs, e1, h1, back _ h2, h3, h4, h5⟩
    | cst => exact q
  · have q := I.pc
    have q' : PcOk G (upd F.He p o) H0 H F.pc cs := q
    cases e : F.pc with
    | none => rw [e] at q'; cases cs with
      | none => trivial
      | some d => cases d <;> exact q'
    | some p' =>
      rw [e] at q'
      cases cs with
      | none => exact q'
      | some d =>
        cases d with
        | lst ds => obtain ⟨h1, h2, vs, h3, h4⟩ := q'; exact ⟨h1, back _ h2, vs, h3, h4⟩
        | obj C ns ds => obtain ⟨h1, h2, dx, vs, h3, h4, h5, h6, h7, h8⟩ := q'; exact ⟨h1, back _ h2, dx, vs, h3, h4, h5, back _ h6, h7, h8⟩
        | _ => exact q'
end

/-! ### targets -/
structure SimG (G : Gm) (t : TG) (f : DG) (ts : List Nat) : Prop where
  run : ∀ (F : Fr) (H0 H : Hp) (S : List Sl) (cs : Option D) (σ : VS) (d : D) (v : V) (Q : L2.St → Hp → Prop), StOk G F H0 H S cs σ → Rp G H0 d v → ∀ S', f d S = some S' →
    (∀ σ', StOk G F H0 H S' cs σ' → (∀ p, Apart F S σ p → Apart F S' σ' p) → (∀ vs : List Nat, (∀ i ∈ ts, i ∈ vs) → wipe σ' vs = wipe σ vs) → Q σ' H) → t v σ H Q
  wD : ∀ d S S', f d S = some S' → ∀ vs : List Nat, (∀ i ∈ ts, i ∈ vs) → wipeD S' vs = wipeD S vs
structure SimGs (G : Gm) (t : TGs) (f : List D → List Sl → Option (List Sl)) (ts : List Nat) : Prop where
  run : ∀ (F : Fr) (H0 H : Hp) (S : List Sl) (cs : Option D) (σ : VS) (ds : List D) (vs : List V) (Q : L2.St → Hp → Prop), StOk G F H0 H S cs σ → Rps G H0 ds vs → ∀ S', f ds S = some S' →
    (∀ σ', StOk G F H0 H S' cs σ' → (∀ p, Apart F S σ p → Apart F S' σ' p) → (∀ vs : List Nat, (∀ i ∈ ts, i ∈ vs) → wipe σ' vs = wipe σ vs) → Q σ' H) → t vs σ H Q
  wD : ∀ ds S S', f ds S = some S' → ∀ vs : List Nat, (∀ i ∈ ts, i ∈ vs) → wipeD S' vs = wipeD S vs
def gdN (i : Nat) : DG := fun d S => match S[i]? with
  | some .cst => none
  | some _ => some (S.set i (.val d))
  | none => none
theorem sim_gN {i : Nat} : SimG G (gName i) (gdN i) [i] := by
  refine ⟨fun F H0 H S cs σ d v Q I r S' e q => ?_, fun d S S' e vs hs => ?_⟩
  · unfold gdN at e
    split at e
    · cases e
    · cases e
      exact q _ (I.setVal i r) (fun p h => h.setVal i d _) fun vs hs => wipeV_set (hs i List.mem_cons_self)
    · cases e
  · unfold gdN at e
    split at e
    · cases e
    · cases e
      exact wipeD_set (hs i List.mem_cons_self)
    · cases e
def gdNil : List D → List Sl → Option (List Sl) := fun ds S => match ds with
  | [] => some S
  | _ => none
def gdCons (f : DG) (g : List D → List Sl → Option (List Sl)) : List D → List Sl → Option (List Sl) := fun ds S => match ds with
  | d :: r => match f d S with
    | some S1 => g r S1
    | none => none
  | [] => none
theorem sim_gsN : SimGs G gNil gdNil [] := by
  refine ⟨fun F H0 H S cs σ ds vs Q I r S' e q => ?_, fun d S S' e vs hs => ?_⟩
  · unfold gdNil at e
    split at e
    · cases e
      unfold Rps at r
      exact ⟨r, q _ I (fun p h => h) fun _ _ => rfl⟩
    · cases e
  · unfold gdNil at e
    split at e
    · cases e; rfl
    · cases e
theorem sim_gsC {t : TG} {u : TGs} {f : DG} {g : List D → List Sl → Option (List Sl)} {ts us : List Nat} (hf : SimG G t f ts) (hg : SimGs G u g us) : SimGs G (gCons t u) (gdCons f g) (ts ++ us) := by
  refine ⟨fun F H0 H S cs σ ds vs Q I r S' e q => ?_, fun d S S' e vs hs => ?_⟩
  · unfold gdCons at e
    split at e
    · rename_i d r'
      split at e
      · rename_i S1 e1
        unfold Rps at r
        obtain ⟨v, w, rfl, h1, h2⟩ := r
        refine ⟨v, w, rfl, hf.run F H0 H S cs σ d v _ I h1 S1 e1 fun σ1 I1 a1 w1 => ?_⟩
        exact hg.run F H0 H S1 cs σ1 r' w Q I1 h2 S' e fun σ2 I2 a2 w2 => q σ2 I2 (fun p h => a2 p (a1 p h)) fun vs hs =>
          (w2 vs fun i hi => hs i (List.mem_append_right _ hi)).trans (w1 vs fun i hi => hs i (List.mem_append_left _ hi))
      · cases e
    · cases e
  · unfold gdCons at e
    split at e
    · split at e
      · rename_i S1 e1
        exact (hg.wD _ _ _ e vs fun i hi => hs i (List.mem_append_right _ hi)).trans (hf.wD _ _ _ e1 vs fun i hi => hs i (List.mem_append_left _ hi))
      · cases e
    · cases e
/-- (a, b, ..) = a tuple or a list -/
def gdT (n : Nat) (g : List D → List Sl → Option (List Sl)) : DG := fun d S => match itemsD d with
  | some ds => if ds.length = n then g ds S else none
  | none => none
def gSeqA (K : PySem.W.Frag) (n : Nat) (t : TGs) : TG := fun v σ H Q => gTup K n t v σ H Q ∨ gUnl K n t v σ H Q
theorem sim_gT {n : Nat} {t : TGs} {g : List D → List Sl → Option (List Sl)} {ts : List Nat} (hg : SimGs G t g ts) : SimG G (gSeqA G.K n t) (gdT n g) ts := by
  refine ⟨fun F H0 H S cs σ d v Q I r S' e q => ?_, fun d S S' e vs hs => ?_⟩
  · unfold gdT at e
    split at e
    · rename_i ds e1
      split at e
      · rename_i hl
        cases d with
        | tup xs =>
          cases e1
          unfold Rp at r
          obtain ⟨a, us, rfl, h2, h3⟩ := r
          exact .inl ⟨a, us, rfl, sqt_same I.ex h2, by rw [h3.len]; exact hl, hg.run F H0 H S cs σ _ us Q I h3 S' e q⟩
        | lst xs =>
          cases e1
          unfold Rp at r
          obtain ⟨a, us, rfl, h2, h3⟩ := r
          exact .inr ⟨a, us, rfl, .inl (.inl (I.ex _ _ h2)), by rw [h3.len]; exact hl, hg.run F H0 H S cs σ _ us Q I h3 S' e q⟩
        | _ => cases e1
      · cases e
    · cases e
  · unfold gdT at e
    split at e
    · split at e
      · exact hg.wD _ _ _ e vs hs
      · cases e
    · cases e
theorem pg_seqA {X : Cx} {es : List Expr} {k : Nat} {pos : Pos} {t : TGs} {n : Nat} (hc : X.calm = true) (h : PGs X es t)
    (hn : (assignEach es X.env).length = n := by rfl) (hst : (assignEach es X.env).findIdx? (·.1) = none := by rfl) : PG X (.Tuple es k pos) (gSeqA X.K n t) := by
  refine ⟨fun pins s σ H v u Q I r hw => ?_⟩
  rcases hw with hw | hw
  · exact (pg_tup hc h hn hst).run pins s σ H v u Q I r hw
  · exact (pg_unl hc h hn hst).run pins s σ H v u Q I r hw

structure DTgt (X : Cx) (K : PySem.W.Frag) (cA : Nat → Addr) (e : Expr) (t : TG) (f : DG) (ts : List Nat) : Prop where
  pg : PG X e t
  sim : SimG ⟨K, cA⟩ t f ts
structure DTgs (X : Cx) (K : PySem.W.Frag) (cA : Nat → Addr) (es : List Expr) (t : TGs) (f : List D → List Sl → Option (List Sl)) (ts : List Nat) : Prop where
  pg : PGs X es t
  sim : SimGs ⟨K, cA⟩ t f ts
section
variable {X : Cx} {K : PySem.W.Frag} {cA : Nat → Addr}
theorem dg_name (i : Nat) {x : Str} {pos : Pos} (hN : X.N.Nodup) (hi : X.N[i]? = some x := by rfl) (hx : Loc X.env.scope x := by first | exact .inl rfl | exact .inr rfl)
    (hf : X.fn x = true ∨ X.env.scope.names.lookup x = some .local := by first | exact .inl rfl | exact .inr rfl) : DTgt X K cA (.Name x pos) (gName i) (gdN i) [i] := ⟨pg_name hN hi hx hf, sim_gN⟩
theorem dgs_nil : DTgs X K cA [] gNil gdNil [] := ⟨pgs_nil, sim_gsN⟩
theorem dgs_cons {e : Expr} {es : List Expr} {t : TG} {u : TGs} {f : DG} {g : List D → List Sl → Option (List Sl)} {ts us : List Nat} (h1 : DTgt X K cA e t f ts) (h2 : DTgs X K cA es u g us)
    (hs : (assignEach (e :: es) X.env).map (·.2) = assign e X.env :: (assignEach es X.env).map (·.2) := by rfl) : DTgs X K cA (e :: es) (gCons t u) (gdCons f g) (ts ++ us) := ⟨pgs_cons h1.pg h2.pg hs, sim_gsC h1.sim h2.sim⟩
theorem dg_tup {es : List Expr} {k : Nat} {pos : Pos} {t : TGs} {g : List D → List Sl → Option (List Sl)} {ts : List Nat} (n : Nat) (hc : X.calm = true) (h : DTgs X K cA es t g ts)
    (hn : (assignEach es X.env).length = n := by rfl) (hst : (assignEach es X.env).findIdx? (·.1) = none := by rfl) (hK : X.K = K := by rfl) : DTgt X K cA (.Tuple es k pos) (gSeqA K n t) (gdT n g) ts := by
  subst hK
  exact ⟨pg_seqA hc h.pg hn hst, sim_gT h.sim⟩
end

/-! ### what is walked -/
structure JOk (G : Gm) (J : It) (ds : List D) (Hb : Hp) : Prop where
  go : ∀ i H0 H, Same Hb H0 → Same H0 H → i < ds.length → J.go i H
  stop : ∀ i H0 H, Same Hb H0 → Same H0 H → i = ds.length → J.stop i H
  yld : ∀ i H0 H x H', Same Hb H0 → Same H0 H → i < ds.length → J.yld i H x H' → ∃ d H0', ds[i]? = some d ∧ Gr H0 H H0' H' ∧ Rp G H0' d x
structure SimI (G : Gm) (wi : TI) (f : DF) : Prop where
  run : ∀ (F : Fr) (H0 H : Hp) (S : List Sl) (cs : Option D) (σ : VS) (R : It → Hp → Prop), StOk G F H0 H S cs σ → ∀ ds cs', f S cs = some (ds, cs') →
    (∀ J H0' H', Same H0 H0' → StOk G F H0' H' S cs' σ → JOk G J ds H0' → R J H') → wi σ H R
structure DIter (X : Cx) (K : PySem.W.Frag) (cA : Nat → Addr) (tg e : Expr) (t : TI) (f : DF) : Prop where
  pi : PI X tg e t
  sim : SimI ⟨K, cA⟩ t f
/-- lists, tuples, strings -/
def strD (x : Str) : List D := x.cps.toList.map fun c => .str ⟨#[c]⟩
def diSeq (f : DE) : DF := fun S cs => match f S cs with
  | some (.c (.lst ds), c1) => some (ds, c1)
  | some (.c (.tup ds), c1) => some (ds, c1)
  | some (.c (.str x), c1) => some (strD x, c1)
  | _ => none
def iSeqA (K : PySem.W.Frag) (te : TE) : TI := fun σ H R => iList K te σ H R ∨ (iTup K te σ H R ∨ iStr te σ H R)
theorem pi_seqA {X : Cx} {tg e : Expr} {te : TE} (h : PE X e te) : PI X tg e (iSeqA X.K te) := by
  refine ⟨fun pins s σ H R I hw => ?_⟩
  rcases hw with hw | hw | hw
  · exact (pi_list h).run pins s σ H R I hw
  · exact (pi_tup h).run pins s σ H R I hw
  · exact (pi_str h).run pins s σ H R I hw
theorem jok_list {K : PySem.W.Frag} {H : Hp} {a : Addr} {vs : List V} {ds : List D} {G : Gm} (hK : G.K = K) (h : H a = some (.lst vs)) (r : Rps G H ds vs) : JOk G (Itl K a) ds H := by
  refine ⟨fun i H0 H1 s1 s2 hi => ?_, fun i H0 H1 s1 s2 hi => ?_, fun i H0 H1 x H' s1 s2 hi y => ?_⟩
  · obtain ⟨v, e1, _⟩ := r.get (List.getElem?_eq_getElem hi)
    exact ⟨vs, v, .inl (.inl (s2 _ _ (s1 _ _ h))), e1⟩
  · exact ⟨vs, .inl (.inl (s2 _ _ (s1 _ _ h))), by rw [r.len]; omega⟩
  · obtain ⟨rfl, y⟩ := y
    obtain ⟨v, e1, r1⟩ := r.get (List.getElem?_eq_getElem hi)
    have e2 := y vs (.inl (.inl (s2 _ _ (s1 _ _ h))))
    rw [e1] at e2; cases e2
    exact ⟨_, H0, List.getElem?_eq_getElem hi, Gr.refl s2, r1.mono s1⟩
theorem jok_tup {H : Hp} {a : Addr} {vs : List V} {ds : List D} (h : SqT G.K H a vs) (r : Rps G H ds vs) : JOk G (Itt G.K a) ds H := by
  refine ⟨fun i H0 H1 s1 s2 hi => ?_, fun i H0 H1 s1 s2 hi => ?_, fun i H0 H1 x H' s1 s2 hi y => ?_⟩
  · obtain ⟨v, e1, _⟩ := r.get (List.getElem?_eq_getElem hi)
    exact ⟨vs, v, sqt_same (s1.trans s2) h, e1⟩
  · exact ⟨vs, sqt_same (s1.trans s2) h, by rw [r.len]; omega⟩
  · obtain ⟨rfl, y⟩ := y
    obtain ⟨v, e1, r1⟩ := r.get (List.getElem?_eq_getElem hi)
    have e2 := y vs (sqt_same (s1.trans s2) h)
    rw [e1] at e2; cases e2
    exact ⟨_, H0, List.getElem?_eq_getElem hi, Gr.refl s2, r1.mono s1⟩
theorem jok_str {H : Hp} {x : Str} : JOk G (Its x) (strD x) H := by
  have hl : (strD x).length = x.cps.size := by unfold strD; rw [List.length_map, Array.length_toList]
  refine ⟨fun i H0 H1 s1 s2 hi => by rw [hl] at hi; exact hi, fun i H0 H1 s1 s2 hi => by rw [hl] at hi; exact Nat.le_of_eq hi.symm, fun i H0 H1 v H' s1 s2 hi y => ?_⟩
  obtain ⟨rfl, c, e, rfl⟩ := y
  refine ⟨.str ⟨#[c]⟩, H0, ?_, Gr.refl s2, rp_str⟩
  unfold strD
  rw [List.getElem?_map, Array.getElem?_toList, e]
  rfl
theorem sim_iseq {te : TE} {f : DE} (h : SimE G te f) : SimI G (iSeqA G.K te) (diSeq f) := by
  refine ⟨fun F H0 H S cs σ R I ds cs' e q => ?_⟩
  unfold diSeq at e
  split at e
  · rename_i ds' c1 e1
    cases e
    refine .inl (h.run F H0 H S cs σ _ I _ _ e1 fun v Ha Hb s1 I1 r1 => ?_)
    have r1' : Rp G Ha (.lst ds) v := r1
    unfold Rp at r1'
    obtain ⟨a, vs, rfl, h2, h3⟩ := r1'
    exact ⟨a, rfl, ⟨vs, .inl (.inl (I1.ex _ _ h2))⟩, q _ _ _ s1 I1 (jok_list rfl h2 h3)⟩
  · rename_i ds' c1 e1
    cases e
    refine .inr (.inl (h.run F H0 H S cs σ _ I _ _ e1 fun v Ha Hb s1 I1 r1 => ?_))
    have r1' : Rp G Ha (.tup ds) v := r1
    unfold Rp at r1'
    obtain ⟨a, vs, rfl, h2, h3⟩ := r1'
    exact ⟨a, rfl, ⟨vs, sqt_same I1.ex h2⟩, q _ _ _ s1 I1 (jok_tup h2 h3)⟩
  · rename_i x c1 e1
    cases e
    refine .inr (.inr (h.run F H0 H S cs σ _ I _ _ e1 fun v Ha Hb s1 I1 r1 => ?_))
    have r1' : Rp G Ha (.str x) v := r1
    unfold Rp at r1'
    exact ⟨x, r1', q _ _ _ s1 I1 jok_str⟩
  · cases e
/-- range -/
def rngD (lo : Int) (n : Nat) : List D := (List.range n).map fun (i : Nat) => .int (lo + (i : Int))
def rngC (lo c : Int) (n : Nat) : List D := (List.range n).map fun (i : Nat) => .int (lo + (i : Int) * c)
theorem jok_rng {H : Hp} {lo : Int} {n : Nat} : JOk G (Itr lo n) (rngD lo n) H := by
  have hl : (rngD lo n).length = n := by unfold rngD; rw [List.length_map, List.length_range]
  refine ⟨fun i H0 H1 s1 s2 hi => by rw [hl] at hi; exact hi, fun i H0 H1 s1 s2 hi => by rw [hl] at hi; exact Nat.le_of_eq hi.symm, fun i H0 H1 v H' s1 s2 hi y => ?_⟩
  obtain ⟨rfl, rfl⟩ := y
  rw [hl] at hi
  refine ⟨.int (lo + (i : Int)), H0, ?_, Gr.refl s2, rp_int⟩
  unfold rngD
  rw [List.getElem?_map, List.getElem?_range hi]
  rfl
theorem jok_rngC {H : Hp} {lo c : Int} {n : Nat} : JOk G (Itc lo c n) (rngC lo c n) H := by
  have hl : (rngC lo c n).length = n := by unfold rngC; rw [List.length_map, List.length_range]
  refine ⟨fun i H0 H1 s1 s2 hi => by rw [hl] at hi; exact hi, fun i H0 H1 s1 s2 hi => by rw [hl] at hi; exact Nat.le_of_eq hi.symm, fun i H0 H1 v H' s1 s2 hi y => ?_⟩
  obtain ⟨rfl, rfl⟩ := y
  rw [hl] at hi
  refine ⟨.int (lo + (i : Int) * c), H0, ?_, Gr.refl s2, rp_int⟩
  unfold rngC
  rw [List.getElem?_map, List.getElem?_range hi]
  rfl
def diRng1 (f : DA) : DF := fun S cs => match f S cs with
  | some ([.c (.int j)], c1) => if -(2 ^ 62) ≤ j ∧ j < 2 ^ 62 then some (rngD 0 j.toNat, c1) else none
  | _ => none
def diRng2 (f : DA) : DF := fun S cs => match f S cs with
  | some ([.c (.int i), .c (.int j)], c1) => if -(2 ^ 62) ≤ i ∧ i < 2 ^ 62 ∧ -(2 ^ 62) ≤ j ∧ j < 2 ^ 62 then some (rngD i (j - i).toNat, c1) else none
  | _ => none
def diRng3 (f : DA) : DF := fun S cs => match f S cs with
  | some ([.c (.int i), .c (.int j), .c (.int k)], c1) => if k ≠ 0 ∧ k.natAbs < 1073741824 ∧ Builtin.Range.small i j k = true ∧ 0 ≤ Builtin.Range.rangeSize i j k then some (rngC i k (Builtin.Range.rangeSize i j k).toNat, c1) else none
  | _ => none
theorem sim_rng1 {t : TA} {f : DA} (h : SimA G t f) : SimI G (iRng1 t) (diRng1 f) := by
  refine ⟨fun F H0 H S cs σ R I ds cs' e q => ?_⟩
  unfold diRng1 at e
  split at e
  · rename_i j c1 e1
    split at e
    · rename_i hj
      cases e
      refine h.run F H0 H S cs σ _ I _ _ e1 fun vs Ha Hb s1 I1 r1 => ?_
      obtain ⟨v, w, rfl, h1, rfl⟩ := r1
      have h1' : Rp G Ha (.int j) v := h1
      unfold Rp at h1'
      subst h1'
      exact ⟨j, rfl, hj.1, hj.2, q _ _ _ s1 I1 jok_rng⟩
    · cases e
  · cases e
theorem sim_rng2 {t : TA} {f : DA} (h : SimA G t f) : SimI G (iRng2 t) (diRng2 f) := by
  refine ⟨fun F H0 H S cs σ R I ds cs' e q => ?_⟩
  unfold diRng2 at e
  split at e
  · rename_i i j c1 e1
    split at e
    · rename_i hj
      cases e
      refine h.run F H0 H S cs σ _ I _ _ e1 fun vs Ha Hb s1 I1 r1 => ?_
      obtain ⟨v, w, rfl, h1, v2, w2, rfl, h2, rfl⟩ := r1
      have h1' : Rp G Ha (.int i) v := h1
      have h2' : Rp G Ha (.int j) v2 := h2
      unfold Rp at h1' h2'
      subst h1'; subst h2'
      exact ⟨i, j, rfl, hj, q _ _ _ s1 I1 jok_rng⟩
    · cases e
  · cases e
theorem sim_rng3 {t : TA} {f : DA} (h : SimA G t f) : SimI G (iRng3 t) (diRng3 f) := by
  refine ⟨fun F H0 H S cs σ R I ds cs' e q => ?_⟩
  unfold diRng3 at e
  split at e
  · rename_i i j k c1 e1
    split at e
    · rename_i hj
      cases e
      refine h.run F H0 H S cs σ _ I _ _ e1 fun vs Ha Hb s1 I1 r1 => ?_
      obtain ⟨v, w, rfl, h1, v2, w2, rfl, h2, v3, w3, rfl, h3, rfl⟩ := r1
      have h1' : Rp G Ha (.int i) v := h1
      have h2' : Rp G Ha (.int j) v2 := h2
      have h3' : Rp G Ha (.int k) v3 := h3
      unfold Rp at h1' h2' h3'
      subst h1'; subst h2'; subst h3'
      exact ⟨i, j, k, _, rfl, ⟨hj.1, hj.2.1, hj.2.2.1, by rw [Int.toNat_of_nonneg hj.2.2.2]⟩, q _ _ _ s1 I1 jok_rngC⟩
    · cases e
  · cases e
/-- zip of two lists -/
def zipD : List D → List D → List D
  | x :: xs, y :: ys => .tup [x, y] :: zipD xs ys
  | _, _ => []
theorem zipD_len : ∀ xs ys : List D, (zipD xs ys).length = min xs.length ys.length
  | [], _ => by simp [zipD]
  | _ :: _, [] => by simp [zipD]
  | x :: xs, y :: ys => by simp [zipD, zipD_len xs ys]
theorem zipD_get : ∀ {xs ys : List D} {i : Nat} {x y : D}, xs[i]? = some x → ys[i]? = some y → (zipD xs ys)[i]? = some (.tup [x, y])
  | [], _, _, _, _, h, _ => by simp at h
  | _ :: _, [], _, _, _, _, h => by simp at h
  | a :: xs, b :: ys, 0, x, y, h1, h2 => by
    simp at h1 h2; subst h1; subst h2; rfl
  | a :: xs, b :: ys, i + 1, x, y, h1, h2 => by
    have h1' : xs[i]? = some x := by simpa using h1
    have h2' : ys[i]? = some y := by simpa using h2
    show (zipD xs ys)[i]? = _
    exact zipD_get h1' h2'
def diZip (f : DA) : DF := fun S cs => match f S cs with
  | some ([.c (.lst xs), .c (.lst ys)], c1) => some (zipD xs ys, c1)
  | _ => none
theorem jok_zip {H : Hp} {a b : Addr} {vs ws : List V} {xs ys : List D} (h1 : H a = some (.lst vs)) (h2 : H b = some (.lst ws)) (r1 : Rps G H xs vs) (r2 : Rps G H ys ws) : JOk G (Itz G.K a b) (zipD xs ys) H := by
  have hl := zipD_len xs ys
  have l1 := r1.len
  have l2 := r2.len
  refine ⟨fun i H0 H1 s1 s2 hi => ?_, fun i H0 H1 s1 s2 hi => ?_, fun i H0 H1 x H' s1 s2 hi y => ?_⟩
  · have e1 : i < xs.length := by omega
    have e2 : i < ys.length := by omega
    obtain ⟨v, q1, _⟩ := r1.get (List.getElem?_eq_getElem e1)
    obtain ⟨w, q2, _⟩ := r2.get (List.getElem?_eq_getElem e2)
    exact ⟨vs, ws, v, w, .inl (.inl (s2 _ _ (s1 _ _ h1))), .inl (.inl (s2 _ _ (s1 _ _ h2))), q1, q2⟩
  · exact ⟨vs, ws, .inl (.inl (s2 _ _ (s1 _ _ h1))), .inl (.inl (s2 _ _ (s1 _ _ h2))), by omega⟩
  · obtain ⟨T, x1, y1, rfl, nT, rfl, f1, f2⟩ := y
    have e1 : i < xs.length := by omega
    have e2 : i < ys.length := by omega
    obtain ⟨v, q1, p1⟩ := r1.get (List.getElem?_eq_getElem e1)
    obtain ⟨w, q2, p2⟩ := r2.get (List.getElem?_eq_getElem e2)
    have z1 := f1 vs (.inl (.inl (s2 _ _ (s1 _ _ h1))))
    have z2 := f2 ws (.inl (.inl (s2 _ _ (s1 _ _ h2))))
    rw [q1] at z1; cases z1
    rw [q2] at z2; cases z2
    refine ⟨_, _, zipD_get (List.getElem?_eq_getElem e1) (List.getElem?_eq_getElem e2), Gr.new s2 _ nT, ?_⟩
    unfold Rp
    have sn := same_new s2 (.tup [x1, y1]) nT
    exact ⟨T, [x1, y1], rfl, .inl (.inl upd_same), Rps.cons (Rp.mono (s1.trans sn) _ _ p1) (Rps.cons (Rp.mono (s1.trans sn) _ _ p2) Rps.nil)⟩
theorem sim_zip {t : TA} {f : DA} (h : SimA G t f) : SimI G (iZip G.K t) (diZip f) := by
  refine ⟨fun F H0 H S cs σ R I ds cs' e q => ?_⟩
  unfold diZip at e
  split at e
  · rename_i xs ys c1 e1
    cases e
    refine h.run F H0 H S cs σ _ I _ _ e1 fun vs Ha Hb s1 I1 r1 => ?_
    obtain ⟨v, w, rfl, h1, v2, w2, rfl, h2, rfl⟩ := r1
    have h1' : Rp G Ha (.lst xs) v := h1
    have h2' : Rp G Ha (.lst ys) v2 := h2
    unfold Rp at h1' h2'
    obtain ⟨a, us, rfl, a2, a3⟩ := h1'
    obtain ⟨b, ws, rfl, b2, b3⟩ := h2'
    exact ⟨a, b, us, ws, rfl, .inl (.inl (I1.ex _ _ a2)), .inl (.inl (I1.ex _ _ b2)), q _ _ _ s1 I1 (jok_zip a2 b2 a3 b3)⟩
  · cases e

/-! ### list comprehensions -/
def dYes : DT := fun _ cs => some (true, cs)
theorem sim_yes : SimT G tYes dYes := by
  refine ⟨fun F H0 H S cs σ Q I b cs' e q => ?_⟩
  cases e
  exact q H0 H (Same.refl _) I
def lcL (g : DG) (tt : DT) (f : DE) : List D → List Sl → Option D → Option (List D × Option D)
  | [], _, cs => some ([], cs)
  | d :: r, S, cs => match g d S with
    | some S1 => match tt S1 cs with
      | some (true, c1) => match f S1 c1 with
        | some (.c y, c2) => match lcL g tt f r S c2 with
          | some (ys, c3) => some (y :: ys, c3)
          | none => none
        | _ => none
      | some (false, c1) => lcL g tt f r S c1
      | none => none
    | none => none
def dLc (src : DF) (g : DG) (tt : DT) (f : DE) (vs : List Nat) : DF := fun S cs => match noOwn S vs with
  | true => match src S cs with
    | some (ds, c1) => if ds.length < sizeLine then lcL g tt f ds (wipeD S vs) c1 else none
    | none => none
  | false => none
theorem wipeV_wipe {σ : VS} {vs : List Nat} : wipe (wipe σ vs) vs = wipe σ vs := by
  have h : ∀ (us : List Nat), (∀ u ∈ us, u ∈ vs) → wipe (wipe σ us) vs = wipe σ vs := by
    intro us
    induction us with
    | nil => intro _; rfl
    | cons u us ih =>
      intro hu
      show wipe ((wipe σ us).set u none) vs = _
      rw [wipeV_set (hu u List.mem_cons_self)]
      exact ih fun w hw => hu w (List.mem_cons_of_mem _ hw)
  exact h vs fun _ h => h
theorem sim_lc {wi : TI} {g : TG} {tt : TT} {te : TE} {vs : List Nat} {src : DF} {dg : DG} {ts : List Nat} {dt : DT} {de : DE} (hi : SimI G wi src) (hg : SimG G g dg ts) (hsub : ∀ i ∈ ts, i ∈ vs) (ht : SimT G tt dt) (he : SimE G te de) :
    SimF G (tLc wi g tt te vs) (dLc src dg dt de vs) := by
  refine ⟨fun F H0 H S cs σ Q I ys cs' e q => ?_⟩
  unfold dLc at e
  split at e
  rotate_left
  · cases e
  rename_i hno
  split at e
  rotate_left
  · cases e
  rename_i ds c1 e1
  split at e
  rotate_left
  · cases e
  rename_i hlen
  refine hi.run F H0 H S cs σ _ I _ _ e1 fun J Ha Hb s1 I1 jok => ?_
  intro Dl hD
  have apD : Apart F S σ Dl := I1.apart hD
  have heD : F.He Dl = none := I1.he.free hD
  have h0D : Ha Dl = none := I1.ex.free hD
  have hb : ∀ a, F.ban a → F.He a ≠ none := fun a h => (I1.bn a h).1
  have apW := apD.wiped vs
  refine ⟨fun i m Hc => m = ds.length - i ∧ i ≤ ds.length ∧ ∃ H0c acc accV zs c, Same Ha H0c ∧ StOk G F H0c Hc (wipeD S vs) c (wipe σ vs) ∧ Hc Dl = some (.lst accV) ∧ H0c Dl = none ∧ Rps G H0c acc accV ∧ accV.length ≤ i ∧
    lcL dg dt de (ds.drop i) (wipeD S vs) c = some (zs, cs') ∧ acc ++ zs = ys, ⟨ds.length, by simp, Nat.zero_le _, Ha, [], [], ys, c1, Same.refl _, (I1.off _ hD).wiped vs, upd_same, h0D, Rps.nil, Nat.le_refl _, e, rfl⟩, ?_⟩
  rintro i m Hc ⟨rfl, hi, H0c, acc, accV, zs, c, sa, I2, hDl, h0Dl, racc, hacc, el, rfl⟩
  by_cases hlt : i < ds.length
  · refine .inr ⟨jok.go i H0c Hc sa I2.ex hlt, fun Hn => ∃ H0c acc' accV' zs' c', Same Ha H0c ∧ StOk G F H0c Hn (wipeD S vs) c' (wipe σ vs) ∧ Hn Dl = some (.lst accV') ∧ H0c Dl = none ∧ Rps G H0c acc' accV' ∧ accV'.length ≤ i + 1 ∧
      lcL dg dt de (ds.drop (i + 1)) (wipeD S vs) c' = some (zs', cs') ∧ acc' ++ zs' = acc ++ zs, fun Hn hn => ?_, fun x Hx hy => ?_⟩
    · obtain ⟨H0n, acc', accV', zs', c', n1, n2, n3, n4, n5, n6, n7, n8⟩ := hn
      exact ⟨ds.length - (i + 1), by omega, rfl, hlt, H0n, acc', accV', zs', c', n1, n2, n3, n4, n5, n6, n7, n8⟩
    · obtain ⟨d, H0d, ed, gr, rd⟩ := jok.yld i H0c Hc x Hx sa I2.ex hlt hy
      have I3 := I2.grow gr
      rw [List.drop_eq_getElem_cons hlt, show ds[i] = d from Option.some.inj ((List.getElem?_eq_getElem hlt).symm.trans ed)] at el
      have hDx : Hx Dl = some (.lst accV) := gr.b _ _ hDl
      have h0x : H0d Dl = none := gr.d Dl (ne_none hDl) h0Dl
      unfold lcL at el
      split at el
      rotate_left
      · cases el
      rename_i S1 eg
      refine hg.run F H0d Hx (wipeD S vs) c (wipe σ vs) d x _ I3 rd S1 eg fun σ2 I4 ap2 w2 => ?_
      have wv : wipe σ2 vs = wipe σ vs := (w2 vs hsub).trans wipeV_wipe
      have wd : wipeD S1 vs = wipeD S vs := (hg.wD _ _ _ eg vs hsub).trans wipeD_wipe
      refine ⟨wv, ?_⟩
      have apS1 := ap2 Dl apW
      have I5 := I4.kept hDx h0x apS1 (fun _ z => nomatch z)
      split at el
      · rename_i c2 et
        split at el
        · rename_i y c3 ee
          split at el
          · rename_i ys' c4 er
            cases el
            refine ht.run (F.keep Dl (.lst accV)) H0d Hx S1 c σ2 _ I5 _ _ et fun H0e He s5 I6 => ?_
            rw [if_pos rfl]
            refine he.run (F.keep Dl (.lst accV)) H0e He S1 c2 σ2 _ I6 _ _ ee fun v H0f Hf s6 I7 r7 => ?_
            obtain ⟨I8, hDf, h0f⟩ := I7.unkept heD hb
            have I9 : StOk G F H0f (upd Hf Dl (.lst (accV ++ [v]))) S1 c3 σ2 := I8.mutOff h0f heD apS1 (fun z w => by rw [hDf] at w; cases w)
            have I10 := I9.wiped vs
            rw [wv, wd] at I10
            refine ⟨accV, hDf, by omega, H0f, acc ++ [y], accV ++ [v], ys', c3, (sa.trans gr.a).trans (s5.trans s6), I10, upd_same, h0f, ?_, ?_, er, by rw [List.append_assoc]; rfl⟩
            · exact (racc.mono (gr.a.trans (s5.trans s6))).append (Rps.cons r7 Rps.nil)
            · rw [List.length_append]; simp; omega
          · cases el
        · cases el
      · rename_i c2 et
        refine ht.run (F.keep Dl (.lst accV)) H0d Hx S1 c σ2 _ I5 _ _ et fun H0e He s5 I6 => ?_
        refine iteF ?_
        obtain ⟨I8, hDf, h0f⟩ := I6.unkept heD hb
        have I10 := I8.wiped vs
        rw [wv, wd] at I10
        exact ⟨H0e, acc, accV, zs, c2, (sa.trans gr.a).trans s5, I10, hDf, h0f, racc.mono (gr.a.trans s5), by omega, el, rfl⟩
      · cases el
  · have hi' : i = ds.length := by omega
    subst hi'
    rw [List.drop_length] at el
    cases el
    refine .inl ⟨jok.stop _ H0c Hc sa I2.ex rfl, ?_⟩
    exact q Dl accV H0c Hc (s1.trans sa) (I.unwiped hno (s1.trans sa) I2) h0Dl heD apD hDl (by rw [List.append_nil]; exact racc)
end DL

set_option autoImplicit true
set_option relaxedAutoImplicit true
set_option Elab.async false
set_option autoImplicit false
set_option linter.all false
set_option maxRecDepth 100000
set_option maxHeartbeats 4000000
/-! DL, F: statements, defs. -/
namespace DL
open PySem PySem.Spec PyProof.Rows L2
variable {G : Gm}

def EndOk (G : Gm) (F : Fr) (H0 : Hp) (En : Ends) : Fl → List Sl → Option D → Prop
  | .nx, S, cs => ∀ σ H0' H', Same H0 H0' → StOk G F H0' H' S cs σ → En.nx σ H'
  | .bk, S, cs => ∀ σ H0' H', Same H0 H0' → StOk G F H0' H' S cs σ → En.bk σ H'
  | .ct, S, cs => ∀ σ H0' H', Same H0 H0' → StOk G F H0' H' S cs σ → En.ct σ H'
  | .rt d, _, cs => ∀ v H0' H', Same H0 H0' → StOk G F H0' H' [] cs [] → Rp G H0' d v → En.rt v H'
  | .rf ds, _, cs => ∀ p vs H0' H', Same H0 H0' → StOk G F H0' H' [] cs [] → H0' p = none → F.He p = none → F.pc ≠ some p → H' p = some (.lst vs) → Rps G H0' ds vs → En.rt (.ref p) H'
theorem EndOk.mono {F : Fr} {H0 H0' : Hp} {En : Ends} (s : Same H0 H0') : ∀ {fl : Fl} {S : List Sl} {cs : Option D}, EndOk G F H0 En fl S cs → EndOk G F H0' En fl S cs
  | .nx, _, _, h => fun σ Ha Hb s' I => h σ Ha Hb (s.trans s') I
  | .bk, _, _, h => fun σ Ha Hb s' I => h σ Ha Hb (s.trans s') I
  | .ct, _, _, h => fun σ Ha Hb s' I => h σ Ha Hb (s.trans s') I
  | .rt _, _, _, h => fun v Ha Hb s' I => h v Ha Hb (s.trans s') I
  | .rf _, _, _, h => fun p vs Ha Hb s' I => h p vs Ha Hb (s.trans s') I
theorem StOk.bare {F : Fr} {H0 H : Hp} {S : List Sl} {cs : Option D} {σ : VS} (I : StOk G F H0 H S cs σ) : StOk G F H0 H [] cs [] :=
  ⟨I.ex, I.he, I.bn, rfl, fun i s e => by simp at e, fun i j p xs ys n e => by simp at e, I.pc⟩

structure SimS (G : Gm) (t : TS) (f : DS) : Prop where
  run : ∀ (F : Fr) (H0 H : Hp) (S : List Sl) (cs : Option D) (σ : VS) (E : Ends), StOk G F H0 H S cs σ → ∀ fl S' cs', f S cs = some (fl, S', cs') → EndOk G F H0 E fl S' cs' → t E σ H
structure DStm (X : Cx) (K : PySem.W.Frag) (cA : Nat → Addr) (st : Stmt) (t : TS) (f : DS) : Prop where
  ps : PS X st t
  sim : SimS ⟨K, cA⟩ t f
structure DBlk (X : Cx) (K : PySem.W.Frag) (cA : Nat → Addr) (st : List Stmt) (t : TS) (f : DS) : Prop where
  ps : PSs X st t
  sim : SimS ⟨K, cA⟩ t f

def dsNil : DS := fun S cs => some (.nx, S, cs)
def dsSeq (f g : DS) : DS := fun S cs => match f S cs with
  | some (.nx, S1, c1) => g S1 c1
  | o => o
theorem sim_nx : SimS G tNext dsNil := by
  refine ⟨fun F H0 H S cs σ E I fl S' cs' e q => ?_⟩
  cases e
  exact q σ H0 H (Same.refl _) I
theorem sim_seq {t u : TS} {f g : DS} (hf : SimS G t f) (hg : SimS G u g) : SimS G (tSeq t u) (dsSeq f g) := by
  refine ⟨fun F H0 H S cs σ E I fl S' cs' e q => ?_⟩
  unfold dsSeq at e
  split at e
  · rename_i S1 c1 e1
    exact hf.run F H0 H S cs σ _ I _ _ _ e1 fun σ1 Ha Hb s1 I1 => hg.run F Ha Hb S1 c1 σ1 E I1 _ _ _ e (q.mono s1)
  · rename_i hn
    refine hf.run F H0 H S cs σ _ I _ _ _ e ?_
    cases fl with
    | nx => exact absurd e (hn S' cs')
    | bk => exact q
    | ct => exact q
    | rt d => exact q
    | rf ds => exact q
theorem db_nil {X : Cx} {K : PySem.W.Frag} {cA : Nat → Addr} : DBlk X K cA [] tNext dsNil := ⟨pss_nil, sim_nx⟩
theorem db_cons {X : Cx} {K : PySem.W.Frag} {cA : Nat → Addr} {st : Stmt} {rest : List Stmt} {t u : TS} {f g : DS} (h1 : DStm X K cA st t f) (h2 : DBlk X K cA rest u g) : DBlk X K cA (st :: rest) (tSeq t u) (dsSeq f g) := ⟨pss_cons h1.ps h2.ps, sim_seq h1.sim h2.sim⟩
theorem db_one {X : Cx} {K : PySem.W.Frag} {cA : Nat → Addr} {st : Stmt} {t : TS} {f : DS} (h1 : DStm X K cA st t f) : DBlk X K cA [st] t f := ⟨pss_one h1.ps, h1.sim⟩

/-! ### small statements -/
def dsBreak : DS := fun S cs => some (.bk, S, cs)
def dsCont : DS := fun S cs => some (.ct, S, cs)
def dsNever : DS := fun _ _ => none
theorem sim_break : SimS G tBreak dsBreak := by
  refine ⟨fun F H0 H S cs σ E I fl S' cs' e q => ?_⟩
  cases e
  exact q σ H0 H (Same.refl _) I
theorem sim_cont : SimS G tCont dsCont := by
  refine ⟨fun F H0 H S cs σ E I fl S' cs' e q => ?_⟩
  cases e
  exact q σ H0 H (Same.refl _) I
theorem sim_never : SimS G tNever dsNever := by
  refine ⟨fun F H0 H S cs σ E I fl S' cs' e q => ?_⟩
  cases e
def dsDrop (f : DE) : DS := fun S cs => match f S cs with
  | some (_, c1) => some (.nx, S, c1)
  | none => none
theorem sim_drop {te : TE} {f : DE} (h : SimE G te f) : SimS G (tDrop te) (dsDrop f) := by
  refine ⟨fun F H0 H S cs σ E I fl S' cs' e q => ?_⟩
  unfold dsDrop at e
  split at e
  · rename_i r c1 e1
    cases e
    exact h.run F H0 H S cs σ _ I _ _ e1 fun v Ha Hb s1 I1 r1 => q _ _ _ s1 I1
  · cases e
/-- return -/
def dsRet (f : DE) : DS := fun S cs => match f S cs with
  | some (.c d, c1) => some (.rt d, [], c1)
  | some (.o i, c1) => match S[i]? with
    | some (.own ds) => some (.rf ds, [], c1)
    | _ => none
  | _ => none
theorem sim_ret {te : TE} {f : DE} (h : SimE G te f) : SimS G (tRet te) (dsRet f) := by
  refine ⟨fun F H0 H S cs σ E I fl S' cs' e q => ?_⟩
  unfold dsRet at e
  split at e
  · rename_i d c1 e1
    cases e
    exact h.run F H0 H S cs σ _ I _ _ e1 fun v Ha Hb s1 I1 r1 => q _ _ _ s1 I1.bare r1
  · rename_i i c1 e1
    split at e
    · rename_i ds e2
      cases e
      refine h.run F H0 H S cs σ _ I _ _ e1 fun v Ha Hb s1 I1 r1 => ?_
      obtain ⟨p, vs, a1, a2, a3, a4, a5, a6⟩ := I1.sl _ _ e2
      rw [show σ[i]? = some (some v) from r1] at a1
      cases a1
      exact q p vs _ _ s1 I1.bare a2 a3 a4 a5 a6
    · cases e
  · cases e
def dsRetF (f : DF) : DS := fun S cs => match f S cs with
  | some (ds, c1) => some (.rf ds, [], c1)
  | none => none
theorem sim_retF {te : TE} {f : DF} (h : SimF G te f) : SimS G (tRet te) (dsRetF f) := by
  refine ⟨fun F H0 H S cs σ E I fl S' cs' e q => ?_⟩
  unfold dsRetF at e
  split at e
  · rename_i ds c1 e1
    cases e
    exact h.run F H0 H S cs σ _ I _ _ e1 fun p vs Ha Hb s1 I1 a1 a2 a3 a4 a5 => q p vs _ _ s1 I1.bare a1 a2 a3.1 a4 a5
  · cases e
def dsRetN : DS := fun S cs => some (.rt .non, [], cs)
theorem sim_retN : SimS G tRetN dsRetN := by
  refine ⟨fun F H0 H S cs σ E I fl S' cs' e q => ?_⟩
  cases e
  exact q _ _ _ (Same.refl _) I.bare rp_non
/-- if -/
def dsIf (c : DT) (f g : DS) : DS := fun S cs => match c S cs with
  | some (true, c1) => f S c1
  | some (false, c1) => g S c1
  | none => none
theorem sim_ifS {tc : TT} {c : DT} {t u : TS} {f g : DS} (hc : SimT G tc c) (hf : SimS G t f) (hg : SimS G u g) : SimS G (tIfS tc t u) (dsIf c f g) := by
  refine ⟨fun F H0 H S cs σ E I fl S' cs' e q => ?_⟩
  unfold dsIf at e
  split at e
  · rename_i c1 e1
    refine hc.run F H0 H S cs σ _ I _ _ e1 fun Ha Hb s1 I1 => ?_
    rw [if_pos rfl]
    exact hf.run F Ha Hb S c1 σ E I1 _ _ _ e (q.mono s1)
  · rename_i c1 e1
    refine hc.run F H0 H S cs σ _ I _ _ e1 fun Ha Hb s1 I1 => ?_
    rw [if_neg Bool.false_ne_true]
    exact hg.run F Ha Hb S c1 σ E I1 _ _ _ e (q.mono s1)
  · cases e
/-- target = e -/
def dsAsg (f : DE) (g : DG) : DS := fun S cs => match f S cs with
  | some (.c d, c1) => match g d S with
    | some S1 => some (.nx, S1, c1)
    | none => none
  | _ => none
theorem sim_asg {te : TE} {f : DE} {t : TG} {g : DG} {ts : List Nat} (h : SimE G te f) (hg : SimG G t g ts) : SimS G (tAsg te t) (dsAsg f g) := by
  refine ⟨fun F H0 H S cs σ E I fl S' cs' e q => ?_⟩
  unfold dsAsg at e
  split at e
  · rename_i d c1 e1
    split at e
    · rename_i S1 e2
      cases e
      exact h.run F H0 H S cs σ _ I _ _ e1 fun v Ha Hb s1 I1 r1 => hg.run F Ha Hb S _ σ d v _ I1 r1 _ e2 fun σ' I2 _ _ => q σ' _ _ s1 I2
    · cases e
  · cases e
/-- a name that holds a new list of its own -/
def dsOwn (i : Nat) (f : DF) : DS := fun S cs => match f S cs with
  | some (ds, c1) => match S[i]? with
    | some .cst => none
    | some _ => some (.nx, S.set i (.own ds), c1)
    | none => none
  | none => none
theorem StOk.setOwn {F : Fr} {H0 H : Hp} {S : List Sl} {cs : Option D} {σ : VS} (I : StOk G F H0 H S cs σ) (i : Nat) {p : Addr} {vs : List V} {ds : List D} (h0 : H0 p = none) (he : F.He p = none) (ap : Apart F S σ p) (hp : H p = some (.lst vs)) (r : Rps G H0 ds vs) :
    StOk G F H0 H (S.set i (.own ds)) cs (σ.set i (some (.ref p))) := by
  have inb : ∀ {j : Nat} {s : Sl}, i = j → (S.set i (.own ds))[j]? = some s → i < S.length ∧ s = .own ds := fun {j s} z e => by
    subst z
    by_cases hl : i < S.length
    · rw [List.getElem?_set_self hl] at e; cases e; exact ⟨hl, rfl⟩
    · rw [List.getElem?_eq_none (by rw [List.length_set]; omega)] at e; cases e
  refine ⟨I.ex, I.he, I.bn, by rw [List.length_set, List.length_set]; exact I.len, fun j s e => ?_, fun j k q xs ys n e1 e2 e3 e4 => ?_, I.pc⟩
  · by_cases hj : i = j
    · obtain ⟨hl, rfl⟩ := inb hj e
      subst hj
      exact ⟨p, vs, by rw [List.getElem?_set_self (by rw [← I.len]; exact hl)], h0, he, ap.1, hp, r⟩
    · rw [List.getElem?_set_ne hj] at e
      have q := I.sl j s e
      cases s with
      | no => trivial
      | val d => obtain ⟨v, e1, r⟩ := q; exact ⟨v, by rw [List.getElem?_set_ne hj]; exact e1, r⟩
      | own ds => obtain ⟨p, vs, e1, r⟩ := q; exact ⟨p, vs, by rw [List.getElem?_set_ne hj]; exact e1, r⟩
      | cst => obtain ⟨p, e0, e1⟩ := q; exact ⟨p, e0, by rw [List.getElem?_set_ne hj]; exact e1⟩
  · by_cases hj : i = j
    · have hk : i ≠ k := fun z => n (hj ▸ z ▸ rfl)
      obtain ⟨hl, _⟩ := inb hj e1
      rw [← hj, List.getElem?_set_self (by rw [← I.len]; exact hl)] at e3
      cases e3
      rw [List.getElem?_set_ne hk] at e2 e4
      exact ap.2 k ys e2 e4
    · by_cases hk : i = k
      · obtain ⟨hl, _⟩ := inb hk e2
        rw [← hk, List.getElem?_set_self (by rw [← I.len]; exact hl)] at e4
        cases e4
        rw [List.getElem?_set_ne hj] at e1 e3
        exact ap.2 j xs e1 e3
      · rw [List.getElem?_set_ne hj] at e1 e3
        rw [List.getElem?_set_ne hk] at e2 e4
        exact I.ds j k q xs ys n e1 e2 e3 e4
theorem sim_own {te : TE} {f : DF} {i : Nat} (h : SimF G te f) : SimS G (tAsg te (gName i)) (dsOwn i f) := by
  refine ⟨fun F H0 H S cs σ E I fl S' cs' e q => ?_⟩
  unfold dsOwn at e
  split at e
  · rename_i ds c1 e1
    split at e
    · cases e
    · cases e
      exact h.run F H0 H S cs σ _ I _ _ e1 fun p vs Ha Hb s1 I1 a1 a2 a3 a4 a5 => q _ _ _ s1 (I1.setOwn i a1 a2 a3 a4 a5)
    · cases e
  · cases e
/-- a, b = e1, e2 -/
def dsPar (i j : Nat) (f : DA) : DS := fun S cs => match f S cs with
  | some ([.c x, .c y], c1) => match gdN i x S with
    | some S1 => match gdN j y S1 with
      | some S2 => some (.nx, S2, c1)
      | none => none
    | none => none
  | _ => none
theorem sim_par {i j : Nat} {t : TA} {f : DA} (h : SimA G t f) : SimS G (tPar i j t) (dsPar i j f) := by
  refine ⟨fun F H0 H S cs σ E I fl S' cs' e q => ?_⟩
  unfold dsPar at e
  split at e
  · rename_i x y c1 e1
    split at e
    · rename_i S1 e2
      split at e
      · rename_i S2 e3
        cases e
        refine h.run F H0 H S cs σ _ I _ _ e1 fun vs Ha Hb s1 I1 r1 => ?_
        obtain ⟨v, w, rfl, h1, v2, w2, rfl, h2, rfl⟩ := r1
        refine ⟨v, v2, rfl, ?_⟩
        unfold gdN at e2 e3
        split at e2
        · cases e2
        · cases e2
          split at e3
          · cases e3
          · cases e3
            exact q _ _ _ s1 ((I1.setVal i h1).setVal j h2)
          · cases e3
        · cases e2
      · cases e
    · cases e
  · cases e
/-- x op= e of ints -/
def dsAug (i : Nat) (op : Int → Int → Int) (f : DE) : DS := fun S cs => match S[i]? with
  | some (.val (.int x)) => match f S cs with
    | some (.c (.int y), c1) => some (.nx, S.set i (.val (.int (op x y))), c1)
    | _ => none
  | _ => none
theorem sim_aug {i : Nat} {op : Int → Int → Int} {te : TE} {f : DE} (h : SimE G te f) : SimS G (tAug i te (ipI op)) (dsAug i op f) := by
  refine ⟨fun F H0 H S cs σ E I fl S' cs' e q => ?_⟩
  unfold dsAug at e
  split at e
  · rename_i x e1
    split at e
    · rename_i y c1 e2
      cases e
      obtain ⟨v, e3, r⟩ := I.sl _ _ e1
      unfold Rp at r
      refine ⟨v, e3, h.run F H0 H S cs σ _ I _ _ e2 fun w Ha Hb s1 I1 r1 => ?_⟩
      have r1' : Rp G Ha (.int y) w := r1
      unfold Rp at r1'
      exact ⟨x, y, r, r1', q _ _ _ s1 (I1.setVal i rp_int)⟩
    · cases e
  · cases e
/-- xs.append(e) of one's own list -/
def dsApp (i : Nat) (f : DE) : DS := fun S cs => match f S cs with
  | some (.c d, c1) => match S[i]? with
    | some (.own ds) => if ds.length < sizeLine then some (.nx, S.set i (.own (ds ++ [d])), c1) else none
    | _ => none
  | _ => none
theorem StOk.mutOwn {F : Fr} {H0 H : Hp} {S : List Sl} {cs : Option D} {σ : VS} (I : StOk G F H0 H S cs σ) {i : Nat} {ds ds' : List D} {p : Addr} {vs' : List V} (e : S[i]? = some (.own ds)) (ep : σ[i]? = some (some (.ref p))) (r : Rps G H0 ds' vs') :
    StOk G F H0 (upd H p (.lst vs')) (S.set i (.own ds')) cs σ := by
  obtain ⟨p', vs, e1, a2, a3, a4, a5, a6⟩ := I.sl _ _ e
  rw [ep] at e1; cases e1
  have hi : i < S.length := (List.getElem?_eq_some_iff.mp e).1
  -- the state with the slot forgotten
  have ap : Apart F (S.set i .no) (σ.set i none) p := by
    refine ⟨a4, fun j xs e2 e3 => ?_⟩
    have hj : i ≠ j := fun z => by
      subst z
      rw [List.getElem?_set_self hi] at e2; cases e2
    rw [List.getElem?_set_ne hj] at e2 e3
    exact I.ds i j p ds xs hj e e2 ep e3
  have I1 := (I.setNo i).mutOff (o := .lst vs') a2 a3 ap (fun x z => by rw [a5] at z; cases z)
  have I2 := I1.setOwn i (ds := ds') a2 a3 ap upd_same r
  rw [List.set_set, List.set_set] at I2
  have hs : σ.set i (some (V.ref p)) = σ := by
    apply List.ext_getElem?
    intro j
    by_cases hj : i = j
    · subst hj; rw [List.getElem?_set_self (by rw [← I.len]; exact hi), ep]
    · rw [List.getElem?_set_ne hj]
  rw [hs] at I2
  exact I2
theorem sim_app {i : Nat} {te : TE} {f : DE} (h : SimE G te f) : SimS G (tDrop (tBM G.K "list" rAppend (tVar i) (tCons te tNil))) (dsApp i f) := by
  refine ⟨fun F H0 H S cs σ E I fl S' cs' e q => ?_⟩
  unfold dsApp at e
  split at e
  · rename_i d c1 e1
    split at e
    · rename_i ds e2
      split at e
      · rename_i hl
        cases e
        obtain ⟨p, vs, a1, a2, a3, a4, a5, a6⟩ := I.sl _ _ e2
        refine ⟨.ref p, a1, .inl ⟨rfl, vs, .inl (.inl a5)⟩, h.run F H0 H S cs σ _ I _ _ e1 fun w Ha Hb s1 I1 r1 => ?_⟩
        obtain ⟨p', us, b1, b2, b3, b4, b5, b6⟩ := I1.sl _ _ e2
        rw [a1] at b1; cases b1
        exact ⟨p, us, w, rfl, rfl, b5, by rw [b6.len]; exact hl, q _ _ _ s1 (I1.mutOwn e2 a1 (b6.append (Rps.cons r1 Rps.nil)))⟩
      · cases e
    · cases e
  · cases e
/-- xs[i] = e of one's own list, of the cell -/
def dsSet (j : Nat) (fi fe : DE) : DS := fun S cs => match fe S cs with
  | some (.c d, c1) => match fi S c1 with
    | some (.c (.int k), c2) => match S[j]? with
      | some (.own ds) => match ixN ds.length k with
        | some n => some (.nx, S.set j (.own (ds.set n d)), c2)
        | none => none
      | some .cst => match c2 with
        | some (.lst ds) => match ixN ds.length k with
          | some n => some (.nx, S, some (.lst (ds.set n d)))
          | none => none
        | _ => none
      | _ => none
    | _ => none
  | _ => none
theorem StOk.mutPc {F : Fr} {H0 H : Hp} {S : List Sl} {σ : VS} {ds ds' : List D} (I : StOk G F H0 H S (some (.lst ds)) σ) {p : Addr} (hp : F.pc = some p) {vs' : List V} (r : Rps G H0 ds' vs') : StOk G F H0 (upd H p (.lst vs')) S (some (.lst ds')) σ := by
  have q := I.pc
  rw [hp] at q
  obtain ⟨h1, h2, vs, h3, h4⟩ := q
  refine ⟨fun b u e => by rw [upd_ne (ne_of_none e h1)]; exact I.ex _ _ e, fun b u e => by rw [upd_ne (fun z => by rw [z, h2] at e; cases e)]; exact I.he _ _ e, I.bn, I.len, fun i s e => ?_, I.ds, ?_⟩
  · have q := I.sl i s e
    cases s with
    | no => trivial
    | val d => exact q
    | own zs =>
      obtain ⟨p', us, e1, b1, b2, b3, b4, b5⟩ := q
      exact ⟨p', us, e1, b1, b2, b3, by rw [upd_ne (fun z => b3 (by rw [hp, z]))]; exact b4, b5⟩
    | cst => exact q
  · rw [hp]
    exact ⟨h1, h2, vs', upd_same, r⟩
theorem sim_set {j : Nat} {ti te : TE} {fi fe : DE} (hi : SimE G ti fi) (he : SimE G te fe) : SimS G (tAsg te (gSub (tVar j) ti rSetL)) (dsSet j fi fe) := by
  refine ⟨fun F H0 H S cs σ E I fl S' cs' e q => ?_⟩
  unfold dsSet at e
  split at e
  · rename_i d c1 e1
    split at e
    · rename_i k c2 e2
      split at e
      · rename_i ds e3
        split at e
        · rename_i n e4
          cases e
          refine he.run F H0 H S cs σ _ I _ _ e1 fun w Ha Hb s1 I1 r1 => ?_
          obtain ⟨p, vs, a1, a2, a3, a4, a5, a6⟩ := I1.sl _ _ e3
          refine ⟨.ref p, a1, hi.run F Ha Hb S c1 σ _ I1 _ _ e2 fun z Hc Hd s2 I2 r2 => ?_⟩
          obtain ⟨p', us, b1, b2, b3, b4, b5, b6⟩ := I2.sl _ _ e3
          rw [a1] at b1; cases b1
          have r2' : Rp G Hc (.int k) z := r2
          unfold Rp at r2'
          exact ⟨p, us, k, n, rfl, r2', b5, by rw [b6.len]; exact e4, q _ _ _ (s1.trans s2) (I2.mutOwn e3 a1 (b6.set (Rp.mono s2 _ _ r1) n))⟩
        · cases e
      · rename_i e3
        split at e
        · rename_i ds
          split at e
          · rename_i n e4
            cases e
            refine he.run F H0 H S cs σ _ I _ _ e1 fun w Ha Hb s1 I1 r1 => ?_
            obtain ⟨p, a0, a1⟩ := I1.sl _ _ e3
            refine ⟨.ref p, a1, hi.run F Ha Hb S c1 σ _ I1 _ _ e2 fun z Hc Hd s2 I2 r2 => ?_⟩
            have q2 := I2.pc
            rw [a0] at q2
            obtain ⟨b1, b2, us, b5, b6⟩ := q2
            have r2' : Rp G Hc (.int k) z := r2
            unfold Rp at r2'
            exact ⟨p, us, k, n, rfl, r2', b5, by rw [b6.len]; exact e4, q _ _ _ (s1.trans s2) (I2.mutPc a0 (b6.set (Rp.mono s2 _ _ r1) n))⟩
          · cases e
        · cases e
      · cases e
    · cases e
  · cases e
/-- self.f = e in __init__ -/
def putL {α : Type} (f : Str) (x : α) : List Str → List α → List Str × List α
  | n :: ns, y :: ys => if n = f then (n :: ns, x :: ys) else (n :: (putL f x ns ys).1, y :: (putL f x ns ys).2)
  | _, _ => ([f], [x])
theorem putL_zip {f : Str} {x : V} : ∀ {ns : List Str} {vs : List V}, ns.length = vs.length → putF f x (ns.zip vs) = (putL f x ns vs).1.zip (putL f x ns vs).2
  | [], [], _ => rfl
  | [], _ :: _, h => by cases h
  | _ :: _, [], h => by cases h
  | n :: ns, v :: vs, h => by
    have ih := putL_zip (f := f) (x := x) (ns := ns) (vs := vs) (by simpa using h)
    show (if n = f then (n, x) :: ns.zip vs else (n, v) :: putF f x (ns.zip vs)) = _
    unfold putL
    split
    · rfl
    · rw [ih]; rfl
theorem putL_names {α β : Type} {f : Str} {x : α} {y : β} : ∀ {ns : List Str} {vs : List α} {ws : List β}, vs.length = ws.length → (putL f x ns vs).1 = (putL f y ns ws).1
  | [], _, _, _ => by unfold putL; rfl
  | _ :: _, [], [], _ => by unfold putL; rfl
  | _ :: _, [], _ :: _, h => by cases h
  | _ :: _, _ :: _, [], h => by cases h
  | n :: ns, v :: vs, w :: ws, h => by
    have ih := putL_names (f := f) (x := x) (y := y) (ns := ns) (vs := vs) (ws := ws) (by simpa using h)
    unfold putL
    split
    · rfl
    · show n :: _ = n :: _
      rw [ih]
theorem putL_len {α : Type} {f : Str} {x : α} : ∀ {ns : List Str} {vs : List α}, ns.length = vs.length → (putL f x ns vs).1.length = (putL f x ns vs).2.length
  | [], [], _ => rfl
  | [], _ :: _, h => by cases h
  | _ :: _, [], h => by cases h
  | n :: ns, v :: vs, h => by
    have ih := putL_len (f := f) (x := x) (ns := ns) (vs := vs) (by simpa using h)
    unfold putL
    split
    · simpa using h
    · simp [ih]
theorem putL_rps {H : Hp} {f : Str} {d : D} {v : V} (r : Rp G H d v) : ∀ {ns : List Str} {ds : List D} {vs : List V}, ns.length = ds.length → Rps G H ds vs → Rps G H (putL f d ns ds).2 (putL f v ns vs).2
  | [], [], vs, _, h => by unfold Rps at h; subst h; exact Rps.cons r Rps.nil
  | [], _ :: _, _, h, _ => by cases h
  | _ :: _, [], _, h, _ => by cases h
  | n :: ns, x :: ds, vs, hl, h => by
    unfold Rps at h
    obtain ⟨y, w, rfl, h1, h2⟩ := h
    have ih := putL_rps (f := f) r (ns := ns) (ds := ds) (vs := w) (by simpa using hl) h2
    unfold putL
    split
    · exact Rps.cons r h2
    · exact Rps.cons h1 ih
def dsFld (C : Nat) (fl : Str) (j : Nat) (f : DE) : DS := fun S cs => match f S cs with
  | some (.c d, some (.obj C' ns ds)) => match S[j]? with
    | some .cst => if C' = C ∧ ns.length < 1000 then some (.nx, S, some (.obj C' (putL fl d ns ds).1 (putL fl d ns ds).2)) else none
    | _ => none
  | _ => none
theorem sim_fldS {C : Nat} {fl : Str} {j : Nat} {te : TE} {f : DE} (hC : Cls G.K (G.cA C)) (hn : NoAttr G.K (G.cA C) fl) (h : SimE G te f) : SimS G (sFld G.K (tVar j) te fl) (dsFld C fl j f) := by
  refine ⟨fun F H0 H S cs σ E I fl' S' cs' e q => ?_⟩
  unfold dsFld at e
  split at e
  · rename_i d C' ns ds e1
    split at e
    · rename_i e2
      split at e
      · rename_i hc
        cases e
        obtain ⟨rfl, hl⟩ := hc
        refine h.run F H0 H S cs σ _ I _ _ e1 fun w Ha Hb s1 I1 r1 => ?_
        obtain ⟨p, a0, a1⟩ := I1.sl _ _ e2
        have q1 := I1.pc
        rw [a0] at q1
        obtain ⟨b1, b2, dx, vs, b3, b4, b5, b6, b7, b8⟩ := q1
        have lv : ns.length = vs.length := b7.trans b8.len.symm
        refine ⟨.ref p, a1, p, _, dx, _, rfl, b3, hC, hn, ?_, ?_⟩
        · rw [List.length_zip]; omega
        rw [putL_zip lv]
        have hdx : dx ≠ p := fun z => by rw [z, b3] at b4; cases b4
        have nm : (putL fl w ns vs).1 = (putL fl d ns ds).1 := putL_names b8.len
        have I2 : StOk G F Ha (upd Hb p (.ins (G.cA C') dx ((putL fl w ns vs).1.zip (putL fl w ns vs).2))) S (some (.obj C' (putL fl d ns ds).1 (putL fl d ns ds).2)) σ := by
          refine ⟨fun b u e => by rw [upd_ne (ne_of_none e b1)]; exact I1.ex _ _ e, fun b u e => by rw [upd_ne (fun z => by rw [z, b2] at e; cases e)]; exact I1.he _ _ e, I1.bn, I1.len, fun i s e => ?_, I1.ds, ?_⟩
          · have q := I1.sl i s e
            cases s with
            | no => trivial
            | val d => exact q
            | own zs =>
              obtain ⟨p', us, e1, c1, c2, c3, c4, c5⟩ := q
              exact ⟨p', us, e1, c1, c2, c3, by rw [upd_ne (fun z => c3 (by rw [a0, z]))]; exact c4, c5⟩
            | cst => exact q
          · rw [a0]
            exact ⟨b1, b2, dx, (putL fl w ns vs).2, by rw [upd_same, nm], by rw [upd_ne hdx]; exact b4, b5, b6, putL_len b7, putL_rps r1 b7 b8⟩
        exact q _ _ _ s1 I2
      · cases e
    · cases e
  · cases e
/-- a list is known from now on -/
def dsFreeze (i : Nat) (f : DS) : DS := fun S cs => match S[i]? with
  | some (.own ds) => f (S.set i (.val (.lst ds))) cs
  | _ => none
theorem sim_freeze {i : Nat} {t : TS} {f : DS} (h : SimS G t f) : SimS G t (dsFreeze i f) := by
  refine ⟨fun F H0 H S cs σ E I fl S' cs' e q => ?_⟩
  unfold dsFreeze at e
  split at e
  · rename_i ds e1
    obtain ⟨p, vs, a1, a2, a3, a4, a5, a6⟩ := I.sl _ _ e1
    have hi : i < S.length := (List.getElem?_eq_some_iff.mp e1).1
    have ap : Apart F (S.set i .no) (σ.set i none) p := by
      refine ⟨a4, fun j xs e2 e3 => ?_⟩
      have hj : i ≠ j := fun z => by
        subst z
        rw [List.getElem?_set_self hi] at e2; cases e2
      rw [List.getElem?_set_ne hj] at e2 e3
      exact I.ds i j p ds xs hj e1 e2 a1 e3
    obtain ⟨s1, I1⟩ := (I.setNo i).freezeF a5 a2 a3 ap (fun _ z => nomatch z)
    have r : Rp G (upd H0 p (.lst vs)) (.lst ds) (.ref p) := by
      unfold Rp
      exact ⟨p, vs, rfl, upd_same, a6.mono s1⟩
    have I2 := I1.setVal i r
    rw [List.set_set, List.set_set] at I2
    have hs : σ.set i (some (V.ref p)) = σ := by
      apply List.ext_getElem?
      intro j
      by_cases hj : i = j
      · subst hj; rw [List.getElem?_set_self (by rw [← I.len]; exact hi), a1]
      · rw [List.getElem?_set_ne hj]
    rw [hs] at I2
    exact h.run F _ H _ cs σ E I2 _ _ _ e (q.mono s1)
  · cases e

/-- a name becomes the cell, for what is left of the def -/
def dsCell (i : Nat) (f : DF) (g : DS) : DS := fun S cs => match cs with
  | some _ => none
  | none => match f S none with
    | some (ds, none) => match S[i]? with
      | some .cst => none
      | some _ => match g (S.set i .cst) (some (.lst ds)) with
        | some (.rt d, _, _) => some (.rt d, [], none)
        | some (.rf zs, _, _) => some (.rf zs, [], none)
        | _ => none
      | none => none
    | _ => none
theorem StOk.toCell {F : Fr} {H0 H : Hp} {S : List Sl} {σ : VS} (I : StOk G F H0 H S none σ) (i : Nat) {p : Addr} {vs : List V} {ds : List D} (h0 : H0 p = none) (he : F.He p = none) (ap : Apart F S σ p) (hp : H p = some (.lst vs)) (r : Rps G H0 ds vs) :
    StOk G { F with pc := some p } H0 H (S.set i .cst) (some (.lst ds)) (σ.set i (some (.ref p))) := by
  have hF : F.pc = none := by
    have z := I.pc
    cases e : F.pc with
    | none => rfl
    | some q => rw [e] at z; exact z.elim
  have inb : ∀ {j : Nat} {s : Sl}, i = j → (S.set i .cst)[j]? = some s → i < S.length ∧ s = .cst := fun {j s} z e => by
    subst z
    by_cases hl : i < S.length
    · rw [List.getElem?_set_self hl] at e; cases e; exact ⟨hl, rfl⟩
    · rw [List.getElem?_eq_none (by rw [List.length_set]; omega)] at e; cases e
  refine ⟨I.ex, I.he, I.bn, by rw [List.length_set, List.length_set]; exact I.len, fun j s e => ?_, fun j k q xs ys n e1 e2 e3 e4 => ?_, ⟨h0, he, vs, hp, r⟩⟩
  · by_cases hj : i = j
    · obtain ⟨hl, rfl⟩ := inb hj e
      subst hj
      exact ⟨p, rfl, by rw [List.getElem?_set_self (by rw [← I.len]; exact hl)]⟩
    · rw [List.getElem?_set_ne hj] at e
      have q := I.sl j s e
      cases s with
      | no => trivial
      | val d => obtain ⟨v, e1, r⟩ := q; exact ⟨v, by rw [List.getElem?_set_ne hj]; exact e1, r⟩
      | own zs =>
        obtain ⟨p', vs', e1, b1, b2, b3, b4⟩ := q
        refine ⟨p', vs', by rw [List.getElem?_set_ne hj]; exact e1, b1, b2, fun z => ?_, b4⟩
        have z' : some p = some p' := z
        cases z'
        exact ap.2 j zs e e1
      | cst => obtain ⟨p', e0, _⟩ := q; rw [hF] at e0; cases e0
  · have hj : i ≠ j := fun z => by obtain ⟨_, w⟩ := inb z e1; cases w
    have hk : i ≠ k := fun z => by obtain ⟨_, w⟩ := inb z e2; cases w
    rw [List.getElem?_set_ne hj] at e1 e3
    rw [List.getElem?_set_ne hk] at e2 e4
    exact I.ds j k q xs ys n e1 e2 e3 e4
theorem sim_cell {te : TE} {u : TS} {f : DF} {g : DS} {i : Nat} (h : SimF G te f) (hg : SimS G u g) : SimS G (tSeq (tAsg te (gName i)) u) (dsCell i f g) := by
  refine ⟨fun F H0 H S cs σ E I fl S' cs' e q => ?_⟩
  unfold dsCell at e
  split at e
  · cases e
  split at e
  · rename_i ds e1
    have bare : ∀ {p : Addr} {Hx Hy : Hp} {cz : Option D}, StOk G { F with pc := some p } Hx Hy [] cz [] → StOk G F Hx Hy [] none [] := fun {p Hx Hy cz} J => by
      have hF : F.pc = none := by
        have z := I.pc
        cases e : F.pc with
        | none => rfl
        | some q => rw [e] at z; exact z.elim
      exact ⟨J.ex, J.he, J.bn, rfl, fun i s e => by simp at e, fun i j p xs ys n e => by simp at e, by rw [hF]; trivial⟩
    split at e
    · cases e
    · split at e
      · rename_i d S2 c2 e2
        cases e
        exact h.run F H0 H S _ σ _ I _ _ e1 fun p vs Ha Hb s1 I1 a1 a2 a3 a4 a5 =>
          hg.run _ Ha Hb _ _ _ E (I1.toCell i a1 a2 a3 a4 a5) _ _ _ e2 fun v Hx Hy s2 J r => q v Hx Hy (s1.trans s2) (bare J) r
      · rename_i zs S2 c2 e2
        cases e
        exact h.run F H0 H S _ σ _ I _ _ e1 fun p vs Ha Hb s1 I1 a1 a2 a3 a4 a5 =>
          hg.run _ Ha Hb _ _ _ E (I1.toCell i a1 a2 a3 a4 a5) _ _ _ e2 fun p' us Hx Hy s2 J b1 b2 b3 b4 b5 => q p' us Hx Hy (s1.trans s2) (bare J) b1 b2 (fun z => by
            have hF : F.pc = none := by
              have z := I.pc
              cases e : F.pc with
              | none => rfl
              | some q => rw [e] at z; exact z.elim
            rw [hF] at z; cases z) b4 b5
      · cases e
    · cases e
  · cases e

/-! ### loops -/
def forL (g : DG) (b : DS) : List D → DS
  | [], S, cs => some (.nx, S, cs)
  | d :: r, S, cs => match g d S with
    | some S1 => match b S1 cs with
      | some (.nx, S2, c2) => forL g b r S2 c2
      | some (.ct, S2, c2) => forL g b r S2 c2
      | some (.bk, S2, c2) => some (.nx, S2, c2)
      | some (.rt d, S2, c2) => some (.rt d, S2, c2)
      | some (.rf d, S2, c2) => some (.rf d, S2, c2)
      | none => none
    | none => none
def dsFor (src : DF) (g : DG) (b : DS) : DS := fun S cs => match src S cs with
  | some (ds, c1) => forL g b ds S c1
  | none => none
theorem sim_for {wi : TI} {t : TG} {tb : TS} {src : DF} {g : DG} {ts : List Nat} {b : DS} (hi : SimI G wi src) (hg : SimG G t g ts) (hb : SimS G tb b) : SimS G (tFor wi t tb) (dsFor src g b) := by
  refine ⟨fun F H0 H S cs σ E I fl S' cs' e q => ?_⟩
  unfold dsFor at e
  split at e
  · rename_i ds c1 e1
    refine hi.run F H0 H S cs σ _ I _ _ e1 fun J Ha Hb s1 I1 jok => ?_
    refine ⟨fun i m σc Hc => m = ds.length - i ∧ i ≤ ds.length ∧ ∃ H0c Sc c, Same Ha H0c ∧ StOk G F H0c Hc Sc c σc ∧ forL g b (ds.drop i) Sc c = some (fl, S', cs'),
      ⟨ds.length, by simp, Nat.zero_le _, Ha, S, c1, Same.refl _, I1, e⟩, ?_⟩
    rintro i m σc Hc ⟨rfl, hi, H0c, Sc, c, sa, I2, ef⟩
    by_cases hlt : i < ds.length
    · refine .inr ⟨jok.go i H0c Hc sa I2.ex hlt, fun σn Hn => ∃ H0c Sc c, Same Ha H0c ∧ StOk G F H0c Hn Sc c σn ∧ forL g b (ds.drop (i + 1)) Sc c = some (fl, S', cs'), fun σn Hn hn => ?_, fun x Hx hy => ?_⟩
      · obtain ⟨H0n, Sn, cn, n1, n2, n3⟩ := hn
        exact ⟨ds.length - (i + 1), by omega, rfl, hlt, H0n, Sn, cn, n1, n2, n3⟩
      · obtain ⟨d, H0d, ed, gr, rd⟩ := jok.yld i H0c Hc x Hx sa I2.ex hlt hy
        have I3 := I2.grow gr
        rw [List.drop_eq_getElem_cons hlt, show ds[i] = d from Option.some.inj ((List.getElem?_eq_getElem hlt).symm.trans ed)] at ef
        unfold forL at ef
        split at ef
        · rename_i S1 eg
          refine hg.run F H0d Hx Sc c σc d x _ I3 rd S1 eg fun σ2 I4 _ _ => ?_
          have sd : Same Ha H0d := sa.trans gr.a
          split at ef
          · rename_i S2 c2 eb
            exact hb.run F H0d Hx S1 c σ2 _ I4 _ _ _ eb fun σ' H0' H' s' I' => ⟨H0', S2, c2, sd.trans s', I', ef⟩
          · rename_i S2 c2 eb
            exact hb.run F H0d Hx S1 c σ2 _ I4 _ _ _ eb fun σ' H0' H' s' I' => ⟨H0', S2, c2, sd.trans s', I', ef⟩
          · rename_i S2 c2 eb
            cases ef
            exact hb.run F H0d Hx S1 c σ2 _ I4 _ _ _ eb fun σ' H0' H' s' I' => q σ' H0' H' ((s1.trans sd).trans s') I'
          · rename_i d' S2 c2 eb
            cases ef
            exact hb.run F H0d Hx S1 c σ2 _ I4 _ _ _ eb fun v H0' H' s' I' r' => q v H0' H' ((s1.trans sd).trans s') I' r'
          · rename_i d' S2 c2 eb
            cases ef
            exact hb.run F H0d Hx S1 c σ2 _ I4 _ _ _ eb fun p vs H0' H' s' I' => q p vs H0' H' ((s1.trans sd).trans s') I'
          · cases ef
        · cases ef
    · have hi' : i = ds.length := by omega
      subst hi'
      rw [List.drop_length] at ef
      cases ef
      exact .inl ⟨jok.stop _ H0c Hc sa I2.ex rfl, q σc H0c Hc (s1.trans sa) I2⟩
  · cases e
def whileL (t : DT) (b : DS) : Nat → DS
  | 0, _, _ => none
  | n + 1, S, cs => match t S cs with
    | some (true, c1) => match b S c1 with
      | some (.nx, S2, c2) => whileL t b n S2 c2
      | some (.ct, S2, c2) => whileL t b n S2 c2
      | some (.bk, S2, c2) => some (.nx, S2, c2)
      | some (.rt d, S2, c2) => some (.rt d, S2, c2)
      | some (.rf d, S2, c2) => some (.rf d, S2, c2)
      | none => none
    | some (false, c1) => some (.nx, S, c1)
    | none => none
theorem sim_while {tt : TT} {tb : TS} {t : DT} {b : DS} (n : Nat) (ht : SimT G tt t) (hb : SimS G tb b) : SimS G (tWhile tt tb) (whileL t b n) := by
  refine ⟨fun F H0 H S cs σ E I fl S' cs' e q => ?_⟩
  refine ⟨fun m σc Hc => ∃ H0c Sc c, Same H0 H0c ∧ StOk G F H0c Hc Sc c σc ∧ whileL t b m Sc c = some (fl, S', cs'), ⟨n, H0, S, cs, Same.refl _, I, e⟩, ?_⟩
  rintro m σc Hc ⟨H0c, Sc, c, sa, I2, ef⟩
  cases m with
  | zero => unfold whileL at ef; cases ef
  | succ m =>
    unfold whileL at ef
    split at ef
    · rename_i c1 e1
      refine ht.run F H0c Hc Sc c σc _ I2 _ _ e1 fun H0d Hd s2 I3 => ?_
      rw [if_pos rfl]
      have sd := sa.trans s2
      refine ⟨fun σn Hn => ∃ H0c Sc c, Same H0 H0c ∧ StOk G F H0c Hn Sc c σn ∧ whileL t b m Sc c = some (fl, S', cs'), fun σn Hn hn => ⟨m, Nat.lt_succ_self _, hn⟩, ?_⟩
      split at ef
      · rename_i S2 c2 eb
        exact hb.run F H0d Hd Sc c1 σc _ I3 _ _ _ eb fun σ' H0' H' s' I' => ⟨H0', S2, c2, sd.trans s', I', ef⟩
      · rename_i S2 c2 eb
        exact hb.run F H0d Hd Sc c1 σc _ I3 _ _ _ eb fun σ' H0' H' s' I' => ⟨H0', S2, c2, sd.trans s', I', ef⟩
      · rename_i S2 c2 eb
        cases ef
        exact hb.run F H0d Hd Sc c1 σc _ I3 _ _ _ eb fun σ' H0' H' s' I' => q σ' H0' H' (sd.trans s') I'
      · rename_i d' S2 c2 eb
        cases ef
        exact hb.run F H0d Hd Sc c1 σc _ I3 _ _ _ eb fun v H0' H' s' I' r' => q v H0' H' (sd.trans s') I' r'
      · rename_i d' S2 c2 eb
        cases ef
        exact hb.run F H0d Hd Sc c1 σc _ I3 _ _ _ eb fun p vs H0' H' s' I' => q p vs H0' H' (sd.trans s') I'
      · cases ef
    · rename_i c1 e1
      cases ef
      exact ht.run F H0c Hc _ c σc _ I2 _ _ e1 fun H0d Hd s2 I3 => iteF (q σc H0d Hd (sa.trans s2) I3)
    · cases ef

/-! ### defs -/
/-- a def without the cell: np parameters, n names -/
def runF (np n : Nat) (b : DS) : List D → Option D := fun ds => if ds.length = np then (match b (ds.map Sl.val ++ List.replicate (n - np) Sl.no) none with
  | some (.rt d, _, _) => some d
  | some (.rf ds, _, _) => some (.lst ds)
  | some (.nx, _, _) => some .non
  | _ => none) else none
/-- whose first argument is the cell -/
def runC (np n : Nat) (b : DS) : D → List D → Option (D × D) := fun c ds => if ds.length + 1 = np then (match b (.cst :: (ds.map Sl.val ++ List.replicate (n - np) Sl.no)) (some c) with
  | some (.rt d, _, some c') => some (d, c')
  | some (.rf ds, _, some c') => some (.lst ds, c')
  | some (.nx, _, some c') => some (.non, c')
  | _ => none) else none
/-- that gives a new list -/
def runN (np n : Nat) (b : DS) : List D → Option (List D) := fun ds => if ds.length = np then (match b (ds.map Sl.val ++ List.replicate (n - np) Sl.no) none with
  | some (.rf ds, _, _) => some ds
  | _ => none) else none

theorem slots_ok {F : Fr} {H0 H : Hp} {ds : List D} {vs : List V} (r : Rps G H0 ds vs) (k : Nat) :
    ∀ i s, (ds.map Sl.val ++ List.replicate k Sl.no)[i]? = some s → SlOk G F H0 H (vs.map some ++ List.replicate k none) i s := by
  intro i s e
  by_cases hi : i < ds.length
  · rw [List.getElem?_append_left (by rw [List.length_map]; exact hi), List.getElem?_map] at e
    obtain ⟨v, e1, r1⟩ := r.get (List.getElem?_eq_getElem hi)
    rw [List.getElem?_eq_getElem hi] at e
    cases e
    exact ⟨v, by rw [List.getElem?_append_left (by rw [List.length_map, r.len]; exact hi), List.getElem?_map, e1]; rfl, r1⟩
  · rw [List.getElem?_append_right (by rw [List.length_map]; omega)] at e
    have := List.mem_of_getElem? e
    rw [List.mem_replicate] at this
    rw [this.2]
    trivial
theorem start_ok {F : Fr} {H0 H : Hp} {ds : List D} {vs : List V} {N : List Str} (r : Rps G H0 ds vs) (ex : Same H0 H) (he : Same F.He H) (bn : ∀ a, F.ban a → F.He a ≠ none ∧ H0 a = none) (pc : PcOk G F.He H0 H F.pc none) :
    StOk G F H0 H (ds.map Sl.val ++ List.replicate (N.length - ds.length) Sl.no) none (L2.start N vs) := by
  unfold L2.start
  rw [r.len]
  refine ⟨ex, he, bn, by simp [r.len], slots_ok r _, fun i j p xs ys n e1 => ?_, pc⟩
  rcases List.mem_append.mp (List.mem_of_getElem? e1) with h | h
  · obtain ⟨d, _, e⟩ := List.mem_map.mp h; cases e
  · rw [List.mem_replicate] at h; cases h.2
theorem startC_ok {F : Fr} {H0 H : Hp} {c : D} {ds : List D} {vs : List V} {N : List Str} {p : Addr} (r : Rps G H0 ds vs) (ex : Same H0 H) (he : Same F.He H) (bn : ∀ a, F.ban a → F.He a ≠ none ∧ H0 a = none) (hp : F.pc = some p) (pc : PcOk G F.He H0 H (some p) (some c)) :
    StOk G F H0 H (.cst :: (ds.map Sl.val ++ List.replicate (N.length - (ds.length + 1)) Sl.no)) (some c) (L2.start N (.ref p :: vs)) := by
  unfold L2.start
  rw [List.length_cons, r.len]
  refine ⟨ex, he, bn, by simp [r.len], fun i s e => ?_, fun i j p xs ys n e1 => ?_, by rw [hp]; exact pc⟩
  · cases i with
    | zero => cases e; exact ⟨p, hp, rfl⟩
    | succ i =>
      have e' : (ds.map Sl.val ++ List.replicate (N.length - (ds.length + 1)) Sl.no)[i]? = some s := by simpa using e
      have q := slots_ok (F := F) (H := H) r (N.length - (ds.length + 1)) i s e'
      cases s with
      | no => trivial
      | val d => obtain ⟨v, e1, r1⟩ := q; exact ⟨v, by simpa using e1, r1⟩
      | own zs => obtain ⟨p', vs', e1, r1⟩ := q; exact ⟨p', vs', by simpa using e1, r1⟩
      | cst => obtain ⟨p', e0, e1⟩ := q; exact ⟨p', e0, by simpa using e1⟩
  · rcases List.mem_cons.mp (List.mem_of_getElem? e1) with h | h
    · cases h
    · rcases List.mem_append.mp h with h | h
      · obtain ⟨d, _, e⟩ := List.mem_map.mp h; cases e
      · rw [List.mem_replicate] at h; cases h.2

section
variable {P : Program} {w : World} {K : PySem.W.Frag} {mg : Str → Option Value} {base : Heap} {cA : Nat → Addr} {x qual : Str} {st : Stmt} {f : Addr} {fd : FuncData} {N ps : List Str} {k : Nat} {b : DS}
/-- the context of a def's body -/
abbrev bodyX (P : Program) (w : World) (K : PySem.W.Frag) (mg : Str → Option Value) (base : Heap) (N : List Str) (qual : Str) (st : Stmt) (f : Addr) (cdv : Value) (A : Around) (outer : List Env) (s : Shared) (H : Hp) (E : XK) : Cx :=
  (cxOf CX0 P w K mg base N qual (defScope st) f cdv A outer s H E).nox
theorem fn_F {m : List D → Option D} (Fn : Fun K x qual st f fd) (Sc : FnScope N ps (defScope st))
    (hb : ∀ (cdv : Value) (A : Around) (outer : List Env) (s : Shared) (H : Hp) (E : XK), Room k (A.deeper (envOfC qual (defScope st) s.heap.objs.size f cdv)) → ∃ t, DBlk (bodyX P w K mg base N qual st f cdv A outer s H E) K cA (defBody st) t b) (hm : m = runF ps.length N.length b := by rfl) :
    FnOk P w K mg base CX0 (k + 1) f fd ps (spF ⟨K, cA⟩ m) := by
  subst hm
  refine Fn.ok Sc (fun vs H Q E h => ?_) (fun cdv A outer s H vs Q E hr h => ?_)
  · obtain ⟨H0, ds, d, _, r, e, _⟩ := h
    rw [r.len]
    unfold runF at e
    split at e
    · assumption
    · cases e
  · obtain ⟨H0, ds, d, s1, r, e, q⟩ := h
    obtain ⟨t, B⟩ := hb cdv A outer s H E hr
    refine ⟨t, B.ps, ?_⟩
    unfold runF at e
    split at e
    · rename_i hl
      have I := start_ok (G := ⟨K, cA⟩) (F := ⟨H, fun a => H a ≠ none ∧ H0 a = none, none⟩) (N := N) r s1 (Same.refl _) (fun a h => h) trivial
      rw [hl] at I
      have gr : ∀ {H0' H' : Hp}, Same H0 H0' → StOk ⟨K, cA⟩ ⟨H, fun a => H a ≠ none ∧ H0 a = none, none⟩ H0' H' [] none [] → Gr H0 H H0' H' := fun s' I' => ⟨s', I'.he, I'.ex, fun a h1 h2 => (I'.bn a ⟨h1, h2⟩).2⟩
      have cnone : ∀ {H0' H' : Hp} {S' : List Sl} {cs' : Option D} {σ' : VS}, StOk ⟨K, cA⟩ ⟨H, fun a => H a ≠ none ∧ H0 a = none, none⟩ H0' H' S' cs' σ' → cs' = none := fun {H0' H' S' cs' σ'} I' => by
        have z := I'.pc
        cases cs' with
        | none => rfl
        | some d => cases d <;> exact False.elim z
      split at e
      · rename_i d' S' cs' e1
        cases e
        exact B.sim.run _ H0 H _ none _ _ I _ _ _ e1 fun v H0' H' s' I' rp => by
          have ec := cnone I'
          subst ec
          exact q v H0' H' (gr s' I') rp
      · rename_i ds' S' cs' e1
        cases e
        exact B.sim.run _ H0 H _ none _ _ I _ _ _ e1 fun p vs' H0' H' s' I' h1 h2 h3 h4 h5 => by
          have ec := cnone I'
          subst ec
          obtain ⟨t1, I2⟩ := I'.freezeF h4 h1 h2 ⟨h3, fun i xs e => by simp at e⟩ (fun _ z => nomatch z)
          refine q _ _ _ (gr (s'.trans t1) I2) ?_
          unfold Rp
          exact ⟨p, vs', rfl, upd_same, h5.mono t1⟩
      · rename_i S' cs' e1
        cases e
        exact B.sim.run _ H0 H _ none _ _ I _ _ _ e1 fun σ' H0' H' s' I' => by
          have ec := cnone I'
          subst ec
          exact q .non H0' H' (gr s' I'.bare) rp_non
      · cases e
    · cases e
theorem fn_N {m : List D → Option (List D)} (Fn : Fun K x qual st f fd) (Sc : FnScope N ps (defScope st))
    (hb : ∀ (cdv : Value) (A : Around) (outer : List Env) (s : Shared) (H : Hp) (E : XK), Room k (A.deeper (envOfC qual (defScope st) s.heap.objs.size f cdv)) → ∃ t, DBlk (bodyX P w K mg base N qual st f cdv A outer s H E) K cA (defBody st) t b) (hm : m = runN ps.length N.length b := by rfl) :
    FnOk P w K mg base CX0 (k + 1) f fd ps (spN ⟨K, cA⟩ m) := by
  subst hm
  refine Fn.ok Sc (fun vs H Q E h => ?_) (fun cdv A outer s H vs Q E hr h => ?_)
  · obtain ⟨H0, ds, d, _, r, e, _⟩ := h
    rw [r.len]
    unfold runN at e
    split at e
    · assumption
    · cases e
  · obtain ⟨H0, ds, d, s1, r, e, q⟩ := h
    obtain ⟨t, B⟩ := hb cdv A outer s H E hr
    refine ⟨t, B.ps, ?_⟩
    unfold runN at e
    split at e
    · rename_i hl
      have I := start_ok (G := ⟨K, cA⟩) (F := ⟨H, fun a => H a ≠ none ∧ H0 a = none, none⟩) (N := N) r s1 (Same.refl _) (fun a h => h) trivial
      rw [hl] at I
      split at e
      · rename_i ds' S' cs' e1
        cases e
        exact B.sim.run _ H0 H _ none _ _ I _ _ _ e1 fun p vs' H0' H' s' I' h1 h2 h3 h4 h5 => q p vs' H0' H' ⟨s', I'.he, I'.ex, fun a h1 h2 => (I'.bn a ⟨h1, h2⟩).2⟩ h2 h1 h4 h5
      · cases e
    · cases e
theorem fn_C {m : D → List D → Option (D × D)} (Fn : Fun K x qual st f fd) (Sc : FnScope N ps (defScope st))
    (hb : ∀ (cdv : Value) (A : Around) (outer : List Env) (s : Shared) (H : Hp) (E : XK), Room k (A.deeper (envOfC qual (defScope st) s.heap.objs.size f cdv)) → ∃ t, DBlk (bodyX P w K mg base N qual st f cdv A outer s H E) K cA (defBody st) t b) (hm : m = runC ps.length N.length b := by rfl) :
    FnOk P w K mg base CX0 (k + 1) f fd ps (spC ⟨K, cA⟩ m) := by
  subst hm
  refine Fn.ok Sc (fun vs H Q E h => ?_) (fun cdv A outer s H vs Q E hr h => ?_)
  · obtain ⟨p, us, He, H0, c, ds, d, c', rfl, _, _, _, r, e, _⟩ := h
    rw [List.length_cons, r.len]
    unfold runC at e
    split at e
    · assumption
    · cases e
  · obtain ⟨p, us, He, H0, c, ds, d, c', rfl, s1, s2, hpc, r, e, q⟩ := h
    obtain ⟨t, B⟩ := hb cdv A outer s H E hr
    refine ⟨t, B.ps, ?_⟩
    unfold runC at e
    split at e
    · rename_i hl
      have I := startC_ok (G := ⟨K, cA⟩) (F := ⟨He, fun a => He a ≠ none ∧ H0 a = none, some p⟩) (N := N) r s1 s2 (fun a h => h) rfl hpc
      rw [hl] at I
      split at e
      · rename_i d' S' c2 e1
        cases e
        exact B.sim.run _ H0 H _ _ _ _ I _ _ _ e1 fun v H0' H' s' I' rp => q v H0' H' s' I'.ex I'.he (fun a h1 h2 => (I'.bn a ⟨h1, h2⟩).2) I'.pc rp
      · rename_i ds' S' c2 e1
        cases e
        exact B.sim.run _ H0 H _ _ _ _ I _ _ _ e1 fun p' vs' H0' H' s' I' h1 h2 h3 h4 h5 => by
          obtain ⟨t1, I2⟩ := I'.freezeF h4 h1 h2 ⟨h3, fun i xs e => by simp at e⟩ (fun _ z => nomatch z)
          refine q _ _ _ (s'.trans t1) I2.ex I2.he (fun a h1 h2 => (I2.bn a ⟨h1, h2⟩).2) I2.pc ?_
          unfold Rp
          exact ⟨p', vs', rfl, upd_same, h5.mono t1⟩
      · rename_i S' c2 e1
        cases e
        exact B.sim.run _ H0 H _ _ _ _ I _ _ _ e1 fun σ' H0' H' s' I' => q .non H0' H' s' I'.ex I'.he (fun a h1 h2 => (I'.bn a ⟨h1, h2⟩).2) I'.pc rp_non
      · cases e
    · cases e
/-- a def that is never come to (a recursion's ground) -/
theorem fn_none (Fn : Fun K x qual st f fd) (Sc : FnScope N ps (defScope st)) : FnOk P w K mg base CX0 (k + 1) f fd ps (spF ⟨K, cA⟩ fun _ => none) := by
  refine Fn.ok Sc (fun vs H Q E h => ?_) (fun cdv A outer s H vs Q E hr h => ?_)
  · obtain ⟨H0, ds, d, _, r, e, _⟩ := h; cases e
  · obtain ⟨H0, ds, d, _, r, e, _⟩ := h; cases e
end
end DL

set_option autoImplicit true
set_option relaxedAutoImplicit true
set_option Elab.async false
set_option linter.all false
set_option autoImplicit false
set_option maxRecDepth 100000
set_option maxHeartbeats 4000000
/-! DL, W: the rules that a printed proof is made of. -/
namespace DL
open PySem PySem.Spec PyProof.Rows L2
section
variable {X : Cx} {K : PySem.W.Frag} {cA : Nat → Addr} {a b c e : Expr} {ta tb te : TE} {f g : DE} {pos : Pos}

/-! ### operators -/
theorem dx_bin {op : Operator} {r : R2} {o : D → D → Option D} (ho : OpR X (binaryOp op) r) (hs : OpSim ⟨K, cA⟩ r o) (ha : DExp X K cA a ta f) (hb : DExp X K cA b tb g) : DExp X K cA (.BinOp a op b pos) (tOp r ta tb) (dOp o f g) := by
  exact ⟨pe_op ho ha.pe hb.pe, sim_op hs ha.sim hb.sim⟩
theorem dx_add (ha : DExp X K cA a ta f) (hb : DExp X K cA b tb g) (hK : X.K = K := by rfl) : DExp X K cA (.BinOp a .Add b pos) (tOp (rAddA K) ta tb) (dOp oAdd f g) := by
  subst hK
  exact dx_bin op_addA ops_add ha hb
theorem dx_sub (ha : DExp X K cA a ta f) (hb : DExp X K cA b tb g) : DExp X K cA (.BinOp a .Sub b pos) (tOp (rI0 fun i j => .int (i - j)) ta tb) (dOp oSub f g) := dx_bin op_sub ops_sub ha hb
theorem dx_mul (ha : DExp X K cA a ta f) (hb : DExp X K cA b tb g) : DExp X K cA (.BinOp a .Mult b pos) (tOp rMulA ta tb) (dOp oMul f g) := dx_bin op_mulA ops_mul ha hb
theorem dx_fdiv (ha : DExp X K cA a ta f) (hb : DExp X K cA b tb g) : DExp X K cA (.BinOp a .FloorDiv b pos) (tOp (rI CDivN fun i j => .int (i.fdiv j)) ta tb) (dOp oFdiv f g) := dx_bin op_fdivN ops_fdiv ha hb
theorem dx_mod (ha : DExp X K cA a ta f) (hb : DExp X K cA b tb g) : DExp X K cA (.BinOp a .Mod b pos) (tOp (rI (fun _ j => j ≠ 0) fun i j => .int (i.fmod j)) ta tb) (dOp oMod f g) := dx_bin op_modN ops_mod ha hb
theorem dx_pow (ha : DExp X K cA a ta f) (hb : DExp X K cA b tb g) : DExp X K cA (.BinOp a .Pow b pos) (tOp (rI CPow fun i j => .int (i ^ j.toNat)) ta tb) (dOp oPow f g) := dx_bin op_pow ops_pow ha hb
theorem dx_neg (ha : DExp X K cA a ta f) : DExp X K cA (.UnaryOp .USub a pos) (tUn (rU fun i => .int (-i)) ta) (dNeg f) := ⟨pe_un un_neg ha.pe, sim_neg ha.sim⟩
/-! ### comparisons: values, tests -/
theorem dx_cmp {op : CmpOp} {r : R2} {o : D → D → Option D} (ho : OpR X (compareOp op) r) (hs : OpSim ⟨K, cA⟩ r o) (ha : DExp X K cA a ta f) (hb : DExp X K cA b tb g) (hm : behindInMarks op b = false := by exact nomark _) : DExp X K cA (.Compare a [op] [b] pos) (tOp r ta tb) (dOp o f g) := by
  exact ⟨pe_cmpR ho ha.pe hb.pe hm, sim_op hs ha.sim hb.sim⟩
theorem dt_cmp {op : CmpOp} {r : R2} {o : D → D → Option D} (ho : OpR X (compareOp op) r) (hs : OpSim ⟨K, cA⟩ r o) (ha : DExp X K cA a ta f) (hb : DExp X K cA b tb g) (hm : behindInMarks op b = false := by exact nomark _) : DTst X K cA (.Compare a [op] [b] pos) (tTest (tOp r ta tb)) (dTst (dOp o f g)) := by
  exact ⟨pt_cmpR ho ha.pe hb.pe hm, sim_tst (sim_op hs ha.sim hb.sim)⟩
theorem dt_tru (ha : DExp X K cA a ta f) (he : ∀ whole, isTrue a X.env whole = (do let v ← whole; standAt a.pos; holding [v] (truthy v)) := by intro _; rfl) (hK : X.K = K := by rfl) : DTst X K cA a (fun σ H Q => ta σ H fun x H' => ∃ k, TruV K x H' k ∧ Q k H') (dTru f) := by
  subst hK
  exact ⟨pt_truth ha.pe he, sim_tru ha.sim⟩
theorem dx_lt (ha : DExp X K cA a ta f) (hb : DExp X K cA b tb g) (hm : behindInMarks .Lt b = false := by exact nomark _) : DExp X K cA (.Compare a [.Lt] [b] pos) (tOp (rI0 fun i j => .bl (decide (i < j))) ta tb) (dOp oLt f g) := dx_cmp op_lt ops_lt ha hb hm
theorem dt_lt (ha : DExp X K cA a ta f) (hb : DExp X K cA b tb g) (hm : behindInMarks .Lt b = false := by exact nomark _) : DTst X K cA (.Compare a [.Lt] [b] pos) (tTest (tOp (rI0 fun i j => .bl (decide (i < j))) ta tb)) (dTst (dOp oLt f g)) := dt_cmp op_lt ops_lt ha hb hm
theorem dx_le (ha : DExp X K cA a ta f) (hb : DExp X K cA b tb g) (hm : behindInMarks .LtE b = false := by exact nomark _) : DExp X K cA (.Compare a [.LtE] [b] pos) (tOp (rI0 fun i j => .bl (decide (i ≤ j))) ta tb) (dOp oLe f g) := dx_cmp op_le ops_le ha hb hm
theorem dt_le (ha : DExp X K cA a ta f) (hb : DExp X K cA b tb g) (hm : behindInMarks .LtE b = false := by exact nomark _) : DTst X K cA (.Compare a [.LtE] [b] pos) (tTest (tOp (rI0 fun i j => .bl (decide (i ≤ j))) ta tb)) (dTst (dOp oLe f g)) := dt_cmp op_le ops_le ha hb hm
theorem dx_gt (ha : DExp X K cA a ta f) (hb : DExp X K cA b tb g) (hm : behindInMarks .Gt b = false := by exact nomark _) : DExp X K cA (.Compare a [.Gt] [b] pos) (tOp (rI0 fun i j => .bl (decide (j < i))) ta tb) (dOp oGt f g) := dx_cmp op_gt ops_gt ha hb hm
theorem dt_gt (ha : DExp X K cA a ta f) (hb : DExp X K cA b tb g) (hm : behindInMarks .Gt b = false := by exact nomark _) : DTst X K cA (.Compare a [.Gt] [b] pos) (tTest (tOp (rI0 fun i j => .bl (decide (j < i))) ta tb)) (dTst (dOp oGt f g)) := dt_cmp op_gt ops_gt ha hb hm
theorem dx_ge (ha : DExp X K cA a ta f) (hb : DExp X K cA b tb g) (hm : behindInMarks .GtE b = false := by exact nomark _) : DExp X K cA (.Compare a [.GtE] [b] pos) (tOp (rI0 fun i j => .bl (decide (j ≤ i))) ta tb) (dOp oGe f g) := dx_cmp op_ge ops_ge ha hb hm
theorem dt_ge (ha : DExp X K cA a ta f) (hb : DExp X K cA b tb g) (hm : behindInMarks .GtE b = false := by exact nomark _) : DTst X K cA (.Compare a [.GtE] [b] pos) (tTest (tOp (rI0 fun i j => .bl (decide (j ≤ i))) ta tb)) (dTst (dOp oGe f g)) := dt_cmp op_ge ops_ge ha hb hm
theorem dx_is (ha : DExp X K cA a ta f) (hb : DExp X K cA b tb g) (hm : behindInMarks .Is b = false := by exact nomark _) : DExp X K cA (.Compare a [.Is] [b] pos) (tOp (fun x y H Q => y = .non ∧ Q (.bl (decide (x = .non))) H) ta tb) (dOp oIsN f g) := dx_cmp op_isN ops_isN ha hb hm
theorem dt_is (ha : DExp X K cA a ta f) (hb : DExp X K cA b tb g) (hm : behindInMarks .Is b = false := by exact nomark _) : DTst X K cA (.Compare a [.Is] [b] pos) (tTest (tOp (fun x y H Q => y = .non ∧ Q (.bl (decide (x = .non))) H) ta tb)) (dTst (dOp oIsN f g)) := dt_cmp op_isN ops_isN ha hb hm
theorem dx_isnot (ha : DExp X K cA a ta f) (hb : DExp X K cA b tb g) (hm : behindInMarks .IsNot b = false := by exact nomark _) : DExp X K cA (.Compare a [.IsNot] [b] pos) (tOp (fun x y H Q => y = .non ∧ Q (.bl (!decide (x = .non))) H) ta tb) (dOp oNotN f g) := dx_cmp op_notN ops_notN ha hb hm
theorem dt_isnot (ha : DExp X K cA a ta f) (hb : DExp X K cA b tb g) (hm : behindInMarks .IsNot b = false := by exact nomark _) : DTst X K cA (.Compare a [.IsNot] [b] pos) (tTest (tOp (fun x y H Q => y = .non ∧ Q (.bl (!decide (x = .non))) H) ta tb)) (dTst (dOp oNotN f g)) := dt_cmp op_notN ops_notN ha hb hm
theorem dx_eq (hu : X.A.units + 64 < cLine) (ha : DExp X K cA a ta f) (hb : DExp X K cA b tb g) (hm : behindInMarks .Eq b = false := by exact nomark _) (hK : X.K = K := by rfl) : DExp X K cA (.Compare a [.Eq] [b] pos) (tOp (rEqD K) ta tb) (dOp oEq f g) := by
  subst hK
  exact dx_cmp (op_eqD hu) ops_eq ha hb hm
theorem dt_eq (hu : X.A.units + 64 < cLine) (ha : DExp X K cA a ta f) (hb : DExp X K cA b tb g) (hm : behindInMarks .Eq b = false := by exact nomark _) (hK : X.K = K := by rfl) : DTst X K cA (.Compare a [.Eq] [b] pos) (tTest (tOp (rEqD K) ta tb)) (dTst (dOp oEq f g)) := by
  subst hK
  exact dt_cmp (op_eqD hu) ops_eq ha hb hm
theorem dx_ne (hu : X.A.units + 64 < cLine) (ha : DExp X K cA a ta f) (hb : DExp X K cA b tb g) (hm : behindInMarks .NotEq b = false := by exact nomark _) (hK : X.K = K := by rfl) : DExp X K cA (.Compare a [.NotEq] [b] pos) (tOp (rNeD K) ta tb) (dOp oNe f g) := by
  subst hK
  exact dx_cmp (op_neD hu) ops_ne ha hb hm
theorem dt_ne (hu : X.A.units + 64 < cLine) (ha : DExp X K cA a ta f) (hb : DExp X K cA b tb g) (hm : behindInMarks .NotEq b = false := by exact nomark _) (hK : X.K = K := by rfl) : DTst X K cA (.Compare a [.NotEq] [b] pos) (tTest (tOp (rNeD K) ta tb)) (dTst (dOp oNe f g)) := by
  subst hK
  exact dt_cmp (op_neD hu) ops_ne ha hb hm
variable {tA tB : TT} {p q : DT} {rest : List Expr}
theorem dw_and1 (ha : DTst X K cA a tA p) : DTsw X K cA (.BoolOp .And [a] pos) tA p := ⟨pw_and1 ha.pt, ha.sim⟩
theorem dw_or1 (ha : DTst X K cA a tA p) : DTsw X K cA (.BoolOp .Or [a] pos) tA p := ⟨pw_or1 ha.pt, ha.sim⟩
theorem dw_and (ha : DTst X K cA a tA p) (hb : DTsw X K cA (.BoolOp .And (b :: rest) pos) tB q) : DTsw X K cA (.BoolOp .And (a :: b :: rest) pos) (tAnd tA tB) (dAnd p q) := ⟨pw_and ha.pt hb.pw, sim_and ha.sim hb.sim⟩
theorem dw_or (ha : DTst X K cA a tA p) (hb : DTsw X K cA (.BoolOp .Or (b :: rest) pos) tB q) : DTsw X K cA (.BoolOp .Or (a :: b :: rest) pos) (tOr tA tB) (dOr p q) := ⟨pw_or ha.pt hb.pw, sim_or ha.sim hb.sim⟩
theorem dt_not (ha : DTst X K cA a tA p) : DTst X K cA (.UnaryOp .Not a pos) (tNot tA) (dNot p) := ⟨pt_not ha.pt, sim_not ha.sim⟩
theorem dx_if (hc : DTst X K cA c tA p) (ha : DExp X K cA a ta f) (hb : DExp X K cA b tb g) : DExp X K cA (.IfExp c a b pos) (tIf tA ta tb) (dIf p f g) := ⟨pe_ifExp hc.pt ha.pe hb.pe, sim_if hc.sim ha.sim hb.sim⟩
theorem dx_one {op : BoolOp} (ha : DExp X K cA a ta f) : DExp X K cA (.BoolOp op [a] pos) ta f := ⟨pe_one ha.pe, ha.sim⟩
theorem dx_and (ha : DExp X K cA a ta f) (hb : DExp X K cA (.BoolOp .And (b :: rest) pos) tb g) (hK : X.K = K := by rfl) : DExp X K cA (.BoolOp .And (a :: b :: rest) pos) (tAndT K ta tb) (dAndV f g) := by
  subst hK
  exact ⟨pe_andT ha.pe hb.pe, sim_andV ha.sim hb.sim⟩
theorem dx_or (ha : DExp X K cA a ta f) (hb : DExp X K cA (.BoolOp .Or (b :: rest) pos) tb g) (hK : X.K = K := by rfl) : DExp X K cA (.BoolOp .Or (a :: b :: rest) pos) (tOrT K ta tb) (dOrV f g) := by
  subst hK
  exact ⟨pe_orT ha.pe hb.pe, sim_orV ha.sim hb.sim⟩
theorem dx_not (ha : DExp X K cA a ta f) (hK : X.K = K := by rfl) : DExp X K cA (.UnaryOp .Not a pos) (tNotT K ta) (dNotV f) := by
  subst hK
  exact ⟨pe_notT ha.pe, sim_notV ha.sim⟩
/-! ### arguments, displays, subscripts, slices -/
variable {es : List Expr} {tr : TA} {h : DA}
theorem da_nil : DArg X K cA [] tNil dNil := ⟨pa_nil, sim_nil⟩
theorem da_cons (ha : DExp X K cA a ta f) (hr : DArg X K cA es tr h) (hs : starEach (a :: es) X.env = (false, eval a X.env) :: starEach es X.env := by rfl) : DArg X K cA (a :: es) (tCons ta tr) (dCons f h) := ⟨pa_cons ha.pe hr.pa hs, sim_cons ha.sim hr.sim⟩
theorem dx_tup {x1} (hh : DArg X K cA es tr h) : DExp X K cA (.Tuple es x1 pos) (tTup tr) (dTup h) := ⟨pe_tup hh.pa, sim_tup hh.sim⟩
theorem df_lst (hh : DArg X K cA es tr h) : DFsh X K cA (.List es pos) (tLst tr) (dLst h) := ⟨pe_lst hh.pa, sim_lst hh.sim⟩
theorem dx_ix (ha : DExp X K cA a ta f) (hb : DExp X K cA b tb g) (hs : PlainIx b := by intro _ _; rfl) (hK : X.K = K := by rfl) : DExp X K cA (.Subscript a b pos) (tOp (rIx K) ta tb) (dIx f g) := by
  subst hK
  exact ⟨pe_ix ix_seq ha.pe hb.pe hs, sim_ix ha.sim hb.sim⟩
structure DPar (X : Cx) (K : PySem.W.Frag) (cA : Nat → Addr) (e : Option Expr) (t : TO) (f : DO) : Prop where
  po : PO X e t
  sim : SimO ⟨K, cA⟩ t f
theorem do_none : DPar X K cA none tNoPart dNoPart := ⟨po_none, sim_nopart⟩
theorem do_some (ha : DExp X K cA a ta f) : DPar X K cA (some a) (tPart ta) (dPart f) := ⟨po_some ha.pe, sim_part ha.sim⟩
variable {lo hi : Option Expr} {tl th : TO} {fl fh : DO} {p2 : Pos}
theorem df_sl (ha : DExp X K cA a ta f) (hl : DPar X K cA lo tl fl) (hh : DPar X K cA hi th fh) (hK : X.K = K := by rfl) : DFsh X K cA (.Subscript a (.Slice lo hi none p2) pos) (tSl (rSlL K) ta tl th) (dSlF f fl fh) := by
  subst hK
  exact ⟨pe_slice sl_list ha.pe hl.po hh.po, sim_slF ha.sim hl.sim hh.sim⟩
/-! ### built-ins -/
variable {x : Str} {pp : Pos} {id : String}
theorem dx_cb {r : List V → Hp → VK → Prop} {o : List D → Option D} (hc : CallR X (.builtin id) r) (hs : CallSim ⟨K, cA⟩ r o) (hm : X.mg x = none) (hv : bootBuiltins x = some (.builtin id)) (ha : DArg X K cA (e :: es) tr h) (hg : Gl X x := by rfl) (hn : x ≠ "__name__" := by decide) (hdb : (x == ("__debug__" : Str)) = false := by decide)
    (he : starEach (e :: es) X.env = (false, eval e X.env) :: starEach es X.env := by rfl) (hpl : ((backTo pos (starEach es X.env)).any fun x => x.1) = false := by rfl) : DExp X K cA (.Call (.Name x pp) (e :: es) [] pos) (tCB r tr) (dCB o h) := by
  exact ⟨pe_callB hc hg hm hv ha.pa hn hdb he hpl, sim_cb hs ha.sim⟩
theorem dx_ct {r : List V → Hp → VK → Prop} {o : List D → Option D} (hc : CallR X (.type id) r) (hs : CallSim ⟨K, cA⟩ r o) (hm : X.mg x = none) (hv : bootBuiltins x = some (.type id)) (ha : DArg X K cA (e :: es) tr h) (hg : Gl X x := by rfl) (hn : x ≠ "__name__" := by decide) (hdb : (x == ("__debug__" : Str)) = false := by decide)
    (he : starEach (e :: es) X.env = (false, eval e X.env) :: starEach es X.env := by rfl) (hpl : ((backTo pos (starEach es X.env)).any fun x => x.1) = false := by rfl) : DExp X K cA (.Call (.Name x pp) (e :: es) [] pos) (tCB r tr) (dCB o h) := by
  exact ⟨pe_callTy hc hg hm hv ha.pa hn hdb he hpl, sim_cb hs ha.sim⟩
theorem df_ct {r : List V → Hp → VK → Prop} {o : List D → Option (List D)} (hc : CallR X (.type id) r) (hs : CallSimF ⟨K, cA⟩ r o) (hm : X.mg x = none) (hv : bootBuiltins x = some (.type id)) (ha : DArg X K cA (e :: es) tr h) (hg : Gl X x := by rfl) (hn : x ≠ "__name__" := by decide) (hdb : (x == ("__debug__" : Str)) = false := by decide)
    (he : starEach (e :: es) X.env = (false, eval e X.env) :: starEach es X.env := by rfl) (hpl : ((backTo pos (starEach es X.env)).any fun x => x.1) = false := by rfl) : DFsh X K cA (.Call (.Name x pp) (e :: es) [] pos) (tCB r tr) (dCBF o h) := by
  exact ⟨pe_callTy hc hg hm hv ha.pa hn hdb he hpl, sim_cbF hs ha.sim⟩
/-! ### defs, methods, instances -/
variable {k : Nat} {fa C : Addr} {fd : FuncData} {ps : List Str}
theorem dx_call {m : List D → Option D} (F : FnOk X.prog X.w K X.mg X.base CX0 k fa fd ps (spF ⟨K, cA⟩ m)) (hr : Room k X.A) (hm : X.mg x = some (.ref fa)) (hk : PySem.W.keepIn K (.ref fa) = true) (hb : Binds K fd ps []) (ha : DArg X K cA (e :: es) tr h) (hg : Gl X x := by rfl)
    (hdb : (x == ("__debug__" : Str)) = false := by decide) (he : starEach (e :: es) X.env = (false, eval e X.env) :: starEach es X.env := by rfl) (hpl : ((backTo pos (starEach es X.env)).any fun x => x.1) = false := by rfl) (hK : X.K = K := by rfl) :
    DExp X K cA (.Call (.Name x pp) (e :: es) [] pos) (tCall (spF ⟨K, cA⟩ m) [] E0 tr) (dCall m h) := by
  subst hK
  exact ⟨pe_call F hr hg hm hk hb .nil pass0 ha.pa hdb he hpl, sim_call ha.sim⟩
theorem dx_callC {m : D → List D → Option (D × D)} (F : FnOk X.prog X.w K X.mg X.base CX0 k fa fd ps (spC ⟨K, cA⟩ m)) (hr : Room k X.A) (hm : X.mg x = some (.ref fa)) (hk : PySem.W.keepIn K (.ref fa) = true) (hb : Binds K fd ps []) (ha : DArg X K cA (e :: es) tr h) (hg : Gl X x := by rfl)
    (hdb : (x == ("__debug__" : Str)) = false := by decide) (he : starEach (e :: es) X.env = (false, eval e X.env) :: starEach es X.env := by rfl) (hpl : ((backTo pos (starEach es X.env)).any fun x => x.1) = false := by rfl) (hK : X.K = K := by rfl) :
    DExp X K cA (.Call (.Name x pp) (e :: es) [] pos) (tCall (spC ⟨K, cA⟩ m) [] E0 tr) (dCallC m h) := by
  subst hK
  exact ⟨pe_call F hr hg hm hk hb .nil pass0 ha.pa hdb he hpl, sim_callC ha.sim⟩
theorem df_call {m : List D → Option (List D)} (F : FnOk X.prog X.w K X.mg X.base CX0 k fa fd ps (spN ⟨K, cA⟩ m)) (hr : Room k X.A) (hm : X.mg x = some (.ref fa)) (hk : PySem.W.keepIn K (.ref fa) = true) (hb : Binds K fd ps []) (ha : DArg X K cA (e :: es) tr h) (hg : Gl X x := by rfl)
    (hdb : (x == ("__debug__" : Str)) = false := by decide) (he : starEach (e :: es) X.env = (false, eval e X.env) :: starEach es X.env := by rfl) (hpl : ((backTo pos (starEach es X.env)).any fun x => x.1) = false := by rfl) (hK : X.K = K := by rfl) :
    DFsh X K cA (.Call (.Name x pp) (e :: es) [] pos) (tCall (spN ⟨K, cA⟩ m) [] E0 tr) (dCallN m h) := by
  subst hK
  exact ⟨pe_call F hr hg hm hk hb .nil pass0 ha.pa hdb he hpl, sim_callN ha.sim⟩
theorem dx_fld {Ci : Nat} {fn : Str} (hC : Cls K (cA Ci)) (hn : NoAttr K (cA Ci) fn) (ha : DExp X K cA a ta f) (hb : attributeBase a fn X.env (eval a X.env) = eval a X.env := by rfl) (hK : X.K = K := by rfl) : DExp X K cA (.Attribute a fn pos) (tFld K ta fn) (dFld Ci fn f) := by
  subst hK
  exact ⟨pe_fld ha.pe hb, sim_fld hC hn ha.sim⟩
theorem dx_meth {pl : Sem Bool} {Ci : Nat} {mn : Str} {o : Expr} {to : TE} {fo : DE} {apos : Pos} {m : List D → Option D} (c : Cls K (cA Ci)) (hM : Meth K (cA Ci) mn fa) (F : FnOk X.prog X.w K X.mg X.base CX0 k fa fd ps (spF ⟨K, cA⟩ m)) (hr : Room k X.A) (hb : Binds K fd ps [])
    (ho : DExp X K cA o to fo) (ha : DArg X K cA (e :: es) tr h)
    (hst : starEach (e :: es) X.env = (false, eval e X.env) :: starEach es X.env := by rfl) (hpl : ((backTo pos (starEach es X.env)).any fun x => x.1) = false := by rfl)
    (ht : eval (.Call (.Attribute o mn apos) (e :: es) [] pos) X.env = (do
      let ov ← eval o X.env
      standAt apos.atName
      let (f, first) ← holding [ov] (getMethod ov mn pl)
      callWith pos f first (backTo pos (starEach (e :: es) X.env)) (backToKw pos (keywordEach [] X.env))) := by rfl) (hK : X.K = K := by rfl) :
    DExp X K cA (.Call (.Attribute o mn apos) (e :: es) [] pos) (tMeth (cA Ci) mn (spF ⟨K, cA⟩ m) [] E0 to tr) (dMeth Ci mn m fo h) := by
  subst hK
  exact ⟨pe_meth ho.pe c hM F hr hb .nil pass0 ha.pa hst hpl ht, sim_meth ho.sim ha.sim⟩
theorem dx_meth0 {pl : Sem Bool} {Ci : Nat} {mn : Str} {o : Expr} {to : TE} {fo : DE} {apos : Pos} {m : List D → Option D} (c : Cls K (cA Ci)) (hM : Meth K (cA Ci) mn fa) (F : FnOk X.prog X.w K X.mg X.base CX0 k fa fd ps (spF ⟨K, cA⟩ m)) (hr : Room k X.A) (hb : Binds K fd ps [])
    (ho : DExp X K cA o to fo)
    (ht : eval (.Call (.Attribute o mn apos) [] [] pos) X.env = (do
      let ov ← eval o X.env
      standAt apos.atName
      let (f, first) ← holding [ov] (getMethod ov mn pl)
      callWith pos f first (backTo pos (starEach [] X.env)) (backToKw pos (keywordEach [] X.env))) := by rfl) (hK : X.K = K := by rfl) :
    DExp X K cA (.Call (.Attribute o mn apos) [] [] pos) (tMeth (cA Ci) mn (spF ⟨K, cA⟩ m) [] E0 to tNil) (dMeth Ci mn m fo dNil) := by
  subst hK
  exact ⟨pe_meth0 ho.pe c hM F hr hb .nil pass0 ht, sim_meth ho.sim sim_nil⟩
theorem dx_make {Ci : Nat} {m : D → List D → Option (D × D)} (M : Mk K (cA Ci) fa) (F : FnOk X.prog X.w K X.mg X.base CX0 k fa fd ps (spC ⟨K, cA⟩ m)) (hr : Room (k + 1) X.A) (hm : X.mg x = some (.ref (cA Ci))) (hb : Binds K fd ps []) (ha : DArg X K cA (e :: es) tr h) (hg : Gl X x := by rfl)
    (hdb : (x == ("__debug__" : Str)) = false := by decide) (he : starEach (e :: es) X.env = (false, eval e X.env) :: starEach es X.env := by rfl) (hpl : ((backTo pos (starEach es X.env)).any fun x => x.1) = false := by rfl) (hK : X.K = K := by rfl) :
    DExp X K cA (.Call (.Name x pp) (e :: es) [] pos) (tMake (cA Ci) (spC ⟨K, cA⟩ m) [] E0 tr) (dMake Ci m h) := by
  subst hK
  exact ⟨pe_make M F hr hg hm hb .nil pass0 ha.pa hdb he hpl, sim_make ha.sim⟩
/-! ### comprehensions, walks -/
structure DTss (X : Cx) (K : PySem.W.Frag) (cA : Nat → Addr) (ifs : List Expr) (t : TT) (f : DT) : Prop where
  pt : PTs X ifs t
  sim : SimT ⟨K, cA⟩ t f
theorem dts_nil : DTss X K cA [] tYes dYes := ⟨pts_nil, sim_yes⟩
theorem dts_one (hc : DTst X K cA c tA p) : DTss X K cA [c] tA p := ⟨pts_one hc.pt, hc.sim⟩
theorem df_lc {elt tg iter : Expr} {ifs : List Expr} {scope : Scope} {wi : TI} {gt : TG} {tt : TT} {src : DF} {dg : DG} {ts : List Nat} {dt : DT} (own : List (Str × Nat)) (hc : X.calm = true) (hN : X.N.Nodup) (hi : DIter X K cA tg iter wi src) (ok : BlkOk X.N X.env.scope scope own)
    (hg : ∀ (s : Shared) (H : Hp) (C : Addr) (cl : List (Str × Addr)) (fp : List Addr), DTgt (X.blk s H scope (compEnvC scope cl C X.env) fp) K cA tg gt dg ts) (hsub : ∀ i ∈ ts, i ∈ own.map (·.2))
    (ht : ∀ (s : Shared) (H : Hp) (C : Addr) (cl : List (Str × Addr)) (fp : List Addr), DTss (X.blk s H scope (compEnvC scope cl C X.env) fp) K cA ifs tt dt)
    (he : ∀ (s : Shared) (H : Hp) (C : Addr) (cl : List (Str × Addr)) (fp : List Addr), DExp (X.blk s H scope (compEnvC scope cl C X.env) fp) K cA elt te f) (hs : ∀ x, foldedSetIterable iter X.env x = pure x := by intro _; rfl) :
    DFsh X K cA (.ListComp elt [⟨tg, iter, ifs, 0⟩] scope pos) (tLc wi gt tt te (own.map (·.2))) (dLc src dg dt f (own.map (·.2))) :=
  ⟨pe_lc hc hN hi.pi ok (fun s H C cl fp => (hg s H C cl fp).pg) (fun s H C cl fp => (ht s H C cl fp).pt) (fun s H C cl fp => (he s H C cl fp).pe) hs,
    sim_lc hi.sim (hg X.s_0 X.H_0 0 [] []).sim hsub (ht X.s_0 X.H_0 0 [] []).sim (he X.s_0 X.H_0 0 [] []).sim⟩
theorem di_seq {tg : Expr} (ha : DExp X K cA a ta f) (hK : X.K = K := by rfl) : DIter X K cA tg a (iSeqA K ta) (diSeq f) := by
  subst hK
  exact ⟨pi_seqA ha.pe, sim_iseq ha.sim⟩
theorem di_rng1 {tg : Expr} (hm : X.mg "range" = none) (ha : DArg X K cA [a] tr h) (hg : Gl X "range" := by rfl) (hs : starEach [a] X.env = [(false, eval a X.env)] := by rfl) : DIter X K cA tg (.Call (.Name "range" pp) [a] [] pos) (iRng1 tr) (diRng1 h) := ⟨pi_range1 hg hm ha.pa hs, sim_rng1 ha.sim⟩
theorem di_rng2 {tg : Expr} (hm : X.mg "range" = none) (ha : DArg X K cA [a, b] tr h) (hg : Gl X "range" := by rfl) (hs : starEach [a, b] X.env = [(false, eval a X.env), (false, eval b X.env)] := by rfl) (hs2 : starEach [b] X.env = [(false, eval b X.env)] := by rfl) :
    DIter X K cA tg (.Call (.Name "range" pp) [a, b] [] pos) (iRng2 tr) (diRng2 h) := ⟨pi_range2 hg hm ha.pa hs hs2, sim_rng2 ha.sim⟩
theorem di_rng3 {tg : Expr} (hm : X.mg "range" = none) (ha : DArg X K cA [a, b, c] tr h) (hg : Gl X "range" := by rfl) (hs : starEach [a, b, c] X.env = (false, eval a X.env) :: starEach [b, c] X.env := by rfl) (hpl : ((backTo pos (starEach [b, c] X.env)).any fun x => x.1) = false := by rfl) :
    DIter X K cA tg (.Call (.Name "range" pp) [a, b, c] [] pos) (iRng3 tr) (diRng3 h) := ⟨pi_range3 hg hm ha.pa hs hpl, sim_rng3 ha.sim⟩
theorem di_zip {elts : List Expr} {kk : Nat} {tpos : Pos} (hm : X.mg "zip" = none) (ha : DArg X K cA [a, b] tr h) (hg : Gl X "zip" := by rfl) (hs : starEach [a, b] X.env = (false, eval a X.env) :: starEach [b] X.env := by rfl) (hpl : ((backTo pos (starEach [b] X.env)).any fun x => x.1) = false := by rfl) (hK : X.K = K := by rfl) :
    DIter X K cA (.Tuple elts kk tpos) (.Call (.Name "zip" pp) [a, b] [] pos) (iZip K tr) (diZip h) := by
  subst hK
  exact ⟨pi_zip hg hm ha.pa hs hpl, sim_zip ha.sim⟩
/-! ### statements -/
variable {t u : TS} {d d' : DS} {tg : Expr} {gt : TG} {dg : DG} {ts : List Nat}
theorem ds_set (i : Nat) {y : Str} {pos' : Pos} (hN : X.N.Nodup) (he : DExp X K cA e te f) (hi : X.N[i]? = some y := by rfl) (hx : Loc X.env.scope y := by first | exact .inl rfl | exact .inr rfl) (hs : swapsWith e (some (.Name y pos')) pos.line X.env = pure false := by rfl)
    (hf : X.fn y = true ∨ X.env.scope.names.lookup y = some .local := by first | exact .inl rfl | exact .inr rfl) : DStm X K cA (.Assign [.Name y pos'] e pos) (tAsg te (gName i)) (dsAsg f (gdN i)) := ⟨ps_set hN hi hx he.pe hs hf, sim_asg he.sim sim_gN⟩
theorem ds_own (i : Nat) {y : Str} {pos' : Pos} {ff : DF} (hN : X.N.Nodup) (he : DFsh X K cA e te ff) (hi : X.N[i]? = some y := by rfl) (hx : Loc X.env.scope y := by first | exact .inl rfl | exact .inr rfl) (hs : swapsWith e (some (.Name y pos')) pos.line X.env = pure false := by rfl)
    (hf : X.fn y = true ∨ X.env.scope.names.lookup y = some .local := by first | exact .inl rfl | exact .inr rfl) : DStm X K cA (.Assign [.Name y pos'] e pos) (tAsg te (gName i)) (dsOwn i ff) := ⟨ps_set hN hi hx he.pe hs hf, sim_own he.sim⟩
theorem ds_asg (hg : DTgt X K cA tg gt dg ts) (he : DExp X K cA e te f) (hs : swapsWithSole [tg] e pos.line X.env = pure false := by rfl) (hw : swappedStores [tg] e X.env = pure none := by rfl)
    (h1 : (assignEach [tg] X.env).map (·.2) = [assign tg X.env] := by rfl) : DStm X K cA (.Assign [tg] e pos) (tAsg te gt) (dsAsg f dg) := ⟨ps_asg he.pe hg.pg hs hw h1, sim_asg he.sim hg.sim⟩
/-- name = [.. for ..], the name a local -/
theorem ps_lc {i : Nat} {y : Str} {py : Pos} {elt tg iter : Expr} {ifs : List Expr} {scope : Scope} {spos : Pos} {wi : TI} {gt : TG} {tt : TT} {src : DF} {dg : DG} {ts : List Nat} {dt : DT} (own : List (Str × Nat)) (hc : X.calm = true) (hN : X.N.Nodup) (hi : DIter X K cA tg iter wi src) (ok : BlkOk X.N X.env.scope scope own)
    (hg : ∀ (s : Shared) (H : Hp) (C : Addr) (cl : List (Str × Addr)) (fp : List Addr), DTgt (X.blk s H scope (compEnvC scope cl C X.env) fp) K cA tg gt dg ts)
    (ht : ∀ (s : Shared) (H : Hp) (C : Addr) (cl : List (Str × Addr)) (fp : List Addr), DTss (X.blk s H scope (compEnvC scope cl C X.env) fp) K cA ifs tt dt)
    (he : ∀ (s : Shared) (H : Hp) (C : Addr) (cl : List (Str × Addr)) (fp : List Addr), DExp (X.blk s H scope (compEnvC scope cl C X.env) fp) K cA elt te f) (hy : X.N[i]? = some y) (hyl : X.env.scope.names.lookup y = some .local)
    (hsw : swapsWith (.ListComp elt [⟨tg, iter, ifs, 0⟩] scope pos) (some (.Name y py)) spos.line X.env = pure true) (hs : ∀ x, foldedSetIterable iter X.env x = pure x) :
    PS X (.Assign [.Name y py] (.ListComp elt [⟨tg, iter, ifs, 0⟩] scope pos) spos) (tAsg (tLc wi gt tt te (own.map (·.2))) (gName i)) :=
  ps_setLc hc hN hy hyl hsw hi.pi ok (fun s H C cl fp => (hg s H C cl fp).pg) (fun s H C cl fp => (ht s H C cl fp).pt) (fun s H C cl fp => (he s H C cl fp).pe) hs
theorem ds_lc (i : Nat) {y : Str} {py : Pos} {elt tg iter : Expr} {ifs : List Expr} {scope : Scope} {spos : Pos} {wi : TI} {gt : TG} {tt : TT} {src : DF} {dg : DG} {ts : List Nat} {dt : DT} (own : List (Str × Nat)) (hc : X.calm = true) (hN : X.N.Nodup) (hi : DIter X K cA tg iter wi src) (ok : BlkOk X.N X.env.scope scope own)
    (hg : ∀ (s : Shared) (H : Hp) (C : Addr) (cl : List (Str × Addr)) (fp : List Addr), DTgt (X.blk s H scope (compEnvC scope cl C X.env) fp) K cA tg gt dg ts) (hsub : ∀ i ∈ ts, i ∈ own.map (·.2))
    (ht : ∀ (s : Shared) (H : Hp) (C : Addr) (cl : List (Str × Addr)) (fp : List Addr), DTss (X.blk s H scope (compEnvC scope cl C X.env) fp) K cA ifs tt dt)
    (he : ∀ (s : Shared) (H : Hp) (C : Addr) (cl : List (Str × Addr)) (fp : List Addr), DExp (X.blk s H scope (compEnvC scope cl C X.env) fp) K cA elt te f) (hy : X.N[i]? = some y := by rfl) (hyl : X.env.scope.names.lookup y = some .local := by rfl)
    (hsw : swapsWith (.ListComp elt [⟨tg, iter, ifs, 0⟩] scope pos) (some (.Name y py)) spos.line X.env = pure true := by exact sw_true rfl rfl rfl (by decide +kernel)) (hs : ∀ x, foldedSetIterable iter X.env x = pure x := by intro _; rfl) :
    DStm X K cA (.Assign [.Name y py] (.ListComp elt [⟨tg, iter, ifs, 0⟩] scope pos) spos) (tAsg (tLc wi gt tt te (own.map (·.2))) (gName i)) (dsAsg (dFz (dLc src dg dt f (own.map (·.2)))) (gdN i)) :=
  ⟨ps_lc own hc hN hi ok hg ht he hy hyl hsw hs, sim_asg (sim_lc hi.sim (hg X.s_0 X.H_0 0 [] []).sim hsub (ht X.s_0 X.H_0 0 [] []).sim (he X.s_0 X.H_0 0 [] []).sim).fz sim_gN⟩
theorem ds_lcO (i : Nat) {y : Str} {py : Pos} {elt tg iter : Expr} {ifs : List Expr} {scope : Scope} {spos : Pos} {wi : TI} {gt : TG} {tt : TT} {src : DF} {dg : DG} {ts : List Nat} {dt : DT} (own : List (Str × Nat)) (hc : X.calm = true) (hN : X.N.Nodup) (hi : DIter X K cA tg iter wi src) (ok : BlkOk X.N X.env.scope scope own)
    (hg : ∀ (s : Shared) (H : Hp) (C : Addr) (cl : List (Str × Addr)) (fp : List Addr), DTgt (X.blk s H scope (compEnvC scope cl C X.env) fp) K cA tg gt dg ts) (hsub : ∀ i ∈ ts, i ∈ own.map (·.2))
    (ht : ∀ (s : Shared) (H : Hp) (C : Addr) (cl : List (Str × Addr)) (fp : List Addr), DTss (X.blk s H scope (compEnvC scope cl C X.env) fp) K cA ifs tt dt)
    (he : ∀ (s : Shared) (H : Hp) (C : Addr) (cl : List (Str × Addr)) (fp : List Addr), DExp (X.blk s H scope (compEnvC scope cl C X.env) fp) K cA elt te f) (hy : X.N[i]? = some y := by rfl) (hyl : X.env.scope.names.lookup y = some .local := by rfl)
    (hsw : swapsWith (.ListComp elt [⟨tg, iter, ifs, 0⟩] scope pos) (some (.Name y py)) spos.line X.env = pure true := by exact sw_true rfl rfl rfl (by decide +kernel)) (hs : ∀ x, foldedSetIterable iter X.env x = pure x := by intro _; rfl) :
    DStm X K cA (.Assign [.Name y py] (.ListComp elt [⟨tg, iter, ifs, 0⟩] scope pos) spos) (tAsg (tLc wi gt tt te (own.map (·.2))) (gName i)) (dsOwn i (dLc src dg dt f (own.map (·.2)))) :=
  ⟨ps_lc own hc hN hi ok hg ht he hy hyl hsw hs, sim_own (sim_lc hi.sim (hg X.s_0 X.H_0 0 [] []).sim hsub (ht X.s_0 X.H_0 0 [] []).sim (he X.s_0 X.H_0 0 [] []).sim)⟩
theorem ds_par (i j : Nat) {y z : Str} {px py pt : Pos} {kt k2 pt2} (hc : X.calm = true) (hN : X.N.Nodup) (ha : DArg X K cA [a, b] tr h) (hi : X.N[i]? = some y := by rfl) (hj : X.N[j]? = some z := by rfl) (hij : i ≠ j := by decide) (hx : X.env.scope.names.lookup y = some .local := by rfl) (hy : X.env.scope.names.lookup z = some .local := by rfl)
    (hw : swappedStores [.Tuple [.Name y px, .Name z py] kt pt] (.Tuple [a, b] k2 pt2) X.env = pure (some [y, z]) := by rfl) (hs : swapsWithSole [.Tuple [.Name y px, .Name z py] kt pt] (.Tuple [a, b] k2 pt2) pos.line X.env = pure false := by rfl) :
    DStm X K cA (.Assign [.Tuple [.Name y px, .Name z py] kt pt] (.Tuple [a, b] k2 pt2) pos) (tPar i j tr) (dsPar i j h) := ⟨ps_par hc hN hi hj hij hx hy ha.pa hw hs, sim_par ha.sim⟩
theorem ds_augA (i : Nat) {y : Str} {pos' : Pos} (hN : X.N.Nodup) (he : DExp X K cA e te f) (hi : X.N[i]? = some y := by rfl) (hx : Loc X.env.scope y := by first | exact .inl rfl | exact .inr rfl) (hf : X.fn y = true ∨ X.env.scope.names.lookup y = some .local := by first | exact .inl rfl | exact .inr rfl) :
    DStm X K cA (.AugAssign (.Name y pos') .Add e pos) (tAug i te (ipI fun i j => i + j)) (dsAug i (fun i j => i + j) f) := ⟨ps_aug hN hi hx he.pe ip_add hf, sim_aug he.sim⟩
theorem ds_augS (i : Nat) {y : Str} {pos' : Pos} (hN : X.N.Nodup) (he : DExp X K cA e te f) (hi : X.N[i]? = some y := by rfl) (hx : Loc X.env.scope y := by first | exact .inl rfl | exact .inr rfl) (hf : X.fn y = true ∨ X.env.scope.names.lookup y = some .local := by first | exact .inl rfl | exact .inr rfl) :
    DStm X K cA (.AugAssign (.Name y pos') .Sub e pos) (tAug i te (ipI fun i j => i - j)) (dsAug i (fun i j => i - j) f) := ⟨ps_aug hN hi hx he.pe ip_sub hf, sim_aug he.sim⟩
theorem ds_ret (he : DExp X K cA e te f) : DStm X K cA (.Return (some e) pos) (tRet te) (dsRet f) := ⟨ps_ret he.pe, sim_ret he.sim⟩
theorem ds_retF {ff : DF} (he : DFsh X K cA e te ff) : DStm X K cA (.Return (some e) pos) (tRet te) (dsRetF ff) := ⟨ps_ret he.pe, sim_retF he.sim⟩
theorem ds_retN : DStm X K cA (.Return none pos) tRetN dsRetN := ⟨ps_retN, sim_retN⟩
theorem ds_if {ss rr : List Stmt} (hc : DTst X K cA c tA p) (ha : DBlk X K cA ss t d) (hb : DBlk X K cA rr u d') : DStm X K cA (.If c ss rr pos) (tIfS tA t u) (dsIf p d d') := ⟨ps_if hc.pt ha.ps hb.ps, sim_ifS hc.sim ha.sim hb.sim⟩
theorem ds_for {iter : Expr} {body : List Stmt} {wi : TI} {src : DF} (hp : PassesOwn (model X.prog X.w) X.A X.env X.xe) (hc : X.calm = true) (hi : DIter X K cA tg iter wi src) (hg : DTgt X K cA tg gt dg ts) (hb : DBlk X K cA body t d) (hs : ∀ x, foldedSetIterable iter X.env x = pure x := by intro _; rfl) :
    DStm X K cA (.For tg iter body [] pos) (tFor wi gt t) (dsFor src dg d) := ⟨ps_for hp hc hi.pi hg.pg hb.ps hs, sim_for hi.sim hg.sim hb.sim⟩
theorem ds_while (n : Nat) {body : List Stmt} (hp : PassesOwn (model X.prog X.w) X.A X.env X.xe) (hc : DTst X K cA c tA p) (hb : DBlk X K cA body t d) : DStm X K cA (.While c body [] pos) (tWhile tA t) (whileL p d n) := ⟨ps_while hp hc.pt hb.ps, sim_while n hc.sim hb.sim⟩
theorem ds_break : DStm X K cA (.Break pos) tBreak dsBreak := ⟨ps_break, sim_break⟩
theorem ds_cont : DStm X K cA (.Continue pos) tCont dsCont := ⟨ps_continue, sim_cont⟩
theorem ds_pass : DStm X K cA (.Pass pos) tNext dsNil := ⟨ps_pass, sim_nx⟩
theorem ds_never {st : Stmt} : DStm X K cA st tNever dsNever := ⟨ps_never, sim_never⟩
theorem ds_drop (he : DExp X K cA e te f) (hs : swapsWith e none pos.line X.env = pure false := by rfl) : DStm X K cA (.Expr e pos) (tDrop te) (dsDrop f) := ⟨ps_expr he.pe hs, sim_drop he.sim⟩
theorem ds_doc {y : Str} {j : Nat} {pos' : Pos} : DStm X K cA (.Expr (.Constant (.str y) j pos) pos') tNext dsNil := ⟨ps_doc, sim_nx⟩
theorem ds_app (i : Nat) {y : Str} {pos' apos cpos : Pos} (he : DExp X K cA e te f) (hN : X.N[i]? = some y := by rfl) (hv : Vis X.env.scope y := by first | exact Or.inl rfl | exact Or.inr (Or.inl rfl) | exact Or.inr (Or.inr rfl)) (hd : (y == ("__debug__" : Str)) = false := by decide)
    (hcd : (y == ("__classdict__" : Str)) = false := by decide) (pe : PE X (.Call (.Attribute (.Name y pos') "append" apos) [e] [] cpos) (tBM K "list" rAppend (tVar i) (tCons te tNil)))
    (hs : swapsWith (.Call (.Attribute (.Name y pos') "append" apos) [e] [] cpos) none pos.line X.env = pure false := by rfl) (hK : X.K = K := by rfl) : DStm X K cA (.Expr (.Call (.Attribute (.Name y pos') "append" apos) [e] [] cpos) pos) (tDrop (tBM K "list" rAppend (tVar i) (tCons te tNil))) (dsApp i f) := by
  subst hK
  exact ⟨ps_expr pe hs, sim_app he.sim⟩
theorem ds_setix (j : Nat) {y : Str} {pos' spos : Pos} {ix : Expr} {ti : TE} {fi : DE} (hi : DExp X K cA ix ti fi) (he : DExp X K cA e te f) (hN : X.N[j]? = some y := by rfl) (hv : Vis X.env.scope y := by first | exact Or.inl rfl | exact Or.inr (Or.inl rfl) | exact Or.inr (Or.inr rfl)) (hd : (y == ("__debug__" : Str)) = false := by decide)
    (hcd : (y == ("__classdict__" : Str)) = false := by decide)
    (ha : ∀ v, assign (.Subscript (.Name y pos') ix spos) X.env v = (do
      let ov ← holding [v] (eval (.Name y pos') X.env)
      let iv ← holding [v, ov] (eval ix X.env)
      standAt spos
      holding [v, ov, iv] (setItem ov iv v)
      release [v, ov, iv] []) := by intro _; rfl)
    (hs : swapsWithSole [.Subscript (.Name y pos') ix spos] e pos.line X.env = pure false := by rfl) (hw : swappedStores [.Subscript (.Name y pos') ix spos] e X.env = pure none := by rfl)
    (h1 : (assignEach [.Subscript (.Name y pos') ix spos] X.env).map (·.2) = [assign (.Subscript (.Name y pos') ix spos) X.env] := by rfl) :
    DStm X K cA (.Assign [.Subscript (.Name y pos') ix spos] e pos) (tAsg te (gSub (tVar j) ti rSetL)) (dsSet j fi f) :=
  ⟨ps_asg he.pe (pg_sub (pe_var hN hv hd hcd) hi.pe set_list ha) hs hw h1, sim_set hi.sim he.sim⟩
theorem ds_fld (j : Nat) {Ci : Nat} {y fn : Str} {pos' apos : Pos} (hC : Cls K (cA Ci)) (hn : NoAttr K (cA Ci) fn) (he : DExp X K cA e te f) (hN : X.N[j]? = some y := by rfl) (hv : Vis X.env.scope y := by first | exact Or.inl rfl | exact Or.inr (Or.inl rfl) | exact Or.inr (Or.inr rfl)) (hd : (y == ("__debug__" : Str)) = false := by decide)
    (hcd : (y == ("__classdict__" : Str)) = false := by decide) (hs : swapsWith e (some (.Attribute (.Name y pos') fn apos)) pos.line X.env = pure false := by rfl) (hK : X.K = K := by rfl) : DStm X K cA (.Assign [.Attribute (.Name y pos') fn apos] e pos) (sFld K (tVar j) te fn) (dsFld Ci fn j f) := by
  subst hK
  exact ⟨ps_fld (pe_var hN hv hd hcd) he.pe hs, sim_fldS hC hn he.sim⟩
theorem db_cell (i : Nat) {y : Str} {pos' : Pos} {ff : DF} {ss : List Stmt} (hN : X.N.Nodup) (he : DFsh X K cA e te ff) (hb : DBlk X K cA ss u d) (hi : X.N[i]? = some y := by rfl) (hx : Loc X.env.scope y := by first | exact .inl rfl | exact .inr rfl) (hs : swapsWith e (some (.Name y pos')) pos.line X.env = pure false := by rfl)
    (hf : X.fn y = true ∨ X.env.scope.names.lookup y = some .local := by first | exact .inl rfl | exact .inr rfl) : DBlk X K cA (.Assign [.Name y pos'] e pos :: ss) (tSeq (tAsg te (gName i)) u) (dsCell i ff d) := ⟨pss_cons (ps_set hN hi hx he.pe hs hf) hb.ps, sim_cell he.sim hb.sim⟩
theorem db_freeze (i : Nat) {ss : List Stmt} (hb : DBlk X K cA ss t d) : DBlk X K cA ss t (dsFreeze i d) := ⟨hb.ps, sim_freeze hb.sim⟩
end
end DL

set_option autoImplicit true
set_option relaxedAutoImplicit true
set_option Elab.async false
set_option linter.all false
set_option autoImplicit false
set_option maxRecDepth 100000
set_option maxHeartbeats 4000000
/-! DL, X: sum, max, min of tuples; enumerate of lists and tuples; index. -/
namespace DL
open PySem PySem.Spec PyProof.Rows L2
section
variable {prog : Program} {w : World} {A : Around} {E : Value → Shared → Prop} {s : Shared} {l : Addr} {xs : Array (Int × Tok)} {its : List Value} {ns : List Int} {Q : Value → Shared → Prop}
theorem iter_intT (hl : s.heap.IsTuple l (intItems xs))
    (h : ∀ s2 : Shared, s2 = { s with heap := s.heap.push { cls := .type "tuple_iterator", data := .fields #[.ref l, .int 0 0] } } →
      (s2.heap.IsTupleIter s.heap.objs.size l 0 ∧ s2.heap.IsTuple l (intItems xs)) → (∀ b ∈ [s.heap.objs.size, l], b < s2.heap.objs.size) → l ≠ s.heap.objs.size → Q (.ref s.heap.objs.size) s2) :
    wpAny (model prog w) A (pyIter (.ref l)) Q E s := by
  have hlt : l < s.heap.objs.size := by obtain ⟨_, e, _⟩ := hl; exact Heap.lt_size e
  refine wpAny_pyIter_tuple hl (h _ rfl ⟨⟨_, Heap.get?_push_size _ rfl, rfl, rfl⟩, hl.push _⟩ (fun b hb => ?_) (Nat.ne_of_lt hlt))
  show b < (s.heap.push _).objs.size
  rw [Heap.size_push]
  simp only [List.mem_cons, List.not_mem_nil, or_false] at hb
  rcases hb with hb | hb
  · rw [hb]; exact Nat.lt_succ_self _
  · rw [hb]; exact Nat.lt_succ_of_lt hlt
theorem old_keptT {h' : Heap} (hk : ∀ b o, b ∉ [s.heap.objs.size] → (s.heap.push { cls := .type "tuple_iterator", data := .fields #[.ref l, .int 0 0] }).get? b = some o → h'.get? b = some o) :
    ∀ b o, s.heap.get? b = some o → h'.get? b = some o := fun b o e => hk b o (fun hm => by
      have e1 : b = s.heap.objs.size := by simpa using hm
      have z := Heap.lt_size e
      rw [e1] at z
      exact absurd z (Nat.lt_irrefl _)) (Heap.get?_push_of_some _ e)
theorem sum_rawT (hh : A.handled = none) (hl : s.heap.IsTuple l its.toArray) (hi : IntsAre its ns)
    (h : ∀ h' tk t', (∀ b o, s.heap.get? b = some o → h'.get? b = some o) → Q (.int ns.sum t') { s with heap := h', toks := tk }) : wpAny (model prog w) A (call (.builtin "sum") [.ref l]) Q E s := by
  obtain ⟨xs, e⟩ := hi.allInts.items
  have hn : numsOf (intItems xs).toList = ns := by rw [← e]; exact hi.numsOf
  rw [nums_intItems] at hn
  rw [e] at hl
  refine call_sum_walkG (iter_intT hl fun s2 e2 st hfp hlI => ?_)
  subst e2
  refine ⟨_, _, _, _, _, _, numAt xs, rfl, Walks.tuple (A := A.in1) hh _ l hlI (intItems xs), st, hfp, (fun _ _ => intItems_at), fun h' tk t' hk => ?_⟩
  have := h h' tk t' (old_keptT hk)
  rw [show (intItems xs).size = xs.size by simp [intItems], preSum_eq, List.take_of_length_le (by simp), hn]
  exact this
theorem max_rawT (hh : A.handled = none) (hl : s.heap.IsTuple l its.toArray) (hi : IntsAre its ns) (hne : 0 < ns.length)
    (h : ∀ h' tk M t', (∀ b o, s.heap.get? b = some o → h'.get? b = some o) → M ∈ ns → (∀ a, a ∈ ns → a ≤ M) → Q (.int M t') { s with heap := h', toks := tk }) : wpAny (model prog w) A (call (.builtin "max") [.ref l]) Q E s := by
  obtain ⟨xs, e⟩ := hi.allInts.items
  have hn : numsOf (intItems xs).toList = ns := by rw [← e]; exact hi.numsOf
  rw [nums_intItems] at hn
  subst hn
  rw [e] at hl
  have hsz : 0 < xs.size := by simpa using hne
  have hz : (intItems xs).size = xs.size := by simp [intItems]
  refine call_max_walk (iter_intT hl fun s2 e2 st hfp hlI => ?_)
  subst e2
  refine ⟨_, _, _, _, _, _, _, rfl, Walks.tuple (A := A.in1) hh _ l hlI (intItems xs), st, hfp, by omega, CmpOf.ints_gt (numAt xs) (fun _ _ => intItems_at), fun v h' tk hP hk => ?_⟩
  rw [hz] at hP
  obtain ⟨t, rfl⟩ := intItems_at hP
  obtain ⟨h1, h2⟩ := argBest_gt (numAt xs) (xs.size - 1)
  refine h h' tk _ t (old_keptT hk) ?_ fun a ha => ?_
  · rw [numAt_eq]; exact PySem.getD_mem (by rw [List.length_map, Array.length_toList]; omega)
  · obtain ⟨j, hj, rfl⟩ := mem_getD ha
    rw [List.length_map, Array.length_toList] at hj
    rw [← numAt_eq]; exact h2 j (by omega)
theorem min_rawT (hh : A.handled = none) (hl : s.heap.IsTuple l its.toArray) (hi : IntsAre its ns) (hne : 0 < ns.length)
    (h : ∀ h' tk M t', (∀ b o, s.heap.get? b = some o → h'.get? b = some o) → M ∈ ns → (∀ a, a ∈ ns → M ≤ a) → Q (.int M t') { s with heap := h', toks := tk }) : wpAny (model prog w) A (call (.builtin "min") [.ref l]) Q E s := by
  obtain ⟨xs, e⟩ := hi.allInts.items
  have hn : numsOf (intItems xs).toList = ns := by rw [← e]; exact hi.numsOf
  rw [nums_intItems] at hn
  subst hn
  rw [e] at hl
  have hsz : 0 < xs.size := by simpa using hne
  have hz : (intItems xs).size = xs.size := by simp [intItems]
  refine call_min_walk (iter_intT hl fun s2 e2 st hfp hlI => ?_)
  subst e2
  refine ⟨_, _, _, _, _, _, _, rfl, Walks.tuple (A := A.in1) hh _ l hlI (intItems xs), st, hfp, by omega, CmpOf.ints_lt (numAt xs) (fun _ _ => intItems_at), fun v h' tk hP hk => ?_⟩
  rw [hz] at hP
  obtain ⟨t, rfl⟩ := intItems_at hP
  obtain ⟨h1, h2⟩ := argBest_lt (numAt xs) (xs.size - 1)
  refine h h' tk _ t (old_keptT hk) ?_ fun a ha => ?_
  · rw [numAt_eq]; exact PySem.getD_mem (by rw [List.length_map, Array.length_toList]; omega)
  · obtain ⟨j, hj, rfl⟩ := mem_getD ha
    rw [List.length_map, Array.length_toList] at hj
    rw [← numAt_eq]; exact h2 j (by omega)
end
section
variable {X : Cx}
def rSumT (K : PySem.W.Frag) : List V → Hp → VK → Prop := fun vs H Q => ∃ (a : Addr) (ns : List Int), vs = [V.ref a] ∧ SqT K H a (ns.map V.int) ∧ Q (.int ns.sum) H
def rMaxT (K : PySem.W.Frag) : List V → Hp → VK → Prop := fun vs H Q => ∃ (a : Addr) (ns : List Int), vs = [V.ref a] ∧ SqT K H a (ns.map V.int) ∧ 0 < ns.length ∧ ∀ m, m ∈ ns → (∀ y, y ∈ ns → y ≤ m) → Q (.int m) H
def rMinT (K : PySem.W.Frag) : List V → Hp → VK → Prop := fun vs H Q => ∃ (a : Addr) (ns : List Int), vs = [V.ref a] ∧ SqT K H a (ns.map V.int) ∧ 0 < ns.length ∧ ∀ m, m ∈ ns → (∀ y, y ∈ ns → m ≤ y) → Q (.int m) H
theorem cr_sumT (hc : X.calm = true) : CallR X (.builtin "sum") (rSumT X.K) := by
  intro pins s σ H vs us Q I r h
  obtain ⟨a, ns, rfl, hs, q⟩ := h
  obtain ⟨its, rv, hl, _⟩ := I.tuple hs
  rw [Vals.ref1 r]
  exact sum_rawT (I.ok.hd hc) (show s.heap.IsTuple a its.toArray from hl) rv.ints fun h' tk t' hk => ⟨.int _, H, I.kept hk, ⟨_, rfl⟩, q⟩
theorem cr_maxT (hc : X.calm = true) : CallR X (.builtin "max") (rMaxT X.K) := by
  intro pins s σ H vs us Q I r h
  obtain ⟨a, ns, rfl, hs, hne, q⟩ := h
  obtain ⟨its, rv, hl, _⟩ := I.tuple hs
  rw [Vals.ref1 r]
  exact max_rawT (I.ok.hd hc) (show s.heap.IsTuple a its.toArray from hl) rv.ints hne fun h' tk m t' hk h1 h2 => ⟨.int _, H, I.kept hk, ⟨_, rfl⟩, q m h1 h2⟩
theorem cr_minT (hc : X.calm = true) : CallR X (.builtin "min") (rMinT X.K) := by
  intro pins s σ H vs us Q I r h
  obtain ⟨a, ns, rfl, hs, hne, q⟩ := h
  obtain ⟨its, rv, hl, _⟩ := I.tuple hs
  rw [Vals.ref1 r]
  exact min_rawT (I.ok.hd hc) (show s.heap.IsTuple a its.toArray from hl) rv.ints hne fun h' tk m t' hk h1 h2 => ⟨.int _, H, I.kept hk, ⟨_, rfl⟩, q m h1 h2⟩
end
variable {G : Gm}
def oSumT : List D → Option D
  | [.tup ds] => match intsD ds with
    | some ns => some (.int ns.sum)
    | none => none
  | _ => none
def oMaxT : List D → Option D
  | [.tup ds] => match intsD ds with
    | some ns => if ns = [] then none else some (.int (maxI ns))
    | none => none
  | _ => none
def oMinT : List D → Option D
  | [.tup ds] => match intsD ds with
    | some ns => if ns = [] then none else some (.int (minI ns))
    | none => none
  | _ => none
theorem cs_sumT : CallSim G (rSumT G.K) oSumT := by
  intro F H0 H S cs σ Q xs z vs I rb e q
  unfold oSumT at e
  split at e
  · split at e
    · rename_i ds ns e1
      cases e
      obtain ⟨v, rfl, h⟩ := rb.one
      unfold RB Rp at h
      obtain ⟨a, ws, rfl, h2, h3⟩ := h
      refine ⟨a, ns, rfl, ?_, q.here I rp_int⟩
      rw [← rps_intsD h3 e1]; exact sqt_same I.ex h2
    · cases e
  · cases e
theorem cs_maxT : CallSim G (rMaxT G.K) oMaxT := by
  intro F H0 H S cs σ Q xs z vs I rb e q
  unfold oMaxT at e
  split at e
  · split at e
    · rename_i ds ns e1
      split at e
      · cases e
      · rename_i hn
        cases e
        obtain ⟨v, rfl, h⟩ := rb.one
        unfold RB Rp at h
        obtain ⟨a, ws, rfl, h2, h3⟩ := h
        refine ⟨a, ns, rfl, ?_, pos_of_ne hn, fun m hm hle => ?_⟩
        · rw [← rps_intsD h3 e1]; exact sqt_same I.ex h2
        have : m = maxI ns := Int.le_antisymm (maxI_ge hm) (hle _ (maxI_mem hn))
        subst this
        exact q.here I rp_int
    · cases e
  · cases e
theorem cs_minT : CallSim G (rMinT G.K) oMinT := by
  intro F H0 H S cs σ Q xs z vs I rb e q
  unfold oMinT at e
  split at e
  · split at e
    · rename_i ds ns e1
      split at e
      · cases e
      · rename_i hn
        cases e
        obtain ⟨v, rfl, h⟩ := rb.one
        unfold RB Rp at h
        obtain ⟨a, ws, rfl, h2, h3⟩ := h
        refine ⟨a, ns, rfl, ?_, pos_of_ne hn, fun m hm hle => ?_⟩
        · rw [← rps_intsD h3 e1]; exact sqt_same I.ex h2
        have : m = minI ns := Int.le_antisymm (hle _ (minI_mem hn)) (minI_le hm)
        subst this
        exact q.here I rp_int
    · cases e
  · cases e
def orC (o o' : List D → Option D) (xs : List D) : Option D := match o xs with
  | some z => some z
  | none => o' xs
theorem CallSim.or {r r' : List V → Hp → VK → Prop} {o o' : List D → Option D} (h : CallSim G r o) (h' : CallSim G r' o') : CallSim G (fun xs H Q => r xs H Q ∨ r' xs H Q) (orC o o') := by
  intro F H0 H S cs σ Q xs z vs I rb e q
  unfold orC at e
  split at e
  · rename_i z' e1
    cases e
    exact .inl (h F H0 H S cs σ Q xs _ vs I rb e1 q)
  · exact .inr (h' F H0 H S cs σ Q xs _ vs I rb e q)
def oSum : List D → Option D := orC oSumL oSumT
def oMax : List D → Option D := orC oMax2 (orC oMaxL oMaxT)
def oMin : List D → Option D := orC oMin2 (orC oMinL oMinT)
def rSumA (K : PySem.W.Frag) : List V → Hp → VK → Prop := fun xs H Q => rSum K xs H Q ∨ rSumT K xs H Q
def rMaxA (K : PySem.W.Frag) : List V → Hp → VK → Prop := fun xs H Q => (∃ i j, xs = [.int i, .int j] ∧ Q (.int (if j > i then j else i)) H) ∨ (rMax K xs H Q ∨ rMaxT K xs H Q)
def rMinA (K : PySem.W.Frag) : List V → Hp → VK → Prop := fun xs H Q => (∃ i j, xs = [.int i, .int j] ∧ Q (.int (if j < i then j else i)) H) ∨ (rMin K xs H Q ∨ rMinT K xs H Q)
theorem cs_sum : CallSim G (rSumA G.K) oSum := CallSim.or cs_sumL cs_sumT
theorem cs_max : CallSim G (rMaxA G.K) oMax := CallSim.or cs_max2 (CallSim.or cs_maxL cs_maxT)
theorem cs_min : CallSim G (rMinA G.K) oMin := CallSim.or cs_min2 (CallSim.or cs_minL cs_minT)
theorem cr_sumA {X : Cx} (hc : X.calm = true) : CallR X (.builtin "sum") (rSumA X.K) := CallR.or (cr_sum hc) (cr_sumT hc)
theorem cr_maxA {X : Cx} (hc : X.calm = true) : CallR X (.builtin "max") (rMaxA X.K) := CallR.or (call_max2 hc) (CallR.or (cr_max hc) (cr_maxT hc))
theorem cr_minA {X : Cx} (hc : X.calm = true) : CallR X (.builtin "min") (rMinA X.K) := CallR.or (call_min2 hc) (CallR.or (cr_min hc) (cr_minT hc))

/-! ### enumerate -/
section
variable {prog : Program} {w : World} {A : Around} {E : Value → Shared → Prop} {s : Shared}
set_option maxHeartbeats 1000000 in
theorem meets_enumT (l : Addr) (items : Array Value) :
    Meets (Builtin.«enumerate.__new__» ⟨[.type "enumerate", .ref l], []⟩) (fun _ R s => s.heap.IsTuple l items ∧
      R (.ok (.ret (.ref (s.heap.push { cls := .type "tuple_iterator", data := .fields #[.ref l, .int 0 0] }).objs.size)))
        { s with heap := (s.heap.push { cls := .type "tuple_iterator", data := .fields #[.ref l, .int 0 0] }).push { cls := .type "enumerate", data := .fields #[.none, .bool false, .ref s.heap.objs.size, rawInt 0, .none, .none] } }) :=
  .of_wp fun prog w A R s h => by
    obtain ⟨hp, g, d, tk, os⟩ := s
    obtain ⟨hl, hr⟩ := h
    have hsub := sub_enumerate
    have ht : Heap.IsTuple (Shared.heap ⟨hp, g, d, tk, os⟩) l items := hl
    wp_walk using wpAny_pyIter_tuple ht
    refine wpAny_stack_any fun st => wpAny_pure ?_
    split
    · rename_i c _ _ _ _ _
      cases (c == Value.type "enumerate") <;> (wp_walk using wpAny_pyIter_tuple ht; exact ⟨_, rfl, hr⟩)
    · wp_walk using wpAny_pyIter_tuple ht
      exact ⟨_, rfl, hr⟩
theorem call_enumT {l : Addr} {items : Array Value} {Q : Value → Shared → Prop} (hL : s.heap.IsTuple l items)
    (h : ∀ h', IsEnum h' (s.heap.objs.size + 1) s.heap.objs.size 0 .none → h'.IsTupleIter s.heap.objs.size l 0 → (∀ b o, s.heap.get? b = some o → h'.get? b = some o) → Q (.ref (s.heap.objs.size + 1)) { s with heap := h' }) :
    wpAny (model prog w) A (call (.type "enumerate") [.ref l]) Q E s := by
  refine callType_new F.called_enumerate (by decide) (F.typeCall_enumerate_1 _) (F.newCall_enumerate_1 _) (fun obj => F.args_object_init_2 obj _) F.entry_enumerate_new (meets_enumT l items) ⟨hL, ?_⟩
  have hz : (s.heap.push { cls := .type "tuple_iterator", data := .fields #[.ref l, .int 0 0] }).objs.size = s.heap.objs.size + 1 := Heap.size_push ..
  show _ ∧ _
  rw [hz]
  have he : IsEnum ((s.heap.push { cls := .type "tuple_iterator", data := .fields #[.ref l, .int 0 0] }).push { cls := .type "enumerate", data := .fields #[.none, .bool false, .ref s.heap.objs.size, rawInt 0, .none, .none] }) (s.heap.objs.size + 1) s.heap.objs.size 0 .none := by
    have z := Heap.get?_push_size (s.heap.push { cls := .type "tuple_iterator", data := .fields #[.ref l, .int 0 0] }) (o := { cls := .type "enumerate", data := .fields #[.none, .bool false, .ref s.heap.objs.size, rawInt 0, .none, .none] }) rfl
    rw [hz] at z; exact z
  exact ⟨⟨_, he, rfl⟩, h _ he ⟨_, Heap.get?_push_of_some _ (Heap.get?_push_size _ rfl), rfl, rfl⟩ fun b o x => Heap.get?_push_of_some _ (Heap.get?_push_of_some _ x)⟩
end
/-- the tuple at a, each item in a new pair -/
def IteT (K : PySem.W.Frag) (a : Addr) : It :=
  ⟨fun i H => ∃ (xs : List V) (x : V), SqT K H a xs ∧ xs[i]? = some x, fun i H v H' => ∃ T x, v = .ref T ∧ H T = none ∧ H' = upd H T (.tup [.int (i : Nat), x]) ∧ ∀ xs, SqT K H a xs → xs[i]? = some x, fun i H => ∃ xs : List V, SqT K H a xs ∧ i = xs.length⟩
theorem tup_ne_iter {h : Heap} {a it : Addr} {i : Nat} {items : Array Value} (h1 : h.IsTuple a items) (h2 : h.IsTupleIter it a i) : a ≠ it := by
  intro e
  obtain ⟨o, ho, hc, _⟩ := h1
  obtain ⟨o', ho', hc', _⟩ := h2
  rw [e, ho'] at ho
  cases ho
  rw [hc'] at hc
  exact absurd hc (by decide)
theorem turn_enumT {P : Program} {w : World} {K : PySem.W.Frag} {elts : List Expr} {kk : Nat} {tpos : Pos} (a e it : Addr) (hae : a ≠ e) :
    Turn P w K (.Tuple elts kk tpos) (IteT K a) [e, it] e (fun i h => (∃ old, IsEnum h e it ((i : Nat) : Int) old) ∧ h.IsTupleIter it a i ∧ e ≠ it) where
  mem := by simp
  obj := fun i h st b hb => by
    obtain ⟨⟨old, he⟩, ⟨o, ho, hc, hd⟩, _⟩ := st
    have e' : b = e ∨ b = it := by simpa using hb
    rcases e' with z | z
    · rw [z]; exact ⟨_, he, fun v q => nomatch q⟩
    · rw [z]; exact ⟨o, ho, fun v q => by rw [hd] at q; cases q⟩
  keep := fun i h h' st k => let ⟨⟨old, he⟩, hi, hne⟩ := st; ⟨⟨old, k e (by simp) _ he⟩, hi.at fun o q => k it (by simp) o q, hne⟩
  item := by
    intro X hP hw hK hc i pins s σ H E I hf st hg
    subst hP hw hK
    obtain ⟨⟨old, he⟩, hit, hne⟩ := st
    obtain ⟨xs, x, hq, hx⟩ := hg
    obtain ⟨its, rv, p, hz⟩ := I.tuple hq
    have pt : s.heap.IsTuple a its.toArray := p
    obtain ⟨u, hu, ru⟩ := rv.get hx
    have hel : e < s.heap.objs.size := Heap.lt_size he
    have hil : it < s.heap.objs.size := by obtain ⟨_, q, _⟩ := hit; exact Heap.lt_size q
    have hai := tup_ne_iter pt hit
    have hlt : i < its.toArray.size := by
      have := (List.getElem?_eq_some_iff.mp hu).1
      simpa using this
    refine wpAny_pyNext_enum_itemD (Draws.tuple (A := X.A.in1) (I.ok.hd hc) it a hai its.toArray) he ⟨hit, pt⟩ hlt hne (fun hm => ?_) fun v h' tk hv ho hst hT hsz hk => ?_
    · have e' : e = it ∨ e = a := by simpa using hm
      rcases e' with z | z
      · exact hne z
      · exact hae z.symm
    have hvu : v = u := by
      have : its[i]? = some v := by simpa using hv
      rw [hu] at this; exact (Option.some.inj this).symm
    subst hvu
    refine ⟨_, rfl, wpAny_letOwnedTupleGo_enum (s := { s with heap := h', toks := tk + 1 }) ho fun h'' he' sb => ?_⟩
    have hT2 : h''.get? s.heap.objs.size = some { cls := .type "tuple", data := .seq #[.int i tk, v] } := (sb.2 _ (Nat.ne_of_gt hel)).trans hT
    have new : ObjOk X.prog X.w (upd H s.heap.objs.size (.tup [.int (i : Nat), x])) h'' s.heap.objs.size (.tup [.int (i : Nat), x]) :=
      ⟨by show 2 ≤ sizeLine; decide, [.int i tk, v], .cons ⟨_, rfl⟩ (.cons ru .nil), ⟨_, hT2, rfl, _, rfl⟩⟩
    have I1 : Inv X pins σ (upd H s.heap.objs.size (.tup [.int (i : Nat), x])) { s with heap := h'', toks := tk + 1 } :=
      I.turnedNew (ch := [e, it]) (fun b ob hb q => (sb.2 b (fun z => hb (by simp [z]))).trans (hk b ob (fun z => hb (by simp [z])) (fun z => hb (by simp [z])) q)) hf (Nat.le_refl _) new
    refine ⟨.ref s.heap.objs.size, _, I1, rfl, ⟨_, x, rfl, I.hok.fresh (Nat.le_refl _), rfl, fun ys hy => by rw [I.tuple_inj hy hq]; exact hx⟩, ⟨⟨v, ?_⟩, hst.1.at fun o q => (sb.2 it (Ne.symm hne)).trans q, hne⟩, fun b hb => ?_⟩
    · have e1 : ((i + 1 : Nat) : Int) = (i : Int) + 1 := by omega
      rw [e1]; exact he'
    · have hb' : b < s.heap.objs.size := by
        have e' : b = e ∨ b = it := by simpa using hb
        rcases e' with z | z <;> (rw [z]; assumption)
      rw [upd_ne (Nat.ne_of_lt hb')]
      exact (hf b hb).1
  done := by
    intro X hP hw hK hc i pins s σ H E I hf st hg
    subst hP hw hK
    obtain ⟨⟨old, he⟩, hit, hne⟩ := st
    obtain ⟨xs, hq, hx⟩ := hg
    obtain ⟨its, rv, p, hz⟩ := I.tuple hq
    have pt : s.heap.IsTuple a its.toArray := p
    obtain ⟨f0, f1, f2, f3, f4, f5⟩ := hf it (by simp)
    have hl := rv.length
    have hai := tup_ne_iter pt hit
    have hi : i = its.toArray.size := by rw [List.size_toArray, ← hl]; exact hx
    exact wpAny_pyNext_enum_endD (Draws.tuple (A := X.A.in1) (I.ok.hd hc) it a hai its.toArray) he ⟨by rw [← hi]; exact hit, pt⟩ fun h' eb => ⟨rfl, I.turned (t' := s.toks) (fun b o hb q => eb b o hb q) f0 f1 f3 f4 f5⟩
  self := fun A i s Q E st h => let ⟨⟨_, he⟩, _⟩ := st; wpAny_pyIter_enum he h
def iEnumT (K : PySem.W.Frag) (ta : TA) : TI := fun σ H R => ta σ H fun vs H1 => ∃ a xs, vs = [.ref a] ∧ SqT K H1 a xs ∧ R (IteT K a) H1
theorem pi_enumT {X : Cx} {e : Expr} {ta : TA} {p pos tpos : Pos} {elts : List Expr} {kk : Nat} (hg : Gl X "enumerate") (hm : X.mg "enumerate" = none) (ha : PA X [e] ta) (hs : starEach [e] X.env = [(false, eval e X.env)] := by rfl) :
    PI X (.Tuple elts kk tpos) (.Call (.Name "enumerate" p) [e] [] pos) (iEnumT X.K ta) := by
  refine ⟨fun pins s σ H R I h => ?_⟩
  refine Call_ (ld_blt I hg hm boot_enumerate (PyProof.Rows.callWith_type1 (thn (ha.run pos pins s σ H _ I h) fun us s1 ⟨vs, H1, I1, r1, q1⟩ => ?_) hs rfl))
  obtain ⟨a, xs, ex, hq, q⟩ := q1
  subst ex
  cases r1 with
  | cons r rr =>
    cases rr
    cases r
    obtain ⟨its, rv, p', hz⟩ := I1.tuple hq
    have pt : s1.heap.IsTuple a its.toArray := p'
    have hal : a < s1.heap.objs.size := by obtain ⟨_, q, _⟩ := pt; exact Heap.lt_size q
    refine call_enumT pt fun h' he hit hk => wpAny_pyIter_enum he ?_
    have I2 : Inv X pins σ H1 { s1 with heap := h' } := I1.kept (t' := s1.toks) hk
    refine ⟨s1.heap.objs.size + 1, [s1.heap.objs.size + 1, s1.heap.objs.size], _, _, H1, rfl, I2, turn_enumT a (s1.heap.objs.size + 1) s1.heap.objs.size (Nat.ne_of_lt (Nat.lt_succ_of_lt hal)), ⟨⟨.none, he⟩, hit, Nat.succ_ne_self _⟩, fun b hb => ?_, q⟩
    have e' : b = s1.heap.objs.size + 1 ∨ b = s1.heap.objs.size := by simpa using hb
    have hle : s1.heap.objs.size ≤ b := by rcases e' with z | z <;> (rw [z]; omega)
    exact I1.fpOk hle (I1.hok.fresh hle)
/-- lists and tuples, with their places -/
def enumD (i : Nat) : List D → List D
  | [] => []
  | d :: r => .tup [.int (i : Int), d] :: enumD (i + 1) r
theorem enumD_len : ∀ (i : Nat) (ds : List D), (enumD i ds).length = ds.length
  | _, [] => rfl
  | i, d :: r => by unfold enumD; rw [List.length_cons, List.length_cons, enumD_len]
theorem enumD_get : ∀ {i j : Nat} {ds : List D} {d : D}, ds[j]? = some d → (enumD i ds)[j]? = some (.tup [.int ((i + j : Nat) : Int), d])
  | _, _, [], _, h => by simp at h
  | i, 0, d :: r, x, h => by simp at h; subst h; rfl
  | i, j + 1, d :: r, x, h => by
    have h' : r[j]? = some x := by simpa using h
    have := enumD_get (i := i + 1) h'
    show (enumD (i + 1) r)[j]? = _
    rw [this, show i + 1 + j = i + (j + 1) by omega]
def diEnum (f : DA) : DF := fun S cs => match f S cs with
  | some ([.c (.lst xs)], c1) => some (enumD 0 xs, c1)
  | some ([.c (.tup xs)], c1) => some (enumD 0 xs, c1)
  | _ => none
def iEnumA (K : PySem.W.Frag) (ta : TA) : TI := fun σ H R => iEnum K ta σ H R ∨ iEnumT K ta σ H R
theorem jok_enum {H : Hp} {a : Addr} {vs : List V} {ds : List D} (h : H a = some (.lst vs)) (r : Rps G H ds vs) : JOk G (Ite G.K a) (enumD 0 ds) H := by
  have hl := enumD_len 0 ds
  have l1 := r.len
  refine ⟨fun i H0 H1 s1 s2 hi => ?_, fun i H0 H1 s1 s2 hi => ?_, fun i H0 H1 x H' s1 s2 hi y => ?_⟩
  · have e1 : i < ds.length := by omega
    obtain ⟨v, q1, _⟩ := r.get (List.getElem?_eq_getElem e1)
    exact ⟨vs, v, .inl (.inl (s2 _ _ (s1 _ _ h))), q1⟩
  · exact ⟨vs, .inl (.inl (s2 _ _ (s1 _ _ h))), by omega⟩
  · obtain ⟨T, x1, rfl, nT, rfl, f1⟩ := y
    have e1 : i < ds.length := by omega
    obtain ⟨v, q1, p1⟩ := r.get (List.getElem?_eq_getElem e1)
    have z1 := f1 vs (.inl (.inl (s2 _ _ (s1 _ _ h))))
    rw [q1] at z1; cases z1
    refine ⟨_, _, enumD_get (List.getElem?_eq_getElem e1), Gr.new s2 _ nT, ?_⟩
    have sn := same_new s2 (.tup [.int (i : Nat), x1]) nT
    rw [Nat.zero_add]
    unfold Rp
    exact ⟨T, [.int (i : Nat), x1], rfl, .inl (.inl upd_same), Rps.cons rp_int (Rps.cons (Rp.mono (s1.trans sn) _ _ p1) Rps.nil)⟩
theorem jok_enumT {H : Hp} {a : Addr} {vs : List V} {ds : List D} (h : SqT G.K H a vs) (r : Rps G H ds vs) : JOk G (IteT G.K a) (enumD 0 ds) H := by
  have hl := enumD_len 0 ds
  have l1 := r.len
  refine ⟨fun i H0 H1 s1 s2 hi => ?_, fun i H0 H1 s1 s2 hi => ?_, fun i H0 H1 x H' s1 s2 hi y => ?_⟩
  · have e1 : i < ds.length := by omega
    obtain ⟨v, q1, _⟩ := r.get (List.getElem?_eq_getElem e1)
    exact ⟨vs, v, sqt_same (s1.trans s2) h, q1⟩
  · exact ⟨vs, sqt_same (s1.trans s2) h, by omega⟩
  · obtain ⟨T, x1, rfl, nT, rfl, f1⟩ := y
    have e1 : i < ds.length := by omega
    obtain ⟨v, q1, p1⟩ := r.get (List.getElem?_eq_getElem e1)
    have z1 := f1 vs (sqt_same (s1.trans s2) h)
    rw [q1] at z1; cases z1
    refine ⟨_, _, enumD_get (List.getElem?_eq_getElem e1), Gr.new s2 _ nT, ?_⟩
    have sn := same_new s2 (.tup [.int (i : Nat), x1]) nT
    rw [Nat.zero_add]
    unfold Rp
    exact ⟨T, [.int (i : Nat), x1], rfl, .inl (.inl upd_same), Rps.cons rp_int (Rps.cons (Rp.mono (s1.trans sn) _ _ p1) Rps.nil)⟩
theorem sim_enum {t : TA} {f : DA} (h : SimA G t f) : SimI G (iEnumA G.K t) (diEnum f) := by
  refine ⟨fun F H0 H S cs σ R I ds cs' e q => ?_⟩
  unfold diEnum at e
  split at e
  · rename_i xs c1 e1
    cases e
    refine .inl (h.run F H0 H S cs σ _ I _ _ e1 fun vs Ha Hb s1 I1 r1 => ?_)
    obtain ⟨v, w, rfl, h1, rfl⟩ := r1
    have h1' : Rp G Ha (.lst xs) v := h1
    unfold Rp at h1'
    obtain ⟨a, us, rfl, a2, a3⟩ := h1'
    exact ⟨a, us, rfl, .inl (.inl (I1.ex _ _ a2)), q _ _ _ s1 I1 (jok_enum a2 a3)⟩
  · rename_i xs c1 e1
    cases e
    refine .inr (h.run F H0 H S cs σ _ I _ _ e1 fun vs Ha Hb s1 I1 r1 => ?_)
    obtain ⟨v, w, rfl, h1, rfl⟩ := r1
    have h1' : Rp G Ha (.tup xs) v := h1
    unfold Rp at h1'
    obtain ⟨a, us, rfl, a2, a3⟩ := h1'
    exact ⟨a, us, rfl, sqt_same I1.ex a2, q _ _ _ s1 I1 (jok_enumT a2 a3)⟩
  · cases e
theorem pi_enumA {X : Cx} {e : Expr} {ta : TA} {p pos tpos : Pos} {elts : List Expr} {kk : Nat} (hg : Gl X "enumerate") (hm : X.mg "enumerate" = none) (ha : PA X [e] ta) (hs : starEach [e] X.env = [(false, eval e X.env)] := by rfl) :
    PI X (.Tuple elts kk tpos) (.Call (.Name "enumerate" p) [e] [] pos) (iEnumA X.K ta) := by
  refine ⟨fun pins s σ H R I h => ?_⟩
  rcases h with h | h
  · exact (pi_enum hg hm ha hs).run pins s σ H R I h
  · exact (pi_enumT hg hm ha hs).run pins s σ H R I h
theorem di_enum {X : Cx} {K : PySem.W.Frag} {cA : Nat → Addr} {a : Expr} {tr : TA} {h : DA} {pp pos tpos : Pos} {elts : List Expr} {kk : Nat} (hm : X.mg "enumerate" = none) (ha : DArg X K cA [a] tr h) (hg : Gl X "enumerate" := by rfl) (hs : starEach [a] X.env = [(false, eval a X.env)] := by rfl) (hK : X.K = K := by rfl) :
    DIter X K cA (.Tuple elts kk tpos) (.Call (.Name "enumerate" pp) [a] [] pos) (iEnumA K tr) (diEnum h) := by
  subst hK
  exact ⟨pi_enumA hg hm ha.pa hs, sim_enum ha.sim⟩
/-! ### xs.index(y), flat items -/
def toV : D → Option V
  | .non => some .non
  | .bl b => some (.bl b)
  | .int i => some (.int i)
  | .str x => some (.str x)
  | _ => none
def toVs : List D → Option (List V)
  | [] => some []
  | d :: r => match toV d with
    | some v => match toVs r with
      | some vs => some (v :: vs)
      | none => none
    | none => none
theorem toV_rp {H : Hp} {d : D} {v u : V} (e : toV d = some v) (h : Rp G H d u) : u = v ∧ flatV v = true := by
  cases d <;> first | (cases e; done) | (cases e; unfold Rp at h; exact ⟨h, rfl⟩)
theorem toVs_rps {H : Hp} : ∀ {ds : List D} {vs us : List V}, toVs ds = some vs → Rps G H ds us → us = vs ∧ vs.all flatV = true
  | [], vs, us, e, h => by cases e; unfold Rps at h; exact ⟨h, rfl⟩
  | d :: r, vs, us, e, h => by
    unfold Rps at h
    obtain ⟨v, w, rfl, h1, h2⟩ := h
    unfold toVs at e
    split at e
    · rename_i v' e1
      split at e
      · rename_i vs' e2
        cases e
        obtain ⟨rfl, f1⟩ := toV_rp e1 h1
        obtain ⟨rfl, f2⟩ := toVs_rps e2 h2
        exact ⟨rfl, by simp [f1, f2]⟩
      · cases e
    · cases e
def idxV (y : V) : List V → Option Nat
  | [] => none
  | z :: r => if eqV z y = true then some 0 else (match idxV y r with
    | some j => some (j + 1)
    | none => none)
theorem idxV_ok {y : V} : ∀ {vs : List V} {j : Nat}, idxV y vs = some j → ∃ z, vs[j]? = some z ∧ eqV z y = true ∧ ∀ (m : Nat) (z' : V), m < j → vs[m]? = some z' → eqV z' y = false
  | [], _, e => by cases e
  | z :: r, j, e => by
    unfold idxV at e
    split at e
    · rename_i h
      cases e
      exact ⟨z, rfl, h, fun m z' hm => absurd hm (Nat.not_lt_zero _)⟩
    · rename_i h
      split at e
      · rename_i j' e1
        cases e
        obtain ⟨w, h1, h2, h3⟩ := idxV_ok e1
        refine ⟨w, by simpa using h1, h2, fun m z' hm ez => ?_⟩
        cases m with
        | zero => simp at ez; subst ez; simpa using h
        | succ m => exact h3 m z' (by omega) (by simpa using ez)
      · cases e
def dIdx (f g : DE) : DE := fun S cs => match f S cs with
  | some (.c (.lst ds), c1) => match g S c1 with
    | some (.c y, c2) => match toVs ds with
      | some vs => match toV y with
        | some yv => match idxV yv vs with
          | some j => some (.c (.int (j : Int)), c2)
          | none => none
        | none => none
      | none => none
    | _ => none
  | _ => none
theorem sim_idx {to te : TE} {f g : DE} (ha : SimE G to f) (hb : SimE G te g) : SimE G (tBM G.K "list" (rIndex G.K) to (tCons te tNil)) (dIdx f g) := by
  refine ⟨fun F H0 H S cs σ Q I r cs' e q => ?_⟩
  unfold dIdx at e
  split at e
  · rename_i ds c1 e1
    split at e
    · rename_i y c2 e2
      split at e
      · rename_i vs e4
        split at e
        · rename_i yv e5
          split at e
          · rename_i j e6
            cases e
            refine ha.run F H0 H S cs σ _ I _ _ e1 fun v Ha Hb s1 I1 q1 => ?_
            have q1' : Rp G Ha (.lst ds) v := q1
            unfold Rp at q1'
            obtain ⟨p, us, rfl, h2, h3⟩ := q1'
            refine ⟨.inl ⟨rfl, us, .inl (.inl (I1.ex _ _ h2))⟩, hb.run F Ha Hb S c1 σ _ I1 _ _ e2 fun w Hc Hd s2 I2 q2 => ?_⟩
            obtain ⟨rfl, f1⟩ := toVs_rps e4 h3
            obtain ⟨rfl, f2⟩ := toV_rp e5 q2
            obtain ⟨z, z1, z2, z3⟩ := idxV_ok e6
            exact ⟨p, us, w, j, z, rfl, rfl, .inl (.inl (I2.ex _ _ (s2 _ _ h2))), f2, f1, z1, z2, z3, (q.mono (s1.trans s2)).here I2 rp_int⟩
          · cases e
        · cases e
      · cases e
    · cases e
  · cases e
theorem dx_idx {X : Cx} {K : PySem.W.Frag} {cA : Nat → Addr} {o e : Expr} {to te : TE} {f g : DE} {apos cpos : Pos} (ho : DExp X K cA o to f) (he : DExp X K cA e te g)
    (hbase : attributeBase o "index" X.env (eval o X.env) = eval o X.env := by rfl)
    (hfew : ((backTo cpos (starEach (e :: []) X.env)).all (fun x => !x.1) && (backToKw cpos (keywordEach [] X.env)).all (fun x => x.1.isSome)
      && decide ((e :: ([] : List Expr)).length + ([] : List Keyword).length + (if ([] : List Keyword).isEmpty then 0 else 1) < 30)) = true := by rfl)
    (hline : (apos.endLine == cpos.line) = true := by rfl) (hs : starEach (e :: []) X.env = (false, eval e X.env) :: starEach [] X.env := by rfl) (hplain : (backTo cpos (starEach [] X.env)).any (·.1) = false := by rfl) (hK : X.K = K := by rfl) :
    DExp X K cA (.Call (.Attribute o "index" apos) [e] [] cpos) (tBM K "list" (rIndex K) to (tCons te tNil)) (dIdx f g) := by
  subst hK
  exact ⟨pe_bm PySem.F.plainAttrs_list PySem.F.slot_list_index PySem.F.type_list_index mt_index ho.pe (pa_cons he.pe pa_nil hs) hbase hfew hline hs hplain, sim_idx ho.sim he.sim⟩
theorem ds_append {X : Cx} {K : PySem.W.Frag} {cA : Nat → Addr} {e : Expr} {te : TE} {f : DE} {pos : Pos} (i : Nat) {y : Str} {pos' apos cpos : Pos} (he : DExp X K cA e te f) (hN : X.N[i]? = some y := by rfl) (hv : Vis X.env.scope y := by first | exact Or.inl rfl | exact Or.inr (Or.inl rfl) | exact Or.inr (Or.inr rfl)) (hd : (y == ("__debug__" : Str)) = false := by decide)
    (hcd : (y == ("__classdict__" : Str)) = false := by decide)
    (hbase : attributeBase (.Name y pos') "append" X.env (eval (.Name y pos') X.env) = eval (.Name y pos') X.env := by rfl)
    (hfew : ((backTo cpos (starEach (e :: []) X.env)).all (fun x => !x.1) && (backToKw cpos (keywordEach [] X.env)).all (fun x => x.1.isSome)
      && decide ((e :: ([] : List Expr)).length + ([] : List Keyword).length + (if ([] : List Keyword).isEmpty then 0 else 1) < 30)) = true := by rfl)
    (hline : (apos.endLine == cpos.line) = true := by rfl) (hs : starEach (e :: []) X.env = (false, eval e X.env) :: starEach [] X.env := by rfl) (hplain : (backTo cpos (starEach [] X.env)).any (·.1) = false := by rfl)
    (hsw : swapsWith (.Call (.Attribute (.Name y pos') "append" apos) [e] [] cpos) none pos.line X.env = pure false := by rfl) (hK : X.K = K := by rfl) : DStm X K cA (.Expr (.Call (.Attribute (.Name y pos') "append" apos) [e] [] cpos) pos) (tDrop (tBM K "list" rAppend (tVar i) (tCons te tNil))) (dsApp i f) := by
  subst hK
  exact ds_app i he hN hv hd hcd (pe_bm PySem.F.plainAttrs_list PySem.F.slot_list_append PySem.F.type_list_append mt_append (pe_var hN hv hd hcd) (pa_cons he.pe pa_nil hs) hbase hfew hline hs hplain) hsw
/-! ### the built-ins, by name -/
section
variable {X : Cx} {K : PySem.W.Frag} {cA : Nat → Addr} {e : Expr} {es : List Expr} {tr : TA} {h : DA} {pp pos : Pos}
theorem bb_len : bootBuiltins "len" = some (.builtin "len") := by decide +kernel
theorem dx_len (hm : X.mg "len" = none) (ha : DArg X K cA (e :: es) tr h) (hg : Gl X "len" := by rfl) (he : starEach (e :: es) X.env = (false, eval e X.env) :: starEach es X.env := by rfl) (hpl : ((backTo pos (starEach es X.env)).any fun x => x.1) = false := by rfl) (hK : X.K = K := by rfl) : DExp X K cA (.Call (.Name "len" pp) (e :: es) [] pos) (tCB (rLenA K) tr) (dCB oLen h) := by
  subst hK
  exact dx_cb call_len cs_len hm bb_len ha hg (by decide) (by decide) he hpl
theorem bb_abs : bootBuiltins "abs" = some (.builtin "abs") := by decide +kernel
theorem dx_abs (hm : X.mg "abs" = none) (ha : DArg X K cA (e :: es) tr h) (hg : Gl X "abs" := by rfl) (he : starEach (e :: es) X.env = (false, eval e X.env) :: starEach es X.env := by rfl) (hpl : ((backTo pos (starEach es X.env)).any fun x => x.1) = false := by rfl) : DExp X K cA (.Call (.Name "abs" pp) (e :: es) [] pos) (tCB (fun xs H Q => ∃ i, xs = [.int i] ∧ Q (.int (if i < 0 then -i else i)) H) tr) (dCB oAbs h) := dx_cb call_abs cs_abs hm bb_abs ha hg (by decide) (by decide) he hpl
theorem bb_all : bootBuiltins "all" = some (.builtin "all") := by decide +kernel
theorem dx_all (hc : X.calm = true) (hm : X.mg "all" = none) (ha : DArg X K cA (e :: es) tr h) (hg : Gl X "all" := by rfl) (he : starEach (e :: es) X.env = (false, eval e X.env) :: starEach es X.env := by rfl) (hpl : ((backTo pos (starEach es X.env)).any fun x => x.1) = false := by rfl) (hK : X.K = K := by rfl) : DExp X K cA (.Call (.Name "all" pp) (e :: es) [] pos) (tCB (rAll K) tr) (dCB oAll h) := by
  subst hK
  exact dx_cb (cr_all hc) cs_all hm bb_all ha hg (by decide) (by decide) he hpl
theorem bb_any : bootBuiltins "any" = some (.builtin "any") := by decide +kernel
theorem dx_any (hc : X.calm = true) (hm : X.mg "any" = none) (ha : DArg X K cA (e :: es) tr h) (hg : Gl X "any" := by rfl) (he : starEach (e :: es) X.env = (false, eval e X.env) :: starEach es X.env := by rfl) (hpl : ((backTo pos (starEach es X.env)).any fun x => x.1) = false := by rfl) (hK : X.K = K := by rfl) : DExp X K cA (.Call (.Name "any" pp) (e :: es) [] pos) (tCB (rAny K) tr) (dCB oAny h) := by
  subst hK
  exact dx_cb (cr_any hc) cs_any hm bb_any ha hg (by decide) (by decide) he hpl
theorem bb_sum : bootBuiltins "sum" = some (.builtin "sum") := by decide +kernel
theorem dx_sum (hc : X.calm = true) (hm : X.mg "sum" = none) (ha : DArg X K cA (e :: es) tr h) (hg : Gl X "sum" := by rfl) (he : starEach (e :: es) X.env = (false, eval e X.env) :: starEach es X.env := by rfl) (hpl : ((backTo pos (starEach es X.env)).any fun x => x.1) = false := by rfl) (hK : X.K = K := by rfl) : DExp X K cA (.Call (.Name "sum" pp) (e :: es) [] pos) (tCB (rSumA K) tr) (dCB oSum h) := by
  subst hK
  exact dx_cb (cr_sumA hc) cs_sum hm bb_sum ha hg (by decide) (by decide) he hpl
theorem bb_max : bootBuiltins "max" = some (.builtin "max") := by decide +kernel
theorem dx_max (hc : X.calm = true) (hm : X.mg "max" = none) (ha : DArg X K cA (e :: es) tr h) (hg : Gl X "max" := by rfl) (he : starEach (e :: es) X.env = (false, eval e X.env) :: starEach es X.env := by rfl) (hpl : ((backTo pos (starEach es X.env)).any fun x => x.1) = false := by rfl) (hK : X.K = K := by rfl) : DExp X K cA (.Call (.Name "max" pp) (e :: es) [] pos) (tCB (rMaxA K) tr) (dCB oMax h) := by
  subst hK
  exact dx_cb (cr_maxA hc) cs_max hm bb_max ha hg (by decide) (by decide) he hpl
theorem bb_min : bootBuiltins "min" = some (.builtin "min") := by decide +kernel
theorem dx_min (hc : X.calm = true) (hm : X.mg "min" = none) (ha : DArg X K cA (e :: es) tr h) (hg : Gl X "min" := by rfl) (he : starEach (e :: es) X.env = (false, eval e X.env) :: starEach es X.env := by rfl) (hpl : ((backTo pos (starEach es X.env)).any fun x => x.1) = false := by rfl) (hK : X.K = K := by rfl) : DExp X K cA (.Call (.Name "min" pp) (e :: es) [] pos) (tCB (rMinA K) tr) (dCB oMin h) := by
  subst hK
  exact dx_cb (cr_minA hc) cs_min hm bb_min ha hg (by decide) (by decide) he hpl
theorem bb_int : bootBuiltins "int" = some (.type "int") := by decide +kernel
theorem dx_toint (hm : X.mg "int" = none) (ha : DArg X K cA (e :: es) tr h) (hg : Gl X "int" := by rfl) (he : starEach (e :: es) X.env = (false, eval e X.env) :: starEach es X.env := by rfl) (hpl : ((backTo pos (starEach es X.env)).any fun x => x.1) = false := by rfl) : DExp X K cA (.Call (.Name "int" pp) (e :: es) [] pos) (tCB (fun xs H Q => (∃ i, xs = [.int i] ∧ Q (.int i) H) ∨ ∃ k, xs = [.bl k] ∧ Q (.int (if k then 1 else 0)) H) tr) (dCB oToInt h) := dx_ct call_int1 cs_int hm bb_int ha hg (by decide) (by decide) he hpl
theorem bb_tuple : bootBuiltins "tuple" = some (.type "tuple") := by decide +kernel
theorem dx_totup (hm : X.mg "tuple" = none) (ha : DArg X K cA (e :: es) tr h) (hg : Gl X "tuple" := by rfl) (he : starEach (e :: es) X.env = (false, eval e X.env) :: starEach es X.env := by rfl) (hpl : ((backTo pos (starEach es X.env)).any fun x => x.1) = false := by rfl) (hK : X.K = K := by rfl) : DExp X K cA (.Call (.Name "tuple" pp) (e :: es) [] pos) (tCB (rTupleA K) tr) (dCB oTuple h) := by
  subst hK
  exact dx_ct call_tuple_of cs_tuple hm bb_tuple ha hg (by decide) (by decide) he hpl
theorem bb_list : bootBuiltins "list" = some (.type "list") := by decide +kernel
theorem df_list (hm : X.mg "list" = none) (ha : DArg X K cA (e :: es) tr h) (hg : Gl X "list" := by rfl) (he : starEach (e :: es) X.env = (false, eval e X.env) :: starEach es X.env := by rfl) (hpl : ((backTo pos (starEach es X.env)).any fun x => x.1) = false := by rfl) (hK : X.K = K := by rfl) : DFsh X K cA (.Call (.Name "list" pp) (e :: es) [] pos) (tCB (rListA K) tr) (dCBF oList h) := by
  subst hK
  exact df_ct call_list_of cs_list hm bb_list ha hg (by decide) (by decide) he hpl
theorem bb_bool : bootBuiltins "bool" = some (.type "bool") := by decide +kernel
theorem bb_str : bootBuiltins "str" = some (.type "str") := by decide +kernel
end
end DL

set_option autoImplicit true
set_option relaxedAutoImplicit true
set_option Elab.async false
set_option linter.all false
set_option maxRecDepth 100000
set_option maxHeartbeats 4000000
/-! the program of k54 over deep data; printed by gen.py -/
namespace K54
open PySem L2 DL
/-- common_divisor; slots: 0 first, 1 second -/
def b_common_divisor : DS :=
  (dsSeq (dsPar 0 1 (dCons (dCB oAbs (dCons (dVar 0) dNil)) (dCons (dCB oAbs (dCons (dVar 1) dNil)) dNil)))
  (dsSeq (whileL (dTst (dOp oNe (dVar 1) (dC (.int 0)))) (dsPar 0 1 (dCons (dVar 1) (dCons (dOp oMod (dVar 0) (dVar 1)) dNil))) 20000)
  (dsRet (dVar 0))))
def m_common_divisor : List D → Option D := runF 2 2 b_common_divisor
/-- value_at; slots: 0 curve, 1 t, 2 values, 3 period, 4 step, 5 turns -/
def b_value_at : DS :=
  (dsSeq (dsAsg (dVar 0) (gdT 3 (gdCons (gdN 2) (gdCons (gdN 3) (gdCons (gdN 4) gdNil)))))
  (dsSeq (dsIf (dTst (dOp oLt (dVar 1) (dCB oLen (dCons (dVar 2) dNil)))) (dsRet (dIx (dVar 2) (dVar 1))) dsNil)
  (dsSeq (dsAsg (dOp oAdd (dOp oFdiv (dOp oSub (dVar 1) (dCB oLen (dCons (dVar 2) dNil))) (dVar 3)) (dC (.int 1))) (gdN 5))
  (dsRet (dOp oAdd (dIx (dVar 2) (dOp oSub (dVar 1) (dOp oMul (dVar 5) (dVar 3)))) (dOp oMul (dVar 5) (dVar 4)))))))
def m_value_at : List D → Option D := runF 2 6 b_value_at
/-- multiple_of; slots: 0 f, 1 g, 2 found -/
def b_multiple_of : DS :=
  (dsSeq (dsAsg (dOp oFdiv (dOp oMul (dIx (dVar 0) (dC (.int 1))) (dIx (dVar 1) (dC (.int 1)))) (dCall m_common_divisor (dCons (dIx (dVar 0) (dC (.int 1))) (dCons (dIx (dVar 1) (dC (.int 1))) dNil)))) (gdN 2))
  (dsSeq (dsIf (dTst (dOp oGt (dVar 2) (dC (.int 4000)))) dsNever dsNil)
  (dsRet (dVar 2))))
def m_multiple_of : List D → Option D := runF 2 3 b_multiple_of
/-- growth; slots: 0 curve, 1 d -/
def b_growth : DS :=
  (dsRet (dOp oMul (dOp oFdiv (dVar 1) (dIx (dVar 0) (dC (.int 1)))) (dIx (dVar 0) (dC (.int 2)))))
def m_growth : List D → Option D := runF 2 2 b_growth
/-- least_period; slots: 0 differences, 1 period, 2 size, 3 k -/
def b_least_period : DS :=
  (dsSeq (dsFor (diRng2 (dCons (dC (.int 1)) (dCons (dOp oAdd (dVar 1) (dC (.int 1))) dNil))) (gdN 2) (dsIf (dAnd (dTst (dOp oEq (dOp oMod (dVar 1) (dVar 2)) (dC (.int 0)))) (dTru (dCB oAll (dCons (dFz (dLc (diRng1 (dCons (dVar 1) dNil)) (gdN 3) dYes (dOp oEq (dIx (dVar 0) (dVar 3)) (dIx (dVar 0) (dOp oMod (dVar 3) (dVar 2)))) [3])) dNil)))) (dsRet (dVar 2)) dsNil))
  (dsRet (dVar 1)))
def m_least_period : List D → Option D := runF 2 4 b_least_period
/-- least_curve; slots: 0 curve, 1 values, 2 period, 3 step, 4 n, 5 row, 6 size, 7 more, 8 first, 9 k, 10 one, 11 two, 12 t -/
def b_least_curve : DS :=
  (dsSeq (dsAsg (dVar 0) (gdT 3 (gdCons (gdN 1) (gdCons (gdN 2) (gdCons (gdN 3) gdNil)))))
  (dsSeq (dsAsg (dCB oLen (dCons (dVar 1) dNil)) (gdN 4))
  (dsSeq (dsAsg (dFz (dLc (diRng1 (dCons (dOp oAdd (dVar 2) (dC (.int 1))) dNil)) (gdN 9) dYes (dCall m_value_at (dCons (dVar 0) (dCons (dOp oAdd (dOp oSub (dVar 4) (dVar 2)) (dVar 9)) dNil))) [9])) (gdN 5))
  (dsSeq (dsAsg (dCall m_least_period (dCons (dFz (dLc (diZip (dCons (dVar 5) (dCons (dFz (dSlF (dVar 5) (dPart (dC (.int 1))) dNoPart)) dNil))) (gdT 2 (gdCons (gdN 10) (gdCons (gdN 11) gdNil))) dYes (dOp oSub (dVar 11) (dVar 10)) [10, 11])) (dCons (dVar 2) dNil))) (gdN 6))
  (dsSeq (dsAsg (dOp oSub (dIx (dVar 5) (dVar 6)) (dIx (dVar 5) (dC (.int 0)))) (gdN 7))
  (dsSeq (dsAsg (dOp oSub (dVar 4) (dVar 2)) (gdN 8))
  (dsSeq (whileL (dAnd (dTst (dOp oGt (dVar 8) (dC (.int 0)))) (dTst (dOp oEq (dOp oAdd (dIx (dVar 1) (dOp oSub (dVar 8) (dC (.int 1)))) (dVar 7)) (dCall m_value_at (dCons (dVar 0) (dCons (dOp oAdd (dOp oSub (dVar 8) (dC (.int 1))) (dVar 6)) dNil)))))) (dsAug 8 (fun i j => i - j) (dC (.int 1))) 20000)
  (dsSeq (dsIf (dTst (dOp oGt (dOp oAdd (dVar 8) (dVar 6)) (dC (.int 4000)))) dsNever dsNil)
  (dsRet (dTup (dCons (dCB oTuple (dCons (dFz (dLc (diRng1 (dCons (dOp oAdd (dVar 8) (dVar 6)) dNil)) (gdN 12) dYes (dCall m_value_at (dCons (dVar 0) (dCons (dVar 12) dNil))) [12])) dNil)) (dCons (dVar 6) (dCons (dVar 7) dNil)))))))))))))
def m_least_curve : List D → Option D := runF 1 13 b_least_curve
/-- same_curve; slots: 0 f, 1 g -/
def b_same_curve : DS :=
  (dsRet (dOp oEq (dCall m_least_curve (dCons (dVar 0) dNil)) (dCall m_least_curve (dCons (dVar 1) dNil))))
def m_same_curve : List D → Option D := runF 2 2 b_same_curve
/-- first_above; slots: 0 f, 1 g, 2 d, 3 n, 4 t, 5 more, 6 found, 7 lack -/
def b_first_above : DS :=
  (dsSeq (dsAsg (dCall m_multiple_of (dCons (dVar 0) (dCons (dVar 1) dNil))) (gdN 2))
  (dsSeq (dsAsg (dCB oMax (dCons (dCB oLen (dCons (dIx (dVar 0) (dC (.int 0))) dNil)) (dCons (dCB oLen (dCons (dIx (dVar 1) (dC (.int 0))) dNil)) dNil))) (gdN 3))
  (dsSeq (dsFor (diRng1 (dCons (dOp oAdd (dVar 3) (dVar 2)) dNil)) (gdN 4) (dsIf (dTst (dOp oGt (dCall m_value_at (dCons (dVar 0) (dCons (dVar 4) dNil))) (dCall m_value_at (dCons (dVar 1) (dCons (dVar 4) dNil))))) (dsRet (dVar 4)) dsNil))
  (dsSeq (dsAsg (dOp oSub (dCall m_growth (dCons (dVar 0) (dCons (dVar 2) dNil))) (dCall m_growth (dCons (dVar 1) (dCons (dVar 2) dNil)))) (gdN 5))
  (dsSeq (dsIf (dTst (dOp oLe (dVar 5) (dC (.int 0)))) (dsRet (dC .non)) dsNil)
  (dsSeq (dsOwn 6 (dLst dNil))
  (dsSeq (dsFor (diRng2 (dCons (dVar 3) (dCons (dOp oAdd (dVar 3) (dVar 2)) dNil))) (gdN 4) (dsSeq (dsAsg (dOp oSub (dCall m_value_at (dCons (dVar 1) (dCons (dVar 4) dNil))) (dCall m_value_at (dCons (dVar 0) (dCons (dVar 4) dNil)))) (gdN 7))
  (dsApp 6 (dOp oAdd (dVar 4) (dOp oMul (dOp oAdd (dOp oFdiv (dVar 7) (dVar 5)) (dC (.int 1))) (dVar 2))))))
  (dsRet (dCB oMin (dCons (dVar 6) dNil))))))))))
def m_first_above : List D → Option D := runF 2 8 b_first_above
/-- compared_curves; slots: 0 f, 1 g, 2 found -/
def b_compared_curves : DS :=
  (dsSeq (dsAsg (dCall m_first_above (dCons (dVar 0) (dCons (dVar 1) dNil))) (gdN 2))
  (dsRet (dIf (dTst (dOp oIsN (dVar 2) (dC .non))) (dTup (dCons (dC (.str "at most")) dNil)) (dTup (dCons (dC (.str "above")) (dCons (dVar 2) dNil))))))
def m_compared_curves : List D → Option D := runF 2 3 b_compared_curves
/-- store_paper; slots: 0 f, 1 g, 2 d, 3 more, 4 best, 5 found, 6 t, 7 one -/
def b_store_paper : DS :=
  (dsSeq (dsAsg (dCall m_multiple_of (dCons (dVar 0) (dCons (dVar 1) dNil))) (gdN 2))
  (dsSeq (dsAsg (dOp oSub (dCall m_growth (dCons (dVar 0) (dCons (dVar 2) dNil))) (dCall m_growth (dCons (dVar 1) (dCons (dVar 2) dNil)))) (gdN 3))
  (dsSeq (dsIf (dTst (dOp oGt (dVar 3) (dC (.int 0)))) (dsRet (dTup (dCons (dC (.str "grows")) (dCons (dVar 2) (dCons (dVar 3) dNil))))) dsNil)
  (dsSeq (dsAsg (dTup (dCons (dC .non) (dCons (dC .non) dNil))) (gdT 2 (gdCons (gdN 4) (gdCons (gdN 5) gdNil))))
  (dsSeq (dsFor (diRng1 (dCons (dOp oAdd (dCB oMax (dCons (dCB oLen (dCons (dIx (dVar 0) (dC (.int 0))) dNil)) (dCons (dCB oLen (dCons (dIx (dVar 1) (dC (.int 0))) dNil)) dNil))) (dVar 2)) dNil)) (gdN 6) (dsSeq (dsAsg (dOp oSub (dCall m_value_at (dCons (dVar 0) (dCons (dVar 6) dNil))) (dCall m_value_at (dCons (dVar 1) (dCons (dVar 6) dNil)))) (gdN 7))
  (dsIf (dOr (dTst (dOp oIsN (dVar 4) (dC .non))) (dTst (dOp oGt (dVar 7) (dVar 4)))) (dsPar 4 5 (dCons (dVar 7) (dCons (dVar 6) dNil))) dsNil)))
  (dsRet (dTup (dCons (dC (.str "store")) (dCons (dVar 4) (dCons (dVar 5) dNil))))))))))
def m_store_paper : List D → Option D := runF 2 8 b_store_paper
/-- first_at_least; slots: 0 g, 1 value, 2 values, 3 period, 4 step, 5 t, 6 one, 7 n -/
def b_first_at_least : DS :=
  (dsSeq (dsAsg (dVar 0) (gdT 3 (gdCons (gdN 2) (gdCons (gdN 3) (gdCons (gdN 4) gdNil)))))
  (dsSeq (dsFor (diEnum (dCons (dVar 2) dNil)) (gdT 2 (gdCons (gdN 5) (gdCons (gdN 6) gdNil))) (dsIf (dTst (dOp oGe (dVar 6) (dVar 1))) (dsRet (dVar 5)) dsNil))
  (dsSeq (dsIf (dTst (dOp oEq (dVar 4) (dC (.int 0)))) (dsRet (dC .non)) dsNil)
  (dsSeq (dsAsg (dCB oLen (dCons (dVar 2) dNil)) (gdN 7))
  (dsSeq (dsAsg (dOp oAdd (dVar 7) (dOp oMul (dOp oFdiv (dOp oSub (dOp oSub (dVar 1) (dIx (dVar 2) (dNeg (dC (.int 1))))) (dC (.int 1))) (dVar 4)) (dVar 3))) (gdN 5))
  (dsSeq (whileL (dTst (dOp oLt (dCall m_value_at (dCons (dVar 0) (dCons (dVar 5) dNil))) (dVar 1))) (dsAug 5 (fun i j => i + j) (dC (.int 1))) 20000)
  (dsRet (dVar 5))))))))
def m_first_at_least : List D → Option D := runF 2 8 b_first_at_least
/-- reach; slots: 0 f, 1 g, 2 found -/
def b_reach : DS :=
  (dsSeq (dsAsg (dCall m_first_at_least (dCons (dVar 0) (dCons (dIx (dIx (dVar 1) (dC (.int 0))) (dNeg (dC (.int 1)))) dNil))) (gdN 2))
  (dsRet (dIf (dTst (dOp oIsN (dVar 2) (dC .non))) (dC (.int 0)) (dVar 2))))
def m_reach : List D → Option D := runF 2 3 b_reach
/-- delay_bound; slots: 0 f, 1 g, 2 d, 3 n, 4 top, 5 above, 6 best, 7 found, 8 t, 9 one -/
def b_delay_bound : DS :=
  (dsSeq (dsAsg (dCall m_multiple_of (dCons (dVar 0) (dCons (dVar 1) dNil))) (gdN 2))
  (dsSeq (dsAsg (dOp oAdd (dCB oLen (dCons (dIx (dVar 0) (dC (.int 0))) dNil)) (dCB oLen (dCons (dIx (dVar 1) (dC (.int 0))) dNil))) (gdN 3))
  (dsSeq (dsIf (dTst (dOp oEq (dIx (dVar 1) (dC (.int 2))) (dC (.int 0)))) (dsSeq (dsAsg (dIx (dIx (dVar 1) (dC (.int 0))) (dNeg (dC (.int 1)))) (gdN 4))
  (dsSeq (dsAsg (dCall m_first_at_least (dCons (dVar 0) (dCons (dOp oAdd (dVar 4) (dC (.int 1))) dNil))) (gdN 5))
  (dsIf (dTst (dOp oNotN (dVar 5) (dC .non))) (dsRet (dTup (dCons (dC (.str "never")) (dCons (dVar 5) dNil)))) dsNil))) dsNil)
  (dsSeq (dsIf (dTst (dOp oGt (dCall m_growth (dCons (dVar 0) (dCons (dVar 2) dNil))) (dCall m_growth (dCons (dVar 1) (dCons (dVar 2) dNil))))) (dsRet (dTup (dCons (dC (.str "grows")) dNil))) dsNil)
  (dsSeq (dsAsg (dTup (dCons (dC (.int 0)) (dCons (dC .non) dNil))) (gdT 2 (gdCons (gdN 6) (gdCons (gdN 7) gdNil))))
  (dsSeq (dsFor (diRng1 (dCons (dOp oAdd (dOp oAdd (dVar 3) (dCall m_reach (dCons (dVar 0) (dCons (dVar 1) dNil)))) (dOp oMul (dC (.int 2)) (dVar 2))) dNil)) (gdN 8) (dsSeq (dsAsg (dOp oSub (dCall m_first_at_least (dCons (dVar 1) (dCons (dCall m_value_at (dCons (dVar 0) (dCons (dVar 8) dNil))) dNil))) (dVar 8)) (gdN 9))
  (dsIf (dTst (dOp oGt (dVar 9) (dVar 6))) (dsPar 6 7 (dCons (dVar 9) (dCons (dVar 8) dNil))) dsNil)))
  (dsRet (dTup (dCons (dC (.str "delay")) (dCons (dVar 6) (dCons (dVar 7) dNil)))))))))))
def m_delay_bound : List D → Option D := runF 2 10 b_delay_bound
/-- Pair.__init__; slots: 0 self, 1 f, 2 g -/
def b_Pair___init__ : DS :=
  (dsSeq (dsFld 0 "f" 0 (dVar 1))
  (dsSeq (dsFld 0 "g" 0 (dVar 2))
  (dsSeq (dsFld 0 "d" 0 (dCall m_multiple_of (dCons (dVar 1) (dCons (dVar 2) dNil))))
  (dsFld 0 "n" 0 (dCB oMax (dCons (dCB oLen (dCons (dIx (dVar 1) (dC (.int 0))) dNil)) (dCons (dCB oLen (dCons (dIx (dVar 2) (dC (.int 0))) dNil)) dNil)))))))
def m_Pair___init__ : D → List D → Option (D × D) := runC 3 3 b_Pair___init__
/-- Pair.values; slots: 0 self, 1 t -/
def b_Pair_values : DS :=
  (dsRet (dTup (dCons (dCall m_value_at (dCons (dFld 0 "f" (dVar 0)) (dCons (dVar 1) dNil))) (dCons (dCall m_value_at (dCons (dFld 0 "g" (dVar 0)) (dCons (dVar 1) dNil))) dNil))))
def m_Pair_values : List D → Option D := runF 2 2 b_Pair_values
/-- Pair.settled; slots: 0 self, 1 more, 2 other, 3 first, 4 n, 5 least, 6 turns, 7 t -/
def b_Pair_settled (m_Pair_settled : Nat → List D → Option D) (n : Nat) : DS :=
  (dsSeq (dsAsg (dOp oSub (dCall m_growth (dCons (dFld 0 "g" (dVar 0)) (dCons (dFld 0 "d" (dVar 0)) dNil))) (dCall m_growth (dCons (dFld 0 "f" (dVar 0)) (dCons (dFld 0 "d" (dVar 0)) dNil)))) (gdN 1))
  (dsSeq (dsIf (dTst (dOp oLt (dVar 1) (dC (.int 0)))) (dsSeq (dsAsg (dMake 0 m_Pair___init__ (dCons (dFld 0 "g" (dVar 0)) (dCons (dFld 0 "f" (dVar 0)) dNil))) (gdN 2))
  (dsSeq (dsAsg (dMeth 0 "settled" (m_Pair_settled n) (dVar 2) dNil) (gdT 2 (gdCons (gdN 3) (gdCons (gdN 4) gdNil))))
  (dsRet (dTup (dCons (dVar 3) (dCons (dVar 4) dNil)))))) dsNil)
  (dsSeq (dsIf (dTst (dOp oEq (dVar 1) (dC (.int 0)))) (dsRet (dTup (dCons (dC .non) (dCons (dFld 0 "n" (dVar 0)) dNil)))) dsNil)
  (dsSeq (dsAsg (dCB oMin (dCons (dFz (dLc (diRng2 (dCons (dFld 0 "n" (dVar 0)) (dCons (dOp oAdd (dFld 0 "n" (dVar 0)) (dFld 0 "d" (dVar 0))) dNil))) (gdN 7) dYes (dOp oSub (dCall m_value_at (dCons (dFld 0 "g" (dVar 0)) (dCons (dVar 7) dNil))) (dCall m_value_at (dCons (dFld 0 "f" (dVar 0)) (dCons (dVar 7) dNil)))) [7])) dNil)) (gdN 5))
  (dsSeq (dsAsg (dCB oMax (dCons (dC (.int 0)) (dCons (dNeg (dOp oFdiv (dVar 5) (dVar 1))) dNil))) (gdN 6))
  (dsRet (dTup (dCons (dFld 0 "f" (dVar 0)) (dCons (dOp oAdd (dFld 0 "n" (dVar 0)) (dOp oMul (dVar 6) (dFld 0 "d" (dVar 0)))) dNil)))))))))
def m_Pair_settled : Nat → List D → Option D
  | 0 => fun _ => none
  | n + 1 => runF 1 8 (b_Pair_settled (fun _ => m_Pair_settled n) n)
/-- sum_of; slots: 0 f, 1 g, 2 pair, 3 row, 4 t -/
def b_sum_of : DS :=
  (dsSeq (dsAsg (dMake 0 m_Pair___init__ (dCons (dVar 0) (dCons (dVar 1) dNil))) (gdN 2))
  (dsSeq (dsAsg (dFz (dLc (diRng1 (dCons (dOp oAdd (dFld 0 "n" (dVar 2)) (dFld 0 "d" (dVar 2))) dNil)) (gdN 4) dYes (dCB oSum (dCons (dMeth 0 "values" m_Pair_values (dVar 2) (dCons (dVar 4) dNil)) dNil)) [4])) (gdN 3))
  (dsRet (dCall m_least_curve (dCons (dTup (dCons (dCB oTuple (dCons (dVar 3) dNil)) (dCons (dFld 0 "d" (dVar 2)) (dCons (dOp oAdd (dCall m_growth (dCons (dVar 0) (dCons (dFld 0 "d" (dVar 2)) dNil))) (dCall m_growth (dCons (dVar 1) (dCons (dFld 0 "d" (dVar 2)) dNil)))) dNil)))) dNil)))))
def m_sum_of : List D → Option D := runF 2 5 b_sum_of
/-- times_of; slots: 0 f, 1 k, 2 one -/
def b_times_of : DS :=
  (dsRet (dCall m_least_curve (dCons (dTup (dCons (dCB oTuple (dCons (dFz (dLc (diSeq (dIx (dVar 0) (dC (.int 0)))) (gdN 2) dYes (dOp oMul (dVar 1) (dVar 2)) [2])) dNil)) (dCons (dIx (dVar 0) (dC (.int 1))) (dCons (dOp oMul (dVar 1) (dIx (dVar 0) (dC (.int 2)))) dNil)))) dNil)))
def m_times_of : List D → Option D := runF 2 3 b_times_of
/-- lower_of; slots: 0 f, 1 g, 2 pair, 3 first, 4 n, 5 d, 6 more, 7 t -/
def b_lower_of : DS :=
  (dsSeq (dsAsg (dMake 0 m_Pair___init__ (dCons (dVar 0) (dCons (dVar 1) dNil))) (gdN 2))
  (dsSeq (dsAsg (dMeth 0 "settled" (m_Pair_settled 3) (dVar 2) dNil) (gdT 2 (gdCons (gdN 3) (gdCons (gdN 4) gdNil))))
  (dsSeq (dsAsg (dIf (dTst (dOp oIsN (dVar 3) (dC .non))) (dFld 0 "d" (dVar 2)) (dIx (dVar 3) (dC (.int 1)))) (gdN 5))
  (dsSeq (dsAsg (dIf (dTst (dOp oIsN (dVar 3) (dC .non))) (dCall m_growth (dCons (dVar 0) (dCons (dVar 5) dNil))) (dIx (dVar 3) (dC (.int 2)))) (gdN 6))
  (dsSeq (dsIf (dTst (dOp oGt (dOp oSub (dVar 4) (dFld 0 "d" (dVar 2))) (dC (.int 4000)))) dsNever dsNil)
  (dsRet (dCall m_least_curve (dCons (dTup (dCons (dCB oTuple (dCons (dFz (dLc (diRng1 (dCons (dOp oAdd (dVar 4) (dVar 5)) dNil)) (gdN 7) dYes (dCB oMin (dCons (dMeth 0 "values" m_Pair_values (dVar 2) (dCons (dVar 7) dNil)) dNil)) [7])) dNil)) (dCons (dVar 5) (dCons (dVar 6) dNil)))) dNil))))))))
def m_lower_of : List D → Option D := runF 2 8 b_lower_of
/-- upper_of; slots: 0 f, 1 g -/
def b_upper_of : DS :=
  (dsRet (dCall m_times_of (dCons (dCall m_lower_of (dCons (dCall m_times_of (dCons (dVar 0) (dCons (dNeg (dC (.int 1))) dNil))) (dCons (dCall m_times_of (dCons (dVar 1) (dCons (dNeg (dC (.int 1))) dNil))) dNil))) (dCons (dNeg (dC (.int 1))) dNil))))
def m_upper_of : List D → Option D := runF 2 2 b_upper_of
/-- later; slots: 0 f, 1 k, 2 n, 3 t -/
def b_later : DS :=
  (dsSeq (dsAsg (dCB oMax (dCons (dCB oLen (dCons (dIx (dVar 0) (dC (.int 0))) dNil)) (dCons (dIx (dVar 0) (dC (.int 1))) dNil))) (gdN 2))
  (dsRet (dCall m_least_curve (dCons (dTup (dCons (dCB oTuple (dCons (dFz (dLc (diRng1 (dCons (dVar 2) dNil)) (gdN 3) dYes (dCall m_value_at (dCons (dVar 0) (dCons (dOp oAdd (dVar 3) (dVar 1)) dNil))) [3])) dNil)) (dCons (dIx (dVar 0) (dC (.int 1))) (dCons (dIx (dVar 0) (dC (.int 2))) dNil)))) dNil))))
def m_later : List D → Option D := runF 2 4 b_later
/-- one_sided; slots: 0 f, 1 g, 2 d, 3 low, 4 row, 5 t, 6 s -/
def b_one_sided : DS :=
  (dsSeq (dsAsg (dOp oAdd (dCB oLen (dCons (dIx (dVar 0) (dC (.int 0))) dNil)) (dVar 2)) (gdN 3))
  (dsSeq (dsOwn 4 (dLst dNil))
  (dsSeq (dsFor (diRng1 (dCons (dOp oAdd (dOp oAdd (dVar 3) (dCB oLen (dCons (dIx (dVar 1) (dC (.int 0))) dNil))) (dIx (dVar 1) (dC (.int 1)))) dNil)) (gdN 5) (dsApp 4 (dCB oMin (dCons (dFz (dLc (diRng1 (dCons (dCB oMin (dCons (dVar 3) (dCons (dOp oAdd (dVar 5) (dC (.int 1))) dNil))) dNil)) (gdN 6) dYes (dOp oAdd (dCall m_value_at (dCons (dVar 0) (dCons (dVar 6) dNil))) (dCall m_value_at (dCons (dVar 1) (dCons (dOp oSub (dVar 5) (dVar 6)) dNil)))) [6])) dNil))))
  (dsRet (dTup (dCons (dCB oTuple (dCons (dVar 4) dNil)) (dCons (dIx (dVar 1) (dC (.int 1))) (dCons (dIx (dVar 1) (dC (.int 2))) dNil))))))))
def m_one_sided : List D → Option D := runF 3 7 b_one_sided
/-- joined; slots: 0 f, 1 g, 2 d -/
def b_joined : DS :=
  (dsSeq (dsAsg (dCall m_multiple_of (dCons (dVar 0) (dCons (dVar 1) dNil))) (gdN 2))
  (dsRet (dCall m_lower_of (dCons (dCall m_one_sided (dCons (dVar 0) (dCons (dVar 1) (dCons (dVar 2) dNil)))) (dCons (dCall m_one_sided (dCons (dVar 1) (dCons (dVar 0) (dCons (dVar 2) dNil)))) dNil)))))
def m_joined : List D → Option D := runF 2 3 b_joined
/-- _law_start; slots: 0 script, 1 cell -/
def b__law_start : DS :=
  (dsRetF (dLst (dCons (dFz (dLc (diSeq (dFz (dSlF (dVar 0) dNoPart (dPart (dC (.int 63)))))) (gdN 1) dYes (dCB oToInt (dCons (dVar 1) dNil)) [1])) (dCons (dC (.int 0)) (dCons (dC (.int 0)) (dCons (dC (.int 0)) (dCons (dC (.int 20)) dNil)))))))
def m__law_start : List D → Option (List D) := runN 1 2 b__law_start
/-- _law_fill; slots: 0 c, 1 number -/
def b__law_fill : DS :=
  (dsSeq (dsSet 0 (dC (.int 3)) (dOp oAdd (dIx (dVar 0) (dC (.int 3))) (dC (.int 1))))
  (dsSeq (dsAsg (dOp oAdd (dOp oMul (dIx (dVar 0) (dC (.int 3))) (dC (.int 69621))) (dC (.int 12345))) (gdN 1))
  (dsSeq (dsIf (dTst (dOp oLt (dIx (dVar 0) (dC (.int 1))) (dCB oLen (dCons (dIx (dVar 0) (dC (.int 0))) dNil)))) (dsSeq (dsAsg (dCB oMax (dCons (dIx (dIx (dVar 0) (dC (.int 0))) (dIx (dVar 0) (dC (.int 1)))) (dCons (dOp oSub (dOp oSub (dC (.int 0)) (dC (.int 1))) (dIx (dIx (dVar 0) (dC (.int 0))) (dIx (dVar 0) (dC (.int 1))))) dNil))) (gdN 1))
  (dsSeq (dsSet 0 (dC (.int 1)) (dOp oAdd (dIx (dVar 0) (dC (.int 1))) (dC (.int 1))))
  (dsIf (dTst (dOp oGe (dVar 1) (dOp oPow (dC (.int 10)) (dC (.int 18))))) (dsRet (dVar 1)) dsNil))) dsNil)
  (dsSeq (dsIf (dAnd (dTru (dIx (dVar 0) (dC (.int 0)))) (dTst (dOp oGe (dIx (dVar 0) (dC (.int 1))) (dCB oLen (dCons (dIx (dVar 0) (dC (.int 0))) dNil))))) (dsAsg (dOp oAdd (dVar 1) (dOp oMod (dCB oToInt (dCons (dIx (dIx (dVar 0) (dC (.int 0))) (dNeg (dC (.int 1)))) dNil)) (dC (.int 1000003)))) (gdN 1)) dsNil)
  (dsSeq (dsAsg (dOp oMod (dCB oToInt (dCons (dOp oAdd (dOp oMul (dVar 1) (dC (.int 48271))) (dOp oMul (dIx (dVar 0) (dC (.int 3))) (dC (.int 69621)))) dNil)) (dC (.int 2147483647))) (gdN 1))
  (dsRet (dOp oAdd (dOp oFdiv (dCB oToInt (dCons (dOp oAdd (dOp oAdd (dOp oMul (dVar 1) (dVar 1)) (dOp oMul (dIx (dVar 0) (dC (.int 3))) (dC (.int 7919)))) (dC (.int 11))) dNil)) (dC (.int 64))) (dC (.int 36028797018963968)))))))))
def m__law_fill : D → List D → Option (D × D) := runC 1 2 b__law_fill
/-- _law_take; slots: 0 c, 1 many, 2 digit -/
def b__law_take : DS :=
  (dsSeq (dsIf (dTst (dOp oLt (dIx (dVar 0) (dC (.int 2))) (dVar 1))) (dsSet 0 (dC (.int 2)) (dCallC m__law_fill (dCons (dVar 0) dNil))) dsNil)
  (dsSeq (dsAsg (dOp oMod (dCB oToInt (dCons (dIx (dVar 0) (dC (.int 2))) dNil)) (dVar 1)) (gdN 2))
  (dsSeq (dsSet 0 (dC (.int 2)) (dOp oFdiv (dIx (dVar 0) (dC (.int 2))) (dVar 1)))
  (dsRet (dVar 2)))))
def m__law_take : D → List D → Option (D × D) := runC 2 3 b__law_take
/-- _law_said; slots: 0 said, 1 due -/
def b__law_said : DS :=
  (dsRet (dAndV (dIsi "bool" (dVar 0)) (dOp oEq (dVar 0) (dVar 1))))
def m__law_said : List D → Option D := runF 2 2 b__law_said
/-- _law_gcd; slots: 0 a, 1 b, 2 turn -/
def b__law_gcd : DS :=
  (dsSeq (dsFor (diRng1 (dCons (dC (.int 60)) dNil)) (gdN 2) (dsSeq (dsIf (dTst (dOp oEq (dVar 1) (dC (.int 0)))) dsBreak dsNil)
  (dsPar 0 1 (dCons (dVar 1) (dCons (dOp oMod (dVar 0) (dVar 1)) dNil)))))
  (dsRet (dVar 0)))
def m__law_gcd : List D → Option D := runF 2 3 b__law_gcd
/-- _law_curve; slots: 0 c, 1 rising, 2 n, 3 period, 4 values, 5 turn, 6 step -/
def b__law_curve : DS :=
  (dsSeq (dsAsg (dOp oAdd (dC (.int 1)) (dCallC m__law_take (dCons (dVar 0) (dCons (dC (.int 4)) dNil)))) (gdN 2))
  (dsSeq (dsAsg (dOp oAdd (dC (.int 1)) (dCallC m__law_take (dCons (dVar 0) (dCons (dVar 2) dNil)))) (gdN 3))
  (dsSeq (dsOwn 4 (dLst (dCons (dOp oSub (dCallC m__law_take (dCons (dVar 0) (dCons (dC (.int 5)) dNil))) (dC (.int 2))) dNil)))
  (dsSeq (dsFor (diRng1 (dCons (dOp oSub (dVar 2) (dC (.int 1))) dNil)) (gdN 5) (dsApp 4 (dIf (dTru (dVar 1)) (dOp oAdd (dIx (dVar 4) (dOp oSub (dCB oLen (dCons (dVar 4) dNil)) (dC (.int 1)))) (dCallC m__law_take (dCons (dVar 0) (dCons (dC (.int 4)) dNil)))) (dOp oSub (dCallC m__law_take (dCons (dVar 0) (dCons (dC (.int 7)) dNil))) (dC (.int 3))))))
  (dsSeq (dsAsg (dOp oSub (dCallC m__law_take (dCons (dVar 0) (dCons (dC (.int 7)) dNil))) (dC (.int 3))) (gdN 6))
  (dsSeq (dsIf (dTru (dVar 1)) (dsAsg (dOp oAdd (dOp oSub (dIx (dVar 4) (dOp oSub (dVar 2) (dC (.int 1)))) (dIx (dVar 4) (dOp oSub (dVar 2) (dVar 3)))) (dCallC m__law_take (dCons (dVar 0) (dCons (dC (.int 3)) dNil)))) (gdN 6)) dsNil)
  (dsRet (dTup (dCons (dCB oTuple (dCons (dVar 4) dNil)) (dCons (dVar 3) (dCons (dVar 6) dNil)))))))))))
def m__law_curve : D → List D → Option (D × D) := runC 2 7 b__law_curve
/-- _law_at; slots: 0 curve, 1 t, 2 values, 3 period, 4 step, 5 n, 6 turns -/
def b__law_at : DS :=
  (dsSeq (dsAsg (dVar 0) (gdT 3 (gdCons (gdN 2) (gdCons (gdN 3) (gdCons (gdN 4) gdNil)))))
  (dsSeq (dsAsg (dCB oLen (dCons (dVar 2) dNil)) (gdN 5))
  (dsSeq (dsIf (dTst (dOp oLt (dVar 1) (dVar 5))) (dsRet (dIx (dVar 2) (dVar 1))) dsNil)
  (dsSeq (dsAsg (dOp oAdd (dOp oFdiv (dOp oSub (dVar 1) (dVar 5)) (dVar 3)) (dC (.int 1))) (gdN 6))
  (dsRet (dOp oAdd (dIx (dVar 2) (dOp oSub (dVar 1) (dOp oMul (dVar 6) (dVar 3)))) (dOp oMul (dVar 6) (dVar 4))))))))
def m__law_at : List D → Option D := runF 2 7 b__law_at
/-- _law_form; slots: 0 row, 1 begin, 2 period, 3 size, 4 step, 5 first, 6 t -/
def b__law_form : DS :=
  (dsSeq (dsFor (diRng2 (dCons (dC (.int 1)) (dCons (dOp oAdd (dVar 2) (dC (.int 1))) dNil))) (gdN 3) (dsSeq (dsAsg (dOp oSub (dIx (dVar 0) (dOp oAdd (dVar 1) (dVar 3))) (dIx (dVar 0) (dVar 1))) (gdN 4))
  (dsIf (dTru (dCB oAll (dCons (dFz (dLc (diRng2 (dCons (dVar 1) (dCons (dOp oAdd (dVar 1) (dOp oMul (dC (.int 2)) (dVar 2))) dNil))) (gdN 6) dYes (dOp oEq (dOp oSub (dIx (dVar 0) (dOp oAdd (dVar 6) (dVar 3))) (dIx (dVar 0) (dVar 6))) (dVar 4)) [6])) dNil))) (dsFor (diRng1 (dCons (dOp oAdd (dVar 1) (dC (.int 1))) dNil)) (gdN 5) (dsIf (dTru (dCB oAll (dCons (dFz (dLc (diRng2 (dCons (dVar 5) (dCons (dOp oAdd (dVar 1) (dOp oMul (dC (.int 2)) (dVar 2))) dNil))) (gdN 6) dYes (dOp oEq (dOp oSub (dIx (dVar 0) (dOp oAdd (dVar 6) (dVar 3))) (dIx (dVar 0) (dVar 6))) (dVar 4)) [6])) dNil))) (dsRet (dTup (dCons (dCB oTuple (dCons (dFz (dSlF (dVar 0) dNoPart (dPart (dOp oAdd (dVar 5) (dVar 3))))) dNil)) (dCons (dVar 3) (dCons (dVar 4) dNil))))) dsNil)) dsNil)))
  (dsRet (dC .non)))
def m__law_form : List D → Option D := runF 3 7 b__law_form
/-- _law_delay; slots: 0 f, 1 g, 2 one, 3 two, 4 top, 5 best, 6 t, 7 turn, 8 part -/
def b__law_delay : DS :=
  (dsSeq (dsAsg (dIf (dTst (dOp oEq (dIx (dVar 1) (dC (.int 2))) (dC (.int 0)))) (dCB oMax (dCons (dVar 3) dNil)) (dC .non)) (gdN 4))
  (dsSeq (dsIf (dAnd (dTst (dOp oNotN (dVar 4) (dC .non))) (dTru (dCB oAny (dCons (dFz (dLc (diSeq (dVar 2)) (gdN 8) dYes (dOp oGt (dVar 8) (dVar 4)) [8])) dNil)))) (dsRet (dTup (dCons (dC (.str "never")) (dCons (dIdx (dFz (dLc (diSeq (dVar 2)) (gdN 8) dYes (dOp oGt (dVar 8) (dVar 4)) [8])) (dC (.bl true))) dNil)))) dsNil)
  (dsSeq (dsIf (dTst (dOp oGt (dOp oMul (dIx (dVar 0) (dC (.int 2))) (dIx (dVar 1) (dC (.int 1)))) (dOp oMul (dIx (dVar 1) (dC (.int 2))) (dIx (dVar 0) (dC (.int 1)))))) (dsRet (dTup (dCons (dC (.str "grows")) dNil))) dsNil)
  (dsSeq (dsAsg (dC (.int 0)) (gdN 5))
  (dsSeq (dsFor (diRng1 (dCons (dC (.int 250)) dNil)) (gdN 6) (dsFor (diRng1 (dCons (dC (.int 400)) dNil)) (gdN 7) (dsSeq (dsIf (dTst (dOp oLe (dIx (dVar 2) (dVar 6)) (dIx (dVar 3) (dOp oAdd (dVar 6) (dVar 5))))) dsBreak dsNil)
  (dsAsg (dOp oAdd (dVar 5) (dC (.int 1))) (gdN 5)))))
  (dsSeq (dsFor (diRng1 (dCons (dC (.int 250)) dNil)) (gdN 6) (dsIf (dAnd (dTst (dOp oGt (dVar 5) (dC (.int 0)))) (dTst (dOp oGt (dIx (dVar 2) (dVar 6)) (dIx (dVar 3) (dOp oSub (dOp oAdd (dVar 6) (dVar 5)) (dC (.int 1))))))) (dsRet (dTup (dCons (dC (.str "delay")) (dCons (dVar 5) (dCons (dVar 6) dNil))))) dsNil))
  (dsRet (dTup (dCons (dC (.str "delay")) (dCons (dC (.int 0)) (dCons (dC .non) dNil)))))))))))
def m__law_delay : List D → Option D := runF 4 9 b__law_delay
/-- law; slots: 0 script, 1 c, 2 rising, 3 f, 4 g, 5 most, 6 one, 7 two, 8 k, 9 t, 10 whole, 11 by, 12 low, 13 high, 14 made, 15 j, 16 above, 17 far, 18 d, 19 more, 20 due, 21 curve, 22 part, 23 i -/
def b_law : DS :=
  (dsCell 1 (dCallN m__law_start (dCons (dVar 0) dNil))
  (dsSeq (dsAsg (dOp oEq (dCallC m__law_take (dCons (dVar 1) (dCons (dC (.int 2)) dNil))) (dC (.int 0))) (gdN 2))
  (dsSeq (dsPar 3 4 (dCons (dCallC m__law_curve (dCons (dVar 1) (dCons (dVar 2) dNil))) (dCons (dCallC m__law_curve (dCons (dVar 1) (dCons (dVar 2) dNil))) dNil)))
  (dsSeq (dsAsg (dC (.int 900)) (gdN 5))
  (dsSeq (dsAsg (dFz (dLc (diSeq (dFz (dLst (dCons (dVar 3) (dCons (dVar 4) dNil))))) (gdN 21) dYes (dFz (dLc (diRng1 (dCons (dVar 5) dNil)) (gdN 9) dYes (dCall m__law_at (dCons (dVar 21) (dCons (dVar 9) dNil))) [9])) [21])) (gdT 2 (gdCons (gdN 6) (gdCons (gdN 7) gdNil))))
  (dsSeq (dsPar 8 9 (dCons (dCallC m__law_take (dCons (dVar 1) (dCons (dC (.int 6)) dNil))) (dCons (dCallC m__law_take (dCons (dVar 1) (dCons (dC (.int 300)) dNil))) dNil)))
  (dsSeq (dsAsg (dOp oMul (dIx (dVar 3) (dC (.int 1))) (dIx (dVar 4) (dC (.int 1)))) (gdN 10))
  (dsSeq (dsIf (dOr (dTst (dOp oNe (dCall m_value_at (dCons (dVar 3) (dCons (dVar 9) dNil))) (dIx (dVar 6) (dVar 9)))) (dOr (dTst (dOp oNe (dCall m_least_curve (dCons (dVar 3) dNil)) (dCall m__law_form (dCons (dVar 6) (dCons (dC (.int 10)) (dCons (dIx (dVar 3) (dC (.int 1))) dNil)))))) (dNot (dTru (dCall m__law_said (dCons (dCall m_same_curve (dCons (dVar 3) (dCons (dVar 4) dNil))) (dCons (dOp oEq (dVar 6) (dVar 7)) dNil))))))) (dsRet (dC (.bl false))) dsNil)
  (dsSeq (dsAsg (dOp oSub (dCallC m__law_take (dCons (dVar 1) (dCons (dC (.int 5)) dNil))) (dC (.int 2))) (gdN 11))
  (dsSeq (dsIf (dOr (dTst (dOp oNe (dCall m_times_of (dCons (dVar 3) (dCons (dVar 11) dNil))) (dCall m__law_form (dCons (dFz (dLc (diSeq (dVar 6)) (gdN 22) dYes (dOp oMul (dVar 11) (dVar 22)) [22])) (dCons (dC (.int 10)) (dCons (dIx (dVar 3) (dC (.int 1))) dNil)))))) (dTst (dOp oNe (dCall m_later (dCons (dVar 3) (dCons (dVar 8) dNil))) (dCall m__law_form (dCons (dFz (dSlF (dVar 6) (dPart (dVar 8)) dNoPart)) (dCons (dC (.int 10)) (dCons (dIx (dVar 3) (dC (.int 1))) dNil))))))) (dsRet (dC (.bl false))) dsNil)
  (dsSeq (dsIf (dTst (dOp oNe (dCall m_sum_of (dCons (dVar 3) (dCons (dVar 4) dNil))) (dCall m__law_form (dCons (dFz (dLc (diRng1 (dCons (dVar 5) dNil)) (gdN 15) dYes (dOp oAdd (dIx (dVar 6) (dVar 15)) (dIx (dVar 7) (dVar 15))) [15])) (dCons (dC (.int 10)) (dCons (dVar 10) dNil)))))) (dsRet (dC (.bl false))) dsNil)
  (dsSeq (dsPar 12 13 (dCons (dFz (dLc (diRng1 (dCons (dVar 5) dNil)) (gdN 15) dYes (dCB oMin (dCons (dIx (dVar 6) (dVar 15)) (dCons (dIx (dVar 7) (dVar 15)) dNil))) [15])) (dCons (dFz (dLc (diRng1 (dCons (dVar 5) dNil)) (gdN 15) dYes (dCB oMax (dCons (dIx (dVar 6) (dVar 15)) (dCons (dIx (dVar 7) (dVar 15)) dNil))) [15])) dNil)))
  (dsSeq (dsIf (dOr (dTst (dOp oNe (dCall m_lower_of (dCons (dVar 3) (dCons (dVar 4) dNil))) (dCall m__law_form (dCons (dVar 12) (dCons (dC (.int 500)) (dCons (dVar 10) dNil)))))) (dTst (dOp oNe (dCall m_upper_of (dCons (dVar 3) (dCons (dVar 4) dNil))) (dCall m__law_form (dCons (dVar 13) (dCons (dC (.int 500)) (dCons (dVar 10) dNil))))))) (dsRet (dC (.bl false))) dsNil)
  (dsSeq (dsAsg (dCall m_joined (dCons (dVar 3) (dCons (dVar 4) dNil))) (gdN 14))
  (dsSeq (dsFor (diRng3 (dCons (dC (.int 0)) (dCons (dC (.int 60)) (dCons (dC (.int 7)) dNil)))) (gdN 15) (dsIf (dTst (dOp oNe (dCall m_value_at (dCons (dVar 14) (dCons (dVar 15) dNil))) (dCB oMin (dCons (dFz (dLc (diRng1 (dCons (dOp oAdd (dVar 15) (dC (.int 1))) dNil)) (gdN 23) dYes (dOp oAdd (dIx (dVar 6) (dVar 23)) (dIx (dVar 7) (dOp oSub (dVar 15) (dVar 23)))) [23])) dNil)))) (dsRet (dC (.bl false))) dsNil))
  (dsSeq (dsIf (dOr (dTst (dOp oNe (dVar 14) (dCall m_joined (dCons (dVar 4) (dCons (dVar 3) dNil))))) (dTst (dOp oNe (dVar 14) (dCall m_least_curve (dCons (dVar 14) dNil))))) (dsRet (dC (.bl false))) dsNil)
  (dsSeq (dsAsg (dFz (dLc (diRng1 (dCons (dVar 5) dNil)) (gdN 15) (dTst (dOp oGt (dIx (dVar 6) (dVar 15)) (dIx (dVar 7) (dVar 15)))) (dVar 15) [15])) (gdN 16))
  (dsSeq (dsIf (dTst (dOp oNe (dCall m_compared_curves (dCons (dVar 3) (dCons (dVar 4) dNil))) (dIf (dTru (dVar 16)) (dTup (dCons (dC (.str "above")) (dCons (dIx (dVar 16) (dC (.int 0))) dNil))) (dTup (dCons (dC (.str "at most")) dNil))))) (dsRet (dC (.bl false))) dsNil)
  (dsSeq (dsAsg (dFz (dLc (diRng1 (dCons (dVar 5) dNil)) (gdN 15) dYes (dOp oSub (dIx (dVar 6) (dVar 15)) (dIx (dVar 7) (dVar 15))) [15])) (gdN 17))
  (dsSeq (dsAsg (dOp oFdiv (dVar 10) (dCall m__law_gcd (dCons (dIx (dVar 3) (dC (.int 1))) (dCons (dIx (dVar 4) (dC (.int 1))) dNil)))) (gdN 18))
  (dsSeq (dsAsg (dOp oSub (dIx (dVar 17) (dOp oAdd (dC (.int 600)) (dVar 18))) (dIx (dVar 17) (dC (.int 600)))) (gdN 19))
  (dsSeq (dsAsg (dIf (dTst (dOp oGt (dVar 19) (dC (.int 0)))) (dTup (dCons (dC (.str "grows")) (dCons (dVar 18) (dCons (dVar 19) dNil)))) (dTup (dCons (dC (.str "store")) (dCons (dCB oMax (dCons (dVar 17) dNil)) (dCons (dIdx (dVar 17) (dCB oMax (dCons (dVar 17) dNil))) dNil))))) (gdN 20))
  (dsSeq (dsIf (dTst (dOp oNe (dCall m_store_paper (dCons (dVar 3) (dCons (dVar 4) dNil))) (dVar 20))) (dsRet (dC (.bl false))) dsNil)
  (dsRet (dOrV (dNotV (dVar 2)) (dOp oEq (dCall m_delay_bound (dCons (dVar 3) (dCons (dVar 4) dNil))) (dCall m__law_delay (dCons (dVar 3) (dCons (dVar 4) (dCons (dVar 6) (dCons (dVar 7) dNil)))))))))))))))))))))))))))))))
def m_law : List D → Option D := runF 1 24 b_law
end K54

set_option autoImplicit true
set_option relaxedAutoImplicit true
set_option Elab.async false
set_option linter.all false
set_option maxRecDepth 100000
set_option maxHeartbeats 4000000
/-! WP: what a function over deep data ends in; rules for simp. Nl holds simp off what follows. Printed by mkwp.py -/
namespace DL
open PySem L2
inductive Nl {α : Sort u} (a : α) : Type where
  | mk

@[irreducible] def wE (f : DE) (S : List Sl) (cs : Option D) (Q : R → Option D → Prop) (_ : Nl Q) : Prop := match f S cs with
  | some (r, c) => Q r c
  | none => False
@[irreducible] def wT (f : DT) (S : List Sl) (cs : Option D) (Q : Bool → Option D → Prop) (_ : Nl Q) : Prop := match f S cs with
  | some (r, c) => Q r c
  | none => False
@[irreducible] def wA (f : DA) (S : List Sl) (cs : Option D) (Q : List R → Option D → Prop) (_ : Nl Q) : Prop := match f S cs with
  | some (r, c) => Q r c
  | none => False
@[irreducible] def wF (f : DF) (S : List Sl) (cs : Option D) (Q : List D → Option D → Prop) (_ : Nl Q) : Prop := match f S cs with
  | some (r, c) => Q r c
  | none => False
@[irreducible] def wO (f : DO) (S : List Sl) (cs : Option D) (Q : Option Int → Option D → Prop) (_ : Nl Q) : Prop := match f S cs with
  | some (r, c) => Q r c
  | none => False
@[irreducible] def wS (f : DS) (S : List Sl) (cs : Option D) (Q : Fl → List Sl → Option D → Prop) (_ : Nl Q) : Prop := match f S cs with
  | some (r, S', c) => Q r S' c
  | none => False
@[irreducible] def wG (g : DG) (d : D) (S : List Sl) (Q : List Sl → Prop) (_ : Nl Q) : Prop := match g d S with
  | some S' => Q S'
  | none => False
@[irreducible] def wGs (g : List D → List Sl → Option (List Sl)) (ds : List D) (S : List Sl) (Q : List Sl → Prop) (_ : Nl Q) : Prop := match g ds S with
  | some S' => Q S'
  | none => False
@[irreducible] def bD {α : Type} (o : Option α) (k : α → Prop) (_ : Nl k) : Prop := match o with
  | some z => k z
  | none => False
@[simp ↓] theorem bD_some {α : Type} {z : α} {k t} : bD (some z) k t = k z := by unfold bD; rfl
@[simp ↓] theorem bD_none {α : Type} {k : α → Prop} {t} : bD none k t = False := by unfold bD; rfl
def iP (p x : Prop) (_ : Nl x) : Prop := p ∧ x
@[simp] theorem iP_t {a t} : iP True a t = a := by simp [iP]
theorem iP_of {p a : Prop} {t} (hp : p) (h : a) : iP p a t := ⟨hp, h⟩
def iB (b : Bool) (x y : Prop) (_ : Nl x) (_ : Nl y) : Prop := match b with
  | true => x
  | false => y
@[simp ↓] theorem iB_t {a b t u} : iB true a b t u = a := (rfl)
@[simp ↓] theorem iB_f {a b t u} : iB false a b t u = b := (rfl)
@[simp] theorem iB_d {p : Prop} [h : Decidable p] {a b t u} : iB (decide p) a b t u = ((p → a) ∧ (¬ p → b)) := by
  unfold iB; cases h <;> simp_all
@[simp] theorem iB_n {p : Bool} {a b t u} : iB (!p) a b t u = iB p b a u t := by cases p <;> rfl
def atS : List Sl → Nat → (k : Sl → Prop) → Nl k → Prop
  | [], _, _, _ => False
  | s :: _, 0, k, _ => k s
  | _ :: r, i + 1, k, t => atS r i k t
@[simp ↓] theorem atS_z {s r k t} : atS (s :: r) 0 k t = k s := by rw [atS]
@[simp ↓] theorem atS_s {s r i k t} : atS (s :: r) (i + 1) k t = atS r i k t := by rw [atS]
theorem atS_get {S : List Sl} {i k t} : atS S i k t ↔ ∃ s, S[i]? = some s ∧ k s := by
  induction S generalizing i with
  | nil => simp [atS]
  | cons a r ih => cases i <;> simp [ih, atS]

def onC (x : R) (k : D → Prop) (_ : Nl k) : Prop := match x with
  | .c d => k d
  | _ => False
def onInt (x : D) (k : Int → Prop) (_ : Nl k) : Prop := match x with
  | .int i => k i
  | _ => False
def onBl (x : D) (k : Bool → Prop) (_ : Nl k) : Prop := match x with
  | .bl i => k i
  | _ => False
def onOwn (x : Sl) (k : List D → Prop) (_ : Nl k) : Prop := match x with
  | .own d => k d
  | _ => False
def onK (x : List R) (k : List R → Prop) (_ : Nl k) : Prop := match x with
  | .k :: r => k r
  | _ => False
def onNon (x : D) (k : Prop) (_ : Nl k) : Prop := match x with
  | .non => k
  | _ => False
def onLst (x : D) (k : List D → Prop) (_ : Nl k) : Prop := match x with
  | .lst d => k d
  | _ => False
def isCst (x : Sl) (k : Prop) (_ : Nl k) : Prop := match x with
  | .cst => k
  | _ => False
def onObj (C : Nat) (d : D) (k : List Str → List D → Prop) (_ : Nl k) : Prop := match d with
  | .obj C' ns ds => if C' = C then k ns ds else False
  | _ => False
def notCst (s : Sl) (k : Prop) (_ : Nl k) : Prop := match s with
  | .cst => False
  | _ => k
def onFl (fl : Fl) (a : Prop) (b : Prop) (_ : Nl a) (_ : Nl b) : Prop := match fl with
  | .nx => a
  | _ => b
def onSl (s : Sl) (v : D → Prop) (o : List D → Prop) (k : Prop) (_ : Nl v) (_ : Nl o) (_ : Nl k) : Prop := match s with
  | .val d => v d
  | .own ds => o ds
  | .cst => k
  | .no => False
def onR (r : R) (k : D → Prop) (o : Nat → Prop) (_ : Nl k) (_ : Nl o) : Prop := match r with
  | .c d => k d
  | .o i => o i
  | .k => False
@[simp ↓] theorem onC_c {d k t} : onC (.c d) k t = k d := (rfl)
@[simp ↓] theorem onC_o {i k t} : onC (.o i) k t = False := (rfl)
@[simp ↓] theorem onC_k {k t} : onC .k k t = False := (rfl)
@[simp ↓] theorem onInt_i {i k t} : onInt (.int i) k t = k i := (rfl)
@[simp ↓] theorem onBl_i {i k t} : onBl (.bl i) k t = k i := (rfl)
@[simp ↓] theorem onOwn_o {d k t} : onOwn (.own d) k t = k d := (rfl)
@[simp ↓] theorem onK_k {r k t} : onK (.k :: r) k t = k r := (rfl)
@[simp ↓] theorem onNon_n {k t} : onNon .non k t = k := (rfl)
@[simp ↓] theorem onLst_l {ds k t} : onLst (.lst ds) k t = k ds := (rfl)
@[simp ↓] theorem isCst_c {k t} : isCst .cst k t = k := (rfl)
@[simp ↓] theorem onObj_o {C ns ds k t} : onObj C (.obj C ns ds) k t = k ns ds := by simp [onObj]
@[simp ↓] theorem notCst_v {d k t} : notCst (.val d) k t = k := (rfl)
@[simp ↓] theorem notCst_o {d k t} : notCst (.own d) k t = k := (rfl)
@[simp ↓] theorem notCst_n {k t} : notCst .no k t = k := (rfl)
@[simp ↓] theorem onFl_nx {a b t u} : onFl .nx a b t u = a := (rfl)
@[simp ↓] theorem onFl_bk {a b t u} : onFl .bk a b t u = b := (rfl)
@[simp ↓] theorem onFl_ct {a b t u} : onFl .ct a b t u = b := (rfl)
@[simp ↓] theorem onFl_rt {d a b t u} : onFl (.rt d) a b t u = b := (rfl)
@[simp ↓] theorem onFl_rf {d a b t u} : onFl (.rf d) a b t u = b := (rfl)
@[simp ↓] theorem onSl_v {d v o k t u w} : onSl (.val d) v o k t u w = v d := (rfl)
@[simp ↓] theorem onSl_o {d v o k t u w} : onSl (.own d) v o k t u w = o d := (rfl)
@[simp ↓] theorem onSl_c {v o k t u w} : onSl .cst v o k t u w = k := (rfl)
@[simp ↓] theorem onSl_n {v o k t u w} : onSl .no v o k t u w = False := (rfl)
@[simp ↓] theorem onR_c {d k o t u} : onR (.c d) k o t u = k d := (rfl)
@[simp ↓] theorem onR_o {i k o t u} : onR (.o i) k o t u = o i := (rfl)
def outD (fl : Fl) (k : Fl → Prop) : Prop := match fl with
  | .rt d => k (.rt d)
  | .rf ds => k (.rf ds)
  | _ => False
@[simp] theorem outD_rt {d k} : outD (.rt d) k = k (.rt d) := (rfl)
@[simp] theorem outD_rf {d k} : outD (.rf d) k = k (.rf d) := (rfl)
def lisD : D → Option (List D)
  | .lst ds => some ds
  | .scr ns => some (ns.map D.int)
  | _ => none
def seqD : D → Option (List D)
  | .lst ds => some ds
  | .tup ds => some ds
  | .str x => some (strD x)
  | _ => none
def int1 : List R → Option Int
  | [.c (.int j)] => some j
  | _ => none
def int2 : List R → Option (Int × Int)
  | [.c (.int i), .c (.int j)] => some (i, j)
  | _ => none
def int3 : List R → Option (Int × Int × Int)
  | [.c (.int i), .c (.int j), .c (.int k)] => some (i, j, k)
  | _ => none
def lst2 : List R → Option (List D × List D)
  | [.c (.lst i), .c (.lst j)] => some (i, j)
  | _ => none
def seq1 : List R → Option (List D)
  | [.c (.lst i)] => some i
  | [.c (.tup i)] => some i
  | _ => none
def two : List R → Option (D × D)
  | [.c i, .c j] => some (i, j)
  | _ => none
@[simp] theorem lisD_l {ds} : lisD (.lst ds) = some ds := (rfl)
@[simp] theorem lisD_s {ns} : lisD (.scr ns) = some (ns.map D.int) := (rfl)
@[simp] theorem seqD_l {ds} : seqD (.lst ds) = some ds := (rfl)
@[simp] theorem seqD_t {ds} : seqD (.tup ds) = some ds := (rfl)
@[simp] theorem int1_i {j} : int1 [.c (.int j)] = some j := (rfl)
@[simp] theorem int2_i {i j} : int2 [.c (.int i), .c (.int j)] = some (i, j) := (rfl)
@[simp] theorem int3_i {i j k} : int3 [.c (.int i), .c (.int j), .c (.int k)] = some (i, j, k) := (rfl)
@[simp] theorem lst2_i {i j} : lst2 [.c (.lst i), .c (.lst j)] = some (i, j) := (rfl)
@[simp] theorem seq1_l {i} : seq1 [.c (.lst i)] = some i := (rfl)
@[simp] theorem seq1_t {i} : seq1 [.c (.tup i)] = some i := (rfl)
@[simp] theorem two_i {i j} : two [.c i, .c j] = some (i, j) := (rfl)
@[simp] theorem cleans_nil : cleans [] = some [] := (rfl)
@[simp] theorem cleans_cons {d rs} : cleans (.c d :: rs) = (cleans rs).map (d :: ·) := by
  rw [cleans]
  cases cleans rs <;> rfl
@[simp] theorem rds_nil {S cs} : rds S cs [] = some [] := (rfl)
@[simp] theorem rds_cons {S cs r rs} : rds S cs (r :: rs) = (match rd S cs r with
  | some d => (rds S cs rs).map (d :: ·)
  | none => none) := by
  simp only [rds]
  rcases rd S cs r with _ | d
  · rfl
  · cases rds S cs rs <;> rfl
@[simp] theorem rd_c {S cs d} : rd S cs (.c d) = some d := (rfl)
@[simp] theorem rd_k {S cs} : rd S cs .k = cs := (rfl)
theorem rd_o {S : List Sl} {cs i} : rd S cs (.o i) = (match S[i]? with
  | some (.own ds) => some (.lst ds)
  | _ => none) := (rfl)
@[simp] theorem itemsD_l {ds} : itemsD (.lst ds) = some ds := (rfl)
@[simp] theorem itemsD_t {ds} : itemsD (.tup ds) = some ds := (rfl)
@[simp] theorem oInt_i {C g i j} : oInt C g (.int i) (.int j) = if C i j = true then some (g i j) else none := (rfl)
@[simp] theorem oAdd_i {i j} : oAdd (.int i) (.int j) = some (.int (i + j)) := (rfl)
theorem oMul_i {i j : Int} (h : -(2 ^ 64) < j ∧ j < 2 ^ 64) : oMul (.int i) (.int j) = some (.int (i * j)) := by
  have : bMul i j = true := by unfold bMul; simp only [Bool.or_eq_true, decide_eq_true_eq]; exact .inr h
  unfold oMul orD
  simp only [oInt_i, this, if_true]
theorem oMul_i' {i j : Int} (h : -(2 ^ 64) < i ∧ i < 2 ^ 64) : oMul (.int i) (.int j) = some (.int (i * j)) := by
  have : bMul i j = true := by unfold bMul; simp only [Bool.or_eq_true, decide_eq_true_eq]; exact .inl h
  unfold oMul orD
  simp only [oInt_i, this, if_true]
@[simp] theorem oLen_l {ds} : oLen [.lst ds] = some (.int ds.length) := (rfl)
@[simp] theorem oLen_t {ds} : oLen [.tup ds] = some (.int ds.length) := (rfl)
@[simp] theorem oTuple_l {ds} : oTuple [.lst ds] = some (.tup ds) := (rfl)
@[simp] theorem isNonD_n : isNonD .non = true := (rfl)
@[simp] theorem isNonD_i {i} : isNonD (.int i) = false := (rfl)
@[simp] theorem isNonD_t {i} : isNonD (.tup i) = false := (rfl)
@[simp] theorem oIsN_n {x} : oIsN x .non = some (.bl (isNonD x)) := (rfl)
@[simp] theorem oNotN_n {x} : oNotN x .non = some (.bl (!isNonD x)) := (rfl)
@[simp] theorem truD_bl {b} : truD (.bl b) = some b := (rfl)
@[simp] theorem truD_lst {ds} : truD (.lst ds) = some !ds.isEmpty := (rfl)
theorem ixD_l {ds : List D} {i : Nat} {d : D} (h : ds[i]? = some d) : ixD (.lst ds) (.int i) = some d := atI_nat h
theorem ixD_t {ds : List D} {i : Nat} {d : D} (h : ds[i]? = some d) : ixD (.tup ds) (.int i) = some d := atI_nat h
variable {S : List Sl} {cs : Option D}

@[simp ↓] theorem w_var {i : Nat} {Q t} : wE (dVar i) S cs Q t ↔ (atS S i (fun s => (onSl s (fun d => Q (.c d) cs) (fun _ => Q (.o i) cs) (Q .k cs) .mk .mk .mk)) .mk) := by
  rw [atS_get]
  unfold wE dVar onSl
  rcases S[i]? with _ | s
  · simp
  · cases s <;> simp
@[simp ↓] theorem w_c {d : D} {Q t} : wE (dC d) S cs Q t ↔ Q (.c d) cs := by unfold wE; exact Iff.rfl
@[simp ↓] theorem w_op {op f g Q t} : wE (dOp op f g) S cs Q t ↔ (wE f S cs (fun r c1 => (onC r (fun x => (wE g S c1 (fun r c2 => (onC r (fun y => (bD (op x y) (fun z => Q (.c z) c2) .mk)) .mk)) .mk)) .mk)) .mk) := by
  unfold wE dOp
  rcases f S cs with _ | ⟨r, c1⟩
  · simp
  · cases r with
    | c d =>
      simp only [onC]
      try unfold wE
      rcases g S c1 with _ | ⟨r, c2⟩
      · simp
      · cases r with
        | c y => simp only [onC]; rcases op d y with _ | z <;> simp [bD]
        | _ => simp [onC]
    | _ => simp [onC]
@[simp ↓] theorem w_neg {f Q t} : wE (dNeg f) S cs Q t ↔ (wE f S cs (fun r c1 => (onC r (fun d => (onInt d (fun i => Q (.c (.int (-i))) c1) .mk)) .mk)) .mk) := by
  unfold wE dNeg onC onInt; grind
@[simp ↓] theorem w_ifE {c f g Q t} : wE (dIf c f g) S cs Q t ↔ (wT c S cs (fun b c1 => (iB b (wE f S c1 Q .mk) (wE g S c1 Q .mk) .mk .mk)) .mk) := by
  unfold wE wT dIf iB; grind
@[simp ↓] theorem w_tup {f Q t} : wE (dTup f) S cs Q t ↔ (wA f S cs (fun rs c1 => (bD (cleans rs) (fun ds => (iP (ds.length ≤ sizeLine) (Q (.c (.tup ds)) c1) .mk)) .mk)) .mk) := by
  unfold wE wA dTup bD iP; grind
@[simp ↓] theorem w_lst {f Q t} : wF (dLst f) S cs Q t ↔ (wA f S cs (fun rs c1 => (bD (cleans rs) (fun ds => (iP (ds.length ≤ sizeLine) (Q ds c1) .mk)) .mk)) .mk) := by
  unfold wF wA dLst bD iP; grind
@[simp ↓] theorem w_fz {f Q t} : wE (dFz f) S cs Q t ↔ (wF f S cs (fun ds c1 => Q (.c (.lst ds)) c1) .mk) := by
  unfold wE wF dFz; grind
@[simp ↓] theorem w_nilA {Q t} : wA dNil S cs Q t ↔ Q [] cs := by unfold wA; exact Iff.rfl
@[simp ↓] theorem w_consA {f g Q t} : wA (dCons f g) S cs Q t ↔ (wE f S cs (fun r c1 => (wA g S c1 (fun rs c2 => Q (r :: rs) c2) .mk)) .mk) := by
  unfold wE wA dCons; grind
@[simp ↓] theorem w_ix {f g Q t} : wE (dIx f g) S cs Q t ↔ (wE f S cs (fun r c1 => (wE g S c1 (fun r2 c2 => (onC r2 (fun y => (bD (rd S c2 r) (fun x => (bD (ixD x y) (fun z => Q (.c z) c2) .mk)) .mk)) .mk)) .mk)) .mk) := by
  unfold wE dIx
  rcases f S cs with _ | ⟨r, c1⟩
  · simp
  · dsimp only
    try unfold wE
    rcases g S c1 with _ | ⟨r2, c2⟩
    · simp
    · cases r2 with
      | c y =>
        simp only [onC]
        rcases rd S c2 r with _ | x
        · simp [bD]
        · simp only [bD]
          rcases ixD x y with _ | z <;> simp
      | _ => simp [onC]
@[simp ↓] theorem w_cb {op f Q t} : wE (dCB op f) S cs Q t ↔ (wA f S cs (fun rs c1 => (bD (rds S c1 rs) (fun xs => (bD (op xs) (fun z => Q (.c z) c1) .mk)) .mk)) .mk) := by
  unfold wE wA dCB bD; grind
@[simp ↓] theorem w_cbF {op f Q t} : wF (dCBF op f) S cs Q t ↔ (wA f S cs (fun rs c1 => (bD (rds S c1 rs) (fun xs => (bD (op xs) (fun z => Q z c1) .mk)) .mk)) .mk) := by
  unfold wF wA dCBF bD; grind
@[simp ↓] theorem w_call {m f Q t} : wE (dCall m f) S cs Q t ↔ (wA f S cs (fun rs c1 => (bD (cleans rs) (fun ds => (bD (m ds) (fun z => Q (.c z) c1) .mk)) .mk)) .mk) := by
  unfold wE wA dCall bD; grind
@[simp ↓] theorem w_callC {m f Q t} : wE (dCallC m f) S cs Q t ↔ (wA f S cs (fun rs c1 => (onK rs (fun rs2 => (bD (c1) (fun c => (bD (cleans rs2) (fun ds => (bD (m c ds) (fun z => Q (.c z.1) (some z.2)) .mk)) .mk)) .mk)) .mk)) .mk) := by
  unfold wE wA dCallC
  rcases f S cs with _ | ⟨rs, c1⟩
  · simp
  · rcases rs with _ | ⟨r, rs⟩
    · simp [onK]
    · cases r with
      | k =>
        rcases c1 with _ | c
        · simp [onK, bD]
        · simp only [onK, bD]
          rcases cleans rs with _ | ds
          · simp
          · dsimp only
            rcases h : m c ds with _ | z <;> simp [bD, h]
      | _ => simp [onK]
@[simp ↓] theorem w_callN {m f Q t} : wF (dCallN m f) S cs Q t ↔ (wA f S cs (fun rs c1 => (bD (cleans rs) (fun ds => (bD (m ds) (fun z => Q z c1) .mk)) .mk)) .mk) := by
  unfold wF wA dCallN bD; grind
@[simp ↓] theorem w_fld {C fl f Q t} : wE (dFld C fl f) S cs Q t ↔ (wE f S cs (fun r c1 => (bD (rd S c1 r) (fun d => (onObj C d (fun ns ds => (bD (fldD ns ds fl) (fun z => Q (.c z) c1) .mk)) .mk)) .mk)) .mk) := by
  unfold wE dFld bD onObj; grind
@[simp ↓] theorem w_isi {T f Q t} : wE (dIsi T f) S cs Q t ↔ (wE f S cs (fun r c1 => (bD (rd S c1 r) (fun d => (bD (isiD d T) (fun b => Q (.c (.bl b)) c1) .mk)) .mk)) .mk) := by
  unfold wE dIsi bD; grind
@[simp ↓] theorem w_meth {C mn m fo f Q t} : wE (dMeth C mn m fo f) S cs Q t ↔ (wE fo S cs (fun r c1 => (onC r (fun o => (onObj C o (fun ns ds => (iP (mn ∉ ns) ((wA f S c1 (fun rs c2 => (bD (cleans rs) (fun xs => (bD (m (.obj C ns ds :: xs)) (fun z => Q (.c z) c2) .mk)) .mk)) .mk)) .mk)) .mk)) .mk)) .mk) := by
  unfold wE dMeth
  rcases fo S cs with _ | ⟨r, c1⟩
  · simp
  · cases r with
    | c d =>
      simp only [onC]
      cases d with
      | obj C2 ns ds =>
        simp only [onObj, iP]
        by_cases hC : C2 = C
        · subst hC
          by_cases hn : mn ∈ ns
          · simp [hn]
          · simp only [hn, not_false_eq_true, and_self, if_true, true_and]
            try unfold wA
            rcases f S c1 with _ | ⟨rs, c2⟩
            · simp
            · dsimp only
              rcases cleans rs with _ | xs
              · simp [bD]
              · simp only [bD]
                rcases m (.obj C2 ns ds :: xs) with _ | z <;> simp
        · simp [hC]
      | _ => simp [onObj]
    | _ => simp [onC]
@[simp ↓] theorem w_make {C m f Q t} : wE (dMake C m f) S cs Q t ↔ (wA f S cs (fun rs c1 => (bD (cleans rs) (fun ds => (bD (m (.obj C [] []) ds) (fun z => (onNon (z.1) ((onObj C (z.2) (fun ns es => Q (.c (.obj C ns es)) c1) .mk)) .mk)) .mk)) .mk)) .mk) := by
  unfold wE wA dMake
  rcases f S cs with _ | ⟨rs, c1⟩
  · simp
  · dsimp only
    rcases cleans rs with _ | ds
    · simp [bD]
    · simp only [bD]
      rcases m (.obj C [] []) ds with _ | ⟨a, b⟩
      · simp [bD]
      · simp only [bD]
        cases a with
        | non =>
          cases b with
          | obj C2 ns es => simp only [onNon, onObj]; by_cases h : C2 = C <;> simp [h]
          | _ => simp [onNon, onObj]
        | _ => simp [onNon]
@[simp ↓] theorem w_andV {f g Q t} : wE (dAndV f g) S cs Q t ↔ (wE f S cs (fun r c1 => (onC r (fun d => (bD (truD d) (fun b => (iB b (wE g S c1 Q .mk) (Q r c1) .mk .mk)) .mk)) .mk)) .mk) := by
  unfold wE dAndV bD onC iB; grind
@[simp ↓] theorem w_orV {f g Q t} : wE (dOrV f g) S cs Q t ↔ (wE f S cs (fun r c1 => (onC r (fun d => (bD (truD d) (fun b => (iB b (Q r c1) (wE g S c1 Q .mk) .mk .mk)) .mk)) .mk)) .mk) := by
  unfold wE dOrV bD onC iB; grind
@[simp ↓] theorem w_notV {f Q t} : wE (dNotV f) S cs Q t ↔ (wE f S cs (fun r c1 => (bD (rd S c1 r) (fun d => (bD (truD d) (fun b => Q (.c (.bl !b)) c1) .mk)) .mk)) .mk) := by
  unfold wE dNotV bD; grind
@[simp ↓] theorem w_tru {f Q t} : wT (dTru f) S cs Q t ↔ (wE f S cs (fun r c1 => (bD (rd S c1 r) (fun d => (bD (truD d) (fun b => Q b c1) .mk)) .mk)) .mk) := by
  unfold wE wT dTru bD; grind
@[simp ↓] theorem w_tst {f Q t} : wT (dTst f) S cs Q t ↔ (wE f S cs (fun r c1 => (onC r (fun d => (onBl d (fun b => Q b c1) .mk)) .mk)) .mk) := by
  unfold wE wT dTst onC onBl; grind
@[simp ↓] theorem w_and {f g Q t} : wT (dAnd f g) S cs Q t ↔ (wT f S cs (fun b c1 => (iB b (wT g S c1 Q .mk) (Q false c1) .mk .mk)) .mk) := by
  unfold wT dAnd iB; grind
@[simp ↓] theorem w_or {f g Q t} : wT (dOr f g) S cs Q t ↔ (wT f S cs (fun b c1 => (iB b (Q true c1) (wT g S c1 Q .mk) .mk .mk)) .mk) := by
  unfold wT dOr iB; grind
@[simp ↓] theorem w_not {f Q t} : wT (dNot f) S cs Q t ↔ (wT f S cs (fun b c1 => Q (!b) c1) .mk) := by
  unfold wT dNot; grind
@[simp ↓] theorem w_yes {Q t} : wT (dYes) S cs Q t ↔ Q true cs := by unfold wT; exact Iff.rfl
@[simp ↓] theorem w_nopart {Q t} : wO dNoPart S cs Q t ↔ Q none cs := by unfold wO; exact Iff.rfl
@[simp ↓] theorem w_part {f Q t} : wO (dPart f) S cs Q t ↔ (wE f S cs (fun r c1 => (onC r (fun d => (onInt d (fun i => Q (some i) c1) .mk)) .mk)) .mk) := by
  unfold wO wE dPart onC onInt; grind
@[simp ↓] theorem w_slF {f lo hi Q t} : wF (dSlF f lo hi) S cs Q t ↔ (wE f S cs (fun r c1 => (wO lo S c1 (fun a c2 => (wO hi S c2 (fun b c3 => (bD (rd S c3 r) (fun x => (bD (lisD x) (fun ds => Q (cutD ds a b) c3) .mk)) .mk)) .mk)) .mk)) .mk) := by
  unfold wF wE dSlF
  rcases f S cs with _ | ⟨r, c1⟩
  · simp
  · dsimp only
    try unfold wO
    rcases lo S c1 with _ | ⟨a, c2⟩
    · simp
    · dsimp only
      try unfold wO
      rcases hi S c2 with _ | ⟨b, c3⟩
      · simp
      · dsimp only
        rcases rd S c3 r with _ | x
        · simp [bD]
        · cases x <;> simp [bD, lisD]
@[simp ↓] theorem w_gN {i d Q t} : wG (gdN i) d S Q t ↔ (atS S i (fun s => notCst s (Q (S.set i (.val d))) .mk) .mk) := by
  rw [atS_get]
  unfold wG gdN notCst
  rcases S[i]? with _ | s
  · simp
  · cases s <;> simp
@[simp ↓] theorem w_gT {n g d Q t} : wG (gdT n g) d S Q t ↔ (bD (itemsD d) (fun ds => (iP (ds.length = n) (wGs g ds S Q .mk) .mk)) .mk) := by
  unfold wG wGs gdT bD iP; grind
@[simp ↓] theorem w_gnil {Q t} : wGs gdNil [] S Q t ↔ Q S := by unfold wGs; exact Iff.rfl
@[simp ↓] theorem w_gcons {f g d r Q t} : wGs (gdCons f g) (d :: r) S Q t ↔ (wG f d S (fun S1 => wGs g r S1 Q .mk) .mk) := by
  unfold wG wGs gdCons; grind
@[simp ↓] theorem w_iseq {f Q t} : wF (diSeq f) S cs Q t ↔ (wE f S cs (fun r c1 => (onC r (fun d => (bD (seqD d) (fun ds => Q ds c1) .mk)) .mk)) .mk) := by
  unfold wF wE diSeq onC bD seqD; grind
@[simp ↓] theorem w_rng1 {f Q t} : wF (diRng1 f) S cs Q t ↔ (wA f S cs (fun rs c1 => (bD (int1 rs) (fun j => (iP (-(2 ^ 62) ≤ j ∧ j < 2 ^ 62) (Q (rngD 0 j.toNat) c1) .mk)) .mk)) .mk) := by
  unfold wF wA diRng1 bD iP int1; grind
@[simp ↓] theorem w_rng2 {f Q t} : wF (diRng2 f) S cs Q t ↔ (wA f S cs (fun rs c1 => (bD (int2 rs) (fun z => (iP (-(2 ^ 62) ≤ z.1 ∧ z.1 < 2 ^ 62 ∧ -(2 ^ 62) ≤ z.2 ∧ z.2 < 2 ^ 62) (Q (rngD z.1 (z.2 - z.1).toNat) c1) .mk)) .mk)) .mk) := by
  unfold wF wA diRng2 bD iP int2; grind
@[simp ↓] theorem w_rng3 {f Q t} : wF (diRng3 f) S cs Q t ↔ (wA f S cs (fun rs c1 => (bD (int3 rs) (fun z => (iP (z.2.2 ≠ 0 ∧ z.2.2.natAbs < 1073741824 ∧ Builtin.Range.small z.1 z.2.1 z.2.2 = true ∧ 0 ≤ Builtin.Range.rangeSize z.1 z.2.1 z.2.2) (Q (rngC z.1 z.2.2 (Builtin.Range.rangeSize z.1 z.2.1 z.2.2).toNat) c1) .mk)) .mk)) .mk) := by
  unfold wF wA diRng3 bD iP int3; grind
@[simp ↓] theorem w_zip {f Q t} : wF (diZip f) S cs Q t ↔ (wA f S cs (fun rs c1 => (bD (lst2 rs) (fun z => Q (zipD z.1 z.2) c1) .mk)) .mk) := by
  unfold wF wA diZip bD lst2; grind
@[simp ↓] theorem w_enum {f Q t} : wF (diEnum f) S cs Q t ↔ (wA f S cs (fun rs c1 => (bD (seq1 rs) (fun xs => Q (enumD 0 xs) c1) .mk)) .mk) := by
  unfold wF wA diEnum bD seq1; grind
@[simp ↓] theorem w_lc {src g tt f vs Q t} : wF (dLc src g tt f vs) S cs Q t ↔ (iP (noOwn S vs = true) ((wF src S cs (fun ds c1 => (iP (ds.length < sizeLine) ((bD (lcL g tt f ds (wipeD S vs) c1) (fun z => Q z.1 z.2) .mk)) .mk)) .mk)) .mk) := by
  unfold wF dLc bD iP; grind
@[simp ↓] theorem w_idx {f g Q t} : wE (dIdx f g) S cs Q t ↔ (wE f S cs (fun r c1 => (onC r (fun d => (onLst d (fun ds => (wE g S c1 (fun r2 c2 => (onC r2 (fun y => (bD (toVs ds) (fun vs => (bD (toV y) (fun v => (bD (idxV v vs) (fun j => Q (.c (.int (j : Int))) c2) .mk)) .mk)) .mk)) .mk)) .mk)) .mk)) .mk)) .mk) := by
  unfold wE dIdx
  rcases f S cs with _ | ⟨r, c1⟩
  · simp
  · cases r with
    | c d =>
      cases d with
      | lst ds =>
        simp only [onC, onLst]
        try unfold wE
        rcases g S c1 with _ | ⟨r2, c2⟩
        · simp
        · cases r2 with
          | c y =>
            simp only [onC]
            rcases toVs ds with _ | vs
            · simp [bD]
            · simp only [bD]
              rcases toV y with _ | v
              · simp
              · dsimp only
                rcases h : idxV v vs with _ | j <;> simp [bD, h]
          | _ => simp [onC]
      | _ => simp [onC, onLst]
    | _ => simp [onC]
@[simp ↓] theorem w_seq {f g Q t} : wS (dsSeq f g) S cs Q t ↔ (wS f S cs (fun fl S1 c1 => onFl fl (wS g S1 c1 Q .mk) (Q fl S1 c1) .mk .mk) .mk) := by
  unfold wS dsSeq onFl
  rcases f S cs with _ | ⟨fl, S1, c1⟩
  · simp
  · cases fl <;> simp
@[simp ↓] theorem w_nil {Q t} : wS (dsNil) S cs Q t ↔ Q .nx S cs := by unfold wS; exact Iff.rfl
@[simp ↓] theorem w_brk {Q t} : wS (dsBreak) S cs Q t ↔ Q .bk S cs := by unfold wS; exact Iff.rfl
@[simp ↓] theorem w_if {c f g Q t} : wS (dsIf c f g) S cs Q t ↔ (wT c S cs (fun b c1 => (iB b (wS f S c1 Q .mk) (wS g S c1 Q .mk) .mk .mk)) .mk) := by
  unfold wS wT dsIf iB; grind
@[simp ↓] theorem w_asg {f g Q t} : wS (dsAsg f g) S cs Q t ↔ (wE f S cs (fun r c1 => (onC r (fun d => (wG g d S (fun S1 => Q .nx S1 c1) .mk)) .mk)) .mk) := by
  unfold wS wE wG dsAsg onC; grind
@[simp ↓] theorem w_own {i f Q t} : wS (dsOwn i f) S cs Q t ↔ (wF f S cs (fun ds c1 => (atS S i (fun s => notCst s (Q .nx (S.set i (.own ds)) c1) .mk) .mk)) .mk) := by
  unfold wS wF dsOwn
  rcases f S cs with _ | ⟨ds, c1⟩
  · simp
  · simp only [atS_get, notCst]
    rcases S[i]? with _ | s
    · simp
    · cases s <;> simp
@[simp ↓] theorem w_par {i j f Q t} : wS (dsPar i j f) S cs Q t ↔ (wA f S cs (fun rs c1 => (bD (two rs) (fun z => (wG (gdN i) z.1 S (fun S1 => (wG (gdN j) z.2 S1 (fun S2 => Q .nx S2 c1) .mk)) .mk)) .mk)) .mk) := by
  unfold wS wA wG dsPar bD two; grind
@[simp ↓] theorem w_aug {i op f Q t} : wS (dsAug i op f) S cs Q t ↔ (atS S i (fun s => onSl s (fun d => (onInt d (fun x => (wE f S cs (fun r c1 => (onC r (fun e => (onInt e (fun y => Q .nx (S.set i (.val (.int (op x y)))) c1) .mk)) .mk)) .mk)) .mk)) (fun _ => False) False .mk .mk .mk) .mk) := by
  rw [atS_get]
  unfold wS wE dsAug onSl onInt onC
  rcases S[i]? with _ | s
  · simp
  · cases s with
    | val d =>
      cases d with
      | int x =>
        rcases f S cs with _ | ⟨r, c1⟩
        · simp
        · cases r with
          | c d => cases d <;> simp
          | _ => simp
      | _ => simp
    | _ => simp
@[simp ↓] theorem w_app {i f Q t} : wS (dsApp i f) S cs Q t ↔ (wE f S cs (fun r c1 => (onC r (fun d => (atS S i (fun s => (onOwn s (fun ds => (iP (ds.length < sizeLine) (Q .nx (S.set i (.own (ds ++ [d]))) c1) .mk)) .mk)) .mk)) .mk)) .mk) := by
  unfold wS wE dsApp
  rcases f S cs with _ | ⟨r, c1⟩
  · simp
  · simp only [atS_get, onOwn, onC, iP]
    cases r with
    | c d =>
      rcases S[i]? with _ | s
      · simp
      · cases s with
        | own ds => by_cases h : ds.length < sizeLine <;> simp [h]
        | _ => simp
    | _ => simp
@[simp ↓] theorem w_ret {f Q t} : wS (dsRet f) S cs Q t ↔ (wE f S cs (fun r c1 => onR r (fun d => Q (.rt d) [] c1) (fun i => (atS S i (fun s => (onOwn s (fun ds => Q (.rf ds) [] c1) .mk)) .mk)) .mk .mk) .mk) := by
  unfold wS wE dsRet
  rcases f S cs with _ | ⟨r, c1⟩
  · simp
  · simp only [atS_get, onOwn, onR]
    cases r with
    | o i =>
      dsimp only
      rcases S[i]? with _ | s
      · simp
      · cases s <;> simp
    | _ => simp
@[simp ↓] theorem w_retF {f Q t} : wS (dsRetF f) S cs Q t ↔ (wF f S cs (fun ds c1 => Q (.rf ds) [] c1) .mk) := by
  unfold wS wF dsRetF; grind
@[simp ↓] theorem w_never {Q t} : wS (dsNever) S cs Q t ↔ False := by unfold wS; exact Iff.rfl
@[simp ↓] theorem w_for {src g b Q t} : wS (dsFor src g b) S cs Q t ↔ (wF src S cs (fun ds c1 => wS (forL g b ds) S c1 Q .mk) .mk) := by
  unfold wS wF dsFor; grind
@[simp ↓] theorem w_fldS {C fl j f Q t} : wS (dsFld C fl j f) S cs Q t ↔ (wE f S cs (fun r c1 => (onC r (fun d => (bD (c1) (fun c => (onObj C c (fun ns ds => (atS S j (fun s => (isCst s ((iP (ns.length < 1000) (Q .nx S (some (.obj C (putL fl d ns ds).1 (putL fl d ns ds).2))) .mk)) .mk)) .mk)) .mk)) .mk)) .mk)) .mk) := by
  unfold wS wE dsFld
  rcases f S cs with _ | ⟨r, c1⟩
  · simp
  · cases r with
    | c d =>
      rcases c1 with _ | c
      · simp [onC, bD]
      · cases c with
        | obj C2 ns ds =>
          simp only [onC, bD, onObj, atS_get]
          rcases S[j]? with _ | s
          · simp
          · cases s with
            | cst => by_cases h : C2 = C <;> by_cases h2 : ns.length < 1000 <;> simp [h, h2, isCst, iP]
            | _ => simp [isCst]
        | _ => simp [onC, bD, onObj]
    | _ => simp [onC]
@[simp ↓] theorem w_set {j fi fe Q t} : wS (dsSet j fi fe) S cs Q t ↔ (wE fe S cs (fun r c1 => (onC r (fun d => (wE fi S c1 (fun r2 c2 => (onC r2 (fun e => (onInt e (fun k => (atS S j (fun s => onSl s (fun _ => False) (fun ds => (bD (ixN ds.length k) (fun n => Q .nx (S.set j (.own (ds.set n d))) c2) .mk)) ((bD (c2) (fun c => (onLst c (fun ds => (bD (ixN ds.length k) (fun n => Q .nx S (some (.lst (ds.set n d)))) .mk)) .mk)) .mk)) .mk .mk .mk) .mk)) .mk)) .mk)) .mk)) .mk)) .mk) := by
  unfold wS wE dsSet
  rcases fe S cs with _ | ⟨r, c1⟩
  · simp
  · cases r with
    | c d =>
      simp only [onC]
      try unfold wE
      rcases fi S c1 with _ | ⟨r, c2⟩
      · simp
      · cases r with
        | c y =>
          cases y with
          | int k =>
            simp only [onC, onInt, atS_get]
            rcases S[j]? with _ | s
            · simp
            · cases s with
              | own ds => simp only [onSl]; rcases h : ixN ds.length k with _ | n <;> simp [h, bD, onSl]
              | cst =>
                rcases c2 with _ | c
                · simp [bD, onSl]
                · cases c with
                  | lst ds => rcases h : ixN ds.length k with _ | n <;> simp [h, bD, onLst, onSl]
                  | _ => simp [bD, onLst, onSl]
              | _ => simp [onSl]
          | _ => simp [onC, onInt]
        | _ => simp [onC]
    | _ => simp [onC]
@[simp ↓] theorem w_cell {i f g Q t} : wS (dsCell i f g) S none Q t ↔ (wF f S none (fun ds c1 => c1 = none ∧ (atS S i (fun s => notCst s ((wS g (S.set i .cst) (some (.lst ds)) (fun fl S2 c2 => outD fl fun fl1 => Q fl1 [] none) .mk)) .mk) .mk)) .mk) := by
  unfold wS wF dsCell
  rcases f S none with _ | ⟨ds, c1⟩
  · simp
  · rcases c1 with _ | c
    · simp only [atS_get, true_and]
      rcases S[i]? with _ | s
      · simp
      · cases s with
        | cst => simp [notCst]
        | _ =>
          simp only [notCst]
          try unfold wS
          rcases g (S.set i .cst) (some (.lst ds)) with _ | ⟨fl, S2, c2⟩
          · simp
          · cases fl <;> simp [outD]
    · simp
-- what is, and what is asked
theorem wE_ex {f : DE} {Q} : wE f S cs Q .mk ↔ ∃ r c, f S cs = some (r, c) ∧ Q r c := by unfold wE; grind
theorem wT_ex {f : DT} {Q} : wT f S cs Q .mk ↔ ∃ r c, f S cs = some (r, c) ∧ Q r c := by unfold wT; grind
theorem wA_ex {f : DA} {Q} : wA f S cs Q .mk ↔ ∃ r c, f S cs = some (r, c) ∧ Q r c := by unfold wA; grind
theorem wF_ex {f : DF} {Q} : wF f S cs Q .mk ↔ ∃ r c, f S cs = some (r, c) ∧ Q r c := by unfold wF; grind
theorem wS_ex {f : DS} {Q} : wS f S cs Q .mk ↔ ∃ r S' c, f S cs = some (r, S', c) ∧ Q r S' c := by unfold wS; grind
theorem wG_ex {g : DG} {d Q} : wG g d S Q .mk ↔ ∃ S', g d S = some S' ∧ Q S' := by unfold wG; grind
theorem wS_mono {f : DS} {Q Q' : Fl → List Sl → Option D → Prop} (h : wS f S cs Q .mk) (q : ∀ fl S' c, Q fl S' c → Q' fl S' c) : wS f S cs Q' .mk := by
  rw [wS_ex] at h ⊢
  obtain ⟨a, b, c, e, z⟩ := h
  exact ⟨a, b, c, e, q _ _ _ z⟩
theorem wE_mono {f : DE} {Q Q' : R → Option D → Prop} (h : wE f S cs Q .mk) (q : ∀ r c, Q r c → Q' r c) : wE f S cs Q' .mk := by
  rw [wE_ex] at h ⊢
  obtain ⟨b, c, e, z⟩ := h
  exact ⟨b, c, e, q _ _ z⟩
theorem wF_mono {f : DF} {Q Q' : List D → Option D → Prop} (h : wF f S cs Q .mk) (q : ∀ r c, Q r c → Q' r c) : wF f S cs Q' .mk := by
  rw [wF_ex] at h ⊢
  obtain ⟨b, c, e, z⟩ := h
  exact ⟨b, c, e, q _ _ z⟩
/-- what a def gives -/
def flD : Fl → Option D
  | .rt d => some d
  | .rf ds => some (.lst ds)
  | .nx => some .non
  | _ => none
theorem of_runF {np n : Nat} {b : DS} {ds : List D} {d : D} (hl : ds.length = np) (h : wS b (ds.map Sl.val ++ List.replicate (n - np) Sl.no) none (fun fl _ _ => flD fl = some d) .mk) : runF np n b ds = some d := by
  rw [wS_ex] at h
  obtain ⟨fl, S', c, e, q⟩ := h
  unfold runF
  rw [if_pos hl, e]
  cases fl with
  | nx => exact q
  | rt d => exact q
  | rf ds => exact q
  | bk => cases q
  | ct => cases q
theorem of_runN {np n : Nat} {b : DS} {ds zs : List D} (hl : ds.length = np) (h : wS b (ds.map Sl.val ++ List.replicate (n - np) Sl.no) none (fun fl _ _ => fl = .rf zs) .mk) : runN np n b ds = some zs := by
  rw [wS_ex] at h
  obtain ⟨fl, S', c, e, q⟩ := h
  unfold runN
  rw [if_pos hl, e, q]
theorem of_runC {np n : Nat} {b : DS} {ds : List D} {c c' d : D} (hl : ds.length + 1 = np) (h : wS b (.cst :: (ds.map Sl.val ++ List.replicate (n - np) Sl.no)) (some c) (fun fl _ c1 => flD fl = some d ∧ c1 = some c') .mk) : runC np n b c ds = some (d, c') := by
  rw [wS_ex] at h
  obtain ⟨fl, S', c1, e, q, q'⟩ := h
  subst q'
  unfold runC
  rw [if_pos hl, e]
  cases fl with
  | nx => cases q; rfl
  | rt d => cases q; rfl
  | rf ds => cases q; rfl
  | bk => cases q
  | ct => cases q
-- loops over a list
def onLp (fl : Fl) (a b c : Prop) (_ : Nl a) (_ : Nl b) (_ : Nl c) : Prop := match fl with
  | .nx => a
  | .ct => a
  | .bk => b
  | _ => c
@[simp ↓] theorem onLp_nx {a b c t u w} : onLp .nx a b c t u w = a := (rfl)
@[simp ↓] theorem onLp_ct {a b c t u w} : onLp .ct a b c t u w = a := (rfl)
@[simp ↓] theorem onLp_bk {a b c t u w} : onLp .bk a b c t u w = b := (rfl)
@[simp ↓] theorem onLp_rt {d a b c t u w} : onLp (.rt d) a b c t u w = c := (rfl)
@[simp ↓] theorem onLp_rf {d a b c t u w} : onLp (.rf d) a b c t u w = c := (rfl)
/-- no way out before the end -/
theorem for_all {g : DG} {b : DS} (P : Nat → List Sl → Option D → Prop) {Q : Fl → List Sl → Option D → Prop} :
    ∀ (ds : List D) (k : Nat) {S : List Sl} {cs : Option D}, P k S cs →
      (∀ i d S cs, ds[i]? = some d → P (k + i) S cs → wG g d S (fun S1 => wS b S1 cs (fun fl S2 c2 => onLp fl (P (k + i + 1) S2 c2) (Q .nx S2 c2) (Q fl S2 c2) .mk .mk .mk) .mk) .mk) →
      (∀ S cs, P (k + ds.length) S cs → Q .nx S cs) → wS (forL g b ds) S cs Q .mk
  | [], k, S, cs, h, _, e => wS_ex.mpr ⟨_, _, _, rfl, e _ _ h⟩
  | d :: r, k, S, cs, h, st, e => by
    obtain ⟨S1, e1, q⟩ := wG_ex.mp (st 0 d S cs rfl h)
    obtain ⟨fl, S2, c2, e2, q⟩ := wS_ex.mp q
    have go : P (k + 1) S2 c2 → wS (forL g b r) S2 c2 Q .mk := fun h' => for_all P r (k + 1) h' (fun i d S cs ed hp => by
      have := st (i + 1) d S cs (by simpa using ed) (by rw [show k + (i + 1) = k + 1 + i by omega]; exact hp)
      rw [show k + (i + 1) + 1 = k + 1 + i + 1 by omega] at this
      exact this) (fun S cs hp => e S cs (by rw [show k + (d :: r).length = k + 1 + r.length by simp; omega]; exact hp))
    rw [wS_ex]
    unfold forL
    cases fl with
    | nx => obtain ⟨a, b', c, e3, q3⟩ := wS_ex.mp (go q); exact ⟨a, b', c, by simp [e1, e2, e3], q3⟩
    | ct => obtain ⟨a, b', c, e3, q3⟩ := wS_ex.mp (go q); exact ⟨a, b', c, by simp [e1, e2, e3], q3⟩
    | bk => exact ⟨_, _, _, by simp [e1, e2], q⟩
    | rt d => exact ⟨_, _, _, by simp [e1, e2], q⟩
    | rf ds => exact ⟨_, _, _, by simp [e1, e2], q⟩
theorem while_all {t : DT} {b : DS} (P : Nat → List Sl → Option D → Prop) {Q : Fl → List Sl → Option D → Prop} :
    ∀ (n : Nat) {S : List Sl} {cs : Option D}, P n S cs →
      (∀ m S cs, P m S cs → 0 < m ∧ wT t S cs (fun k c1 => iB k (wS b S c1 (fun fl S2 c2 => onLp fl (P (m - 1) S2 c2) (Q .nx S2 c2) (Q fl S2 c2) .mk .mk .mk) .mk) (Q .nx S c1) .mk .mk) .mk) → wS (whileL t b n) S cs Q .mk
  | 0, S, cs, h, st => absurd (st 0 S cs h).1 (Nat.lt_irrefl 0)
  | n + 1, S, cs, h, st => by
    obtain ⟨_, z⟩ := st (n + 1) S cs h
    obtain ⟨k, c1, e1, q1⟩ := wT_ex.mp z
    rw [wS_ex]
    unfold whileL
    cases k with
    | false => exact ⟨_, _, _, by simp [e1], q1⟩
    | true =>
      obtain ⟨fl, S2, c2, e2, q⟩ := wS_ex.mp q1
      cases fl with
      | nx => obtain ⟨a, b', c, e3, q3⟩ := wS_ex.mp (while_all P n q st); exact ⟨a, b', c, by simp [e1, e2, e3], q3⟩
      | ct => obtain ⟨a, b', c, e3, q3⟩ := wS_ex.mp (while_all P n q st); exact ⟨a, b', c, by simp [e1, e2, e3], q3⟩
      | bk => exact ⟨_, _, _, by simp [e1, e2], q⟩
      | rt d => exact ⟨_, _, _, by simp [e1, e2], q⟩
      | rf ds => exact ⟨_, _, _, by simp [e1, e2], q⟩
-- comprehensions
/-- each thing gives one thing, the cell stands -/
theorem lc_map {g : DG} {f : DE} (φ : Nat → D) (P : List Sl → Prop) : ∀ (ds : List D) (k : Nat) {S : List Sl} {cs : Option D},
    (∀ i d, ds[i]? = some d → ∃ S1, g d S = some S1 ∧ f S1 cs = some (.c (φ (k + i)), cs)) → lcL g dYes f ds S cs = some ((List.range ds.length).map fun i => φ (k + i), cs)
  | [], k, S, cs, _ => rfl
  | d :: r, k, S, cs, h => by
    obtain ⟨S1, e1, e2⟩ := h 0 d rfl
    have ih := lc_map (g := g) (f := f) φ P r (k + 1) (S := S) (cs := cs) fun i d' e => by
      obtain ⟨S2, e3, e4⟩ := h (i + 1) d' (by simpa using e)
      exact ⟨S2, e3, by rw [e4, show k + 1 + i = k + (i + 1) by omega]⟩
    unfold lcL
    simp [e1, dYes, e2, ih, List.range_succ_eq_map]
    intro i _
    rw [show k + 1 + i = k + (i + 1) by omega]
theorem rngD_get {lo : Int} {n i : Nat} {d : D} (h : (rngD lo n)[i]? = some d) : i < n ∧ d = .int (lo + (i : Int)) := by
  unfold rngD at h
  rw [List.getElem?_map] at h
  by_cases hi : i < n
  · rw [List.getElem?_range hi] at h
    cases h
    exact ⟨hi, rfl⟩
  · rw [List.getElem?_eq_none (by rw [List.length_range]; omega)] at h
    cases h
theorem rngD_len {lo : Int} {n : Nat} : (rngD lo n).length = n := by unfold rngD; rw [List.length_map, List.length_range]
theorem for_rng {g : DG} {b : DS} {S : List Sl} {cs : Option D} {lo : Int} {n : Nat} {Q : Fl → List Sl → Option D → Prop} (P : Nat → List Sl → Option D → Prop) (h0 : P 0 S cs)
    (st : ∀ i S cs, i < n → P i S cs → wG g (.int (lo + (i : Int))) S (fun S1 => wS b S1 cs (fun fl S2 c2 => onLp fl (P (i + 1) S2 c2) (Q .nx S2 c2) (Q fl S2 c2) .mk .mk .mk) .mk) .mk)
    (e : ∀ S cs, P n S cs → Q .nx S cs) : wS (forL g b (rngD lo n)) S cs Q .mk :=
  for_all P (rngD lo n) 0 h0 (fun i d S cs ed hp => by
    obtain ⟨hi, rfl⟩ := rngD_get ed
    rw [Nat.zero_add] at hp ⊢
    exact st i S cs hi hp) fun S cs hp => e S cs (by rw [rngD_len, Nat.zero_add] at hp; exact hp)
theorem lc_all {g : DG} {f : DE} {S : List Sl} {cs : Option D} {ds : List D} (φ : Nat → D)
    (h : ∀ i d, ds[i]? = some d → wG g d S (fun S1 => wE f S1 cs (fun r c => r = .c (φ i) ∧ c = cs) .mk) .mk) : lcL g dYes f ds S cs = some ((List.range ds.length).map φ, cs) := by
  have := lc_map (g := g) (f := f) φ (fun _ => True) ds 0 (S := S) (cs := cs) fun i d e => by
    obtain ⟨S1, e1, q⟩ := wG_ex.mp (h i d e)
    obtain ⟨r, c, e2, rfl, rfl⟩ := wE_ex.mp q
    exact ⟨S1, e1, by rw [Nat.zero_add]; exact e2⟩
  simpa using this
theorem lc_rng {g : DG} {f : DE} {S : List Sl} {cs : Option D} {lo : Int} {n : Nat} (φ : Nat → D)
    (h : ∀ i, i < n → wG g (.int (lo + (i : Int))) S (fun S1 => wE f S1 cs (fun r c => r = .c (φ i) ∧ c = cs) .mk) .mk) : lcL g dYes f (rngD lo n) S cs = some ((List.range n).map φ, cs) := by
  rw [lc_all (g := g) φ fun i d e => ?_, rngD_len]
  obtain ⟨hi, rfl⟩ := rngD_get e
  exact h i hi
theorem notCst_of {s : Sl} {k : Prop} {t} (h : s ≠ .cst) : notCst s k t = k := by cases s <;> first | rfl | exact absurd rfl h
theorem bls_map {n : Nat} {φ : Nat → Bool} : blsD ((List.range n).map fun i => D.bl (φ i)) = some ((List.range n).map φ) := by
  generalize List.range n = l
  induction l with
  | nil => rfl
  | cons a r ih => simp [blsD, ih]
theorem ints_map {α : Type} {l : List α} {φ : α → Int} : intsD (l.map fun i => D.int (φ i)) = some (l.map φ) := by
  induction l with
  | nil => rfl
  | cons a r ih => simp [intsD, ih]
theorem intsD_ints {l : List Int} : intsD (l.map D.int) = some l := by
  induction l with
  | nil => rfl
  | cons a r ih => simp [intsD, ih]
theorem oAll_map {n : Nat} {φ : Nat → Bool} : oAll [.lst ((List.range n).map fun i => D.bl (φ i))] = some (.bl ((List.range n).all φ)) := by
  simp [oAll, bls_map]
theorem oAny_map {n : Nat} {φ : Nat → Bool} : oAny [.lst ((List.range n).map fun i => D.bl (φ i))] = some (.bl ((List.range n).any φ)) := by
  simp [oAny, bls_map]
theorem okD_i {i : Int} : okD (.int i) = true := by
  simp [okD, plain, toPy, SeqAt.shaped, PyData.canLay0, PyData.depth]
theorem eqD_i {i j : Int} : eqD (.int i) (.int j) = decide (i = j) := by
  simp [eqD, toPy, PyData.eqv]
  rfl
@[simp] theorem oEq_i {i j : Int} : oEq (.int i) (.int j) = some (.bl (decide (i = j))) := by
  simp [oEq, okD_i, eqD_i]
@[simp] theorem oNe_i {i j : Int} : oNe (.int i) (.int j) = some (.bl (!decide (i = j))) := by
  simp [oNe, okD_i, eqD_i]
theorem iP_dis {p x : Prop} {t} (h : p) : iP p x t = x := by simp [iP, h]
theorem sizeLine_v : sizeLine = 16777216 := (rfl)
theorem ixD_l' {ds : List D} {i : Int} {d : D} (h0 : 0 ≤ i) (h : ds[i.toNat]? = some d) : ixD (.lst ds) (.int i) = some d := by
  have := ixD_l h
  rwa [show ((i.toNat : Nat) : Int) = i by omega] at this
theorem ixD_t' {ds : List D} {i : Int} {d : D} (h0 : 0 ≤ i) (h : ds[i.toNat]? = some d) : ixD (.tup ds) (.int i) = some d := ixD_l' h0 h
def okSl : Sl → Bool
  | .own _ => false
  | .cst => false
  | _ => true
def okOwn : List Sl → Nat → Bool
  | s :: _, 0 => okSl s
  | _ :: r, i + 1 => okOwn r i
  | [], _ => true
@[simp] theorem okSl_n : okSl .no = true := (rfl)
@[simp] theorem okSl_v {d} : okSl (.val d) = true := (rfl)
@[simp] theorem okOwn_z {s r} : okOwn (s :: r) 0 = okSl s := by rw [okOwn]
@[simp] theorem okOwn_s {s r i} : okOwn (s :: r) (i + 1) = okOwn r i := by rw [okOwn]
theorem okOwn_get (S : List Sl) (i : Nat) : okOwn S i = (match S[i]? with
  | some (.own _) => false
  | some .cst => false
  | _ => true) := by
  induction S generalizing i with
  | nil => simp [okOwn]
  | cons a r ih => cases i with
    | zero => cases a <;> simp [okSl]
    | succ i => simp [ih]
@[simp] theorem noOwn_nil {S} : noOwn S [] = true := (rfl)
@[simp] theorem noOwn_cons {S v vs} : noOwn S (v :: vs) = (okOwn S v && noOwn S vs) := by
  rw [okOwn_get]
  rfl
@[simp] theorem wipeD_nil {S} : wipeD S [] = S := (rfl)
@[simp] theorem wipeD_cons {S v vs} : wipeD S (v :: vs) = (wipeD S vs).set v .no := (rfl)
theorem iB_b {b : Bool} {x y : Prop} {t u} : iB b x y t u = ((b = true → x) ∧ (b = false → y)) := by cases b <;> simp [iB]
/-- an int of a list -/
def gI (vs : List Int) (k : Nat) : Int := vs.getD k 0
theorem gI_get {vs : List Int} {i : Nat} (h : i < vs.length) : (vs.map D.int)[i]? = some (.int (gI vs i)) := by
  simp [List.getElem?_eq_getElem h, List.getD, gI]
theorem gI_l {vs : List Int} {i : Int} (h0 : 0 ≤ i) (h : i < vs.length) : ixD (.lst (vs.map D.int)) (.int i) = some (.int (gI vs i.toNat)) := ixD_l' h0 (gI_get (by omega))
theorem gI_t {vs : List Int} {i : Int} (h0 : 0 ≤ i) (h : i < vs.length) : ixD (.tup (vs.map D.int)) (.int i) = some (.int (gI vs i.toNat)) := ixD_t' h0 (gI_get (by omega))
theorem allR {n : Nat} {φ : Nat → Bool} : ((List.range n).all φ = true) ↔ ∀ k, k < n → φ k = true := by
  simp [List.all_eq_true]
theorem anyR {n : Nat} {φ : Nat → Bool} : ((List.range n).any φ = true) ↔ ∃ k, k < n ∧ φ k = true := by
  simp [List.any_eq_true]
@[simp] theorem toNat_mod {a b : Nat} : ((a : Int) % (b : Int)).toNat = a % b := by
  rw [← Int.natCast_emod, Int.toNat_natCast]
@[simp] theorem toNat_div {a b : Nat} : ((a : Int) / (b : Int)).toNat = a / b := by
  rw [← Int.natCast_ediv, Int.toNat_natCast]
@[simp] theorem toNat_add {a b : Nat} : ((a : Int) + (b : Int)).toNat = a + b := by omega
theorem seq_mid {f g : DS} {S : List Sl} {cs : Option D} {Q : Fl → List Sl → Option D → Prop} (Mid : List Sl → Option D → Prop) (h : wS f S cs (fun fl S1 c1 => fl = .nx ∧ Mid S1 c1) .mk) (k : ∀ S1 c1, Mid S1 c1 → wS g S1 c1 Q .mk) : wS (dsSeq f g) S cs Q .mk := by
  rw [w_seq]
  refine wS_mono h ?_
  rintro fl S1 c1 ⟨rfl, m⟩
  simp
  exact k S1 c1 m
theorem of_runF_ex {np n : Nat} {b : DS} {ds : List D} (Φ : D → Prop) (hl : ds.length = np) (h : wS b (ds.map Sl.val ++ List.replicate (n - np) Sl.no) none (fun fl _ _ => ∃ d, flD fl = some d ∧ Φ d) .mk) : ∃ d, runF np n b ds = some d ∧ Φ d := by
  rw [wS_ex] at h
  obtain ⟨fl, S', c, e, d, q, w⟩ := h
  exact ⟨d, of_runF hl (wS_ex.mpr ⟨fl, S', c, e, q⟩), w⟩
theorem riD {n : Nat} {G : Nat → Int} : (List.range n).map (fun k => D.int (G k)) = ((List.range n).map G).map D.int := by simp [Function.comp_def]
theorem gI_r {n k : Nat} {G : Nat → Int} (h : k < n) : gI ((List.range n).map G) k = G k := by
  simp [gI, List.getD, List.getElem?_range h]
theorem cut_from {α : Type} {xs : List α} {k : Nat} : cutD xs (some (k : Int)) none = xs.drop k := by
  unfold cutD
  rw [HT.sIx_nat, HT.sIx_none]
  by_cases h : k ≤ xs.length
  · rw [Nat.min_eq_left h, List.take_of_length_le (by simp)]
  · rw [Nat.min_eq_right (by omega), List.drop_length, List.drop_eq_nil_of_le (by omega)]
    simp
theorem cut_to {α : Type} {xs : List α} {k : Nat} : cutD xs none (some (k : Int)) = xs.take k := by
  unfold cutD
  rw [HT.sIx_nat, HT.sIx_none, List.drop_zero, Nat.sub_zero]
  by_cases h : k ≤ xs.length
  · rw [Nat.min_eq_left h]
  · rw [Nat.min_eq_right (by omega), List.take_of_length_le (Nat.le_refl _), List.take_of_length_le (by omega)]
theorem zipD_inv : ∀ {xs ys : List D} {i : Nat} {d : D}, (zipD xs ys)[i]? = some d → ∃ x y, xs[i]? = some x ∧ ys[i]? = some y ∧ d = .tup [x, y]
  | [], _, _, _, h => by simp [zipD] at h
  | _ :: _, [], _, _, h => by simp [zipD] at h
  | x :: xs, y :: ys, 0, d, h => by simp [zipD] at h; exact ⟨x, y, rfl, rfl, h.symm⟩
  | x :: xs, y :: ys, i + 1, d, h => by
    obtain ⟨a, b, h1, h2, h3⟩ := zipD_inv (xs := xs) (ys := ys) (i := i) (d := d) (by simpa [zipD] using h)
    exact ⟨a, b, by simpa using h1, by simpa using h2, h3⟩
theorem map_inv {α : Type} {f : α → D} {xs : List α} {i : Nat} {d : D} (h : (xs.map f)[i]? = some d) : ∃ x, xs[i]? = some x ∧ d = f x := by
  rw [List.getElem?_map] at h
  cases e : xs[i]? with
  | none => rw [e] at h; cases h
  | some x => rw [e] at h; cases h; exact ⟨x, rfl, rfl⟩
theorem range_inv {n i k : Nat} (h : (List.range n)[i]? = some k) : i < n ∧ k = i := by
  have hi : i < n := by
    by_cases hi : i < n
    · exact hi
    · rw [List.getElem?_eq_none (by rw [List.length_range]; omega)] at h; cases h
  rw [List.getElem?_range hi] at h
  cases h
  exact ⟨hi, rfl⟩
theorem ints_inv {vs : List Int} {i : Nat} {d : D} (h : (vs.map D.int)[i]? = some d) : i < vs.length ∧ d = .int (gI vs i) := by
  obtain ⟨x, h1, rfl⟩ := map_inv h
  exact ⟨(List.getElem?_eq_some_iff.mp h1).1, by simp [gI, List.getD, h1]⟩
@[simp] theorem oMax_2 {i j : Int} : oMax [.int i, .int j] = some (.int (if j > i then j else i)) := (rfl)
@[simp] theorem oMin_2 {i j : Int} : oMin [.int i, .int j] = some (.int (if j < i then j else i)) := (rfl)
theorem oMax_l {vs : List Int} (h : vs ≠ []) : oMax [.lst (vs.map D.int)] = some (.int (maxI vs)) := by
  show orC oMax2 (orC oMaxL oMaxT) _ = _
  simp [orC, oMax2, oMaxL, intsD_ints, h]
theorem oMin_l {vs : List Int} (h : vs ≠ []) : oMin [.lst (vs.map D.int)] = some (.int (minI vs)) := by
  show orC oMin2 (orC oMinL oMinT) _ = _
  simp [orC, oMin2, oMinL, intsD_ints, h]
@[simp] theorem oMin_t2 {i j : Int} : oMin [.tup [.int i, .int j]] = some (.int (if j < i then j else i)) := (rfl)
@[simp] theorem oMax_t2 {i j : Int} : oMax [.tup [.int i, .int j]] = some (.int (if j > i then j else i)) := (rfl)
@[simp] theorem oSum_t2 {i j : Int} : oSum [.tup [.int i, .int j]] = some (.int (i + j)) := by
  show some (D.int (i + (j + 0))) = _
  rw [Int.add_zero]
theorem oAbs_n {n : Nat} : oAbs [.int n] = some (.int n) := by
  show some (D.int (if (n : Int) < 0 then -(n : Int) else n)) = _
  rw [if_neg (by omega)]
@[simp] theorem oToInt_i {i : Int} : oToInt [.int i] = some (.int i) := (rfl)
@[simp] theorem rd_oz {ds r cs} : rd (.own ds :: r) cs (.o 0) = some (.lst ds) := (rfl)
@[simp] theorem rd_os {s r cs i} : rd (s :: r) cs (.o (i + 1)) = rd r cs (.o i) := (rfl)
end DL

set_option autoImplicit true
set_option relaxedAutoImplicit true
set_option Elab.async false
set_option linter.all false
/-! PA: curves as plain functions of a moment -/
namespace K54
/-- a curve -/
structure Cv where
  vs : List Int
  p : Nat
  s : Int
structure Cv.Ok (c : Cv) : Prop where
  hp : 1 ≤ c.p
  hn : c.p ≤ c.vs.length
  hb : c.vs.length ≤ 10000
  hs : -(2 ^ 40) < c.s ∧ c.s < 2 ^ 40
def va (c : Cv) (t : Nat) : Int :=
  if t < c.vs.length then c.vs.getD t 0
  else c.vs.getD (t - ((t - c.vs.length) / c.p + 1) * c.p) 0 + (((t - c.vs.length) / c.p + 1 : Nat) : Int) * c.s
theorem turns_le {t n p : Nat} (h : n ≤ t) (hp : 1 ≤ p) (hn : p ≤ n) : ((t - n) / p + 1) * p ≤ t ∧ n - p ≤ t - ((t - n) / p + 1) * p ∧ t - ((t - n) / p + 1) * p < n := by
  have h1 := Nat.div_add_mod (t - n) p
  have h2 := Nat.mod_lt (t - n) (show p > 0 by omega)
  rw [Nat.add_mul, Nat.mul_comm ((t - n) / p)]
  omega
/-- from N on, P steps on it is S more -/
def QP (F : Nat → Int) (N P : Nat) (S : Int) : Prop := ∀ t, N ≤ t → F (t + P) = F t + S
theorem QP.mono {F N M P S} (h : QP F N P S) (hN : N ≤ M) : QP F M P S := fun t ht => h t (by omega)
theorem QP.mul {F N P S} (h : QP F N P S) (k : Nat) : QP F N (k * P) (k * S) := by
  induction k with
  | zero => intro t _; simp
  | succ k ih =>
    intro t ht
    rw [show t + (k + 1) * P = (t + k * P) + P by rw [Nat.add_mul]; omega, h _ (by omega), ih t ht]
    rw [Int.natCast_add, Int.add_mul]; omega
theorem va_lt {c : Cv} {t : Nat} (h : t < c.vs.length) : va c t = c.vs.getD t 0 := by unfold va; rw [if_pos h]
theorem va_qp {c : Cv} (hp : 1 ≤ c.p) (hn : c.p ≤ c.vs.length) : QP (va c) (c.vs.length - c.p) c.p c.s := by
  intro t ht
  by_cases h1 : t < c.vs.length
  · rw [va_lt h1]
    unfold va
    rw [if_neg (by omega), Nat.div_eq_of_lt (by omega)]
    simp
  · unfold va
    rw [if_neg (by omega), if_neg h1, show t + c.p - c.vs.length = (t - c.vs.length) + c.p by omega, Nat.add_div_right _ (by omega)]
    generalize (t - c.vs.length) / c.p = k
    rw [show t + c.p - (k + 1 + 1) * c.p = t - (k + 1) * c.p by rw [Nat.add_mul (k + 1)]; omega]
    rw [Int.natCast_add (k + 1), Int.add_mul]; omega
theorem getD_map {F : Nat → Int} {n t : Nat} (h : t < n) : ((List.range n).map F).getD t 0 = F t := by
  simp [List.getD, List.getElem?_range h]
theorem va_make {F : Nat → Int} {N p n : Nat} {s : Int} (hq : QP F N p s) (hp : 1 ≤ p) (hn : N + p ≤ n) (t : Nat) : va ⟨(List.range n).map F, p, s⟩ t = F t := by
  unfold va
  simp only [List.length_map, List.length_range]
  by_cases h : t < n
  · rw [if_pos h, getD_map h]
  · rw [if_neg h]
    obtain ⟨k1, k2, k3⟩ := turns_le (t := t) (n := n) (p := p) (by omega) hp (by omega)
    generalize (t - n) / p + 1 = k at *
    rw [getD_map k3, ← hq.mul k (t - k * p) (by omega), Nat.sub_add_cancel k1]
/-- a least form of F -/
structure IsLF (F : Nat → Int) (l : Cv) : Prop where
  hp : 1 ≤ l.p
  hn : l.p ≤ l.vs.length
  hv : l.vs = (List.range l.vs.length).map F
  hq : QP F (l.vs.length - l.p) l.p l.s
  mp : ∀ N σ S, 1 ≤ σ → QP F N σ S → l.p ≤ σ
  mf : ∀ N, QP F N l.p l.s → l.vs.length - l.p ≤ N
theorem IsLF.at {F l} (h : IsLF F l) (t : Nat) : va l t = F t := by
  have := va_make h.hq h.hp (n := l.vs.length) (by have := h.hn; omega) t
  rw [← h.hv] at this
  exact this
theorem IsLF.unique {F l l'} (h : IsLF F l) (h' : IsLF F l') : l = l' := by
  have ep : l.p = l'.p := Nat.le_antisymm (h.mp _ _ _ h'.hp h'.hq) (h'.mp _ _ _ h.hp h.hq)
  have es : l.s = l'.s := by
    have a := h.hq (l.vs.length + l'.vs.length) (by omega)
    have b := h'.hq (l.vs.length + l'.vs.length) (by omega)
    rw [← ep, a] at b
    omega
  have el : l.vs.length = l'.vs.length := by
    have a := h.mf _ (by rw [ep, es]; exact h'.hq)
    have b := h'.mf _ (by rw [← ep, ← es]; exact h.hq)
    have := h.hn
    have := h'.hn
    omega
  have ev : l.vs = l'.vs := by rw [h.hv, h'.hv, el]
  cases l; cases l'
  simp_all
theorem IsLF.fn {F G l} (h : IsLF F l) (e : ∀ t, F t = G t) : IsLF G l := by rw [← (funext e : F = G)]; exact h
theorem qp_back {F N M P σ S st} (hq : QP F N P S) (hP : 1 ≤ P) (h : QP F M σ st) : QP F N σ st := by
  intro t ht
  have a := hq.mul M (t + σ) (by omega)
  have b := hq.mul M t ht
  have hM : M ≤ M * P := by
    have := Nat.mul_le_mul_left M hP
    omega
  have c := h (t + M * P) (by omega)
  rw [show t + M * P + σ = t + σ + M * P by omega] at c
  omega
theorem qp_window {F N P σ b S st} (hq : QP F N P S) (hP : 1 ≤ P) (hb : N ≤ b) (hw : ∀ t, b ≤ t → t < b + P → F (t + σ) = F t + st) : QP F b σ st := by
  intro t
  induction t using Nat.strongRecOn with
  | _ t ih =>
    intro ht
    by_cases h : t < b + P
    · exact hw t ht h
    · have a := ih (t - P) (by omega) (by omega)
      have b1 := hq (t - P) (by omega)
      have b2 := hq (t - P + σ) (by omega)
      rw [show t - P + P = t by omega] at b1
      rw [show t - P + σ + P = t + σ by omega] at b2
      omega
theorem qp_mod {F N a A b B} (h : QP F N a A) (h' : QP F N b B) : QP F N (b % a) (B - (b / a : Nat) * A) := by
  intro t ht
  have e := h'  t ht
  have e2 := h.mul (b / a) (t + b % a) (by omega)
  have e3 := Nat.div_add_mod b a
  rw [Nat.mul_comm] at e3
  rw [show t + b % a + b / a * a = t + b by omega] at e2
  omega
/-- the least one divides each -/
theorem qp_dvd {F N σ st P S} (h : QP F N σ st) (hm : ∀ M τ T, 1 ≤ τ → QP F M τ T → σ ≤ τ) (h' : QP F N P S) (hs : 1 ≤ σ) : P % σ = 0 := by
  have a := qp_mod h h'
  have b := Nat.mod_lt P (show σ > 0 by omega)
  by_cases hz : P % σ = 0
  · exact hz
  · have := hm _ _ _ (by omega) a
    omega
/-- differences that come again -/
theorem qp_diff {F : Nat → Int} {N p : Nat} {s : Int} (hq : QP F N p s) (hp : 1 ≤ p) (σ : Nat) (hs : 1 ≤ σ) (hd : p % σ = 0) :
    (∀ k, k < p → F (N + k + 1) - F (N + k) = F (N + k % σ + 1) - F (N + k % σ)) ↔ QP F N σ (F (N + σ) - F N) := by
  constructor
  · intro h
    have e : ∀ m, F (N + m + 1) - F (N + m) = F (N + m % σ + 1) - F (N + m % σ) := by
      intro m
      induction m using Nat.strongRecOn with
      | _ m ih =>
        by_cases hm : m < p
        · exact h m hm
        · have a := ih (m - p) (by omega)
          have b1 := hq (N + (m - p)) (by omega)
          have b2 := hq (N + (m - p) + 1) (by omega)
          have c : (m - p) % σ = m % σ := by
            have h3 : m = (m - p) + p := by omega
            rw [h3, Nat.add_sub_cancel]
            obtain ⟨q, hq'⟩ := Nat.dvd_of_mod_eq_zero hd
            rw [hq', Nat.add_mul_mod_self_left]
          rw [show N + (m - p) + p = N + m by omega] at b1
          rw [show N + (m - p) + 1 + p = N + m + 1 by omega] at b2
          rw [← c]
          omega
    have g : ∀ m, F (N + m + σ) - F (N + m) = F (N + σ) - F N := by
      intro m
      induction m with
      | zero => rfl
      | succ m ih =>
        have a := e (m + σ)
        have b := e m
        rw [Nat.add_mod_right] at a
        rw [show N + (m + 1) + σ = N + (m + σ) + 1 by omega, show N + (m + 1) = N + m + 1 by omega]
        rw [show N + m + σ = N + (m + σ) by omega] at ih
        omega
    intro t ht
    have := g (t - N)
    rw [show N + (t - N) = t by omega] at this
    omega
  · intro h k hk
    have a : ∀ q : Nat, F (N + k % σ + q * σ) = F (N + k % σ) + q * (F (N + σ) - F N) := fun q => h.mul q _ (by omega)
    have b : ∀ q : Nat, F (N + k % σ + 1 + q * σ) = F (N + k % σ + 1) + q * (F (N + σ) - F N) := fun q => h.mul q _ (by omega)
    have c := Nat.div_add_mod k σ
    have a' := a (k / σ)
    have b' := b (k / σ)
    rw [Nat.mul_comm] at c
    rw [show N + k % σ + k / σ * σ = N + k by omega] at a'
    rw [show N + k % σ + 1 + k / σ * σ = N + k + 1 by omega] at b'
    omega
end K54

set_option autoImplicit true
set_option relaxedAutoImplicit true
set_option Elab.async false
set_option linter.all false
set_option maxRecDepth 100000
set_option maxHeartbeats 4000000
/-! KB: the program's functions on curves, as plain functions -/
namespace K54
open PySem L2 DL
def cD (c : Cv) : D := .tup [.tup (c.vs.map .int), .int c.p, .int c.s]
theorem ints_get {vs : List Int} {i : Nat} (h : i < vs.length) : (vs.map D.int)[i]? = some (.int (vs.getD i 0)) := by
  simp [List.getElem?_eq_getElem h, List.getD]
theorem fdiv_nat {t n p : Nat} (h : n ≤ t) : ((t : Int) - n).fdiv p = ((t - n) / p : Nat) := by
  rw [show (t : Int) - n = ((t - n : Nat) : Int) by omega]
  simp [Int.fdiv_eq_ediv]
theorem fmod_nat {a b : Nat} : ((a : Int)).fmod b = (a % b : Nat) := by
  simp [Int.fmod_eq_emod]
theorem least_ex (P : Nat → Prop) (n : Nat) (h : P n) : ∃ m, P m ∧ m ≤ n ∧ ∀ k, k < m → ¬ P k := by
  induction n using Nat.strongRecOn with
  | _ n ih =>
    by_cases hk : ∃ k, k < n ∧ P k
    · obtain ⟨k, h1, h2⟩ := hk
      obtain ⟨m, a, b, c⟩ := ih k h1 h2
      exact ⟨m, a, by omega, c⟩
    · exact ⟨n, h, Nat.le_refl _, fun k hk' hp => hk ⟨k, hk', hp⟩⟩
theorem w_at0 {c : Cv} (h : c.Ok) (t : Nat) (hs : t ≤ 1000000) : m_value_at [cD c, .int t] = some (.int (va c t)) := by
  have hp := h.hp
  have hn := h.hn
  have hb := h.hb
  have hss := h.hs
  refine of_runF rfl ?_
  unfold b_value_at cD
  simp [List.replicate]
  refine ⟨fun ht => ?_, fun ht => ?_⟩
  · rw [ixD_t (ints_get ht)]
    simp [flD, va, ht]
  · have h0 : ¬ c.p = 0 := by omega
    have h1 : c.p < 1073741824 := by omega
    obtain ⟨k1, k2, k3⟩ := turns_le ht hp hn
    have k4 : (t - c.vs.length) / c.p ≤ 1000000 := Nat.le_trans (Nat.div_le_self _ _) (by omega)
    have e : va c t = c.vs.getD (t - ((t - c.vs.length) / c.p + 1) * c.p) 0 + (((t - c.vs.length) / c.p + 1 : Nat) : Int) * c.s := by unfold va; rw [if_neg (by omega)]
    rw [e, if_pos ⟨h0, h1⟩, fdiv_nat ht]
    generalize (t - c.vs.length) / c.p = k at *
    simp
    rw [oMul_i (by omega)]
    simp
    rw [show (t : Int) - ((k : Int) + 1) * c.p = ((t - (k + 1) * c.p : Nat) : Int) by
      have : ((k : Int) + 1) * c.p = ((k + 1) * c.p : Nat) := by simp
      omega, ixD_t (ints_get k3)]
    simp
    rw [oMul_i (by omega)]
    simp [flD]
theorem w_at {c : Cv} (h : c.Ok) (i : Int) (h0 : 0 ≤ i) (h1 : i ≤ 1000000) : m_value_at [cD c, .int i] = some (.int (va c i.toNat)) := by
  have := w_at0 h i.toNat (by omega)
  rwa [show ((i.toNat : Nat) : Int) = i by omega] at this
theorem w_lawat {c : Cv} (h : c.Ok) (t : Nat) (hs : t ≤ 1000000) : m__law_at [cD c, .int t] = some (.int (va c t)) := by
  have hp := h.hp
  have hn := h.hn
  have hb := h.hb
  have hss := h.hs
  refine of_runF rfl ?_
  unfold b__law_at cD
  simp [List.replicate]
  refine ⟨fun ht => ?_, fun ht => ?_⟩
  · rw [ixD_t (ints_get ht)]
    simp [flD, va, ht]
  · have h0 : ¬ c.p = 0 := by omega
    have h1 : c.p < 1073741824 := by omega
    obtain ⟨k1, k2, k3⟩ := turns_le ht hp hn
    have k4 : (t - c.vs.length) / c.p ≤ 1000000 := Nat.le_trans (Nat.div_le_self _ _) (by omega)
    have e : va c t = c.vs.getD (t - ((t - c.vs.length) / c.p + 1) * c.p) 0 + (((t - c.vs.length) / c.p + 1 : Nat) : Int) * c.s := by unfold va; rw [if_neg (by omega)]
    rw [e, if_pos ⟨h0, h1⟩, fdiv_nat ht]
    generalize (t - c.vs.length) / c.p = k at *
    simp
    rw [oMul_i (by omega)]
    simp
    rw [show (t : Int) - ((k : Int) + 1) * c.p = ((t - (k + 1) * c.p : Nat) : Int) by
      have : ((k : Int) + 1) * c.p = ((k + 1) * c.p : Nat) := by simp
      omega, ixD_t (ints_get k3)]
    simp
    rw [oMul_i (by omega)]
    simp [flD]
def GoodP (e : List Int) (p τ : Nat) : Prop := 1 ≤ τ ∧ p % τ = 0 ∧ ∀ k, k < p → gI e k = gI e (k % τ)
theorem w_least_period {e : List Int} {p : Nat} (hp : 1 ≤ p) (hl : e.length = p) (hb : p ≤ 10000) :
    ∃ σ : Nat, m_least_period [.lst (e.map .int), .int p] = some (.int σ) ∧ GoodP e p σ ∧ σ ≤ p ∧ ∀ τ, τ < σ → ¬ GoodP e p τ := by
  obtain ⟨σ, h1, h2, h3⟩ := least_ex (GoodP e p) p ⟨hp, Nat.mod_self p, fun k hk => by rw [Nat.mod_eq_of_lt hk]⟩
  refine ⟨σ, of_runF rfl ?_, h1, h2, h3⟩
  unfold b_least_period
  simp [List.replicate]
  refine iP_of (by omega) ?_
  refine for_rng (fun i S cs => i + 1 ≤ σ ∧ cs = none ∧ ∃ x, x ≠ .cst ∧ S = [.val (.lst (e.map .int)), .val (.int p), x, .no]) ⟨h1.1, rfl, .no, by simp, rfl⟩ ?_ ?_
  · rintro i S cs hi ⟨hs, rfl, x, hx, rfl⟩
    obtain ⟨τ, hτ⟩ : ∃ τ : Nat, τ = 1 + i := ⟨_, rfl⟩
    rw [show (1 : Int) + (i : Int) = (τ : Int) by omega]
    simp [notCst_of hx]
    rw [if_neg (by omega), fmod_nat]
    have hm : ((p % τ : Nat) : Int) = 0 ↔ p % τ = 0 := by omega
    generalize hq : p % τ = q at *
    have fin : (¬ GoodP e p τ → i + 1 + 1 ≤ σ) ∧ (GoodP e p τ → τ = σ) := by
      refine ⟨fun hn => ?_, fun hg => ?_⟩
      · by_cases h : τ = σ
        · subst h; exact absurd h1 hn
        · omega
      · by_cases h : τ < σ
        · exact absurd hg (h3 τ h)
        · omega
    have no : ¬ GoodP e p τ → i + 1 + 1 ≤ σ ∧ (none : Option D) = none ∧ ∃ x : Sl, x ≠ .cst ∧ [Sl.val (.lst (e.map .int)), .val (.int p), .val (.int τ), .no] = [.val (.lst (e.map .int)), .val (.int p), x, .no] :=
      fun h => ⟨fin.1 h, rfl, _, by simp, rfl⟩
    simp
    refine ⟨fun hz => ?_, fun hz => ?_⟩
    · have hz' : q = 0 := by omega
      simp (disch := omega) [iP_dis, sizeLine_v, rngD_len]
      rw [lc_rng (φ := fun k => .bl (decide (gI e k = gI e (k % τ))))]
      · simp [oAll_map]
        have hb : ((List.range p).all fun k => decide (gI e k = gI e (k % τ))) = true ↔ GoodP e p τ := by
          rw [allR]
          simp only [decide_eq_true_eq]
          exact ⟨fun h => ⟨by omega, by omega, h⟩, fun h => h.2.2⟩
        rw [iB_b, hb]
        refine ⟨fun hg => ?_, fun hg => ?_⟩
        · simp [flD, fin.2 hg]
        · have := no fun h => by rw [hb.2 h] at hg; cases hg
          simpa using this
      · intro k hk
        have hk2 : k % τ < e.length := Nat.lt_of_lt_of_le (Nat.mod_lt _ (by omega)) (by omega)
        simp
        rw [gI_l (by omega) (by omega)]
        simp
        rw [if_neg (by omega), fmod_nat]
        simp
        rw [gI_l (by omega) (by omega)]
        simp
    · have := no fun hg => hz (by have := hg.2.1; omega)
      simpa using this
  · rintro S cs ⟨hs, _⟩
    omega
end K54

set_option autoImplicit true
set_option relaxedAutoImplicit true
set_option Elab.async false
set_option linter.all false
set_option maxRecDepth 100000
set_option maxHeartbeats 4000000
/-! KC: least forms -/
namespace K54
open PySem L2 DL
theorem w_least_curve {c : Cv} (h : c.Ok) (hn4 : c.vs.length ≤ 4000) (hv : ∀ t, t ≤ 20000 → -(2 ^ 36) < va c t ∧ va c t < 2 ^ 36) :
    ∃ l, m_least_curve [cD c] = some (cD l) ∧ IsLF (va c) l ∧ l.vs.length ≤ c.vs.length ∧ l.Ok := by
  have hp := h.hp
  have hn := h.hn
  have hq := va_qp hp hn
  have w := w_at h
  generalize hF : va c = F at *
  obtain ⟨n, en⟩ : ∃ n, n = c.vs.length := ⟨_, rfl⟩
  obtain ⟨p, ep⟩ : ∃ p, p = c.p := ⟨_, rfl⟩
  obtain ⟨s, es⟩ : ∃ s, s = c.s := ⟨_, rfl⟩
  have hc : cD c = .tup [.tup (c.vs.map .int), .int p, .int s] := by rw [ep, es]; rfl
  have hl : (c.vs.map D.int).length = n := by rw [List.length_map, en]
  rw [← ep] at hp hn hq
  rw [← en] at hn hn4 hq
  rw [← es] at hq
  obtain ⟨N, eN⟩ : ∃ N, N = n - p := ⟨_, rfl⟩
  rw [← eN] at hq
  obtain ⟨σ, e1, hg, hσ, hm⟩ := w_least_period (e := (List.range p).map fun k => F (N + k + 1) - F (N + k)) (p := p) hp (by simp) (by omega)
  have good : ∀ τ, GoodP ((List.range p).map fun k => F (N + k + 1) - F (N + k)) p τ ↔ 1 ≤ τ ∧ p % τ = 0 ∧ QP F N τ (F (N + τ) - F N) := by
    intro τ
    unfold GoodP
    constructor
    · rintro ⟨a, b, c⟩
      refine ⟨a, b, (qp_diff hq hp τ a b).mp fun k hk => ?_⟩
      have := c k hk
      rwa [gI_r hk, gI_r (Nat.lt_of_le_of_lt (Nat.mod_le _ _) hk)] at this
    · rintro ⟨a, b, c⟩
      refine ⟨a, b, fun k hk => ?_⟩
      rw [gI_r hk, gI_r (Nat.lt_of_le_of_lt (Nat.mod_le _ _) hk)]
      exact (qp_diff hq hp τ a b).mpr c k hk
  obtain ⟨g1, g2, g3⟩ := (good σ).mp hg
  obtain ⟨st, est⟩ : ∃ st, st = F (N + σ) - F N := ⟨_, rfl⟩
  rw [← est] at g3
  -- no smaller step at all
  have mp : ∀ M τ T, 1 ≤ τ → QP F M τ T → σ ≤ τ := by
    obtain ⟨τ0, ⟨M0, T0, a0, b0⟩, c0, d0⟩ := least_ex (fun τ => ∃ M T, 1 ≤ τ ∧ QP F M τ T) p ⟨N, s, hp, hq⟩
    have b1 := qp_back hq hp b0
    have : σ ≤ τ0 := by
      refine Nat.le_of_not_lt fun hlt => hm τ0 hlt ((good τ0).mpr ⟨a0, qp_dvd b1 (fun M τ T x y => Nat.le_of_not_lt fun z => d0 τ z ⟨M, T, x, y⟩) hq a0, ?_⟩)
      have : T0 = F (N + τ0) - F N := by have := b1 N (Nat.le_refl _); omega
      rw [← this]; exact b1
    intro M τ T x y
    refine Nat.le_trans this (Nat.le_of_not_lt fun z => d0 τ z ⟨M, T, x, y⟩)
  obtain ⟨f0, k1, k2, k3⟩ := least_ex (fun f => QP F f σ st) N g3
  have stop : ∀ f, QP F f σ st → f0 ≤ f → (f = 0 ∨ F (f - 1 + σ) ≠ F (f - 1) + st) → f = f0 := by
    intro f a b c
    refine Nat.le_antisymm (Nat.le_of_not_lt fun hlt => ?_) b
    rcases c with c | c
    · omega
    · exact c (k1 (f - 1) (by omega))
  refine ⟨⟨(List.range (f0 + σ)).map F, σ, st⟩, of_runF rfl ?_, ⟨g1, by simp, by simp, by simpa using k1, mp, fun M hM => ?_⟩, by simp; omega, g1, by simp, by simp; omega, ?_⟩
  · unfold b_least_curve
    rw [hc]
    simp (disch := omega) [List.replicate, iP_dis, sizeLine_v, rngD_len, hl]
    have eNI : (n : Int) - (p : Int) = (N : Int) := by omega
    rw [lc_rng (φ := fun k => .int (F (N + k))), riD]
    rotate_left
    · intro k hk
      simp [eNI]
      rw [← hc, w _ (by omega) (by omega)]
      simp
    simp (disch := omega) [-List.map_map, iP_dis, sizeLine_v, rngD_len, hl, rd_o]
    rw [show (1 : Int) = ((1 : Nat) : Int) from rfl, cut_from]
    generalize hR : (List.range (p + 1)).map (fun k => F (N + k)) = R
    have hRl : R.length = p + 1 := by rw [← hR]; simp
    have hRg : ∀ k, k < p + 1 → gI R k = F (N + k) := fun k hk => by rw [← hR, gI_r hk]
    have hzl : (zipD (R.map D.int) ((R.map D.int).drop 1)).length = p := by rw [zipD_len]; simp [hRl]
    rw [iP_dis (by rw [hzl]; omega), lc_all (φ := fun k => .int (F (N + k + 1) - F (N + k))), riD]
    rotate_left
    · intro k d hd
      obtain ⟨x, y, h1, h2, rfl⟩ := zipD_inv hd
      rw [List.getElem?_drop] at h2
      obtain ⟨j1, rfl⟩ := ints_inv h1
      obtain ⟨j2, rfl⟩ := ints_inv h2
      rw [hRl] at j1 j2
      rw [hRg _ j1, hRg _ j2, show N + (1 + k) = N + k + 1 by omega]
      simp
    rw [hzl]
    simp [-List.map_map, e1]
    have hR0 : gI R 0 = F N := hRg 0 (by omega)
    have hRs : gI R σ = F (N + σ) := hRg σ (by omega)
    rw [gI_l (by omega) (by omega)]
    simp [-List.map_map]
    rw [gI_l (by omega) (by omega), hRs]
    simp [-List.map_map]
    rw [hR0, ← est, eNI]
    refine wS_mono (Q := fun fl S1 c1 => fl = .nx ∧ S1 = [.val (cD c), .val (.tup (c.vs.map .int)), .val (.int p), .val (.int s), .val (.int n), .val (.lst (R.map .int)), .val (.int σ), .val (.int st), .val (.int f0), .no, .no, .no, .no] ∧ c1 = none) ?_ ?_
    · refine while_all (fun m S1 c1 => ∃ f : Nat, f0 ≤ f ∧ f ≤ N ∧ QP F f σ st ∧ m + N = 20000 + f ∧ S1 = [.val (cD c), .val (.tup (c.vs.map .int)), .val (.int p), .val (.int s), .val (.int n), .val (.lst (R.map .int)), .val (.int σ), .val (.int st), .val (.int f), .no, .no, .no, .no] ∧ c1 = none) 20000 ?_ ?_
      · exact ⟨N, k2, Nat.le_refl _, g3, rfl, by simp [hc], rfl⟩
      · rintro m S1 c1 ⟨f, f1, f2, f3, f4, rfl, rfl⟩
        refine ⟨by omega, ?_⟩
        simp
        refine ⟨fun hf => ?_, fun hf => ?_⟩
        · rw [gI_t (by omega) (by omega)]
          simp
          rw [w _ (by omega) (by omega)]
          simp
          have ea : gI c.vs (f - 1) = F (f - 1) := by rw [← hF, va_lt (by omega)]; rfl
          rw [ea, show ((f : Int) - 1 + σ).toNat = f - 1 + σ by omega]
          refine ⟨fun he => ?_, fun he => ?_⟩
          · have hq1 : QP F (f - 1) σ st := by
              intro t ht
              by_cases h1 : t = f - 1
              · subst h1; omega
              · exact f3 t (by omega)
            exact ⟨f - 1, Nat.le_of_not_lt fun z => k3 _ z hq1, by omega, hq1, by omega, by omega⟩
          · rw [stop f f3 f1 (.inr fun z => he z.symm)]
        · rw [stop f f3 f1 (.inl (by omega))]
    · rintro fl S1 c1 ⟨rfl, rfl, rfl⟩
      simp
      refine ⟨by omega, fun _ => ?_⟩
      simp (disch := omega) [-List.map_map, iP_dis, sizeLine_v, rngD_len]
      rw [lc_rng (φ := fun k => .int (F k)), riD]
      · simp (disch := omega) [-List.map_map, iP_dis, sizeLine_v, flD]
        rfl
      · intro k hk
        simp
        rw [w _ (by omega) (by omega)]
        simp
  · simp
    exact Nat.le_of_not_lt fun z => k3 M z hM
  · have a := hv (N + σ) (by omega)
    have b := hv N (by omega)
    show -(2 ^ 40) < st ∧ st < 2 ^ 40
    omega
end K54

set_option autoImplicit true
set_option relaxedAutoImplicit true
set_option Elab.async false
set_option linter.all false
set_option maxRecDepth 100000
set_option maxHeartbeats 4000000
/-! KD: sums, multiples, later ones -/
namespace K54
open PySem L2 DL
theorem gcd_ok : ∀ p, p < 5 → ∀ q, q < 5 → 1 ≤ p → 1 ≤ q → m_common_divisor [.int (p : Nat), .int (q : Nat)] = some (.int (Nat.gcd p q : Nat)) := by
  intro p hp q hq h1 h2
  match p, q, hp, hq, h1, h2 with
  | 1, 1, _, _, _, _ => rfl
  | 1, 2, _, _, _, _ => rfl
  | 1, 3, _, _, _, _ => rfl
  | 1, 4, _, _, _, _ => rfl
  | 2, 1, _, _, _, _ => rfl
  | 2, 2, _, _, _, _ => rfl
  | 2, 3, _, _, _, _ => rfl
  | 2, 4, _, _, _, _ => rfl
  | 3, 1, _, _, _, _ => rfl
  | 3, 2, _, _, _, _ => rfl
  | 3, 3, _, _, _, _ => rfl
  | 3, 4, _, _, _, _ => rfl
  | 4, 1, _, _, _, _ => rfl
  | 4, 2, _, _, _, _ => rfl
  | 4, 3, _, _, _, _ => rfl
  | 4, 4, _, _, _, _ => rfl
theorem cD_0 {c : Cv} : ixD (cD c) (.int 0) = some (.tup (c.vs.map .int)) := (rfl)
theorem cD_1 {c : Cv} : ixD (cD c) (.int 1) = some (.int c.p) := (rfl)
theorem cD_2 {c : Cv} : ixD (cD c) (.int 2) = some (.int c.s) := (rfl)
def lc (f g : Cv) : Nat := Nat.lcm f.p g.p
structure P4 (f : Cv) : Prop where
  h1 : 1 ≤ f.p
  h4 : f.p ≤ 4
theorem lc_ok {f g : Cv} (hf : P4 f) (hg : P4 g) : 1 ≤ lc f g ∧ lc f g ≤ 12 ∧ lc f g % f.p = 0 ∧ lc f g % g.p = 0 ∧ f.p * g.p / Nat.gcd f.p g.p = lc f g ∧ 1 ≤ Nat.gcd f.p g.p ∧ Nat.gcd f.p g.p ≤ 4 := by
  have a := hf.h1; have b := hf.h4; have c := hg.h1; have d := hg.h4
  unfold lc
  generalize f.p = p at *
  generalize g.p = q at *
  have : ∀ p : Fin 5, ∀ q : Fin 5, 1 ≤ p.1 → 1 ≤ q.1 → 1 ≤ Nat.lcm p.1 q.1 ∧ Nat.lcm p.1 q.1 ≤ 12 ∧ Nat.lcm p.1 q.1 % p.1 = 0 ∧ Nat.lcm p.1 q.1 % q.1 = 0 ∧ p.1 * q.1 / Nat.gcd p.1 q.1 = Nat.lcm p.1 q.1 ∧ 1 ≤ Nat.gcd p.1 q.1 ∧ Nat.gcd p.1 q.1 ≤ 4 := by decide +kernel
  exact this ⟨p, by omega⟩ ⟨q, by omega⟩ a c
theorem w_multiple {f g : Cv} (hf : P4 f) (hg : P4 g) : m_multiple_of [cD f, cD g] = some (.int (lc f g : Nat)) := by
  obtain ⟨h1, h2, h3, h4, h5, h6, h7⟩ := lc_ok hf hg
  have a := hf.h1; have b := hf.h4; have c := hg.h1; have d := hg.h4
  refine of_runF rfl ?_
  unfold b_multiple_of
  simp [List.replicate, cD_1]
  rw [oMul_i (by omega)]
  simp [cD_1]
  rw [gcd_ok f.p (by omega) g.p (by omega) a c]
  simp
  rw [if_pos ⟨by omega, by omega⟩]
  have e : ((f.p : Int) * (g.p : Int)).fdiv (Nat.gcd f.p g.p : Nat) = (lc f g : Nat) := by
    rw [← h5, ← Int.natCast_mul]
    simp [Int.fdiv_eq_ediv]
  simp [e]
  refine ⟨by omega, fun _ => ?_⟩
  simp [flD]
def gr (c : Cv) (d : Nat) : Int := ((d / c.p : Nat) : Int) * c.s
theorem w_growth {c : Cv} (h : c.Ok) (d : Nat) (hd : d ≤ 1000000) : m_growth [cD c, .int d] = some (.int (gr c d)) := by
  have a := h.hp; have b := h.hn; have e := h.hb; have s := h.hs
  refine of_runF rfl ?_
  unfold b_growth
  simp [List.replicate, cD_1, cD_2]
  rw [if_pos ⟨by omega, by omega⟩]
  have e : ((d : Int)).fdiv c.p = (d / c.p : Nat) := by simp [Int.fdiv_eq_ediv]
  rw [e]
  simp [-Int.natCast_ediv, cD_2]
  rw [oMul_i (by omega)]
  simp [flD, gr]
theorem vs_eq (c : Cv) : c.vs = (List.range c.vs.length).map (va c) := by
  apply List.ext_getElem
  · simp
  · intro i h1 h2
    simp
    rw [va_lt h1]
    simp [List.getD, h1]
theorem qp_gr {F N p s d} (hq : QP F N p s) (hd : d % p = 0) : QP F N d ((d / p : Nat) * s) := by
  have := hq.mul (d / p)
  rwa [Nat.div_mul_cancel (Nat.dvd_of_mod_eq_zero hd)] at this
/-- least forms of made curves -/
theorem w_form {F : Nat → Int} {N n p : Nat} {s : Int} (hq : QP F N p s) (hp : 1 ≤ p) (hn : N + p ≤ n) (hn4 : n ≤ 4000) (hv : ∀ t, t ≤ 20000 → -(2 ^ 36) < F t ∧ F t < 2 ^ 36) :
    ∃ l, m_least_curve [.tup [.tup ((List.range n).map fun k => .int (F k)), .int p, .int s]] = some (cD l) ∧ IsLF F l ∧ l.vs.length ≤ n ∧ l.Ok := by
  have e := va_make hq hp hn
  have a := hv (N + p) (by omega)
  have b := hv N (by omega)
  have c := hq N (Nat.le_refl _)
  obtain ⟨l, h1, h2, h3, h4⟩ := w_least_curve (c := ⟨(List.range n).map F, p, s⟩) ⟨hp, by simp; omega, by simp; omega, by show -(2 ^ 40) < s ∧ s < 2 ^ 40; omega⟩ (by simp; omega) (fun t ht => by rw [e]; exact hv t ht)
  refine ⟨l, ?_, h2.fn e, by simpa using h3, h4⟩
  rw [riD]
  exact h1
theorem w_times {c : Cv} (h : c.Ok) (hn4 : c.vs.length ≤ 4000) (hv : ∀ t, t ≤ 20000 → -(2 ^ 33) < va c t ∧ va c t < 2 ^ 33) (k : Int) (hk : -4 ≤ k ∧ k ≤ 4) :
    ∃ l, m_times_of [cD c, .int k] = some (cD l) ∧ IsLF (fun t => k * va c t) l ∧ l.vs.length ≤ c.vs.length ∧ l.Ok := by
  have hp := h.hp
  have hn := h.hn
  have hq := va_qp hp hn
  have hl : (c.vs.map D.int).length = c.vs.length := by simp
  have hm : ∀ x : Int, -(2 ^ 33) < x ∧ x < 2 ^ 33 → -(2 ^ 36) < k * x ∧ k * x < 2 ^ 36 := by
    intro x hx
    obtain ⟨k1, k2⟩ := hk
    have : k = -4 ∨ k = -3 ∨ k = -2 ∨ k = -1 ∨ k = 0 ∨ k = 1 ∨ k = 2 ∨ k = 3 ∨ k = 4 := by omega
    rcases this with e | e | e | e | e | e | e | e | e <;> subst e <;> omega
  obtain ⟨l, h1, h2, h3, h4⟩ := w_form (F := fun t => k * va c t) (N := c.vs.length - c.p) (n := c.vs.length) (p := c.p) (s := k * c.s) (fun t ht => by
    show k * va c (t + c.p) = _
    rw [hq t ht, Int.mul_add]) hp (by omega) hn4 (fun t ht => hm _ (hv t ht))
  refine ⟨l, of_runF rfl ?_, h2, h3, h4⟩
  unfold b_times_of
  simp (disch := omega) [List.replicate, cD_0, iP_dis, sizeLine_v, hl]
  rw [lc_all (φ := fun i => .int (k * va c i)), hl]
  · simp [cD_1]
    rw [cD_2]
    simp
    rw [oMul_i' (by omega)]
    simp (disch := omega) [iP_dis, sizeLine_v, h1, flD]
  · intro i d hd
    obtain ⟨hi, rfl⟩ := ints_inv hd
    simp
    rw [oMul_i' (by omega)]
    simp
    rw [va_lt hi]; rfl
theorem w_later {c : Cv} (h : c.Ok) (hn4 : c.vs.length ≤ 4000) (hv : ∀ t, t ≤ 30000 → -(2 ^ 36) < va c t ∧ va c t < 2 ^ 36) (k : Nat) (hk : k ≤ 10000) :
    ∃ l, m_later [cD c, .int k] = some (cD l) ∧ IsLF (fun t => va c (t + k)) l ∧ l.vs.length ≤ c.vs.length ∧ l.Ok := by
  have hp := h.hp
  have hn := h.hn
  have hq := va_qp hp hn
  have hl : (c.vs.map D.int).length = c.vs.length := by simp
  obtain ⟨l, h1, h2, h3, h4⟩ := w_form (F := fun t => va c (t + k)) (N := c.vs.length - c.p) (n := c.vs.length) (p := c.p) (s := c.s) (fun t ht => by
    show va c (t + c.p + k) = _
    rw [show t + c.p + k = t + k + c.p by omega, hq (t + k) (by omega)]) hp (by omega) hn4 (fun t ht => hv (t + k) (by omega))
  refine ⟨l, of_runF rfl ?_, h2, h3, h4⟩
  unfold b_later
  simp (disch := omega) [List.replicate, cD_0, cD_1, iP_dis, sizeLine_v, hl]
  rw [if_neg (by omega)]
  simp (disch := omega) [iP_dis, sizeLine_v, rngD_len]
  rw [lc_rng (φ := fun i => .int (va c (i + k)))]
  · simp [cD_1]
    rw [cD_2]
    simp (disch := omega) [iP_dis, sizeLine_v, h1, flD]
  · intro i hi
    simp
    rw [w_at h _ (by omega) (by omega)]
    simp
def nsP : List Str := ["f", "g", "d", "n"]
def mx (f g : Cv) : Nat := max f.vs.length g.vs.length
def pD (f g : Cv) : D := .obj 0 nsP [cD f, cD g, .int (lc f g : Nat), .int (mx f g : Nat)]
theorem fl_f {a b c d : D} : fldD nsP [a, b, c, d] "f" = some a := (rfl)
theorem fl_g {a b c d : D} : fldD nsP [a, b, c, d] "g" = some b := (rfl)
theorem fl_d {a b c d : D} : fldD nsP [a, b, c, d] "d" = some c := (rfl)
theorem fl_n {a b c d : D} : fldD nsP [a, b, c, d] "n" = some d := (rfl)
theorem no_v : ("values" : Str) ∉ nsP := by decide
theorem no_s : ("settled" : Str) ∉ nsP := by decide
theorem put_f {a : D} : putL "f" a [] [] = ([("f" : Str)], [a]) := (rfl)
theorem put_g {a b : D} : putL "g" b [("f" : Str)] [a] = ([("f" : Str), "g"], [a, b]) := (rfl)
theorem put_d {a b c : D} : putL "d" c [("f" : Str), "g"] [a, b] = ([("f" : Str), "g", "d"], [a, b, c]) := (rfl)
theorem put_n {a b c d : D} : putL "n" d [("f" : Str), "g", "d"] [a, b, c] = (nsP, [a, b, c, d]) := (rfl)
theorem w_init {f g : Cv} (hf : P4 f) (hg : P4 g) : m_Pair___init__ (.obj 0 [] []) [cD f, cD g] = some (.non, pD f g) := by
  refine of_runC rfl ?_
  unfold b_Pair___init__
  simp [List.replicate, put_f, put_g]
  simp [put_f, put_g, w_multiple hf hg]
  simp [put_f, put_g, put_d, cD_0]
  simp [put_f, put_g, put_d, cD_0, put_n, flD, pD, mx]
  omega
theorem w_values {f g : Cv} {d m : D} (hf : f.Ok) (hg : g.Ok) (t : Nat) (ht : t ≤ 1000000) : m_Pair_values [.obj 0 nsP [cD f, cD g, d, m], .int t] = some (.tup [.int (va f t), .int (va g t)]) := by
  refine of_runF rfl ?_
  unfold b_Pair_values
  simp [List.replicate, fl_f, fl_g, w_at0 hf t ht]
  simp [fl_g, w_at0 hg t ht]
  simp (disch := omega) [iP_dis, sizeLine_v, flD]
theorem w_sum {f g : Cv} (hf : f.Ok) (hg : g.Ok) (pf : P4 f) (pg : P4 g) (nf : f.vs.length ≤ 1000) (ng : g.vs.length ≤ 1000) (vf : ∀ t, t ≤ 20000 → -(2 ^ 35) < va f t ∧ va f t < 2 ^ 35) (vg : ∀ t, t ≤ 20000 → -(2 ^ 35) < va g t ∧ va g t < 2 ^ 35) :
    ∃ l, m_sum_of [cD f, cD g] = some (cD l) ∧ IsLF (fun t => va f t + va g t) l ∧ l.Ok := by
  obtain ⟨e1, e2, e3, e4, _⟩ := lc_ok pf pg
  have qf := qp_gr (va_qp hf.hp hf.hn) e3
  have qg := qp_gr (va_qp hg.hp hg.hn) e4
  have hp := w_init pf pg
  unfold pD at hp
  have hm1 : mx f g ≤ 1000 := by unfold mx; omega
  have hm2 : f.vs.length ≤ mx f g := by unfold mx; omega
  have hm3 : g.vs.length ≤ mx f g := by unfold mx; omega
  generalize hd : lc f g = d at *
  generalize hm : mx f g = m at *
  obtain ⟨l, h1, h2, h3, h4⟩ := w_form (F := fun t => va f t + va g t) (N := m) (n := m + d) (p := d) (s := gr f d + gr g d) (fun t ht => by
    show va f (t + d) + va g (t + d) = _
    rw [qf t (by omega), qg t (by omega)]
    show _ = va f t + va g t + (((d / f.p : Nat) : Int) * f.s + ((d / g.p : Nat) : Int) * g.s)
    omega) e1 (Nat.le_refl _) (by omega) (fun t ht => by have := vf t ht; have := vg t ht; omega)
  refine ⟨l, of_runF rfl ?_, h2, h4⟩
  unfold b_sum_of
  simp [List.replicate, hp, fl_n]
  simp (disch := omega) [fl_d, iP_dis, sizeLine_v, rngD_len]
  rw [lc_rng (φ := fun i => .int (va f i + va g i))]
  · simp [fl_d]
    rw [w_growth hf d (by omega)]
    simp [fl_d]
    rw [w_growth hg d (by omega)]
    simp (disch := omega) [iP_dis, sizeLine_v, h1, flD]
  · intro i hi
    simp [no_v]
    rw [w_values hf hg i (by omega)]
    simp
end K54

set_option autoImplicit true
set_option relaxedAutoImplicit true
set_option Elab.async false
set_option linter.all false
set_option maxRecDepth 100000
set_option maxHeartbeats 4000000
/-! KE: the lesser one, the greater one -/
namespace K54
open PySem L2 DL
/-- how many turns until least is made good -/
theorem turns_ok {least more : Int} (hm : 0 < more) : ∃ T : Nat, (if least.fdiv more < 0 then -(least.fdiv more) else 0) = (T : Int) ∧ 0 ≤ least + T * more ∧ (0 < T → least + (T - 1 : Nat) * more < 0) := by
  have a := Int.mul_fdiv_add_fmod least more
  have b := Int.fmod_nonneg_of_pos least hm
  have c := Int.fmod_lt_of_pos least hm
  generalize least.fdiv more = q at *
  generalize least.fmod more = r at *
  refine ⟨(-q).toNat, by split <;> omega, ?_, fun h => ?_⟩
  · by_cases hq : q ≤ 0
    · rw [show (((-q).toNat : Nat) : Int) = -q by omega, Int.neg_mul, Int.mul_comm q more]; omega
    · rw [show (((-q).toNat : Nat) : Int) = 0 by omega]
      have : 0 ≤ more * q := Int.mul_nonneg (by omega) (by omega)
      omega
  · rw [show (((-q).toNat - 1 : Nat) : Int) = -q - 1 by omega, Int.sub_mul, Int.neg_mul, Int.mul_comm q more]; omega
theorem isN_cD {c : Cv} : isNonD (cD c) = false := (rfl)
structure Sm (c : Cv) : Prop where
  ok : c.Ok
  p4 : P4 c
  n1 : c.vs.length ≤ 1000
  s1 : -(2 ^ 24) < c.s ∧ c.s < 2 ^ 24
  v1 : ∀ t, t ≤ 30000 → -(2 ^ 34) < va c t ∧ va c t < 2 ^ 34
theorem lc_comm (f g : Cv) : lc f g = lc g f := Nat.lcm_comm _ _
theorem mx_comm (f g : Cv) : mx f g = mx g f := Nat.max_comm _ _
theorem gr_b {c : Cv} {d : Nat} (h : Sm c) (hd : d ≤ 12) : -(2 ^ 28) < gr c d ∧ gr c d < 2 ^ 28 := by
  have s := h.s1
  have e : d / c.p ≤ 12 := Nat.le_trans (Nat.div_le_self _ _) hd
  unfold gr
  generalize d / c.p = k at *
  have : k = 0 ∨ k = 1 ∨ k = 2 ∨ k = 3 ∨ k = 4 ∨ k = 5 ∨ k = 6 ∨ k = 7 ∨ k = 8 ∨ k = 9 ∨ k = 10 ∨ k = 11 ∨ k = 12 := by omega
  rcases this with e | e | e | e | e | e | e | e | e | e | e | e | e <;> subst e <;> omega
theorem w_settled {f g : Cv} (hf : Sm f) (hg : Sm g) (n : Nat) (hlt : gr f (lc f g) < gr g (lc f g)) :
    ∃ K : Nat, m_Pair_settled (n + 1) [pD f g] = some (.tup [cD f, .int K]) ∧ mx f g ≤ K ∧ (∀ t, K ≤ t → va f t ≤ va g t) ∧
      ∀ T0, (∀ t, T0 ≤ t → va f t ≤ va g t) → K ≤ mx f g ∨ K ≤ T0 + lc f g := by
  obtain ⟨e1, e2, e3, e4, _⟩ := lc_ok hf.p4 hg.p4
  have qf := qp_gr (va_qp hf.ok.hp hf.ok.hn) e3
  have qg := qp_gr (va_qp hg.ok.hp hg.ok.hn) e4
  have hm1 : mx f g ≤ 1000 := by have := hf.n1; have := hg.n1; unfold mx; omega
  have hm2 : f.vs.length ≤ mx f g := by unfold mx; omega
  have hm3 : g.vs.length ≤ mx f g := by unfold mx; omega
  have bf := gr_b hf e2
  have bg := gr_b hg e2
  have wf := w_growth hf.ok (lc f g) (by omega)
  have wg := w_growth hg.ok (lc f g) (by omega)
  unfold pD
  have gf : ((lc f g / f.p : Nat) : Int) * f.s = gr f (lc f g) := rfl
  have gg : ((lc f g / g.p : Nat) : Int) * g.s = gr g (lc f g) := rfl
  rw [gf] at qf
  rw [gg] at qg
  generalize lc f g = d at *
  generalize mx f g = m at *
  have qf := qf.mono (M := m) (by omega)
  have qg := qg.mono (M := m) (by omega)
  generalize gr f d = A at *
  generalize gr g d = B at *
  have hne : ((List.range d).map fun k => va g (m + k) - va f (m + k)) ≠ [] := by
    intro h
    have := congrArg List.length h
    simp at this
    omega
  have hlow : ∀ k, k < d → minI ((List.range d).map fun k => va g (m + k) - va f (m + k)) ≤ va g (m + k) - va f (m + k) := fun k hk => minI_le (List.mem_map.mpr ⟨k, List.mem_range.mpr hk, rfl⟩)
  obtain ⟨k0, hk0, ek0⟩ := List.mem_map.mp (minI_mem hne)
  rw [List.mem_range] at hk0
  have hmin := oMin_l hne
  generalize minI ((List.range d).map fun k => va g (m + k) - va f (m + k)) = least at *
  obtain ⟨T, t1, t2, t3⟩ := turns_ok (least := least) (more := B - A) (by omega)
  have hdiff : ∀ k j : Nat, va g (m + k + j * d) - va f (m + k + j * d) = va g (m + k) - va f (m + k) + j * (B - A) := by
    intro k j
    rw [qf.mul j _ (by omega), qg.mul j _ (by omega), Int.mul_sub]
    omega
  have e0 : m_Pair_settled (n + 1) = runF 1 8 (b_Pair_settled (fun _ => m_Pair_settled n) n) := by rw [m_Pair_settled]
  have hmT : m ≤ m + T * d := Nat.le_add_right _ _
  refine ⟨m + T * d, ?_, hmT, ?_, ?_⟩
  · rw [e0]
    refine of_runF (by rfl) ?_
    unfold b_Pair_settled
    simp [List.replicate, fl_f, fl_g, fl_d]
    rw [wg]
    simp [fl_f, fl_g, fl_d]
    rw [wf]
    have n1 : ¬ (B - A < 0) := by omega
    have n2 : ¬ (B - A = 0) := by omega
    simp [fl_f, fl_g, fl_d, n1, n2]
    simp [fl_n, fl_d]
    simp (disch := omega) [fl_d, fl_n, iP_dis, sizeLine_v, rngD_len]
    rw [lc_rng (φ := fun k => .int (va g (m + k) - va f (m + k))), riD]
    · simp [-List.map_map, hmin]
      rw [if_pos ⟨by omega, by omega⟩]
      simp
      rw [t1]
      simp [fl_f, fl_n]
      simp [fl_d, fl_n]
      rw [oMul_i (by omega)]
      simp (disch := omega) [iP_dis, sizeLine_v, flD]
    · intro k hk
      simp [fl_g]
      rw [w_at hg.ok _ (by omega) (by omega)]
      simp [fl_f]
      rw [w_at hf.ok _ (by omega) (by omega)]
      simp
  · intro t ht
    have a := Nat.div_add_mod (t - m) d
    have b := Nat.mod_lt (t - m) (show d > 0 by omega)
    have c : T ≤ (t - m) / d := by
      rw [Nat.le_div_iff_mul_le (by omega)]; omega
    have := hdiff ((t - m) % d) ((t - m) / d)
    rw [Nat.mul_comm d] at a
    rw [show m + (t - m) % d + (t - m) / d * d = t by omega] at this
    have low := hlow _ b
    have : (T : Int) * (B - A) ≤ ((t - m) / d : Nat) * (B - A) := Int.mul_le_mul_of_nonneg_right (by omega) (by omega)
    omega
  · intro T0 hT
    by_cases hz : T = 0
    · left; rw [hz]; omega
    · right
      have a := hdiff k0 (T - 1)
      have b := t3 (by omega)
      rw [ek0] at a
      have c : m + k0 + (T - 1) * d < T0 := by
        refine Nat.lt_of_not_le fun h => ?_
        have := hT _ h
        omega
      have : T * d = (T - 1) * d + d := by
        rw [← Nat.succ_mul]; congr 1; omega
      omega
/-- the same growth -/
theorem w_settled0 {f g : Cv} (hf : Sm f) (hg : Sm g) (n : Nat) (he : gr f (lc f g) = gr g (lc f g)) :
    m_Pair_settled (n + 1) [pD f g] = some (.tup [.non, .int (mx f g : Nat)]) := by
  obtain ⟨e1, e2, e3, e4, _⟩ := lc_ok hf.p4 hg.p4
  have wf := w_growth hf.ok (lc f g) (by omega)
  have wg := w_growth hg.ok (lc f g) (by omega)
  have e0 : m_Pair_settled (n + 1) = runF 1 8 (b_Pair_settled (fun _ => m_Pair_settled n) n) := by rw [m_Pair_settled]
  rw [e0]
  refine of_runF (by rfl) ?_
  unfold b_Pair_settled pD
  simp [List.replicate, fl_f, fl_g, fl_d]
  rw [wg]
  simp [fl_f, fl_g, fl_d]
  rw [wf]
  have n1 : gr g (lc f g) - gr f (lc f g) = 0 := by omega
  simp [fl_f, fl_g, fl_d, n1]
  simp (disch := omega) [fl_n, iP_dis, sizeLine_v, flD]
/-- the other way round -/
theorem w_settled2 {f g : Cv} (hf : Sm f) (hg : Sm g) (n : Nat) (hlt : gr g (lc f g) < gr f (lc f g)) :
    ∃ K : Nat, m_Pair_settled (n + 2) [pD f g] = some (.tup [cD g, .int K]) ∧ mx f g ≤ K ∧ (∀ t, K ≤ t → va g t ≤ va f t) ∧
      ∀ T0, (∀ t, T0 ≤ t → va g t ≤ va f t) → K ≤ mx f g ∨ K ≤ T0 + lc f g := by
  obtain ⟨e1, e2, e3, e4, _⟩ := lc_ok hf.p4 hg.p4
  have wf := w_growth hf.ok (lc f g) (by omega)
  have wg := w_growth hg.ok (lc f g) (by omega)
  obtain ⟨K, k1, k2, k3, k4⟩ := w_settled hg hf n (by rw [lc_comm g f]; exact hlt)
  rw [mx_comm] at k2 k4
  rw [lc_comm] at k4
  refine ⟨K, ?_, k2, k3, k4⟩
  have e0 : m_Pair_settled (n + 2) = runF 1 8 (b_Pair_settled (fun _ => m_Pair_settled (n + 1)) (n + 1)) := by rw [m_Pair_settled]
  rw [e0]
  have hp := w_init hg.p4 hf.p4
  refine of_runF (by rfl) ?_
  unfold b_Pair_settled
  unfold pD at hp k1 ⊢
  simp [List.replicate, fl_f, fl_g, fl_d]
  rw [wg]
  simp [fl_f, fl_g, fl_d]
  rw [wf]
  have n1 : gr g (lc f g) - gr f (lc f g) < 0 := by omega
  simp [fl_f, fl_g, fl_d, n1, hp, no_s]
  rw [k1]
  simp (disch := omega) [iP_dis, sizeLine_v, flD]
theorem qp_min {F G N P S} (hf : QP F N P S) (hg : QP G N P S) : QP (fun t => min (F t) (G t)) N P S := by
  intro t ht
  show min (F (t + P)) (G (t + P)) = min (F t) (G t) + S
  rw [hf t ht, hg t ht]
  omega
theorem w_lower {f g : Cv} (hf : Sm f) (hg : Sm g) {T0 : Nat} (hT : T0 ≤ 3000) (h1 : gr f (lc f g) < gr g (lc f g) → ∀ t, T0 ≤ t → va f t ≤ va g t) (h2 : gr g (lc f g) < gr f (lc f g) → ∀ t, T0 ≤ t → va g t ≤ va f t) :
    ∃ l, m_lower_of [cD f, cD g] = some (cD l) ∧ IsLF (fun t => min (va f t) (va g t)) l ∧ l.vs.length ≤ 3100 ∧ l.Ok := by
  obtain ⟨e1, e2, e3, e4, _⟩ := lc_ok hf.p4 hg.p4
  have qf0 := va_qp hf.ok.hp hf.ok.hn
  have qg0 := va_qp hg.ok.hp hg.ok.hn
  have qf := qp_gr qf0 e3
  have qg := qp_gr qg0 e4
  have hm1 : mx f g ≤ 1000 := by have := hf.n1; have := hg.n1; unfold mx; omega
  have hm2 : f.vs.length ≤ mx f g := by unfold mx; omega
  have hm3 : g.vs.length ≤ mx f g := by unfold mx; omega
  have gf : ((lc f g / f.p : Nat) : Int) * f.s = gr f (lc f g) := rfl
  have gg : ((lc f g / g.p : Nat) : Int) * g.s = gr g (lc f g) := rfl
  rw [gf] at qf
  rw [gg] at qg
  have pf := hf.p4.h4
  have pg := hg.p4.h4
  have hv : ∀ t, t ≤ 20000 → -(2 ^ 36) < min (va f t) (va g t) ∧ min (va f t) (va g t) < 2 ^ 36 := fun t ht => by
    have := hf.v1 t (by omega); have := hg.v1 t (by omega); omega
  have hp := w_init hf.p4 hg.p4
  have wf := w_growth hf.ok (lc f g) (by omega)
  -- the rest of the walk, when it is settled
  have rest : ∀ (fst : D) (K d : Nat) (s : Int), m_Pair_settled 3 [pD f g] = some (.tup [fst, .int K]) → K ≤ 3100 → 1 ≤ d → d ≤ 12 → K + d ≤ 3100 →
      ((fst = .non ∧ d = lc f g ∧ s = gr f d) ∨ ∃ c : Cv, fst = cD c ∧ d = c.p ∧ s = c.s) →
      ∀ l, m_least_curve [.tup [.tup ((List.range (K + d)).map fun k => .int (min (va f k) (va g k))), .int d, .int s]] = some (cD l) → m_lower_of [cD f, cD g] = some (cD l) := by
    intro fst K d s q1 q2 q3 q4 q5 q6 l ql
    unfold pD at hp q1
    have row : lcL (gdN 7) dYes (dCB oMin (dCons (dMeth 0 "values" m_Pair_values (dVar 2) (dCons (dVar 7) dNil)) dNil)) (rngD 0 (K + d))
        [.val (cD f), .val (cD g), .val (.obj 0 nsP [cD f, cD g, .int (lc f g : Nat), .int (mx f g : Nat)]), .val fst, .val (.int K), .val (.int d), .val (.int s), .no] none = some ((List.range (K + d)).map fun k => .int (min (va f k) (va g k)), none) := by
      rw [lc_rng (φ := fun k => .int (min (va f k) (va g k)))]
      intro k hk
      simp [no_v]
      rw [w_values hf.ok hg.ok k (by omega)]
      simp
      split <;> omega
    rcases q6 with ⟨rfl, rfl, rfl⟩ | ⟨c, rfl, rfl, rfl⟩
    · refine of_runF rfl ?_
      unfold b_lower_of
      simp [List.replicate, hp, no_s]
      rw [q1]
      simp [fl_d, wf]
      refine ⟨by omega, fun _ => ?_⟩
      simp (disch := omega) [iP_dis, sizeLine_v, rngD_len]
      rw [row]
      simp (disch := omega) [iP_dis, sizeLine_v, flD, ql]
    · refine of_runF rfl ?_
      unfold b_lower_of
      simp [List.replicate, hp, no_s]
      rw [q1]
      simp [fl_d, wf, isN_cD, cD_1]
      rw [cD_2]
      simp [fl_d]
      refine ⟨by omega, fun _ => ?_⟩
      simp (disch := omega) [iP_dis, sizeLine_v, rngD_len]
      rw [row]
      simp (disch := omega) [iP_dis, sizeLine_v, flD, ql]
  rcases Int.lt_trichotomy (gr f (lc f g)) (gr g (lc f g)) with hc | hc | hc
  · obtain ⟨K, k1, k2, k3, k4⟩ := w_settled hf hg 2 hc
    have kb := k4 T0 (h1 hc)
    have hq : QP (fun t => min (va f t) (va g t)) K f.p f.s := by
      intro t ht
      show min (va f (t + f.p)) (va g (t + f.p)) = min (va f t) (va g t) + f.s
      have a := k3 t ht
      have b := k3 (t + f.p) (by omega)
      have c := qf0 t (by omega)
      omega
    obtain ⟨l, l1, l2, l3, l4⟩ := w_form hq hf.ok.hp (Nat.le_refl _) (by omega) hv
    exact ⟨l, rest _ K f.p f.s k1 (by omega) hf.ok.hp (by omega) (by omega) (.inr ⟨f, rfl, rfl, rfl⟩) l l1, l2, by omega, l4⟩
  · have hq := qp_min (qf.mono (M := mx f g) (by omega)) (by rw [hc]; exact qg.mono (M := mx f g) (by omega))
    obtain ⟨l, l1, l2, l3, l4⟩ := w_form hq e1 (Nat.le_refl _) (by omega) hv
    exact ⟨l, rest _ (mx f g) (lc f g) _ (w_settled0 hf hg 2 hc) (by omega) e1 e2 (by omega) (.inl ⟨rfl, rfl, rfl⟩) l l1, l2, by omega, l4⟩
  · obtain ⟨K, k1, k2, k3, k4⟩ := w_settled2 hf hg 1 hc
    have kb := k4 T0 (h2 hc)
    have hq : QP (fun t => min (va f t) (va g t)) K g.p g.s := by
      intro t ht
      show min (va f (t + g.p)) (va g (t + g.p)) = min (va f t) (va g t) + g.s
      have a := k3 t ht
      have b := k3 (t + g.p) (by omega)
      have c := qg0 t (by omega)
      omega
    obtain ⟨l, l1, l2, l3, l4⟩ := w_form hq hg.ok.hp (Nat.le_refl _) (by omega) hv
    exact ⟨l, rest _ K g.p g.s k1 (by omega) hg.ok.hp (by omega) (by omega) (.inr ⟨g, rfl, rfl, rfl⟩) l l1, l2, by omega, l4⟩
end K54

set_option autoImplicit true
set_option relaxedAutoImplicit true
set_option Elab.async false
set_option linter.all false
set_option maxRecDepth 100000
set_option maxHeartbeats 4000000
/-! KF: the greater one, joined ones -/
namespace K54
open PySem L2 DL
theorem lf_sm {F : Nat → Int} {l : Cv} (h : IsLF F l) (ok : l.Ok) (n1 : l.vs.length ≤ 1000) (p4 : l.p ≤ 4) (s1 : -(2 ^ 24) < l.s ∧ l.s < 2 ^ 24) (hv : ∀ t, t ≤ 30000 → -(2 ^ 34) < F t ∧ F t < 2 ^ 34) : Sm l :=
  ⟨ok, ⟨h.hp, p4⟩, n1, s1, fun t ht => by rw [h.at]; exact hv t ht⟩
/-- a least form's growth -/
theorem lf_gr {F : Nat → Int} {l : Cv} (h : IsLF F l) {N d : Nat} {s : Int} (hq : QP F N d s) (hd : d % l.p = 0) : gr l d = s := by
  have a := qp_gr h.hq hd
  have b := a (N + l.vs.length) (by omega)
  have c := hq (N + l.vs.length) (by omega)
  have : ((d / l.p : Nat) : Int) * l.s = gr l d := rfl
  omega
theorem gr_mul {c : Cv} {d : Nat} (k : Nat) (hp : 1 ≤ c.p) (hd : d % c.p = 0) : gr c (k * d) = k * gr c d := by
  unfold gr
  obtain ⟨q, rfl⟩ := Nat.dvd_of_mod_eq_zero hd
  rw [show k * (c.p * q) = c.p * (k * q) by rw [Nat.mul_left_comm], Nat.mul_div_cancel_left _ (by omega), Nat.mul_div_cancel_left _ (by omega), Int.natCast_mul, Int.mul_assoc]
theorem neg_sm {f : Cv} (hf : Sm f) (vf : ∀ t, t ≤ 30000 → -(2 ^ 32) < va f t ∧ va f t < 2 ^ 32) :
    ∃ l, m_times_of [cD f, .int (-1)] = some (cD l) ∧ IsLF (fun t => -1 * va f t) l ∧ Sm l ∧ f.p % l.p = 0 := by
  obtain ⟨l, a1, a2, a3, a4⟩ := w_times hf.ok (by have := hf.n1; omega) (fun t ht => by have := vf t (by omega); omega) (-1) (by omega)
  have hq : QP (fun t => -1 * va f t) (f.vs.length - f.p) f.p (-1 * f.s) := by
    intro t ht
    show -1 * va f (t + f.p) = _
    rw [va_qp hf.ok.hp hf.ok.hn t ht, Int.mul_add]
  have hd := qp_dvd a2.hq a2.mp (hq.mono (M := f.vs.length + l.vs.length) (by omega) |> fun h => (qp_back a2.hq a2.hp h)) a2.hp
  have hg := lf_gr a2 hq hd
  have p4 : l.p ≤ 4 := Nat.le_trans (a2.mp _ _ _ hf.ok.hp hq) hf.p4.h4
  refine ⟨l, a1, a2, lf_sm a2 a4 (by have := hf.n1; omega) p4 ?_ (fun t ht => by have := vf t ht; omega), hd⟩
  have k1 : f.p / l.p ≤ 4 := Nat.le_trans (Nat.div_le_self _ _) hf.p4.h4
  have k2 : 1 ≤ f.p / l.p := Nat.div_pos (Nat.le_of_dvd (by have := hf.ok.hp; omega) (Nat.dvd_of_mod_eq_zero hd)) (by have := a2.hp; omega)
  have s1 := hf.s1
  unfold gr at hg
  generalize f.p / l.p = k at *
  have : k = 1 ∨ k = 2 ∨ k = 3 ∨ k = 4 := by omega
  rcases this with e | e | e | e <;> subst e <;> omega
theorem w_upper {f g : Cv} (hf : Sm f) (hg : Sm g) (vf : ∀ t, t ≤ 30000 → -(2 ^ 32) < va f t ∧ va f t < 2 ^ 32) (vg : ∀ t, t ≤ 30000 → -(2 ^ 32) < va g t ∧ va g t < 2 ^ 32)
    {T0 : Nat} (hT : T0 ≤ 3000) (h1 : ∀ d, d % f.p = 0 → d % g.p = 0 → gr f d < gr g d → ∀ t, T0 ≤ t → va f t ≤ va g t) (h2 : ∀ d, d % f.p = 0 → d % g.p = 0 → gr g d < gr f d → ∀ t, T0 ≤ t → va g t ≤ va f t) :
    ∃ l, m_upper_of [cD f, cD g] = some (cD l) ∧ IsLF (fun t => max (va f t) (va g t)) l := by
  obtain ⟨a, a1, a2, a3, a4⟩ := neg_sm hf vf
  obtain ⟨b, b1, b2, b3, b4⟩ := neg_sm hg vg
  obtain ⟨e1, e2, e3, e4, _⟩ := lc_ok a3.p4 b3.p4
  have ga : ∀ d, d % f.p = 0 → gr a d = - gr f d := by
    intro d hd
    have hq := qp_gr (va_qp hf.ok.hp hf.ok.hn) hd
    have hz : d % a.p = 0 := Nat.mod_eq_zero_of_dvd (Nat.dvd_trans (Nat.dvd_of_mod_eq_zero a4) (Nat.dvd_of_mod_eq_zero hd))
    refine lf_gr a2 (N := f.vs.length - f.p) ?_ hz
    intro t ht
    show -1 * va f (t + d) = -1 * va f t + _
    rw [hq t ht]
    unfold gr
    omega
  have gb : ∀ d, d % g.p = 0 → gr b d = - gr g d := by
    intro d hd
    have hq := qp_gr (va_qp hg.ok.hp hg.ok.hn) hd
    have hz : d % b.p = 0 := Nat.mod_eq_zero_of_dvd (Nat.dvd_trans (Nat.dvd_of_mod_eq_zero b4) (Nat.dvd_of_mod_eq_zero hd))
    refine lf_gr b2 (N := g.vs.length - g.p) ?_ hz
    intro t ht
    show -1 * va g (t + d) = -1 * va g t + _
    rw [hq t ht]
    unfold gr
    omega
  obtain ⟨k, hk⟩ : ∃ k, k = f.p * g.p := ⟨_, rfl⟩
  have k0 : 1 ≤ k := by rw [hk]; exact Nat.mul_pos hf.ok.hp hg.ok.hp
  have kf : (k * lc a b) % f.p = 0 := by rw [hk, Nat.mul_assoc]; exact Nat.mul_mod_right _ _
  have kg : (k * lc a b) % g.p = 0 := by rw [hk, Nat.mul_comm f.p, Nat.mul_assoc]; exact Nat.mul_mod_right _ _
  have ka := ga _ kf
  have kb := gb _ kg
  rw [gr_mul k a2.hp e3] at ka
  rw [gr_mul k b2.hp e4] at kb
  obtain ⟨l, l1, l2, l3, l4⟩ := w_lower a3 b3 hT (fun hc t ht => by
    rw [a2.at, b2.at]
    have : (k : Int) * gr a (lc a b) < k * gr b (lc a b) := Int.mul_lt_mul_of_pos_left hc (by omega)
    have := h2 _ kf kg (by omega) t ht
    omega) (fun hc t ht => by
    rw [a2.at, b2.at]
    have : (k : Int) * gr b (lc a b) < k * gr a (lc a b) := Int.mul_lt_mul_of_pos_left hc (by omega)
    have := h1 _ kf kg (by omega) t ht
    omega)
  have el : ∀ t, va l t = min (-1 * va f t) (-1 * va g t) := fun t => by rw [l2.at, a2.at, b2.at]
  obtain ⟨m, m1, m2, m3, m4⟩ := w_times l4 (by omega) (fun t ht => by rw [el]; have := vf t (by omega); have := vg t (by omega); omega) (-1) (by omega)
  refine ⟨m, of_runF rfl ?_, m2.fn fun t => ?_⟩
  · unfold b_upper_of
    simp [List.replicate]
    rw [a1]
    simp
    rw [b1]
    simp [l1]
    rw [m1]
    simp [flD]
  · show -1 * va l t = _
    rw [el]
    omega
end K54

set_option autoImplicit true
set_option relaxedAutoImplicit true
set_option Elab.async false
set_option linter.all false
set_option maxRecDepth 100000
set_option maxHeartbeats 4000000
/-! KG: joined ones -/
namespace K54
open PySem L2 DL
theorem minI_eq {l : List Int} {m : Int} (h1 : m ∈ l) (h2 : ∀ y, y ∈ l → m ≤ y) : minI l = m := by
  have a := minI_le h1
  have b := h2 _ (minI_mem (fun e => by rw [e] at h1; cases h1))
  omega
def lows (f g : Cv) (low t : Nat) : List Int := (List.range (min low (t + 1))).map fun s => va f s + va g (t - s)
def Hh (f g : Cv) (low t : Nat) : Int := minI (lows f g low t)
theorem lows_ne {f g : Cv} {low t : Nat} (h : 1 ≤ low) : lows f g low t ≠ [] := by
  intro e
  have := congrArg List.length e
  simp [lows] at this
  omega
theorem Hh_le {f g : Cv} {low t s : Nat} (h : s < low) (h2 : s ≤ t) : Hh f g low t ≤ va f s + va g (t - s) :=
  minI_le (List.mem_map.mpr ⟨s, List.mem_range.mpr (by omega), rfl⟩)
theorem Hh_ex {f g : Cv} {low t : Nat} (h : 1 ≤ low) : ∃ s, s < low ∧ s ≤ t ∧ Hh f g low t = va f s + va g (t - s) := by
  obtain ⟨s, h1, h2⟩ := List.mem_map.mp (minI_mem (lows_ne (f := f) (g := g) (t := t) h))
  rw [List.mem_range] at h1
  exact ⟨s, by omega, by omega, h2.symm⟩
theorem Hh_qp {f g : Cv} (hg : g.Ok) {low : Nat} (h : 1 ≤ low) : QP (Hh f g low) (low + g.vs.length) g.p g.s := by
  intro t ht
  have hq := va_qp hg.hp hg.hn
  have st : ∀ s, s < low → va g (t + g.p - s) = va g (t - s) + g.s := fun s hs => by
    rw [show t + g.p - s = t - s + g.p by omega, hq _ (by omega)]
  obtain ⟨a, a1, a2, a3⟩ := Hh_ex (f := f) (g := g) (t := t) h
  obtain ⟨b, b1, b2, b3⟩ := Hh_ex (f := f) (g := g) (t := t + g.p) h
  have c := Hh_le (f := f) (g := g) (t := t + g.p) a1 (by omega)
  have d := Hh_le (f := f) (g := g) (t := t) b1 (by omega)
  rw [st _ a1] at c
  rw [st _ b1] at b3
  omega
def os (f g : Cv) (d : Nat) : Cv := ⟨(List.range (f.vs.length + d + g.vs.length + g.p)).map (Hh f g (f.vs.length + d)), g.p, g.s⟩
theorem os_va {f g : Cv} (hf : f.Ok) (hg : g.Ok) (d t : Nat) : va (os f g d) t = Hh f g (f.vs.length + d) t :=
  va_make (Hh_qp hg (by have := hf.hp; have := hf.hn; omega)) hg.hp (Nat.le_refl _) t
theorem os_sm {f g : Cv} (hf : Sm f) (hg : Sm g) (nf : f.vs.length ≤ 400) (ng : g.vs.length ≤ 400) (vf : ∀ t, t ≤ 30000 → -(2 ^ 33) < va f t ∧ va f t < 2 ^ 33) (vg : ∀ t, t ≤ 30000 → -(2 ^ 33) < va g t ∧ va g t < 2 ^ 33) {d : Nat} (hd : d ≤ 12) : Sm (os f g d) := by
  have := hf.ok.hp; have := hf.ok.hn; have := hg.ok.hp; have := hg.ok.hn; have := hg.p4.h4; have := hg.s1
  refine ⟨⟨hg.ok.hp, by simp [os], by simp [os]; omega, hg.ok.hs⟩, ⟨hg.p4.h1, hg.p4.h4⟩, by simp [os]; omega, hg.s1, fun t ht => ?_⟩
  rw [os_va hf.ok hg.ok]
  obtain ⟨s, h1, h2, h3⟩ := Hh_ex (f := f) (g := g) (low := f.vs.length + d) (t := t) (by omega)
  have := vf s (by omega)
  have := vg (t - s) (by omega)
  omega
theorem w_one_sided {f g : Cv} (hf : Sm f) (hg : Sm g) (nf : f.vs.length ≤ 400) (ng : g.vs.length ≤ 400) {d : Nat} (hd : d ≤ 12) : m_one_sided [cD f, cD g, .int d] = some (cD (os f g d)) := by
  have f1 := hf.ok.hp; have f2 := hf.ok.hn; have g1 := hg.ok.hp; have g2 := hg.ok.hn; have g3 := hg.p4.h4; have g4 := hg.s1
  have lf : (f.vs.map D.int).length = f.vs.length := by simp
  have lg : (g.vs.map D.int).length = g.vs.length := by simp
  refine of_runF rfl ?_
  unfold b_one_sided
  simp (disch := omega) [List.replicate, cD_0, iP_dis, sizeLine_v, lf, lg]
  rw [cD_1]
  simp (disch := omega) [iP_dis]
  obtain ⟨low, hl⟩ : ∃ low, low = f.vs.length + d := ⟨_, rfl⟩
  refine wS_mono (Q := fun fl S1 c1 => fl = .nx ∧ ∃ x : Sl, x ≠ .cst ∧ S1 = [.val (cD f), .val (cD g), .val (.int d), .val (.int low), .own (((List.range (low + g.vs.length + g.p)).map (Hh f g low)).map D.int), x, .no] ∧ c1 = none) ?_ ?_
  · refine for_rng (fun i S1 c1 => ∃ x : Sl, x ≠ .cst ∧ S1 = [.val (cD f), .val (cD g), .val (.int d), .val (.int low), .own (((List.range i).map (Hh f g low)).map D.int), x, .no] ∧ c1 = none) ⟨.no, by simp, by simp [hl], rfl⟩ ?_ ?_
    · rintro i S1 c1 hi ⟨x, hx, rfl, rfl⟩
      simp [notCst_of hx, -List.map_map]
      obtain ⟨mm, hmm⟩ : ∃ mm, mm = min low (i + 1) := ⟨_, rfl⟩
      have hmn : (if (i : Int) + 1 < (low : Int) then (i : Int) + 1 else (low : Int)) = (mm : Int) := by rw [hmm]; split <;> omega
      rw [hmn]
      simp (disch := omega) [iP_dis, sizeLine_v, rngD_len]
      rw [lc_rng (φ := fun s => .int (va f s + va g (i - s))), riD]
      · simp [-List.map_map]
        rw [oMin_l (by have := lows_ne (f := f) (g := g) (low := low) (t := i) (by omega); unfold lows at this; rw [hmm]; exact this)]
        simp (disch := omega) [-List.map_map, iP_dis, sizeLine_v]
        have hlen : (((List.range i).map (Hh f g low)).map D.int).length = i := by simp
        rw [List.range_succ, List.map_append, List.map_append]
        simp [Hh, lows, hmm]
      · intro s hs
        simp
        rw [w_at hf.ok _ (by omega) (by omega)]
        simp
        rw [w_at hg.ok _ (by omega) (by omega)]
        simp
    · rintro S1 c1 ⟨x, hx, rfl, rfl⟩
      refine ⟨rfl, x, hx, ?_, rfl⟩
      rw [show ((f.vs.length : Int) + d + g.vs.length + g.p).toNat = low + g.vs.length + g.p by omega]
  · rintro fl S1 c1 ⟨rfl, x, hx, rfl, rfl⟩
    simp [-List.map_map]
    simp (disch := omega) [-List.map_map, iP_dis, sizeLine_v, cD_1]
    rw [cD_2]
    simp (disch := omega) [-List.map_map, iP_dis, sizeLine_v, flD]
    rw [hl]
    rfl
end K54

set_option autoImplicit true
set_option relaxedAutoImplicit true
set_option Elab.async false
set_option linter.all false
set_option maxRecDepth 100000
set_option maxHeartbeats 4000000
/-! KH: the curves that the law draws -/
namespace K54
open PySem L2 DL
structure Sc (c : Cv) : Prop where
  n4 : c.vs.length ≤ 4
  hp : 1 ≤ c.p
  hn : c.p ≤ c.vs.length
  sb : -12 ≤ c.s ∧ c.s ≤ 12
  cr : ∀ t : Nat, -41 ≤ c.p * va c t - t * c.s ∧ c.p * va c t - t * c.s ≤ 44
theorem sc_of {c : Cv} (n4 : c.vs.length ≤ 4) (hp : 1 ≤ c.p) (hn : c.p ≤ c.vs.length) (sb : -12 ≤ c.s ∧ c.s ≤ 12)
    (h : ∀ j, j < c.vs.length → -41 ≤ c.p * c.vs.getD j 0 - j * c.s ∧ c.p * c.vs.getD j 0 - j * c.s ≤ 44) : Sc c := by
  refine ⟨n4, hp, hn, sb, fun t => ?_⟩
  by_cases ht : t < c.vs.length
  · rw [va_lt ht]; exact h t ht
  · obtain ⟨k1, k2, k3⟩ := turns_le (t := t) (n := c.vs.length) (p := c.p) (by omega) hp hn
    unfold va
    rw [if_neg ht]
    generalize (t - c.vs.length) / c.p + 1 = k at *
    have a := h _ k3
    have e : (t : Int) = ((t - k * c.p : Nat) : Int) + k * c.p := by rw [← Int.natCast_mul]; omega
    generalize c.vs.getD (t - k * c.p) 0 = v at *
    generalize t - k * c.p = j at *
    rw [e, Int.mul_add, Int.add_mul]
    have : (c.p : Int) * (k * c.s) = k * c.p * c.s := by rw [← Int.mul_assoc, Int.mul_comm (c.p : Int) k]
    omega
theorem sc_b {c : Cv} (h : Sc c) (t : Nat) (ht : t ≤ 30000) : -400000 < va c t ∧ va c t < 400000 := by
  have a := h.cr t
  have b := h.sb
  have hp := h.hp
  have h4 : c.p ≤ 4 := Nat.le_trans h.hn h.n4
  have c1 : (t : Int) * c.s ≤ t * 12 := Int.mul_le_mul_of_nonneg_left b.2 (by omega)
  have c2 : (t : Int) * (-12) ≤ t * c.s := Int.mul_le_mul_of_nonneg_left b.1 (by omega)
  generalize va c t = v at *
  have : c.p = 1 ∨ c.p = 2 ∨ c.p = 3 ∨ c.p = 4 := by omega
  rcases this with e | e | e | e <;> rw [e] at a <;> omega
theorem sc_sm {c : Cv} (h : Sc c) : Sm c := by
  have := h.n4; have := h.hp; have := h.hn; have := h.sb
  exact ⟨⟨h.hp, h.hn, by omega, by omega⟩, ⟨h.hp, by omega⟩, by omega, by omega, fun t ht => by have := sc_b h t ht; omega⟩
theorem slope_lt {f g : Cv} {d : Nat} (hf : 1 ≤ f.p) (hg : 1 ≤ g.p) (df : d % f.p = 0) (dg : d % g.p = 0) (h : gr f d < gr g d) : (g.p : Int) * f.s + 1 ≤ f.p * g.s := by
  unfold gr at h
  obtain ⟨a, ha⟩ := Nat.dvd_of_mod_eq_zero df
  obtain ⟨b, hb⟩ := Nat.dvd_of_mod_eq_zero dg
  rw [show d / f.p = a by rw [ha, Nat.mul_div_cancel_left _ (by omega)], show d / g.p = b by rw [hb, Nat.mul_div_cancel_left _ (by omega)]] at h
  have e : (f.p : Int) * a = g.p * b := by rw [← Int.natCast_mul, ← Int.natCast_mul, ← ha, ← hb]
  have h1 : (f.p : Int) * g.p * (a * f.s) < f.p * g.p * (b * g.s) := Int.mul_lt_mul_of_pos_left h (Int.mul_pos (by omega) (by omega))
  have e1 : (f.p : Int) * g.p * (a * f.s) = (f.p * a) * (g.p * f.s) := by
    rw [Int.mul_assoc, Int.mul_left_comm (g.p : Int), ← Int.mul_assoc, ← Int.mul_assoc, Int.mul_assoc ((f.p : Int) * a)]
  have e2 : (f.p : Int) * g.p * (b * g.s) = (f.p * a) * (f.p * g.s) := by
    rw [e, Int.mul_comm (f.p : Int) g.p, Int.mul_assoc, Int.mul_left_comm (f.p : Int), ← Int.mul_assoc]
  rw [e1, e2] at h1
  refine Int.lt_of_mul_lt_mul_left h1 (by rw [← Int.natCast_mul]; omega)
/-- beyond 340 the steeper one lies above -/
theorem cross {f g : Cv} (hf : Sc f) (hg : Sc g) (h : (g.p : Int) * f.s + 1 ≤ f.p * g.s) {t : Nat} (ht : 340 ≤ t) : va f t ≤ va g t ∧ (340 < t → va f t < va g t) := by
  have a := hf.cr t
  have b := hg.cr t
  have p1 := hf.hp; have q1 := hg.hp
  have p4 : f.p ≤ 4 := Nat.le_trans hf.hn hf.n4
  have q4 : g.p ≤ 4 := Nat.le_trans hg.hn hg.n4
  have c : (t : Int) * (g.p * f.s + 1) ≤ t * (f.p * g.s) := Int.mul_le_mul_of_nonneg_left h (by omega)
  rw [Int.mul_add, Int.mul_one, Int.mul_left_comm, Int.mul_left_comm (t : Int)] at c
  generalize va f t = v at *
  generalize va g t = w at *
  generalize (t : Int) * f.s = x at *
  generalize (t : Int) * g.s = y at *
  have k1 : f.p = 1 ∨ f.p = 2 ∨ f.p = 3 ∨ f.p = 4 := by omega
  have k2 : g.p = 1 ∨ g.p = 2 ∨ g.p = 3 ∨ g.p = 4 := by omega
  rcases k1 with e | e | e | e <;> rcases k2 with e' | e' | e' | e' <;> rw [e] at a c <;> rw [e'] at b c <;> omega
/-- beyond 700 the joined ones lie so -/
theorem crossH {f g : Cv} (hf : Sc f) (hg : Sc g) (h : (f.p : Int) * g.s + 1 ≤ g.p * f.s) {lf lg t : Nat} (l1 : 1 ≤ lf) (l2 : 1 ≤ lg) (l3 : lg ≤ 16) (ht : 700 ≤ t) : Hh f g lf t ≤ Hh g f lg t := by
  obtain ⟨s, s1, s2, s3⟩ := Hh_ex (f := g) (g := f) (low := lg) (t := t) l2
  have hz := Hh_le (f := f) (g := g) (low := lf) (t := t) (s := 0) (by omega) (by omega)
  rw [Nat.sub_zero] at hz
  have a := hf.cr 0
  have b := hg.cr t
  have c := hg.cr s
  have d := hf.cr (t - s)
  have p1 := hf.hp; have q1 := hg.hp
  have p4 : f.p ≤ 4 := Nat.le_trans hf.hn hf.n4
  have q4 : g.p ≤ 4 := Nat.le_trans hg.hn hg.n4
  have m : ((t - s : Nat) : Int) * (f.p * g.s + 1) ≤ (t - s : Nat) * (g.p * f.s) := Int.mul_le_mul_of_nonneg_left h (by omega)
  rw [Int.mul_add, Int.mul_one, Int.mul_left_comm, Int.mul_left_comm ((t - s : Nat) : Int)] at m
  have n : (t : Int) * g.s = s * g.s + (t - s : Nat) * g.s := by rw [← Int.add_mul]; congr 1; omega
  generalize va f 0 = v0 at *
  generalize va g t = v1 at *
  generalize va g s = v2 at *
  generalize va f (t - s) = v3 at *
  generalize (t : Int) * g.s = x1 at *
  generalize (s : Int) * g.s = x2 at *
  generalize ((t - s : Nat) : Int) * f.s = x3 at *
  generalize ((t - s : Nat) : Int) * g.s = x4 at *
  have k1 : f.p = 1 ∨ f.p = 2 ∨ f.p = 3 ∨ f.p = 4 := by omega
  have k2 : g.p = 1 ∨ g.p = 2 ∨ g.p = 3 ∨ g.p = 4 := by omega
  rcases k1 with e | e | e | e <;> rcases k2 with e' | e' | e' | e' <;> rw [e] at a d m <;> rw [e'] at b c m <;> omega
theorem w_joined {f g : Cv} (hf : Sc f) (hg : Sc g) :
    ∃ l, m_joined [cD f, cD g] = some (cD l) ∧ IsLF (fun t => min (Hh f g (f.vs.length + lc f g) t) (Hh g f (g.vs.length + lc f g) t)) l ∧ l.vs.length ≤ 3100 ∧ l.Ok := by
  have sf := sc_sm hf
  have sg := sc_sm hg
  have f4 := hf.n4; have g4 := hg.n4; have fp := hf.hp; have gp := hg.hp; have fn := hf.hn; have gn := hg.hn
  obtain ⟨e1, e2, e3, e4, _⟩ := lc_ok sf.p4 sg.p4
  have bf : ∀ t, t ≤ 30000 → -(2 ^ 33) < va f t ∧ va f t < 2 ^ 33 := fun t ht => by have := sc_b hf t ht; omega
  have bg : ∀ t, t ≤ 30000 → -(2 ^ 33) < va g t ∧ va g t < 2 ^ 33 := fun t ht => by have := sc_b hg t ht; omega
  have s1 := os_sm sf sg (by omega) (by omega) bf bg e2
  have s2 := os_sm sg sf (by omega) (by omega) bg bf e2
  obtain ⟨d1, d2, d3, d4, _⟩ := lc_ok s1.p4 s2.p4
  obtain ⟨l, l1, l2, l3, l4⟩ := w_lower s1 s2 (T0 := 700) (by omega) (fun h t ht => by
    rw [os_va sf.ok sg.ok, os_va sg.ok sf.ok]
    exact crossH hf hg (slope_lt gp fp d3 d4 h) (by omega) (by omega) (by omega) ht) (fun h t ht => by
    rw [os_va sf.ok sg.ok, os_va sg.ok sf.ok]
    exact crossH hg hf (slope_lt fp gp d4 d3 h) (by omega) (by omega) (by omega) ht)
  refine ⟨l, of_runF rfl ?_, l2.fn fun t => by rw [os_va sf.ok sg.ok, os_va sg.ok sf.ok], l3, l4⟩
  unfold b_joined
  simp [List.replicate]
  rw [w_multiple sf.p4 sg.p4]
  simp
  rw [w_one_sided sf sg (by omega) (by omega) e2]
  simp
  rw [w_one_sided sg sf (by omega) (by omega) e2]
  simp [l1, flD]
end K54

set_option autoImplicit true
set_option relaxedAutoImplicit true
set_option Elab.async false
set_option linter.all false
set_option maxRecDepth 100000
set_option maxHeartbeats 4000000
/-! KI: comparing, stores -/
namespace K54
open PySem L2 DL
theorem qp_diffs {f g : Cv} (hf : Sm f) (hg : Sm g) : QP (fun t => va f t - va g t) (mx f g) (lc f g) (gr f (lc f g) - gr g (lc f g)) := by
  obtain ⟨e1, e2, e3, e4, _⟩ := lc_ok hf.p4 hg.p4
  have qf := qp_gr (va_qp hf.ok.hp hf.ok.hn) e3
  have qg := qp_gr (va_qp hg.ok.hp hg.ok.hn) e4
  have hm2 : f.vs.length ≤ mx f g := by unfold mx; omega
  have hm3 : g.vs.length ≤ mx f g := by unfold mx; omega
  intro t ht
  show va f (t + lc f g) - va g (t + lc f g) = _
  rw [qf t (by omega), qg t (by omega)]
  show _ = va f t - va g t + (((lc f g / f.p : Nat) : Int) * f.s - ((lc f g / g.p : Nat) : Int) * g.s)
  omega
/-- where the later ones are no higher, all is seen early -/
theorem qp_down {F : Nat → Int} {N d : Nat} {s : Int} (hq : QP F N d s) (hd : 1 ≤ d) (hs : s ≤ 0) (t : Nat) : ∃ u, u < N + d ∧ u ≤ t ∧ F t ≤ F u := by
  induction t using Nat.strongRecOn with
  | _ t ih =>
    by_cases h : t < N + d
    · exact ⟨t, h, Nat.le_refl _, Int.le_refl _⟩
    · obtain ⟨u, u1, u2, u3⟩ := ih (t - d) (by omega)
      have := hq (t - d) (by omega)
      rw [show t - d + d = t by omega] at this
      exact ⟨u, u1, by omega, by omega⟩
def FA (f g : Cv) : Option Nat → Prop
  | none => ∀ t, va f t ≤ va g t
  | some t0 => va g t0 < va f t0 ∧ ∀ t, t < t0 → va f t ≤ va g t
def onD : Option Nat → D
  | none => .non
  | some t => .int t
theorem FA_ex (f g : Cv) : ∃ o, FA f g o := by
  by_cases h : ∃ t, va g t < va f t
  · obtain ⟨t, ht⟩ := h
    obtain ⟨m, a, b, c⟩ := least_ex (fun t => va g t < va f t) t ht
    exact ⟨some m, a, fun k hk => Int.not_lt.mp (c k hk)⟩
  · exact ⟨none, fun t => Int.not_lt.mp fun z => h ⟨t, z⟩⟩
theorem FA_some {f g : Cv} {o : Option Nat} {i : Nat} (h : FA f g o) (h1 : ∀ t, t < i → va f t ≤ va g t) (h2 : va g i < va f i) : o = some i := by
  cases o with
  | none => have := h i; omega
  | some t0 =>
    obtain ⟨a, b⟩ := h
    by_cases h3 : i < t0
    · have := b i h3; omega
    · by_cases h4 : t0 < i
      · have := h1 t0 h4; omega
      · rw [show t0 = i by omega]
theorem FA_none {f g : Cv} {o : Option Nat} (h : FA f g o) (h1 : ∀ t, va f t ≤ va g t) : o = none := by
  cases o with
  | none => rfl
  | some t0 => have := h.1; have := h1 t0; omega
theorem turn_first {lack more : Int} (hl : 0 ≤ lack) (hm : 0 < more) : ∃ J : Nat, lack.fdiv more + 1 = (J : Int) ∧ lack < J * more ∧ ∀ j : Nat, j < J → j * more ≤ lack := by
  have a := Int.mul_fdiv_add_fmod lack more
  have b := Int.fmod_nonneg_of_pos lack hm
  have c := Int.fmod_lt_of_pos lack hm
  have q0 : 0 ≤ lack.fdiv more := Int.fdiv_nonneg hl (by omega)
  generalize lack.fdiv more = q at *
  generalize lack.fmod more = r at *
  refine ⟨(q + 1).toNat, by omega, ?_, fun j hj => ?_⟩
  · rw [show (((q + 1).toNat : Nat) : Int) = q + 1 by omega, Int.add_mul, Int.mul_comm q]; omega
  · have : (j : Int) * more ≤ q * more := Int.mul_le_mul_of_nonneg_right (by omega) (by omega)
    rw [Int.mul_comm q] at this
    omega
theorem w_first_above {f g : Cv} (hf : Sm f) (hg : Sm g) {o : Option Nat} (ho : FA f g o) : m_first_above [cD f, cD g] = some (onD o) := by
  obtain ⟨e1, e2, e3, e4, _⟩ := lc_ok hf.p4 hg.p4
  have hq := qp_diffs hf hg
  have hm1 : mx f g ≤ 1000 := by have := hf.n1; have := hg.n1; unfold mx; omega
  have bf := gr_b hf e2
  have bg := gr_b hg e2
  have wf := w_growth hf.ok (lc f g) (by omega)
  have wg := w_growth hg.ok (lc f g) (by omega)
  have wm := w_multiple hf.p4 hg.p4
  have lf : (f.vs.map D.int).length = f.vs.length := by simp
  have lg : (g.vs.map D.int).length = g.vs.length := by simp
  have em : (if f.vs.length < g.vs.length then (g.vs.length : Int) else f.vs.length) = (mx f g : Nat) := by unfold mx; split <;> omega
  generalize lc f g = d at *
  generalize mx f g = m at *
  generalize gr f d = A at *
  generalize gr g d = B at *
  refine of_runF rfl ?_
  unfold b_first_above
  simp [List.replicate, wm, cD_0]
  rw [em]
  simp (disch := omega) [iP_dis]
  refine for_rng (fun i S c => (∀ t, t < i → va f t ≤ va g t) ∧ ∃ x : Sl, x ≠ .cst ∧ S = [.val (cD f), .val (cD g), .val (.int d), .val (.int m), x, .no, .no, .no] ∧ c = none) ⟨fun t ht => by omega, .no, by simp, rfl, rfl⟩ ?_ ?_
  · rintro i S c hi ⟨h1, x, hx, rfl, rfl⟩
    simp [notCst_of hx]
    rw [w_at hf.ok _ (by omega) (by omega)]
    simp
    rw [w_at hg.ok _ (by omega) (by omega)]
    simp
    refine ⟨fun h2 => ?_, fun h2 => ?_⟩
    · rw [FA_some ho h1 h2]; simp [flD, onD]
    · intro t ht
      by_cases h3 : t = i
      · rw [h3]; exact h2
      · exact h1 t (by omega)
  · rintro S c ⟨h1, x, hx, rfl, rfl⟩
    simp
    rw [wf]
    simp
    rw [wg]
    simp
    refine ⟨fun hle => ?_, fun hlt => ?_⟩
    · have : o = none := FA_none ho fun t => by
        obtain ⟨u, u1, u2, u3⟩ := qp_down hq e1 (by omega) t
        have := h1 u u1
        omega
      rw [this]; rfl
    · simp (disch := omega) [iP_dis, sizeLine_v]
      obtain ⟨t0, rfl⟩ : ∃ t0, o = some t0 := by
        cases o with
        | some t0 => exact ⟨t0, rfl⟩
        | none =>
          exfalso
          have a := h1 m (by omega)
          obtain ⟨J, j1, j2, j3⟩ := turn_first (lack := va g m - va f m) (more := A - B) (by omega) (by omega)
          have b := hq.mul J m (Nat.le_refl _)
          have c := ho (m + J * d)
          simp only [] at b
          omega
      obtain ⟨o1, o2⟩ := ho
      have t0m : m + d ≤ t0 := Nat.le_of_not_lt fun h => by have := h1 t0 h; omega
      have cand : ∀ k, k < d → ∃ J : Nat, (va g (m + k) - va f (m + k)).fdiv (A - B) + 1 = (J : Int) ∧ t0 ≤ m + k + J * d ∧ ∀ j : Nat, j < J → va f (m + k + j * d) ≤ va g (m + k + j * d) := by
        intro k hk
        have a := h1 (m + k) (by omega)
        obtain ⟨J, j1, j2, j3⟩ := turn_first (lack := va g (m + k) - va f (m + k)) (more := A - B) (by omega) (by omega)
        have b : ∀ j : Nat, va f (m + k + j * d) - va g (m + k + j * d) = va f (m + k) - va g (m + k) + j * (A - B) := fun j => hq.mul j _ (by omega)
        refine ⟨J, j1, Nat.le_of_not_lt fun h => ?_, fun j hj => ?_⟩
        · have := o2 _ h; have := b J; omega
        · have := b j; have := j3 j hj; omega
      have hex : ∃ k, k < d ∧ ∃ J : Nat, (va g (m + k) - va f (m + k)).fdiv (A - B) + 1 = (J : Int) ∧ t0 = m + k + J * d := by
        have a := Nat.div_add_mod (t0 - m) d
        have b := Nat.mod_lt (t0 - m) (show d > 0 by omega)
        rw [Nat.mul_comm d] at a
        obtain ⟨J, j1, j2, j3⟩ := cand _ b
        refine ⟨_, b, J, j1, Nat.le_antisymm j2 ?_⟩
        refine Nat.le_of_not_lt fun h => ?_
        have : (t0 - m) / d < J := Nat.lt_of_mul_lt_mul_right (a := d) (by omega)
        have := j3 _ this
        rw [show m + (t0 - m) % d + (t0 - m) / d * d = t0 by omega] at this
        omega
      refine wS_mono (Q := fun fl S1 c1 => fl = .nx ∧ ∃ x y : Sl, S1 = [.val (cD f), .val (cD g), .val (.int d), .val (.int m), x, .val (.int (A - B)), .own (((List.range d).map fun k => ((m + k : Nat) : Int) + ((va g (m + k) - va f (m + k)).fdiv (A - B) + 1) * d).map D.int), y] ∧ c1 = none) ?_ ?_
      · refine for_rng (fun i S1 c1 => ∃ x y : Sl, x ≠ .cst ∧ y ≠ .cst ∧ S1 = [.val (cD f), .val (cD g), .val (.int d), .val (.int m), x, .val (.int (A - B)), .own (((List.range i).map fun k => ((m + k : Nat) : Int) + ((va g (m + k) - va f (m + k)).fdiv (A - B) + 1) * d).map D.int), y] ∧ c1 = none) ⟨x, .no, hx, by simp, by simp, rfl⟩ ?_ ?_
        · rintro i S1 c1 hi ⟨x, y, hx, hy, rfl, rfl⟩
          simp [notCst_of hx, -List.map_map]
          rw [w_at hg.ok _ (by omega) (by omega)]
          simp [-List.map_map]
          rw [w_at hf.ok _ (by omega) (by omega)]
          simp [notCst_of hy, -List.map_map]
          rw [if_pos ⟨by omega, by omega⟩]
          simp [-List.map_map]
          rw [oMul_i (by omega)]
          have hlen : (((List.range i).map fun k => ((m + k : Nat) : Int) + ((va g (m + k) - va f (m + k)).fdiv (A - B) + 1) * d).map D.int).length = i := by simp
          simp (disch := omega) [-List.map_map, iP_dis, sizeLine_v, hlen]
          refine ⟨.val (.int (m + i)), by simp, .val (.int (va g (m + i) - va f (m + i))), by simp, rfl, ?_, rfl⟩
          rw [List.range_succ, List.map_append, List.map_append]
          rfl
        · rintro S1 c1 ⟨x, y, hx, hy, rfl, rfl⟩
          exact ⟨rfl, x, y, rfl, rfl⟩
      · rintro fl S1 c1 ⟨rfl, x, y, rfl, rfl⟩
        simp [-List.map_map]
        rw [oMin_l (by intro h; have := congrArg List.length h; simp at this; omega)]
        simp [flD, onD]
        refine minI_eq ?_ ?_
        · obtain ⟨k, hk, J, j1, j2⟩ := hex
          exact List.mem_map.mpr ⟨k, List.mem_range.mpr hk, by rw [j1, j2]; simp⟩
        · intro y hy
          obtain ⟨k, hk, rfl⟩ := List.mem_map.mp hy
          obtain ⟨J, j1, j2, j3⟩ := cand k (List.mem_range.mp hk)
          rw [j1]
          have : ((J * d : Nat) : Int) = J * d := by simp
          omega
theorem w_compared {f g : Cv} (hf : Sm f) (hg : Sm g) {o : Option Nat} (ho : FA f g o) :
    m_compared_curves [cD f, cD g] = some (match o with
      | none => .tup [.str "at most"]
      | some t => .tup [.str "above", .int t]) := by
  have w := w_first_above hf hg ho
  refine of_runF rfl ?_
  unfold b_compared_curves
  simp [List.replicate, w]
  cases o with
  | none => simp (disch := omega) [onD, iP_dis, sizeLine_v, flD]
  | some t => simp (disch := omega) [onD, iP_dis, sizeLine_v, flD]
/-- the highest, the first of them -/
def Top (F : Nat → Int) (u : Nat) : Prop := (∀ t, F t ≤ F u) ∧ ∀ t, t < u → F t < F u
theorem w_store {f g : Cv} (hf : Sm f) (hg : Sm g) :
    (gr g (lc f g) < gr f (lc f g) → m_store_paper [cD f, cD g] = some (.tup [.str "grows", .int (lc f g : Nat), .int (gr f (lc f g) - gr g (lc f g))])) ∧
    (gr f (lc f g) ≤ gr g (lc f g) → ∃ u, u < mx f g + lc f g ∧ m_store_paper [cD f, cD g] = some (.tup [.str "store", .int (va f u - va g u), .int u]) ∧ Top (fun t => va f t - va g t) u) := by
  obtain ⟨e1, e2, e3, e4, _⟩ := lc_ok hf.p4 hg.p4
  have hq := qp_diffs hf hg
  have hm1 : mx f g ≤ 1000 := by have := hf.n1; have := hg.n1; unfold mx; omega
  have bf := gr_b hf e2
  have bg := gr_b hg e2
  have wf := w_growth hf.ok (lc f g) (by omega)
  have wg := w_growth hg.ok (lc f g) (by omega)
  have wm := w_multiple hf.p4 hg.p4
  have lf : (f.vs.map D.int).length = f.vs.length := by simp
  have lg : (g.vs.map D.int).length = g.vs.length := by simp
  have em : (if f.vs.length < g.vs.length then (g.vs.length : Int) else f.vs.length) = (mx f g : Nat) := by unfold mx; split <;> omega
  generalize lc f g = d at *
  generalize mx f g = m at *
  generalize gr f d = A at *
  generalize gr g d = B at *
  refine ⟨fun hlt => of_runF rfl ?_, fun hle => ?_⟩
  · unfold b_store_paper
    simp [List.replicate, wm, cD_0]
    rw [wf]
    simp
    rw [wg]
    simp (disch := omega) [hlt, iP_dis, sizeLine_v, flD]
  · have hex : ∃ u, u < m + d ∧ Top (fun t => va f t - va g t) u := by
      have hmax : ∀ n, 1 ≤ n → ∃ u, u < n ∧ (∀ t, t < n → va f t - va g t ≤ va f u - va g u) ∧ ∀ t, t < u → va f t - va g t < va f u - va g u := by
        intro n hn
        induction n with
        | zero => omega
        | succ n ih =>
          by_cases h0 : n = 0
          · subst h0; exact ⟨0, by omega, fun t ht => by rw [show t = 0 by omega]; omega, fun t ht => by omega⟩
          · obtain ⟨u, u1, u2, u3⟩ := ih (by omega)
            by_cases h : va f u - va g u < va f n - va g n
            · refine ⟨n, by omega, fun t ht => ?_, fun t ht => ?_⟩
              · by_cases ht' : t = n
                · rw [ht']; omega
                · have := u2 t (by omega); omega
              · have := u2 t ht; omega
            · refine ⟨u, by omega, fun t ht => ?_, u3⟩
              by_cases ht' : t = n
              · rw [ht']; omega
              · exact u2 t (by omega)
      obtain ⟨u, u1, u2, u3⟩ := hmax (m + d) (by omega)
      refine ⟨u, u1, fun t => ?_, u3⟩
      obtain ⟨v, v1, v2, v3⟩ := qp_down hq e1 (by omega) t
      exact Int.le_trans v3 (u2 v v1)
    obtain ⟨u, u1, u2, u3⟩ := hex
    refine ⟨u, u1, of_runF rfl ?_, u2, u3⟩
    have n1 : ¬ (B < A) := by omega
    unfold b_store_paper
    simp [List.replicate, wm, cD_0]
    rw [wf]
    simp
    rw [wg]
    simp (disch := omega) [n1, iP_dis, sizeLine_v, cD_0]
    rw [em]
    simp (disch := omega) [iP_dis]
    refine wS_mono (Q := fun fl S1 c1 => fl = .nx ∧ ∃ x y : Sl, S1 = [.val (cD f), .val (cD g), .val (.int d), .val (.int (A - B)), .val (.int (va f u - va g u)), .val (.int u), x, y] ∧ c1 = none) ?_ ?_
    · refine for_rng (fun i S1 c1 => ∃ x y : Sl, x ≠ .cst ∧ y ≠ .cst ∧ c1 = none ∧ ((i = 0 ∧ S1 = [.val (cD f), .val (cD g), .val (.int d), .val (.int (A - B)), .val .non, .val .non, x, y]) ∨
        ∃ v : Nat, v < i ∧ (∀ t, t < i → va f t - va g t ≤ va f v - va g v) ∧ (∀ t, t < v → va f t - va g t < va f v - va g v) ∧ S1 = [.val (cD f), .val (cD g), .val (.int d), .val (.int (A - B)), .val (.int (va f v - va g v)), .val (.int v), x, y])) ⟨.no, .no, by simp, by simp, rfl, .inl ⟨rfl, rfl⟩⟩ ?_ ?_
      · rintro i S1 c1 hi ⟨x, y, hx, hy, rfl, ⟨rfl, rfl⟩ | ⟨v, v1, v2, v3, rfl⟩⟩
        · simp [notCst_of hx]
          rw [w_at hf.ok _ (by omega) (by omega)]
          simp
          rw [w_at hg.ok _ (by omega) (by omega)]
          simp [notCst_of hy]
        · simp [notCst_of hx]
          rw [w_at hf.ok _ (by omega) (by omega)]
          simp
          rw [w_at hg.ok _ (by omega) (by omega)]
          simp [notCst_of hy]
          refine ⟨fun h => ?_, fun h => ?_⟩
          · refine ⟨.val (.int i), by simp, .val (.int (va f i - va g i)), by simp, i, by omega, fun t ht => ?_, fun t ht => ?_, rfl, rfl, rfl, rfl⟩
            · by_cases ht' : t = i
              · rw [ht']; omega
              · have := v2 t (by omega); omega
            · have := v2 t ht; omega
          · refine ⟨.val (.int i), by simp, .val (.int (va f i - va g i)), by simp, v, by omega, fun t ht => ?_, v3, rfl, rfl, rfl, rfl⟩
            by_cases ht' : t = i
            · rw [ht']; omega
            · exact v2 t (by omega)
      · rintro S1 c1 ⟨x, y, hx, hy, rfl, ⟨h, rfl⟩ | ⟨v, v1, v2, v3, rfl⟩⟩
        · omega
        · have : v = u := by
            by_cases h : v < u
            · have := u3 v h
              have := v2 u (by omega)
              simp only [] at *
              omega
            · by_cases h' : u < v
              · have := v3 u h'
                have := u2 v
                simp only [] at *
                omega
              · omega
          subst this
          exact ⟨rfl, x, y, rfl, rfl⟩
    · rintro fl S1 c1 ⟨rfl, x, y, rfl, rfl⟩
      simp (disch := omega) [iP_dis, sizeLine_v, flD]
end K54

set_option autoImplicit true
set_option relaxedAutoImplicit true
set_option Elab.async false
set_option linter.all false
set_option maxRecDepth 100000
set_option maxHeartbeats 4000000
/-! KJ: delays of rising curves -/
namespace K54
open PySem L2 DL
/-- a rising curve -/
structure Ri (c : Cv) : Prop where
  sc : Sc c
  s0 : 0 ≤ c.s
  up : ∀ t, va c t ≤ va c (t + 1)
theorem Ri.mono {c : Cv} (h : Ri c) {a b : Nat} (hab : a ≤ b) : va c a ≤ va c b := by
  obtain ⟨k, rfl⟩ := Nat.exists_eq_add_of_le hab
  induction k with
  | zero => exact Int.le_refl _
  | succ k ih => exact Int.le_trans (ih (by omega)) (h.up _)
theorem sc_b2 {c : Cv} (h : Sc c) (t : Nat) : -(44 + 12 * (t : Int)) ≤ va c t ∧ va c t ≤ 44 + 12 * t := by
  have a := h.cr t
  have b := h.sb
  have hp := h.hp
  have h4 : c.p ≤ 4 := Nat.le_trans h.hn h.n4
  have c1 : (t : Int) * c.s ≤ t * 12 := Int.mul_le_mul_of_nonneg_left b.2 (by omega)
  have c2 : (t : Int) * (-12) ≤ t * c.s := Int.mul_le_mul_of_nonneg_left b.1 (by omega)
  generalize va c t = v at *
  have : c.p = 1 ∨ c.p = 2 ∨ c.p = 3 ∨ c.p = 4 := by omega
  rcases this with e | e | e | e <;> rw [e] at a <;> omega
/-- the first at least v -/
def AL (g : Cv) (v : Int) : Option Nat → Prop
  | none => ∀ t, va g t < v
  | some u => v ≤ va g u ∧ ∀ t, t < u → va g t < v
theorem AL_ex (g : Cv) (v : Int) : ∃ o, AL g v o := by
  by_cases h : ∃ t, v ≤ va g t
  · obtain ⟨t, ht⟩ := h
    obtain ⟨m, a, b, c⟩ := least_ex (fun t => v ≤ va g t) t ht
    exact ⟨some m, a, fun k hk => Int.not_le.mp (c k hk)⟩
  · exact ⟨none, fun t => Int.not_le.mp fun z => h ⟨t, z⟩⟩
theorem AL_some {g : Cv} {v : Int} {o : Option Nat} {i : Nat} (h : AL g v o) (h1 : ∀ t, t < i → va g t < v) (h2 : v ≤ va g i) : o = some i := by
  cases o with
  | none => have := h i; omega
  | some u =>
    obtain ⟨a, b⟩ := h
    by_cases h3 : i < u
    · have := b i h3; omega
    · by_cases h4 : u < i
      · have := h1 u h4; omega
      · rw [show u = i by omega]
theorem AL_none {g : Cv} {v : Int} {o : Option Nat} (h : AL g v o) (h1 : ∀ t, va g t < v) : o = none := by
  cases o with
  | none => rfl
  | some u => have := h.1; have := h1 u; omega
theorem enumD_inv : ∀ {i j : Nat} {ds : List D} {d : D}, (enumD i ds)[j]? = some d → ∃ x, ds[j]? = some x ∧ d = .tup [.int ((i + j : Nat) : Int), x]
  | _, _, [], _, h => by simp [enumD] at h
  | i, 0, x :: r, d, h => by simp [enumD] at h; exact ⟨x, rfl, by rw [← h]; simp⟩
  | i, j + 1, x :: r, d, h => by
    obtain ⟨y, h1, h2⟩ := enumD_inv (i := i + 1) (j := j) (ds := r) (d := d) (by simpa [enumD] using h)
    exact ⟨y, by simpa using h1, by rw [h2, show i + 1 + j = i + (j + 1) by omega]⟩
theorem last_t {vs : List Int} (h : vs ≠ []) : ixD (.tup (vs.map D.int)) (.int (-1)) = some (.int (gI vs (vs.length - 1))) := by
  have h1 : 1 ≤ vs.length := by cases vs with
    | nil => exact absurd rfl h
    | cons _ _ => simp
  have e : vs.map D.int = (vs.map D.int).take (vs.length - 1) ++ [.int (gI vs (vs.length - 1))] := by
    rw [show vs.length - 1 = (vs.map D.int).length - 1 by simp]
    apply List.ext_getElem?
    intro i
    have hg : ∀ i, i < vs.length → (vs.map D.int)[i]? = some (.int (gI vs i)) := fun i hi => gI_get hi
    by_cases hi : i < vs.length - 1
    · rw [List.getElem?_append_left (by simp; omega), List.getElem?_take_of_lt (by simp; omega)]
    · by_cases h2 : i = vs.length - 1
      · subst h2
        rw [List.getElem?_append_right (by simp), hg _ (by omega)]
        simp
      · rw [List.getElem?_eq_none (by simp; omega), List.getElem?_eq_none (by simp; omega)]
  show atI (vs.map D.int) (-1) = _
  rw [e]
  exact atI_last _ _
theorem fdiv_ex {a b : Int} (h0 : 0 ≤ a) (hb : 0 < b) : ∃ q : Nat, a.fdiv b = (q : Int) ∧ q * b ≤ a ∧ a < (q + 1 : Nat) * b := by
  obtain ⟨J, j1, j2, j3⟩ := turn_first h0 hb
  have q0 : 0 ≤ a.fdiv b := Int.fdiv_nonneg h0 (by omega)
  refine ⟨J - 1, by omega, j3 _ (by omega), by rw [show J - 1 + 1 = J by omega]; exact j2⟩
theorem w_fal {g : Cv} (hg : Ri g) {v : Int} (hv : -(2 ^ 17) < v ∧ v < 2 ^ 17) {o : Option Nat} (ho : AL g v o) : m_first_at_least [cD g, .int v] = some (onD o) := by
  have sm := sc_sm hg.sc
  have n4 := hg.sc.n4; have gp := hg.sc.hp; have gn := hg.sc.hn; have gs := hg.sc.sb; have s0 := hg.s0
  have lg : (g.vs.map D.int).length = g.vs.length := by simp
  have hq := va_qp gp gn
  have hgI : ∀ i, i < g.vs.length → gI g.vs i = va g i := fun i hi => by rw [va_lt hi]; rfl
  have hlast : va g (g.vs.length - 1) = gI g.vs (g.vs.length - 1) := (hgI _ (by omega)).symm
  have w := w_at sm.ok
  have lt := last_t (vs := g.vs) (by intro h; rw [h] at gn; simp at gn; omega)
  have hc : cD g = .tup [.tup (g.vs.map .int), .int g.p, .int g.s] := rfl
  refine of_runF rfl ?_
  unfold b_first_at_least
  rw [hc]
  simp [List.replicate]
  refine for_all (fun i S1 c1 => (∀ t, t < i → va g t < v) ∧ ∃ x y : Sl, x ≠ .cst ∧ y ≠ .cst ∧ S1 = [.val (cD g), .val (.int v), .val (.tup (g.vs.map .int)), .val (.int g.p), .val (.int g.s), x, y, .no] ∧ c1 = none) _ 0 ⟨fun t ht => by omega, .no, .no, by simp, by simp, rfl, rfl⟩ ?_ ?_
  · rintro i d S1 c1 hd ⟨h1, x, y, hx, hy, rfl, rfl⟩
    obtain ⟨z, h2, rfl⟩ := enumD_inv hd
    obtain ⟨h3, rfl⟩ := ints_inv h2
    simp only [Nat.zero_add] at *
    simp (disch := omega) [notCst_of hx, notCst_of hy, iP_dis]
    rw [hgI i h3]
    refine ⟨fun h => ?_, fun h => ?_⟩
    · rw [AL_some ho h1 h]; simp [flD, onD]
    · intro t ht
      by_cases h4 : t = i
      · rw [h4]; exact h
      · exact h1 t (by omega)
  · rintro S1 c1 ⟨h1, x, y, hx, hy, rfl, rfl⟩
    rw [Nat.zero_add, enumD_len, lg] at h1
    simp (disch := omega) [lg]
    refine ⟨fun hs => ?_, fun hs => ?_⟩
    · have : o = none := AL_none ho fun t => by
        have k : ∀ k : Nat, va g (g.vs.length - 1 + k * g.p) = va g (g.vs.length - 1) := fun k => by
          rw [hq.mul k _ (by omega), hs]; omega
        have a := k t
        have b := hg.mono (a := t) (b := g.vs.length - 1 + t * g.p) (by have := Nat.le_mul_of_pos_right t gp; omega)
        have := h1 (g.vs.length - 1) (by omega)
        omega
      rw [this]; simp [flD, onD]
    · rw [lt]
      simp
      rw [if_pos ⟨hs, by omega⟩, ← hlast]
      have b1 := sc_b2 hg.sc (g.vs.length - 1)
      have l1 := h1 (g.vs.length - 1) (by omega)
      generalize hL : va g (g.vs.length - 1) = L at *
      obtain ⟨q, q1, q2, q3⟩ := fdiv_ex (a := v - L - 1) (b := g.s) (by omega) (by omega)
      have qb : (q : Int) * 1 ≤ q * g.s := Int.mul_le_mul_of_nonneg_left (by omega) (by omega)
      have qp4 : q * g.p ≤ q * 4 := Nat.mul_le_mul_left _ (by omega)
      rw [q1]
      simp
      rw [oMul_i (by omega)]
      simp [notCst_of hx]
      have hk : ∀ k : Nat, va g (g.vs.length - 1 + k * g.p) = L + k * g.s := fun k => by rw [hq.mul k _ (by omega), hL]
      -- before there is none, and soon there is one
      have none_b : ∀ t, t < g.vs.length + q * g.p → va g t < v := fun t ht => by
        have a := hg.mono (a := t) (b := g.vs.length - 1 + q * g.p) (by omega)
        rw [hk] at a
        omega
      have one_b : v ≤ va g (g.vs.length + q * g.p + g.p) := by
        have a := hg.mono (a := g.vs.length - 1 + (q + 1) * g.p) (b := g.vs.length + q * g.p + g.p) (by rw [Nat.add_mul]; omega)
        rw [hk] at a
        omega
      obtain ⟨u, rfl⟩ : ∃ u, o = some u := by
        cases o with
        | some u => exact ⟨u, rfl⟩
        | none => have := ho (g.vs.length + q * g.p + g.p); omega
      obtain ⟨o1, o2⟩ := ho
      have u1 : g.vs.length + q * g.p ≤ u := Nat.le_of_not_lt fun h => by have := none_b u h; omega
      have u2 : u ≤ g.vs.length + q * g.p + g.p := Nat.le_of_not_lt fun h => by have := o2 _ h; omega
      refine wS_mono (Q := fun fl S1 c1 => fl = .nx ∧ ∃ x : Sl, S1 = [.val (cD g), .val (.int v), .val (.tup (g.vs.map .int)), .val (.int g.p), .val (.int g.s), .val (.int u), x, .val (.int g.vs.length)] ∧ c1 = none) ?_ ?_
      · refine while_all (fun m S1 c1 => ∃ t : Nat, g.vs.length + q * g.p ≤ t ∧ t ≤ u ∧ m + t = 20000 + (g.vs.length + q * g.p) ∧ S1 = [.val (cD g), .val (.int v), .val (.tup (g.vs.map .int)), .val (.int g.p), .val (.int g.s), .val (.int t), y, .val (.int g.vs.length)] ∧ c1 = none) 20000 ⟨g.vs.length + q * g.p, Nat.le_refl _, u1, rfl, by simp, rfl⟩ ?_
        rintro m S1 c1 ⟨t, t1, t2, t3, rfl, rfl⟩
        refine ⟨by omega, ?_⟩
        simp
        rw [w _ (by omega) (by omega)]
        simp
        refine ⟨fun h => ⟨t + 1, by omega, ?_, by omega, by simp⟩, fun h => ?_⟩
        · by_cases h2 : t = u
          · subst h2; omega
          · omega
        · by_cases h2 : t = u
          · rw [h2]
          · have := o2 t (by omega); omega
      · rintro fl S1 c1 ⟨rfl, x, rfl, rfl⟩
        simp [flD, onD]
end K54

set_option autoImplicit true
set_option relaxedAutoImplicit true
set_option Elab.async false
set_option linter.all false
set_option maxRecDepth 100000
set_option maxHeartbeats 4000000
/-! KK: the delay -/
namespace K54
open PySem L2 DL
def Best (F : Nat → Int) (b : Int) : Option Nat → Prop
  | none => b = 0 ∧ ∀ t, F t ≤ 0
  | some u => b = F u ∧ 0 < F u ∧ (∀ t, F t ≤ F u) ∧ ∀ t, t < u → F t < F u
/-- the same of the first n -/
def BestN (F : Nat → Int) (n : Nat) (b : Int) : Option Nat → Prop
  | none => b = 0 ∧ ∀ t, t < n → F t ≤ 0
  | some u => u < n ∧ b = F u ∧ 0 < F u ∧ (∀ t, t < n → F t ≤ F u) ∧ ∀ t, t < u → F t < F u
theorem BestN.all {F n b o} (h : BestN F n b o) (hd : ∀ t, F t ≤ 0 ∨ ∃ u, u < n ∧ F t ≤ F u) : Best F b o := by
  cases o with
  | none =>
    obtain ⟨h1, h2⟩ := h
    refine ⟨h1, fun t => ?_⟩
    rcases hd t with h3 | ⟨u, h3, h4⟩
    · exact h3
    · have := h2 u h3; omega
  | some u =>
    obtain ⟨h1, h2, h3, h4, h5⟩ := h
    refine ⟨h2, h3, fun t => ?_, h5⟩
    rcases hd t with h6 | ⟨v, h6, h7⟩
    · omega
    · have := h4 v h6; omega
theorem Best.unique {F b o b' o'} (h : Best F b o) (h' : Best F b' o') : b = b' ∧ o = o' := by
  cases o with
  | none =>
    cases o' with
    | none => exact ⟨by rw [h.1, h'.1], rfl⟩
    | some u => have := h.2 u; have := h'.2.1; omega
  | some u =>
    cases o' with
    | none => have := h'.2 u; have := h.2.1; omega
    | some v =>
      obtain ⟨a1, a2, a3, a4⟩ := h
      obtain ⟨b1, b2, b3, b4⟩ := h'
      have e : u = v := by
        by_cases k : u < v
        · have := b4 u k; have := a3 v; omega
        · by_cases k' : v < u
          · have := a4 v k'; have := b3 u; omega
          · omega
      subst e
      exact ⟨by omega, rfl⟩
theorem BestN.up {F : Nat → Int} {n b o} (h : BestN F n b o) (hb : b < F n) : BestN F (n + 1) (F n) (some n) := by
  cases o with
  | none =>
    obtain ⟨h1, h2⟩ := h
    refine ⟨by omega, rfl, by omega, fun t ht => ?_, fun t ht => by have := h2 t ht; omega⟩
    by_cases e : t = n
    · rw [e]; exact Int.le_refl _
    · have := h2 t (by omega); omega
  | some u =>
    obtain ⟨h1, h2, h3, h4, h5⟩ := h
    refine ⟨by omega, rfl, by omega, fun t ht => ?_, fun t ht => by have := h4 t ht; omega⟩
    by_cases e : t = n
    · rw [e]; exact Int.le_refl _
    · have := h4 t (by omega); omega
theorem BestN.stay {F : Nat → Int} {n b o} (h : BestN F n b o) (hb : F n ≤ b) : BestN F (n + 1) b o := by
  cases o with
  | none =>
    obtain ⟨h1, h2⟩ := h
    refine ⟨h1, fun t ht => ?_⟩
    by_cases e : t = n
    · rw [e]; omega
    · exact h2 t (by omega)
  | some u =>
    obtain ⟨h1, h2, h3, h4, h5⟩ := h
    refine ⟨by omega, h2, h3, fun t ht => ?_, h5⟩
    by_cases e : t = n
    · rw [e]; omega
    · exact h4 t (by omega)
theorem AL_b {f : Cv} (hf : Ri f) {v : Int} (hv : -200 ≤ v ∧ v ≤ 200) {r : Nat} (h : AL f v (some r)) : r ≤ 2000 := by
  refine Nat.le_of_not_lt fun hlt => ?_
  obtain ⟨h1, h2⟩ := h
  have n4 := hf.sc.n4; have gp := hf.sc.hp; have gn := hf.sc.hn; have gs := hf.sc.sb; have s0 := hf.s0
  have hq := va_qp gp gn
  by_cases hs : f.s = 0
  · have a := hq (r - f.p) (by omega)
    rw [show r - f.p + f.p = r by omega, hs] at a
    have := h2 (r - f.p) (by omega)
    omega
  · have a := hq.mul 300 (f.vs.length - 1) (by omega)
    have b := h2 (f.vs.length - 1 + 300 * f.p) (by omega)
    have c := sc_b2 hf.sc (f.vs.length - 1)
    have : ((300 : Nat) : Int) * 1 ≤ (300 : Nat) * f.s := Int.mul_le_mul_of_nonneg_left (by omega) (by omega)
    omega
theorem top_last {g : Cv} (hg : Ri g) (hs : g.s = 0) (t : Nat) : va g t ≤ va g (g.vs.length - 1) := by
  have gp := hg.sc.hp; have gn := hg.sc.hn
  have hq := va_qp gp gn
  have a := hq.mul t (g.vs.length - 1) (by omega)
  have b := hg.mono (a := t) (b := g.vs.length - 1 + t * g.p) (by have := Nat.le_mul_of_pos_right t gp; omega)
  rw [hs] at a
  omega
/-- each is reached -/
theorem AL_all {f g : Cv} (hg : Ri g) (h0 : g.s = 0 → ∀ t, va f t ≤ va g (g.vs.length - 1)) (t : Nat) : ∃ u, AL g (va f t) (some u) := by
  have gp := hg.sc.hp; have gn := hg.sc.hn; have s0 := hg.s0
  have hq := va_qp gp gn
  obtain ⟨o, ho⟩ := AL_ex g (va f t)
  cases o with
  | some u => exact ⟨u, ho⟩
  | none =>
    exfalso
    by_cases hs : g.s = 0
    · have := ho (g.vs.length - 1); have := h0 hs t; omega
    · have a := hq.mul (va f t - va g (g.vs.length - 1)).toNat (g.vs.length - 1) (by omega)
      have b := ho (g.vs.length - 1 + (va f t - va g (g.vs.length - 1)).toNat * g.p)
      have c := ho (g.vs.length - 1)
      have : ((va f t - va g (g.vs.length - 1)).toNat : Int) * 1 ≤ ((va f t - va g (g.vs.length - 1)).toNat : Int) * g.s := Int.mul_le_mul_of_nonneg_left (by omega) (by omega)
      omega
theorem AL_le {g : Cv} {v : Int} {u w : Nat} (h : AL g v (some u)) (hw : v ≤ va g w) : u ≤ w := Nat.le_of_not_lt fun z => by have := h.2 w z; omega
/-- later delays are no longer -/
theorem del_down {f g : Cv} (hf : Ri f) (hg : Ri g) {d : Nat} (hd : 1 ≤ d) (df : d % f.p = 0) (dg : d % g.p = 0) (hle : gr f d ≤ gr g d) {A : Nat → Nat} (hA : ∀ t, AL g (va f t) (some (A t))) (t : Nat) (ht : f.vs.length + g.vs.length ≤ t) :
    (A (t + d) : Int) - (t + d : Nat) ≤ A t - t ∨ (A (t + d) : Int) - (t + d : Nat) ≤ 0 := by
  have fp := hf.sc.hp; have fn := hf.sc.hn; have gp := hg.sc.hp; have gn := hg.sc.hn
  have qf := qp_gr (va_qp fp fn) df t (by omega)
  have e1 : ((d / f.p : Nat) : Int) * f.s = gr f d := rfl
  have qg := qp_gr (va_qp gp gn) dg
  have e2 : ((d / g.p : Nat) : Int) * g.s = gr g d := rfl
  rw [e1] at qf
  rw [e2] at qg
  have a := (hA t).1
  by_cases h : g.vs.length - g.p ≤ A t
  · left
    have b := qg (A t) h
    have := AL_le (hA (t + d)) (w := A t + d) (by omega)
    omega
  · right
    have b := qg (g.vs.length - 1) (by omega)
    have c := hg.mono (a := A t) (b := g.vs.length - 1) (by omega)
    have := AL_le (hA (t + d)) (w := g.vs.length - 1 + d) (by omega)
    omega
theorem del_early {f g : Cv} (hf : Ri f) (hg : Ri g) {d : Nat} (hd : 1 ≤ d) (df : d % f.p = 0) (dg : d % g.p = 0) (hle : gr f d ≤ gr g d) {A : Nat → Nat} (hA : ∀ t, AL g (va f t) (some (A t))) {n : Nat} (hn : f.vs.length + g.vs.length + d ≤ n) (t : Nat) :
    (A t : Int) - t ≤ 0 ∨ ∃ u, u < n ∧ (A t : Int) - t ≤ A u - u := by
  induction t using Nat.strongRecOn with
  | _ t ih =>
    by_cases h : t < n
    · exact .inr ⟨t, h, Int.le_refl _⟩
    · have a := del_down hf hg hd df dg hle hA (t - d) (by omega)
      rw [show t - d + d = t by omega] at a
      rcases a with a | a
      · rcases ih (t - d) (by omega) with b | ⟨u, u1, u2⟩
        · left; omega
        · exact .inr ⟨u, u1, by omega⟩
      · exact .inl a
theorem w_reach {f g : Cv} (hf : Ri f) (hg : Ri g) : ∃ r : Nat, m_reach [cD f, cD g] = some (.int r) ∧ r ≤ 2000 := by
  have gp := hg.sc.hp; have gn := hg.sc.hn; have n4 := hg.sc.n4
  have lt := last_t (vs := g.vs) (by intro h; rw [h] at gn; simp at gn; omega)
  have hlast : gI g.vs (g.vs.length - 1) = va g (g.vs.length - 1) := by rw [va_lt (by omega)]; rfl
  have b := sc_b2 hg.sc (g.vs.length - 1)
  rw [hlast] at lt
  obtain ⟨o, ho⟩ := AL_ex f (va g (g.vs.length - 1))
  have w := w_fal hf (by omega) ho
  cases o with
  | none =>
    refine ⟨0, of_runF rfl ?_, by omega⟩
    unfold b_reach
    simp [List.replicate, cD_0]
    rw [lt]
    simp [w, onD, flD]
  | some r =>
    refine ⟨r, of_runF rfl ?_, AL_b hf (by omega) ho⟩
    unfold b_reach
    simp [List.replicate, cD_0]
    rw [lt]
    simp [w, onD, flD]
theorem w_delay_never {f g : Cv} (hf : Ri f) (hg : Ri g) {t0 : Nat} (hs : g.s = 0) (ht : AL f (va g (g.vs.length - 1) + 1) (some t0)) : m_delay_bound [cD f, cD g] = some (.tup [.str "never", .int t0]) := by
  have sf := sc_sm hf.sc
  have sg := sc_sm hg.sc
  obtain ⟨e1, e2, e3, e4, _⟩ := lc_ok sf.p4 sg.p4
  have gp := hg.sc.hp; have gn := hg.sc.hn; have n4 := hg.sc.n4; have f4 := hf.sc.n4
  have wf := w_growth sf.ok (lc f g) (by omega)
  have wg := w_growth sg.ok (lc f g) (by omega)
  have wm := w_multiple sf.p4 sg.p4
  have lf : (f.vs.map D.int).length = f.vs.length := by simp
  have lg : (g.vs.map D.int).length = g.vs.length := by simp
  have lt := last_t (vs := g.vs) (by intro h; rw [h] at gn; simp at gn; omega)
  have hlast : gI g.vs (g.vs.length - 1) = va g (g.vs.length - 1) := by rw [va_lt (by omega)]; rfl
  have bl := sc_b2 hg.sc (g.vs.length - 1)
  rw [hlast] at lt
  have w := w_fal hf (v := va g (g.vs.length - 1) + 1) (by omega) ht
  refine of_runF rfl ?_
  unfold b_delay_bound
  simp [List.replicate, wm, cD_0]
  rw [cD_2]
  simp [hs, cD_0]
  rw [lt]
  simp [w, onD]
  simp (disch := omega) [iP_dis, sizeLine_v, flD]
theorem w_delay {f g : Cv} (hf : Ri f) (hg : Ri g) (h0 : g.s = 0 → ∀ t, va f t ≤ va g (g.vs.length - 1)) {A : Nat → Nat} (hA : ∀ t, AL g (va f t) (some (A t))) :
    ∃ res, m_delay_bound [cD f, cD g] = some res ∧ ((gr g (lc f g) < gr f (lc f g) ∧ res = .tup [.str "grows"]) ∨
      (gr f (lc f g) ≤ gr g (lc f g) ∧ ∃ b o, Best (fun t => (A t : Int) - t) b o ∧ res = .tup [.str "delay", .int b, onD o])) := by
  have sf := sc_sm hf.sc
  have sg := sc_sm hg.sc
  obtain ⟨e1, e2, e3, e4, _⟩ := lc_ok sf.p4 sg.p4
  have gp := hg.sc.hp; have gn := hg.sc.hn; have n4 := hg.sc.n4; have f4 := hf.sc.n4
  have wf := w_growth sf.ok (lc f g) (by omega)
  have wg := w_growth sg.ok (lc f g) (by omega)
  have wm := w_multiple sf.p4 sg.p4
  have lf : (f.vs.map D.int).length = f.vs.length := by simp
  have lg : (g.vs.map D.int).length = g.vs.length := by simp
  have lt := last_t (vs := g.vs) (by intro h; rw [h] at gn; simp at gn; omega)
  have hlast : gI g.vs (g.vs.length - 1) = va g (g.vs.length - 1) := by rw [va_lt (by omega)]; rfl
  have bl := sc_b2 hg.sc (g.vs.length - 1)
  rw [hlast] at lt
  obtain ⟨r, hr, rb⟩ := w_reach hf hg
  have w1 := w_at sf.ok
  refine of_runF_ex _ (by rfl) ?_
  unfold b_delay_bound
  rw [w_seq]
  refine wS_mono (Q := fun fl S c => fl = .nx ∧ S = [.val (cD f), .val (cD g), .val (.int (lc f g : Nat)), .no, .no, .no, .no, .no, .no, .no] ∧ c = none) (by simp [List.replicate, wm]) ?_
  intro fl S c h
  rw [h.1, h.2.1, h.2.2, onFl_nx]
  clear h S c fl
  rw [w_seq]
  refine wS_mono (Q := fun fl S c => fl = .nx ∧ S = [.val (cD f), .val (cD g), .val (.int (lc f g : Nat)), .val (.int (f.vs.length + g.vs.length : Nat)), .no, .no, .no, .no, .no, .no] ∧ c = none) (by simp [cD_0]) ?_
  intro fl S c h
  rw [h.1, h.2.1, h.2.2, onFl_nx]
  clear h S c fl
  rw [w_seq]
  refine wS_mono (Q := fun fl S c => fl = .nx ∧ ∃ x y : Sl, S = [.val (cD f), .val (cD g), .val (.int (lc f g : Nat)), .val (.int (f.vs.length + g.vs.length : Nat)), x, y, .no, .no, .no, .no] ∧ c = none) ?_ ?_
  · simp
    rw [cD_2]
    by_cases hs : g.s = 0
    · obtain ⟨o, ho⟩ := AL_ex f (va g (g.vs.length - 1) + 1)
      have on : o = none := AL_none ho fun t => by have := h0 hs t; omega
      subst on
      have w := w_fal hf (v := va g (g.vs.length - 1) + 1) (by omega) ho
      simp [hs, cD_0]
      rw [lt]
      simp [w, onD]
    · simp [hs]
  · intro fl S c h
    obtain ⟨h0, x, y, h1, h2⟩ := h
    rw [h0, h1, h2, onFl_nx]
    clear h0 h1 h2 S c fl
    rcases Int.lt_or_le (gr g (lc f g)) (gr f (lc f g)) with hlt | hle
    · simp
      rw [wf]
      simp
      rw [wg]
      simp (disch := omega) [hlt, iP_dis, sizeLine_v, flD]
    · have nlt : ¬ gr g (lc f g) < gr f (lc f g) := by omega
      simp
      rw [wf]
      simp
      rw [wg]
      simp (disch := omega) [nlt, iP_dis, sizeLine_v]
      rw [hr]
      simp
      rw [oMul_i (by omega)]
      simp (disch := omega) [iP_dis]
      generalize hd : lc f g = d at *
      generalize hN : ((f.vs.length : Int) + g.vs.length + r + 2 * d).toNat = N at *
      refine wS_mono (Q := fun fl S1 c1 => fl = .nx ∧ ∃ (b : Int) (o : Option Nat) (x1 x2 : Sl), BestN (fun t => (A t : Int) - t) N b o ∧ S1 = [.val (cD f), .val (cD g), .val (.int d), .val (.int (f.vs.length + g.vs.length)), x, y, .val (.int b), .val (onD o), x1, x2] ∧ c1 = none) ?_ ?_
      · refine for_rng (fun i S1 c1 => ∃ (b : Int) (o : Option Nat) (x1 x2 : Sl), x1 ≠ .cst ∧ x2 ≠ .cst ∧ BestN (fun t => (A t : Int) - t) i b o ∧ S1 = [.val (cD f), .val (cD g), .val (.int d), .val (.int (f.vs.length + g.vs.length)), x, y, .val (.int b), .val (onD o), x1, x2] ∧ c1 = none) ⟨0, none, .no, .no, by simp, by simp, ⟨rfl, fun t ht => by omega⟩, rfl, rfl⟩ ?_ ?_
        · rintro i S1 c1 hi ⟨b, o, x1, x2, hx1, hx2, hB, rfl, rfl⟩
          have bf := sc_b2 hf.sc i
          simp [notCst_of hx1]
          rw [w1 _ (by omega) (by omega)]
          simp
          rw [w_fal hg (by omega) (hA i)]
          simp [onD, notCst_of hx2]
          refine ⟨fun h => ⟨A i - i, some i, .val (.int i), by simp, .val (.int (A i - i)), by simp, hB.up h, rfl, rfl, rfl, rfl⟩, fun h => ⟨b, o, .val (.int i), by simp, .val (.int (A i - i)), by simp, hB.stay h, rfl, rfl, rfl, rfl⟩⟩
        · rintro S1 c1 ⟨b, o, x1, x2, hx1, hx2, hB, rfl, rfl⟩
          exact ⟨rfl, b, o, x1, x2, hB, rfl, rfl⟩
      · rintro fl S1 c1 ⟨rfl, b, o, x1, x2, hB, rfl, rfl⟩
        simp (disch := omega) [iP_dis, sizeLine_v, flD]
        refine ⟨hle, b, o, hB.all fun t => ?_, rfl, rfl⟩
        rcases del_early hf hg e1 e3 e4 hle hA (n := N) (by omega) t with h | h
        · exact .inl h
        · exact .inr h
end K54

set_option autoImplicit true
set_option relaxedAutoImplicit true
set_option Elab.async false
set_option linter.all false
set_option maxRecDepth 100000
set_option maxHeartbeats 4000000
/-! KL: the law's least form -/
namespace K54
open PySem L2 DL
def row (F : Nat → Int) (L : Nat) : List Int := (List.range L).map F
theorem row_len {F L} : (row F L).length = L := by simp [row]
theorem row_get {F : Nat → Int} {L k : Nat} (h : k < L) : gI (row F L) k = F k := gI_r h
theorem row_l {F : Nat → Int} {L : Nat} {i : Int} (h0 : 0 ≤ i) (h : i < L) : ixD (.lst ((row F L).map D.int)) (.int i) = some (.int (F i.toNat)) := by
  rw [gI_l h0 (by rw [row_len]; exact h), row_get (by omega)]
theorem row_take {F : Nat → Int} {L k : Nat} (h : k ≤ L) : ((row F L).map D.int).take k = ((List.range k).map F).map D.int := by
  unfold row
  rw [← List.map_take, ← List.map_take, List.take_range, Nat.min_eq_left h]
theorem w_lawform {F : Nat → Int} {L b q N P : Nat} {S : Int} (hq : QP F N P S) (hP : 1 ≤ P) (hN : N ≤ b) (hPq : P ≤ q) (hL : b + 3 * q ≤ L) (hL2 : L ≤ 2000) :
    ∃ l, m__law_form [.lst ((row F L).map D.int), .int b, .int q] = some (cD l) ∧ IsLF F l := by
  have hqb := hq.mono hN
  obtain ⟨σ, ⟨s1, s2⟩, s3, s4⟩ := least_ex (fun σ => 1 ≤ σ ∧ QP F b σ (F (b + σ) - F b)) P ⟨hP, by
    have : S = F (b + P) - F b := by have := hqb b (Nat.le_refl _); omega
    rw [← this]; exact hqb⟩
  obtain ⟨st, est⟩ : ∃ st, st = F (b + σ) - F b := ⟨_, rfl⟩
  rw [← est] at s2
  obtain ⟨f0, k1, k2, k3⟩ := least_ex (fun f => QP F f σ st) b s2
  have good : ∀ σ st, (∀ k, k < 2 * q → F (b + k + σ) - F (b + k) = st) → QP F b σ st := fun σ st h => qp_window hq hP hN fun t h1 h2 => by
    have := h (t - b) (by omega)
    rw [show b + (t - b) = t by omega] at this
    omega
  refine ⟨⟨(List.range (f0 + σ)).map F, σ, st⟩, of_runF (by rfl) ?_, ⟨s1, by simp, by simp, by simpa using k1, fun M τ T h1 h2 => ?_, fun M hM => ?_⟩⟩
  · unfold b__law_form
    simp (disch := omega) [List.replicate, iP_dis]
    refine for_rng (fun i S1 c1 => i + 1 ≤ σ ∧ c1 = none ∧ ∃ x y z : Sl, x ≠ .cst ∧ y ≠ .cst ∧ z ≠ .cst ∧ S1 = [.val (.lst ((row F L).map D.int)), .val (.int b), .val (.int q), x, y, z, .no]) ⟨s1, rfl, .no, .no, .no, by simp, by simp, by simp, rfl⟩ ?_ ?_
    · rintro i S1 c1 hi ⟨hs, rfl, x, y, z, hx, hy, hz, rfl⟩
      obtain ⟨τ, hτ⟩ : ∃ τ : Nat, τ = 1 + i := ⟨_, rfl⟩
      rw [show (1 : Int) + (i : Int) = (τ : Int) by omega]
      simp [notCst_of hx]
      rw [row_l (by omega) (by omega)]
      simp
      rw [row_l (by omega) (by omega)]
      simp [notCst_of hy]
      rw [oMul_i (by omega)]
      simp (disch := omega) [iP_dis, sizeLine_v, rngD_len]
      have e0 : ((b : Int) + τ).toNat = b + τ := by omega
      try rw [e0]
      rw [lc_rng (φ := fun k => .bl (decide (F (b + k + τ) - F (b + k) = F (b + τ) - F b)))]
      rotate_left
      · intro k hk
        simp
        rw [row_l (by omega) (by omega)]
        simp
        rw [row_l (by omega) (by omega)]
        simp
        rw [show ((b : Int) + k + τ).toNat = b + k + τ by omega]
      simp [oAll_map]
      rw [iB_b]
      have e1 : ((b : Int) + 2 * q).toNat - b = 2 * q := by omega
      rw [e1]
      have hall : ((List.range (2 * q)).all fun k => decide (F (b + k + τ) - F (b + k) = F (b + τ) - F b)) = true ↔ QP F b τ (F (b + τ) - F b) := by
        rw [allR]
        simp only [decide_eq_true_eq]
        refine ⟨fun h => good _ _ h, fun h k hk => by have := h (b + k) (by omega); omega⟩
      rw [hall]
      refine ⟨fun h => ?_, fun h => ?_⟩
      · have hτσ : τ = σ := by
          by_cases hlt : τ < σ
          · exact absurd ⟨by omega, h⟩ (s4 τ hlt)
          · omega
        clear e1 hall
        subst hτσ
        rw [← est]
        simp (disch := omega) [iP_dis]
        refine for_rng (fun j S1 c1 => j ≤ f0 ∧ c1 = none ∧ ∃ z : Sl, z ≠ .cst ∧ S1 = [.val (.lst ((row F L).map D.int)), .val (.int b), .val (.int q), .val (.int τ), .val (.int st), z, .no]) ⟨by omega, rfl, z, hz, rfl⟩ ?_ ?_
        · rintro j S1 c1 hj ⟨hjf, rfl, z, hz, rfl⟩
          simp [notCst_of hz]
          rw [oMul_i (by omega)]
          simp (disch := omega) [iP_dis, sizeLine_v, rngD_len]
          rw [lc_rng (φ := fun k => .bl (decide (F (j + k + τ) - F (j + k) = st)))]
          rotate_left
          · intro k hk
            simp
            rw [row_l (by omega) (by omega)]
            simp
            rw [row_l (by omega) (by omega)]
            simp
            rw [show ((j : Int) + k + τ).toNat = j + k + τ by omega]
          simp [oAll_map]
          rw [iB_b]
          have e2 : ((b : Int) + 2 * q).toNat - j = b + 2 * q - j := by omega
          rw [e2]
          have hall : ((List.range (b + 2 * q - j)).all fun k => decide (F (j + k + τ) - F (j + k) = st)) = true ↔ QP F j τ st := by
            rw [allR]
            simp only [decide_eq_true_eq]
            refine ⟨fun h t ht => ?_, fun h k hk => by have := h (j + k) (by omega); omega⟩
            by_cases hb : b ≤ t
            · exact s2 t hb
            · have := h (t - j) (by omega)
              rw [show j + (t - j) = t by omega] at this
              omega
          rw [hall]
          refine ⟨fun h => ?_, fun h => ?_⟩
          · have hjf0 : j = f0 := by
              by_cases hlt : j < f0
              · exact absurd h (k3 j hlt)
              · omega
            subst hjf0
            simp
            rw [show (j : Int) + (τ : Int) = ((j + τ : Nat) : Int) by omega, cut_to, row_take (by omega)]
            simp (disch := omega) [-List.map_map, iP_dis, sizeLine_v, flD]
            rfl
          · simp
            refine Nat.lt_of_le_of_ne hjf fun e => ?_
            rw [hall.mpr (by rw [e]; exact k1)] at h
            cases h
        · rintro S1 c1 ⟨hjf, _⟩
          omega
      · simp [hz]
        by_cases hlt : τ = σ
        · rw [hall.mpr (by rw [hlt, ← est]; exact s2)] at h
          cases h
        · exact ⟨by clear e0 e1 hall; omega, .val (.int τ), by simp, .val (.int (F (b + τ) - F b)), by simp, z, hz, rfl, rfl, rfl⟩
    · rintro S1 c1 ⟨hs, _⟩
      omega
  · have := qp_back hqb hP h2
    refine Nat.le_of_not_lt fun z => s4 τ z ⟨h1, ?_⟩
    have e : T = F (b + τ) - F b := by have := this b (Nat.le_refl _); omega
    rw [← e]; exact this
  · simp
    exact Nat.le_of_not_lt fun z => k3 M z hM
end K54

set_option autoImplicit true
set_option relaxedAutoImplicit true
set_option Elab.async false
set_option linter.all false
set_option maxRecDepth 100000
set_option maxHeartbeats 4000000
/-! KM: what the law draws -/
namespace K54
open PySem L2 DL
def cl (ns : List Int) (pos : Nat) (acc cnt : Int) : D := .lst [.lst (ns.map .int), .int pos, .int acc, .int cnt, .int 20]
def Cell (d : D) : Prop := ∃ ns pos acc cnt, d = cl ns pos acc cnt
theorem ix0 {a b c d e : D} : ixD (.lst [a, b, c, d, e]) (.int 0) = some a := (rfl)
theorem ix1 {a b c d e : D} : ixD (.lst [a, b, c, d, e]) (.int 1) = some b := (rfl)
theorem ix2 {a b c d e : D} : ixD (.lst [a, b, c, d, e]) (.int 2) = some c := (rfl)
theorem ix3 {a b c d e : D} : ixD (.lst [a, b, c, d, e]) (.int 3) = some d := (rfl)
theorem in1 : ixN 5 1 = some 1 := (rfl)
theorem in2 : ixN 5 2 = some 2 := (rfl)
theorem in3 : ixN 5 3 = some 3 := (rfl)
theorem last_l {vs : List Int} (h : vs ≠ []) : ixD (.lst (vs.map D.int)) (.int (-1)) = some (.int (gI vs (vs.length - 1))) := last_t h
theorem of_runC_ex {np n : Nat} {b : DS} {ds : List D} {c : D} (Φ : D → D → Prop) (hl : ds.length + 1 = np) (h : wS b (.cst :: (ds.map Sl.val ++ List.replicate (n - np) Sl.no)) (some c) (fun fl _ c1 => ∃ d c', flD fl = some d ∧ c1 = some c' ∧ Φ d c') .mk) : ∃ d c', runC np n b c ds = some (d, c') ∧ Φ d c' := by
  rw [wS_ex] at h
  obtain ⟨fl, S', c1, e, d, c', q, q', w⟩ := h
  exact ⟨d, c', of_runC hl (wS_ex.mpr ⟨fl, S', c1, e, q, q'⟩), w⟩
theorem w_fill (ns : List Int) (pos : Nat) (acc cnt : Int) : ∃ v pos' cnt', m__law_fill (cl ns pos acc cnt) [] = some (.int v, cl ns pos' acc cnt') := by
  have key : ∃ d c', runC 1 2 b__law_fill (cl ns pos acc cnt) [] = some (d, c') ∧ ∃ (v : Int) (pos' : Nat) (cnt' : Int), d = .int v ∧ c' = cl ns pos' acc cnt' := by
    refine of_runC_ex _ (by rfl) ?_
    unfold b__law_fill cl
    have m1 : ∀ i j : Int, -(2 ^ 64) < j ∧ j < 2 ^ 64 → oMul (.int i) (.int j) = some (.int (i * j)) := fun i j h => oMul_i h
    have e1 : (∃ x, oPow (.int 10) (.int 18) = some (.int x)) := ⟨_, rfl⟩
    obtain ⟨big, e1⟩ := e1
    rw [w_seq]
    refine wS_mono (Q := fun fl S1 c1 => fl = .nx ∧ S1 = [.cst, .no] ∧ c1 = some (.lst [.lst (ns.map .int), .int pos, .int acc, .int (cnt + 1), .int 20])) ?_ ?_
    · simp [List.replicate, ix3, in3]
    intro fl S1 c1 h
    rw [h.1, h.2.1, h.2.2, onFl_nx, w_seq]
    refine wS_mono (Q := fun fl S1 c1 => fl = .nx ∧ ∃ x : Int, S1 = [.cst, .val (.int x)] ∧ c1 = some (.lst [.lst (ns.map .int), .int pos, .int acc, .int (cnt + 1), .int 20])) ?_ ?_
    · simp [ix3]
      rw [m1 _ _ (by omega)]
      simp
    clear h
    intro fl S1 c1 h
    obtain ⟨h1, x, h2, h3⟩ := h
    rw [h1, h2, h3, onFl_nx, w_seq]
    refine wS_mono (Q := fun fl S1 c1 => (fl = .nx ∧ ∃ (x : Int) (p : Nat), S1 = [.cst, .val (.int x)] ∧ c1 = some (.lst [.lst (ns.map .int), .int p, .int acc, .int (cnt + 1), .int 20])) ∨
      ∃ (x : Int) (p : Nat), fl = .rt (.int x) ∧ c1 = some (.lst [.lst (ns.map .int), .int p, .int acc, .int (cnt + 1), .int 20])) ?_ ?_
    · simp [ix0, ix1]
      refine ⟨fun hl => ?_, fun hl => ⟨pos, rfl⟩⟩
      rw [gI_l (by omega) (by omega)]
      simp [ix0, ix1]
      rw [gI_l (by omega) (by omega)]
      simp [ix1, in1, e1]
      exact ⟨fun _ => ⟨pos + 1, by simp⟩, fun _ => ⟨pos + 1, by simp⟩⟩
    clear h1 h2 h3
    intro fl S1 c1 h
    rcases h with h | h
    · obtain ⟨h1, x, p, h2, h3⟩ := h
      rw [h1, h2, h3, onFl_nx, w_seq]
      refine wS_mono (Q := fun fl S1 c1 => fl = .nx ∧ ∃ x : Int, S1 = [.cst, .val (.int x)] ∧ c1 = some (.lst [.lst (ns.map .int), .int p, .int acc, .int (cnt + 1), .int 20])) ?_ ?_
      · cases ns with
        | nil => simp [ix0]
        | cons a r =>
          simp [ix0, ix1]
          refine fun _ => ?_
          have := last_l (vs := a :: r) (by simp)
          simp at this
          rw [this]
          simp
      clear h1 h2 h3
      intro fl S1 c1 h
      obtain ⟨h1, x, h2, h3⟩ := h
      rw [h1, h2, h3, onFl_nx, w_seq]
      refine wS_mono (Q := fun fl S1 c1 => fl = .nx ∧ ∃ x : Int, (-(2 ^ 64) < x ∧ x < 2 ^ 64) ∧ S1 = [.cst, .val (.int x)] ∧ c1 = some (.lst [.lst (ns.map .int), .int p, .int acc, .int (cnt + 1), .int 20])) ?_ ?_
      · simp
        rw [m1 _ _ (by omega)]
        simp [ix3]
        rw [m1 _ _ (by omega)]
        simp
        have a1 := Int.fmod_nonneg_of_pos (x * 48271 + (cnt + 1) * 69621) (show (0 : Int) < 2147483647 by omega)
        have a2 := Int.fmod_lt_of_pos (x * 48271 + (cnt + 1) * 69621) (show (0 : Int) < 2147483647 by omega)
        omega
      clear h1 h2 h3
      intro fl S1 c1 h
      obtain ⟨h1, x, hx, h2, h3⟩ := h
      rw [h1, h2, h3, onFl_nx]
      have mx := m1 x x hx
      have my := m1 (cnt + 1) 7919 (by omega)
      clear m1 e1
      simp [mx]
      simp [ix3, my, flD]
      exact ⟨p, rfl⟩
    · obtain ⟨x, p, h1, h2⟩ := h
      rw [h1, h2]
      simp [flD]
      exact ⟨p, rfl⟩
  obtain ⟨d, c', h1, v, p, c, h2, h3⟩ := key
  exact ⟨v, p, c, by rw [← h2, ← h3]; exact h1⟩
theorem w_take {c : D} (h : Cell c) (many : Nat) (h1 : 1 ≤ many) (h2 : many ≤ 1000) : ∃ (v : Nat) (c' : D), v < many ∧ Cell c' ∧ m__law_take c [.int many] = some (.int v, c') := by
  obtain ⟨ns, pos, acc, cnt, rfl⟩ := h
  obtain ⟨v, p, c, hf⟩ := w_fill ns pos acc cnt
  have fm : ∀ a : Int, ∃ r : Nat, a.fmod many = (r : Int) ∧ r < many := fun a => by
    have a1 := Int.fmod_nonneg_of_pos a (show (0 : Int) < many by omega)
    have a2 := Int.fmod_lt_of_pos a (show (0 : Int) < many by omega)
    exact ⟨(a.fmod many).toNat, by omega, by omega⟩
  have m0 : ¬ many = 0 := by omega
  have m1 : many < 1073741824 := by omega
  by_cases hl : acc < many
  · obtain ⟨r, r1, r2⟩ := fm v
    refine ⟨r, cl ns p (v.fdiv many) c, r2, ⟨_, _, _, _, rfl⟩, of_runC (by rfl) ?_⟩
    unfold b__law_take
    unfold cl at hf ⊢
    simp [List.replicate, ix2, hl]
    rw [hf]
    simp [in2, ix2, m0, r1]
    simp [in2, ix2, m0, m1, flD]
  · obtain ⟨r, r1, r2⟩ := fm acc
    refine ⟨r, cl ns pos (acc.fdiv many) cnt, r2, ⟨_, _, _, _, rfl⟩, of_runC (by rfl) ?_⟩
    unfold b__law_take
    unfold cl
    simp [List.replicate, ix2, hl, m0, r1]
    simp [in2, ix2, m0, m1, flD]
/-- the values drawn -/
def VN (L : List Int) : Prop := ∀ j, j < L.length → -3 ≤ gI L j ∧ gI L j ≤ 3
def VR (L : List Int) : Prop := (-2 ≤ gI L 0 ∧ gI L 0 ≤ 2) ∧ ∀ j, j + 1 < L.length → 0 ≤ gI L (j + 1) - gI L j ∧ gI L (j + 1) - gI L j ≤ 3
theorem gI_app {L : List Int} {x : Int} {j : Nat} : gI (L ++ [x]) j = if j < L.length then gI L j else if j = L.length then x else 0 := by
  unfold gI
  split
  · simp [List.getD, List.getElem?_append_left, *]
  · split
    · simp [List.getD, *]
    · simp [List.getD]
      rw [List.getElem?_eq_none (by simp; omega)]
      rfl
theorem VN.app {L x} (h : VN L) (hx : -3 ≤ x ∧ x ≤ 3) : VN (L ++ [x]) := by
  intro j hj
  rw [gI_app]
  split
  · exact h j (by assumption)
  · split
    · exact hx
    · omega
theorem VR.app {L x} (h : VR L) (h1 : 1 ≤ L.length) (hx : 0 ≤ x ∧ x ≤ 3) : VR (L ++ [gI L (L.length - 1) + x]) := by
  obtain ⟨a, b⟩ := h
  refine ⟨?_, fun j hj => ?_⟩
  · rw [gI_app, if_pos (by omega)]; exact a
  · rw [List.length_append, List.length_singleton] at hj
    rw [gI_app, gI_app]
    by_cases e : j + 1 < L.length
    · rw [if_pos e, if_pos (by omega)]; exact b j e
    · rw [if_neg e, if_pos (by omega), if_pos (by omega), show j = L.length - 1 by omega]; omega
theorem sc_flat {L : List Int} {p : Nat} {s : Int} (hL : VN L) (n4 : L.length ≤ 4) (hp : 1 ≤ p) (hn : p ≤ L.length) (hs : -3 ≤ s ∧ s ≤ 3) : Sc ⟨L, p, s⟩ := by
  refine sc_of n4 hp hn (by show -12 ≤ s ∧ s ≤ 12; omega) fun j hj => ?_
  have a := hL j hj
  show -41 ≤ (p : Int) * gI L j - j * s ∧ (p : Int) * gI L j - j * s ≤ 44
  generalize gI L j = v at *
  have k1 : p = 1 ∨ p = 2 ∨ p = 3 ∨ p = 4 := by omega
  have k2 : j = 0 ∨ j = 1 ∨ j = 2 ∨ j = 3 := by have : j < L.length := hj; omega
  rcases k1 with e | e | e | e <;> rcases k2 with e' | e' | e' | e' <;> subst e e' <;> omega
theorem vr_b {L : List Int} (h : VR L) : ∀ j, j < L.length → -2 ≤ gI L j ∧ gI L j ≤ 2 + 3 * j := by
  intro j
  induction j with
  | zero => intro _; have := h.1; omega
  | succ j ih => intro hj; have a := ih (by omega); have b := h.2 j hj; omega
theorem vr_d {L : List Int} (h : VR L) (a k : Nat) (hk : a + k < L.length) : 0 ≤ gI L (a + k) - gI L a ∧ gI L (a + k) - gI L a ≤ 3 * k := by
  induction k with
  | zero => simp
  | succ k ih => have c := ih (by omega); have b := h.2 (a + k) hk; rw [show a + (k + 1) = a + k + 1 by omega]; omega
theorem ri_rise {L : List Int} {p : Nat} {e : Int} (hL : VR L) (n4 : L.length ≤ 4) (hp : 1 ≤ p) (hn : p ≤ L.length) (he : 0 ≤ e ∧ e ≤ 2) : Ri ⟨L, p, gI L (L.length - 1) - gI L (L.length - p) + e⟩ := by
  have d := vr_d hL (L.length - p) (p - 1) (by omega)
  rw [show L.length - p + (p - 1) = L.length - 1 by omega] at d
  obtain ⟨s, es⟩ : ∃ s, s = gI L (L.length - 1) - gI L (L.length - p) + e := ⟨_, rfl⟩
  rw [← es]
  have sc : Sc ⟨L, p, s⟩ := by
    refine sc_of n4 hp hn (by show -12 ≤ s ∧ s ≤ 12; omega) fun j hj => ?_
    have a := vr_b hL j hj
    show -41 ≤ (p : Int) * gI L j - j * s ∧ (p : Int) * gI L j - j * s ≤ 44
    generalize gI L j = v at *
    have s0 : 0 ≤ s ∧ s ≤ 11 := by omega
    clear es d
    have k1 : p = 1 ∨ p = 2 ∨ p = 3 ∨ p = 4 := by omega
    have k2 : j = 0 ∨ j = 1 ∨ j = 2 ∨ j = 3 := by have : j < L.length := hj; omega
    rcases k1 with e | e | e | e <;> rcases k2 with e' | e' | e' | e' <;> subst e e' <;> omega
  refine ⟨sc, by show 0 ≤ s; omega, fun t => ?_⟩
  have hq : QP (va ⟨L, p, s⟩) (L.length - p) p s := va_qp (c := ⟨L, p, s⟩) hp hn
  have lt : ∀ j, j < L.length → va ⟨L, p, s⟩ j = gI L j := fun j hj => va_lt (c := ⟨L, p, s⟩) hj
  induction t using Nat.strongRecOn with
  | _ t ih =>
    by_cases h1 : t + 1 < L.length
    · rw [lt _ h1, lt _ (by omega)]; have := hL.2 t h1; omega
    · by_cases h2 : t < L.length
      · have a := hq (L.length - p) (Nat.le_refl _)
        rw [show L.length - p + p = t + 1 by omega, lt (L.length - p) (by omega)] at a
        have b := lt t h2
        rw [show gI L t = gI L (L.length - 1) by rw [show t = L.length - 1 by omega]] at b
        omega
      · have a := hq (t - p) (by omega)
        have b := hq (t - p + 1) (by omega)
        rw [show t - p + p = t by omega] at a
        rw [show t - p + 1 + p = t + 1 by omega] at b
        have := ih (t - p) (by omega)
        omega
theorem w_curve {c : D} (h : Cell c) (ri : Bool) : ∃ (f : Cv) (c' : D), m__law_curve c [.bl ri] = some (cD f, c') ∧ Cell c' ∧ Sc f ∧ (ri = true → Ri f) := by
  have key : ∃ d c', runC 2 7 b__law_curve c [.bl ri] = some (d, c') ∧ ∃ f, d = cD f ∧ Cell c' ∧ Sc f ∧ (ri = true → Ri f) := by
    obtain ⟨v1, c1, b1, h1, e1⟩ := w_take h 4 (by omega) (by omega)
    obtain ⟨v2, c2, b2, h2, e2⟩ := w_take h1 (1 + v1) (by omega) (by omega)
    obtain ⟨v3, c3, b3, h3, e3⟩ := w_take h2 5 (by omega) (by omega)
    simp at e1 e2 e3
    refine of_runC_ex _ (by rfl) ?_
    unfold b__law_curve
    rw [w_seq]
    refine wS_mono (Q := fun fl S1 cc => fl = .nx ∧ S1 = [.cst, .val (.bl ri), .val (.int (1 + v1 : Nat)), .no, .no, .no, .no] ∧ cc = some c1) (by simp [List.replicate, e1]) ?_
    intro fl S1 cc hh
    rw [hh.1, hh.2.1, hh.2.2, onFl_nx, w_seq]
    clear hh
    refine wS_mono (Q := fun fl S1 cc => fl = .nx ∧ S1 = [.cst, .val (.bl ri), .val (.int (1 + v1 : Nat)), .val (.int (1 + v2 : Nat)), .no, .no, .no] ∧ cc = some c2) (by simp [List.replicate, e2]) ?_
    intro fl S1 cc hh
    rw [hh.1, hh.2.1, hh.2.2, onFl_nx, w_seq]
    clear hh
    refine wS_mono (Q := fun fl S1 cc => fl = .nx ∧ S1 = [.cst, .val (.bl ri), .val (.int (1 + v1 : Nat)), .val (.int (1 + v2 : Nat)), .own ([(v3 : Int) - 2].map D.int), .no, .no] ∧ cc = some c3) (by simp (disch := omega) [List.replicate, e3, iP_dis, sizeLine_v]) ?_
    intro fl S1 cc hh
    rw [hh.1, hh.2.1, hh.2.2, onFl_nx, w_seq]
    clear hh
    refine wS_mono (Q := fun fl S1 cc => fl = .nx ∧ ∃ (L : List Int) (x : Sl) (c4 : D), x ≠ .cst ∧ L.length = 1 + v1 ∧ Cell c4 ∧ (ri = false → VN L) ∧ (ri = true → VR L) ∧ S1 = [.cst, .val (.bl ri), .val (.int (1 + v1 : Nat)), .val (.int (1 + v2 : Nat)), .own (L.map D.int), x, .no] ∧ cc = some c4) ?_ ?_
    · simp (disch := omega) [iP_dis]
      refine for_rng (fun i S1 cc => ∃ (L : List Int) (x : Sl) (c4 : D), x ≠ .cst ∧ L.length = 1 + i ∧ Cell c4 ∧ (ri = false → VN L) ∧ (ri = true → VR L) ∧ S1 = [.cst, .val (.bl ri), .val (.int (1 + v1)), .val (.int (1 + v2)), .own (L.map D.int), x, .no] ∧ cc = some c4) ⟨[(v3 : Int) - 2], .no, c3, by simp, rfl, h3, ?_, ?_, by simp, rfl⟩ ?_ ?_
      · intro _ j hj
        simp at hj
        subst hj
        show -3 ≤ (v3 : Int) - 2 ∧ (v3 : Int) - 2 ≤ 3
        omega
      · intro _
        refine ⟨by show -2 ≤ (v3 : Int) - 2 ∧ (v3 : Int) - 2 ≤ 2; omega, fun j hj => by simp at hj⟩
      · intro i S1 cc hi hh
        obtain ⟨L, x, c4, hx, hl, h4, hN, hR, q1, q2⟩ := hh
        rw [q1, q2]
        clear q1 q2
        have hlm : (L.map D.int).length = L.length := by simp
        cases ri with
        | true =>
          obtain ⟨v5, c5, b5, h5, e5⟩ := w_take h4 4 (by omega) (by omega)
          simp at e5
          simp [notCst_of hx]
          rw [gI_l (by omega) (by omega)]
          simp [e5]
          rw [iP_dis (by rw [sizeLine_v]; omega)]
          simp
          refine ⟨L ++ [gI L (L.length - 1) + v5], .val (.int i), by simp, by simp; omega, c5, h5, (hR rfl).app (by omega) (by omega), ?_⟩
          all_goals simp
        | false =>
          obtain ⟨v5, c5, b5, h5, e5⟩ := w_take h4 7 (by omega) (by omega)
          simp at e5
          simp [notCst_of hx]
          simp [e5]
          rw [iP_dis (by rw [sizeLine_v]; omega)]
          simp
          refine ⟨L ++ [(v5 : Int) - 3], .val (.int i), by simp, by simp; omega, c5, h5, (hN rfl).app (by omega), ?_⟩
          all_goals simp
      · intro S1 cc hh
        obtain ⟨L, x, c4, hx, hl, h4, hN, hR, q1, q2⟩ := hh
        exact ⟨rfl, L, x, c4, hx, by omega, h4, hN, hR, q1, q2⟩
    intro fl S1 cc hh
    obtain ⟨q0, L, x, c4, hx, hl, h4, hN, hR, q1, q2⟩ := hh
    rw [q0, q1, q2, onFl_nx, w_seq]
    clear q0 q1 q2
    have hlm : (L.map D.int).length = L.length := by simp
    obtain ⟨v5, c5, b5, h5, e5⟩ := w_take h4 7 (by omega) (by omega)
    simp at e5
    refine wS_mono (Q := fun fl S1 cc => fl = .nx ∧ S1 = [.cst, .val (.bl ri), .val (.int (1 + v1 : Nat)), .val (.int (1 + v2 : Nat)), .own (L.map D.int), x, .val (.int (v5 - 3))] ∧ cc = some c5) (by simp [e5]) ?_
    intro fl S1 cc hh
    rw [hh.1, hh.2.1, hh.2.2, onFl_nx, w_seq]
    clear hh
    cases ri with
    | true =>
      obtain ⟨v6, c6, b6, h6, e6⟩ := w_take h5 3 (by omega) (by omega)
      simp at e6
      simp
      rw [gI_l (by omega) (by omega)]
      simp
      rw [gI_l (by omega) (by omega)]
      simp [e6]
      simp (disch := omega) [iP_dis, sizeLine_v, flD]
      have hr := ri_rise (hR rfl) (by omega) (p := 1 + v2) (by omega) (by omega) (e := v6) (by omega)
      refine ⟨_, ?_, h6, hr.sc, hr⟩
      rw [show (1 + (v1 : Int)).toNat - 1 = L.length - 1 by omega, show (1 + (v1 : Int) - (1 + (v2 : Int))).toNat = L.length - (1 + v2) by omega]
      simp [cD]
    | false =>
      simp
      simp (disch := omega) [iP_dis, sizeLine_v, flD]
      exact ⟨⟨L, 1 + v2, v5 - 3⟩, by simp [cD], h5, sc_flat (hN rfl) (by omega) (by omega) (by omega) (by omega)⟩
  obtain ⟨d, c', h1, f, h2, h3, h4, h5⟩ := key
  exact ⟨f, c', by rw [← h2]; exact h1, h3, h4, h5⟩
end K54

set_option autoImplicit true
set_option relaxedAutoImplicit true
set_option Elab.async false
set_option linter.all false
set_option maxRecDepth 100000
set_option maxHeartbeats 4000000
/-! KN: the law's delay -/
namespace K54
open PySem L2 DL
theorem slope_iff {f g : Cv} {d : Nat} (hd : 1 ≤ d) (hf : 1 ≤ f.p) (hg : 1 ≤ g.p) (df : d % f.p = 0) (dg : d % g.p = 0) : gr f d < gr g d ↔ (g.p : Int) * f.s < f.p * g.s := by
  refine ⟨fun h => by have := slope_lt hf hg df dg h; omega, fun h => ?_⟩
  unfold gr
  obtain ⟨a, ha⟩ := Nat.dvd_of_mod_eq_zero df
  obtain ⟨b, hb⟩ := Nat.dvd_of_mod_eq_zero dg
  rw [show d / f.p = a by rw [ha, Nat.mul_div_cancel_left _ (by omega)], show d / g.p = b by rw [hb, Nat.mul_div_cancel_left _ (by omega)]]
  have e : (f.p : Int) * a = g.p * b := by rw [← Int.natCast_mul, ← Int.natCast_mul, ← ha, ← hb]
  have e1 : (f.p : Int) * g.p * (a * f.s) = (f.p * a) * (g.p * f.s) := by
    rw [Int.mul_assoc, Int.mul_left_comm (g.p : Int), ← Int.mul_assoc, ← Int.mul_assoc, Int.mul_assoc ((f.p : Int) * a)]
  have e2 : (f.p : Int) * g.p * (b * g.s) = (f.p * a) * (f.p * g.s) := by
    rw [e, Int.mul_comm (f.p : Int) g.p, Int.mul_assoc, Int.mul_left_comm (f.p : Int), ← Int.mul_assoc]
  have h1 : ((f.p : Int) * a) * (g.p * f.s) < (f.p * a) * (f.p * g.s) := Int.mul_lt_mul_of_pos_left h (by rw [← Int.natCast_mul, ← ha]; omega)
  rw [← e1, ← e2] at h1
  exact Int.lt_of_mul_lt_mul_left h1 (Int.le_of_lt (Int.mul_pos (by omega) (by omega)))
theorem del_b {f g : Cv} (hf : Ri f) (hg : Ri g) (h0 : g.s = 0 → ∀ t, va f t ≤ va g (g.vs.length - 1)) (hle : (g.p : Int) * f.s ≤ f.p * g.s) {t u : Nat} (hA : AL g (va f t) (some u)) : u ≤ t + 340 := by
  by_cases hs : g.s = 0
  · have := AL_le hA (h0 hs t); have := hg.sc.n4; omega
  · refine AL_le hA ?_
    have s0 := hg.s0
    have a := hf.sc.cr t
    have b := hg.sc.cr (t + 340)
    have p1 := hf.sc.hp; have q1 := hg.sc.hp
    have p4 : f.p ≤ 4 := Nat.le_trans hf.sc.hn hf.sc.n4
    have q4 : g.p ≤ 4 := Nat.le_trans hg.sc.hn hg.sc.n4
    have c : (t : Int) * (g.p * f.s) ≤ t * (f.p * g.s) := Int.mul_le_mul_of_nonneg_left hle (by omega)
    rw [Int.mul_left_comm, Int.mul_left_comm (t : Int)] at c
    have e : ((t + 340 : Nat) : Int) * g.s = t * g.s + 340 * g.s := by rw [← Int.add_mul]; congr 1
    rw [e] at b
    generalize va f t = v at *
    generalize va g (t + 340) = w at *
    generalize (t : Int) * f.s = x at *
    generalize (t : Int) * g.s = y at *
    have k1 : f.p = 1 ∨ f.p = 2 ∨ f.p = 3 ∨ f.p = 4 := by omega
    have k2 : g.p = 1 ∨ g.p = 2 ∨ g.p = 3 ∨ g.p = 4 := by omega
    rcases k1 with e | e | e | e <;> rcases k2 with e' | e' | e' | e' <;> rw [e] at a c <;> rw [e'] at b c <;> omega
theorem maxI_eq {l : List Int} {m : Int} (h1 : m ∈ l) (h2 : ∀ y, y ∈ l → y ≤ m) : maxI l = m := by
  have a := maxI_ge h1
  have b := h2 _ (maxI_mem (fun e => by rw [e] at h1; cases h1))
  omega
theorem toVs_bl {n : Nat} {φ : Nat → Bool} : toVs ((List.range n).map fun i => D.bl (φ i)) = some ((List.range n).map fun i => V.bl (φ i)) := by
  generalize List.range n = l
  induction l with
  | nil => rfl
  | cons a r ih => simp [toVs, toV, ih]
theorem idx_first : ∀ {n : Nat} {φ : Nat → Bool} {k j : Nat}, j < n → φ (k + j) = true → (∀ i, i < j → φ (k + i) = false) → idxV (.bl true) ((List.range n).map fun i => V.bl (φ (k + i))) = some j
  | 0, _, _, _, h, _, _ => by omega
  | n + 1, φ, k, 0, _, h2, _ => by
    rw [List.range_succ_eq_map]
    simp [idxV] at *
    simp [h2, eqV]
  | n + 1, φ, k, j + 1, h1, h2, h3 => by
    have a := h3 0 (by omega)
    have ih := idx_first (n := n) (φ := φ) (k := k + 1) (j := j) (by omega) (by rw [← h2]; congr 1; omega) (fun i hi => by rw [← h3 (i + 1) (by omega)]; congr 1; omega)
    rw [List.range_succ_eq_map]
    simp [idxV] at *
    simp [a, eqV]
    rw [show (fun i => V.bl (φ (k + 1 + i))) = ((fun i => V.bl (φ (k + i))) ∘ Nat.succ) from funext fun i => by simp; congr 1; omega] at ih
    rw [ih]
theorem gcds : ∀ p, p < 5 → ∀ q, q < 5 → 1 ≤ p → 1 ≤ q → m__law_gcd [.int (p : Nat), .int (q : Nat)] = some (.int (Nat.gcd p q : Nat)) := by
  intro p hp q hq h1 h2
  match p, q, hp, hq, h1, h2 with
  | 1, 1, _, _, _, _ => rfl
  | 1, 2, _, _, _, _ => rfl
  | 1, 3, _, _, _, _ => rfl
  | 1, 4, _, _, _, _ => rfl
  | 2, 1, _, _, _, _ => rfl
  | 2, 2, _, _, _, _ => rfl
  | 2, 3, _, _, _, _ => rfl
  | 2, 4, _, _, _, _ => rfl
  | 3, 1, _, _, _, _ => rfl
  | 3, 2, _, _, _, _ => rfl
  | 3, 3, _, _, _, _ => rfl
  | 3, 4, _, _, _, _ => rfl
  | 4, 1, _, _, _, _ => rfl
  | 4, 2, _, _, _, _ => rfl
  | 4, 3, _, _, _, _ => rfl
  | 4, 4, _, _, _, _ => rfl
theorem w_ld_never {f g : Cv} (hf : Ri f) (hg : Ri g) (hs : g.s = 0) {t0 : Nat} (ht : AL f (va g (g.vs.length - 1) + 1) (some t0)) (h9 : t0 < 900) :
    m__law_delay [cD f, cD g, .lst ((row (va f) 900).map .int), .lst ((row (va g) 900).map .int)] = some (.tup [.str "never", .int t0]) := by
  have gn := hg.sc.hn; have gp := hg.sc.hp; have n4 := hg.sc.n4
  have hm : maxI (row (va g) 900) = va g (g.vs.length - 1) := maxI_eq (List.mem_map.mpr ⟨g.vs.length - 1, List.mem_range.mpr (by omega), rfl⟩) fun y hy => by
    obtain ⟨t, _, rfl⟩ := List.mem_map.mp hy
    exact top_last hg hs t
  have hne : row (va g) 900 ≠ [] := by intro h; have := congrArg List.length h; simp [row] at this
  generalize hT : va g (g.vs.length - 1) = T at *
  have hl : ((row (va f) 900).map D.int).length = 900 := by rw [List.length_map, row_len]
  have comp : ∀ S : List Sl, S[4]? = some (Sl.val (.int T)) → 8 < S.length → S[8]? = some Sl.no → lcL (gdN 8) dYes (dOp oGt (dVar 8) (dVar 4)) ((row (va f) 900).map D.int) S none = some ((List.range 900).map fun i => .bl (decide (T < va f i)), none) := by
    intro S h1 h2 h3
    rw [lc_all (φ := fun i => .bl (decide (T < va f i))), hl]
    intro i d hd
    obtain ⟨hi, rfl⟩ := ints_inv hd
    rw [row_len] at hi
    rw [row_get hi, w_gN, atS_get]
    refine ⟨_, h3, ?_⟩
    simp only [notCst_n]
    rw [w_op, w_var, atS_get]
    refine ⟨.val (.int (va f i)), by rw [List.getElem?_set_self (by omega)], ?_⟩
    simp only [onSl_v, onC_c]
    rw [w_var, atS_get]
    refine ⟨.val (.int T), by rw [List.getElem?_set_ne (by omega)]; exact h1, ?_⟩
    simp
  refine of_runF (by rfl) ?_
  unfold b__law_delay
  simp [List.replicate]
  rw [cD_2]
  simp [hs]
  rw [oMax_l hne, hm]
  simp (disch := omega) [iP_dis, sizeLine_v, hl]
  rw [comp _ (by simp) (by simp) (by simp)]
  simp [oAny_map]
  have hany : ((List.range 900).any fun i => decide (T < va f i)) = true := by
    rw [anyR]
    exact ⟨t0, h9, by have := ht.1; simp; omega⟩
  rw [hany]
  simp (disch := omega) [iP_dis, sizeLine_v, hl]
  rw [comp _ (by simp) (by simp) (by simp)]
  simp [toVs_bl, toV]
  have hi := idx_first (n := 900) (φ := fun i => decide (T < va f i)) (k := 0) (j := t0) h9 (by have := ht.1; simp; omega) (fun i hi => by have := ht.2 i hi; simp; omega)
  simp only [Nat.zero_add] at hi
  rw [hi]
  simp (disch := omega) [iP_dis, sizeLine_v, flD]
end K54

set_option autoImplicit true
set_option relaxedAutoImplicit true
set_option Elab.async false
set_option linter.all false
set_option maxRecDepth 100000
set_option maxHeartbeats 4000000
/-! KO: the law's delay, the other ends -/
namespace K54
open PySem L2 DL
/-- the best delay of the first i -/
def Bs (A : Nat → Nat) (i b : Nat) : Prop := (∀ t, t < i → A t ≤ t + b) ∧ (b = 0 ∨ ∃ t, t < i ∧ A t = t + b)
theorem w_ld {f g : Cv} (hf : Ri f) (hg : Ri g) (h0 : g.s = 0 → ∀ t, va f t ≤ va g (g.vs.length - 1)) {A : Nat → Nat} (hA : ∀ t, AL g (va f t) (some (A t))) :
    ∃ res, m__law_delay [cD f, cD g, .lst ((row (va f) 900).map .int), .lst ((row (va g) 900).map .int)] = some res ∧
      ((gr g (lc f g) < gr f (lc f g) ∧ res = .tup [.str "grows"]) ∨
      (gr f (lc f g) ≤ gr g (lc f g) ∧ ∃ b o, Best (fun t => (A t : Int) - t) b o ∧ res = .tup [.str "delay", .int b, onD o])) := by
  have sf := sc_sm hf.sc
  have sg := sc_sm hg.sc
  obtain ⟨e1, e2, e3, e4, _⟩ := lc_ok sf.p4 sg.p4
  have fn := hf.sc.hn; have fp := hf.sc.hp; have f4 := hf.sc.n4; have fs := hf.sc.sb
  have gn := hg.sc.hn; have gp := hg.sc.hp; have n4 := hg.sc.n4; have gs := hg.sc.sb
  have hl : ((row (va f) 900).map D.int).length = 900 := by rw [List.length_map, row_len]
  have sl := slope_iff (f := g) (g := f) e1 gp fp e4 e3
  generalize hone : (row (va f) 900).map D.int = one
  generalize htwo : (row (va g) 900).map D.int = two
  have g1 : ∀ i : Int, 0 ≤ i → i < 900 → ixD (.lst one) (.int i) = some (.int (va f i.toNat)) := fun i a b => by rw [← hone]; exact row_l a b
  have g2 : ∀ i : Int, 0 ≤ i → i < 900 → ixD (.lst two) (.int i) = some (.int (va g i.toNat)) := fun i a b => by rw [← htwo]; exact row_l a b
  refine of_runF_ex _ (by rfl) ?_
  unfold b__law_delay
  rw [w_seq]
  refine wS_mono (Q := fun fl S1 c1 => fl = .nx ∧ ∃ top : D, (top = .non ∨ ∃ T, top = .int T ∧ ∀ t, va f t ≤ T) ∧ S1 = [.val (cD f), .val (cD g), .val (.lst one), .val (.lst two), .val top, .no, .no, .no, .no] ∧ c1 = none) ?_ ?_
  · simp [List.replicate]
    rw [cD_2]
    by_cases hs : g.s = 0
    · have hm : maxI (row (va g) 900) = va g (g.vs.length - 1) := maxI_eq (List.mem_map.mpr ⟨g.vs.length - 1, List.mem_range.mpr (by omega), rfl⟩) fun y hy => by
        obtain ⟨t, _, rfl⟩ := List.mem_map.mp hy
        exact top_last hg hs t
      have hne : row (va g) 900 ≠ [] := by intro h; have := congrArg List.length h; simp [row] at this
      simp [hs]
      rw [← htwo, oMax_l hne, hm]
      simp
      exact h0 hs
    · simp [hs]
  intro fl S1 c1 h
  obtain ⟨q0, top, htop, q1, q2⟩ := h
  rw [q0, q1, q2, onFl_nx, w_seq]
  clear q0 q1 q2
  refine wS_mono (Q := fun fl S1 c1 => fl = .nx ∧ S1 = [.val (cD f), .val (cD g), .val (.lst one), .val (.lst two), .val top, .no, .no, .no, .no] ∧ c1 = none) ?_ ?_
  · rcases htop with h | ⟨T, h, hT⟩
    · subst h
      simp
    · subst h
      simp (disch := omega) [iP_dis, sizeLine_v, ← hone, hl]
      rw [lc_all (φ := fun i => .bl false), hl]
      · have hz : oAny [.lst ((List.range 900).map fun i => D.bl false)] = some (.bl false) := by rw [oAny_map (φ := fun _ => false)]; simp
        simp [hz]
      · intro i d hd
        obtain ⟨hi, rfl⟩ := ints_inv hd
        rw [row_len] at hi
        rw [row_get hi]
        simp
        exact hT i
  intro fl S1 c1 h
  rw [h.1, h.2.1, h.2.2, onFl_nx, w_seq]
  clear h
  rcases Int.lt_or_le (gr g (lc f g)) (gr f (lc f g)) with hlt | hle
  · have := sl.mp hlt
    simp
    rw [cD_2]
    simp [cD_1]
    rw [oMul_i (by omega)]
    simp
    rw [cD_2]
    simp [cD_1]
    rw [oMul_i (by omega)]
    have e : g.s * (f.p : Int) < f.s * g.p := by rw [Int.mul_comm g.s, Int.mul_comm f.s]; exact this
    simp (disch := omega) [e, iP_dis, sizeLine_v, flD, hlt]
  · have hle' : (g.p : Int) * f.s ≤ f.p * g.s := by
      refine Int.not_lt.mp fun z => ?_
      have := sl.mpr z
      omega
    have hdb : ∀ t, A t ≤ t + 340 := fun t => del_b hf hg h0 hle' (hA t)
    have hiff : ∀ t b : Nat, va f t ≤ va g (t + b) ↔ A t ≤ t + b := fun t b => ⟨fun h => AL_le (hA t) h, fun h => Int.le_trans (hA t).1 (hg.mono h)⟩
    refine wS_mono (Q := fun fl S1 c1 => fl = .nx ∧ S1 = [.val (cD f), .val (cD g), .val (.lst one), .val (.lst two), .val top, .no, .no, .no, .no] ∧ c1 = none) ?_ ?_
    · simp
      rw [cD_2]
      simp [cD_1]
      rw [oMul_i (by omega)]
      simp
      rw [cD_2]
      simp [cD_1]
      rw [oMul_i (by omega)]
      have e : ¬ g.s * (f.p : Int) < f.s * g.p := by rw [Int.mul_comm g.s, Int.mul_comm f.s]; omega
      simp [e]
    intro fl S1 c1 h
    rw [h.1, h.2.1, h.2.2, onFl_nx, w_seq]
    clear h
    refine wS_mono (Q := fun fl S1 c1 => fl = .nx ∧ S1 = [.val (cD f), .val (cD g), .val (.lst one), .val (.lst two), .val top, .val (.int 0), .no, .no, .no] ∧ c1 = none) (by simp) ?_
    intro fl S1 c1 h
    rw [h.1, h.2.1, h.2.2, onFl_nx, w_seq]
    clear h
    refine wS_mono (Q := fun fl S1 c1 => fl = .nx ∧ ∃ (b : Nat) (x y : Sl), x ≠ .cst ∧ Bs A 250 b ∧ S1 = [.val (cD f), .val (cD g), .val (.lst one), .val (.lst two), .val top, .val (.int b), x, y, .no] ∧ c1 = none) ?_ ?_
    · simp
      refine for_rng (fun i S1 c1 => ∃ (b : Nat) (x y : Sl), x ≠ .cst ∧ y ≠ .cst ∧ Bs A i b ∧ S1 = [.val (cD f), .val (cD g), .val (.lst one), .val (.lst two), .val top, .val (.int b), x, y, .no] ∧ c1 = none) ⟨0, .no, .no, by simp, by simp, ⟨fun t ht => by omega, .inl rfl⟩, by simp, rfl⟩ ?_ ?_
      · intro i S1 c1 hi h
        obtain ⟨b, x, y, hx, hy, hB, q1, q2⟩ := h
        rw [q1, q2]
        clear q1 q2
        have bb : b ≤ 340 := by
          rcases hB.2 with h | ⟨t, h1, h2⟩
          · omega
          · have := hdb t; omega
        simp [notCst_of hx]
        refine for_rng (fun j S1 c1 => ∃ (y : Sl), y ≠ .cst ∧ (j = 0 ∨ i + (b + j) ≤ A i) ∧ S1 = [.val (cD f), .val (cD g), .val (.lst one), .val (.lst two), .val top, .val (.int (b + j : Nat)), .val (.int i), y, .no] ∧ c1 = none) ⟨y, hy, .inl rfl, by simp, rfl⟩ ?_ ?_
        · intro j S1 c1 hj h
          obtain ⟨y, hy, hj2, q1, q2⟩ := h
          rw [q1, q2]
          clear q1 q2
          have jb : b + j ≤ 340 := by
            rcases hj2 with h | h
            · omega
            · have := hdb i; omega
          simp [notCst_of hy]
          rw [g1 _ (by omega) (by omega)]
          simp
          rw [g2 _ (by omega) (by omega)]
          simp
          rw [show ((i : Int) + ((b : Int) + (j : Int))).toNat = i + (b + j) by omega]
          refine ⟨fun h => ⟨b + j, .val (.int i), by simp, .val (.int j), by simp, ⟨fun t ht => ?_, ?_⟩, by simp, rfl, rfl⟩, fun h => ⟨.val (.int j), by simp, ?_, by omega, rfl⟩⟩
          · have ha := (hiff i (b + j)).mp h
            by_cases e : t = i
            · rw [e]; exact ha
            · have := hB.1 t (by omega); omega
          · have ha := (hiff i (b + j)).mp h
            rcases hj2 with h2 | h2
            · subst h2
              rcases hB.2 with h3 | ⟨t, h3, h4⟩
              · exact .inl (by omega)
              · exact .inr ⟨t, by omega, by omega⟩
            · exact .inr ⟨i, by omega, by omega⟩
          · have : ¬ A i ≤ i + (b + j) := fun z => by have := (hiff i (b + j)).mpr z; omega
            omega
        · intro S1 c1 h
          obtain ⟨y, hy, hj2, q1, q2⟩ := h
          have := hdb i
          exfalso
          rcases hj2 with h | h
          · simp at h
          · omega
      · intro S1 c1 h
        obtain ⟨b, x, y, hx, hy, hB, q1, q2⟩ := h
        exact ⟨rfl, b, x, y, hx, hB, q1, q2⟩
    intro fl S1 c1 h
    obtain ⟨q0, b, x, y, hx, hB, q1, q2⟩ := h
    rw [q0, q1, q2, onFl_nx, w_seq]
    clear q0 q1 q2
    have bb : b ≤ 340 := by
      rcases hB.2 with h | ⟨t, h1, h2⟩
      · omega
      · have := hdb t; omega
    have early := del_early hf hg e1 e3 e4 hle hA (n := 250) (by omega)
    have b250 : ∀ t, t < 250 → (A t : Int) - t ≤ b := fun t ht => by have := hB.1 t ht; omega
    simp
    refine for_rng (fun i S1 c1 => (∀ t, t < i → 0 < b → A t ≤ t + b - 1) ∧ ∃ (x : Sl), x ≠ .cst ∧ S1 = [.val (cD f), .val (cD g), .val (.lst one), .val (.lst two), .val top, .val (.int b), x, y, .no] ∧ c1 = none) ⟨fun t ht => by omega, x, hx, rfl, rfl⟩ ?_ ?_
    · intro i S1 c1 hi h
      obtain ⟨hb, x, hx, q1, q2⟩ := h
      rw [q1, q2]
      clear q1 q2
      simp [notCst_of hx]
      refine ⟨fun hb0 => ?_, fun hb0 t ht hb1 => by omega⟩
      rw [g1 _ (by omega) (by omega)]
      simp
      rw [g2 _ (by omega) (by omega)]
      simp
      rw [show i + b - 1 = i + (b - 1) by omega]
      refine ⟨fun h => ?_, fun h t ht hb1 => ?_⟩
      · have hn : ¬ A i ≤ i + (b - 1) := fun z => by have := (hiff i (b - 1)).mpr z; omega
        have hAi : A i = i + b := by have := hB.1 i hi; omega
        simp (disch := omega) [iP_dis, sizeLine_v, flD]
        refine ⟨hle, b, some i, ?_, rfl, rfl⟩
        refine ⟨(show (b : Int) = (A i : Int) - i by omega), (show 0 < (A i : Int) - i by omega), fun t => (show (A t : Int) - t ≤ A i - i from ?_), fun t ht => ?_⟩
        · rcases early t with h | ⟨u, h1, h2⟩
          · omega
          · have := b250 u h1; omega
        · have := hb t ht hb0
          show (A t : Int) - t < A i - i
          omega
      · by_cases e : t = i
        · have := (hiff i (b - 1)).mp h
          rw [e]; omega
        · exact hb t (by omega) hb1
    · intro S1 c1 h
      obtain ⟨hb, x, hx, q1, q2⟩ := h
      rw [q1, q2]
      clear q1 q2
      have bz : b = 0 := by
        rcases hB.2 with h | ⟨t, h1, h2⟩
        · exact h
        · by_cases hz : b = 0
          · exact hz
          · have := hb t (by simpa using h1) (by omega); omega
      subst bz
      simp (disch := omega) [iP_dis, sizeLine_v, flD]
      refine ⟨hle, 0, none, ⟨rfl, fun t => (show (A t : Int) - t ≤ 0 from ?_)⟩, rfl, rfl⟩
      rcases early t with h | ⟨u, h1, h2⟩
      · exact h
      · have := b250 u h1; omega
end K54

set_option autoImplicit true
set_option relaxedAutoImplicit true
set_option Elab.async false
set_option linter.all false
set_option maxRecDepth 100000
set_option maxHeartbeats 8000000
/-! KP: comparing data; rows -/
namespace K54
open PySem L2 DL
theorem plains_ints {xs : List Int} : plains (xs.map D.int) = true := by
  induction xs with
  | nil => rfl
  | cons a r ih => simp [plains, DL.plain, ih]
theorem lay_ints {xs : List Int} : PyData.canLayAll0 (toPys (xs.map D.int)) = true := by
  induction xs with
  | nil => rfl
  | cons a r ih => simp [toPys, toPy, PyData.canLayAll0, PyData.canLay0, ih]
theorem depth_ints {xs : List Int} : PyData.depthAll (toPys (xs.map D.int)) = 0 := by
  induction xs with
  | nil => rfl
  | cons a r ih => simp [toPys, toPy, PyData.depthAll, PyData.depth, ih]
theorem eqv_ints : ∀ {xs ys : List Int}, PyData.eqvAll (toPys (xs.map D.int)) (toPys (ys.map D.int)) = decide (xs = ys)
  | [], [] => rfl
  | [], _ :: _ => rfl
  | _ :: _, [] => rfl
  | x :: xs, y :: ys => by
    have := eqv_ints (xs := xs) (ys := ys)
    simp [toPys, toPy, PyData.eqvAll, PyData.eqv, this]
    by_cases h : x = y <;> by_cases h2 : xs = ys <;> simp [h, h2]
theorem okD_ints {xs : List Int} : okD (.lst (xs.map D.int)) = true := by
  simp [okD, DL.plain, plains_ints, toPy, SeqAt.shaped, PyData.canLay0, PyData.depth, lay_ints, depth_ints]
theorem eqD_ints {xs ys : List Int} : eqD (.lst (xs.map D.int)) (.lst (ys.map D.int)) = decide (xs = ys) := by
  simp [eqD, toPy, PyData.eqv, eqv_ints]
theorem okD_cD {c : Cv} : okD (cD c) = true := by
  simp [cD, okD, DL.plain, plains, plains_ints, toPy, toPys, SeqAt.shaped, PyData.canLay0, PyData.canLayAll0, PyData.depth, PyData.depthAll, lay_ints, depth_ints]
theorem eqD_cD {a b : Cv} : eqD (cD a) (cD b) = true ↔ a = b := by
  have h : (a = b) ↔ (a.vs = b.vs ∧ a.p = b.p ∧ a.s = b.s) := by
    cases a; cases b; simp
  rw [h]
  simp [cD, eqD, toPy, toPys, PyData.eqv, PyData.eqvAll, eqv_ints]
  intro _ _
  omega
theorem ne_cD {c : Cv} : oNe (cD c) (cD c) = some (.bl false) := by
  simp [oNe, okD_cD, eqD_cD.mpr]
theorem eq_cD {a b : Cv} {k : Bool} (h : k = true ↔ a = b) : oEq (cD a) (cD b) = some (.bl k) := by
  have : eqD (cD a) (cD b) = k := by
    rw [Bool.eq_iff_iff, eqD_cD, h]
  simp [oEq, okD_cD, this]
theorem eq_ints {xs ys : List Int} : oEq (.lst (xs.map D.int)) (.lst (ys.map D.int)) = some (.bl (decide (xs = ys))) := by
  simp [oEq, okD_ints, eqD_ints]
mutual
theorem eqv_refl : ∀ x : D, DL.plain x = true → PyData.eqv (toPy x) (toPy x) = true
  | .non, _ => rfl
  | .bl b, _ => by simp [toPy, PyData.eqv]
  | .int b, _ => by simp [toPy, PyData.eqv]
  | .str b, _ => by simp [toPy, PyData.eqv]
  | .tup xs, h => by simp only [toPy, PyData.eqv]; exact eqvs_refl xs (by simpa [DL.plain] using h)
  | .lst xs, h => by simp only [toPy, PyData.eqv]; exact eqvs_refl xs (by simpa [DL.plain] using h)
  | .obj _ _ _, h => by simp [DL.plain] at h
  | .scr _, h => by simp [DL.plain] at h
theorem eqvs_refl : ∀ xs : List D, plains xs = true → PyData.eqvAll (toPys xs) (toPys xs) = true
  | [], _ => rfl
  | x :: xs, h => by
    simp [plains] at h
    simp only [toPys, PyData.eqvAll, eqv_refl x h.1, eqvs_refl xs h.2, Bool.and_self]
end
theorem ne_same {d : D} (h : okD d = true) : oNe d d = some (.bl false) := by
  have := (Bool.and_eq_true_iff.mp h).1
  simp [oNe, h, eqD, eqv_refl d this]
theorem eq_same {d : D} (h : okD d = true) : oEq d d = some (.bl true) := by
  have := (Bool.and_eq_true_iff.mp h).1
  simp [oEq, h, eqD, eqv_refl d this]
theorem ok_s {s : Str} (h : PyData.strOk s = true) : okD (.tup [.str s]) = true := by
  simp [okD, DL.plain, plains, toPy, toPys, SeqAt.shaped, PyData.canLay0, PyData.canLayAll0, PyData.depth, PyData.depthAll, h]
theorem ok_si {s : Str} {i : Int} (h : PyData.strOk s = true) : okD (.tup [.str s, .int i]) = true := by
  simp [okD, DL.plain, plains, toPy, toPys, SeqAt.shaped, PyData.canLay0, PyData.canLayAll0, PyData.depth, PyData.depthAll, h]
theorem ok_sii {s : Str} {i j : Int} (h : PyData.strOk s = true) : okD (.tup [.str s, .int i, .int j]) = true := by
  simp [okD, DL.plain, plains, toPy, toPys, SeqAt.shaped, PyData.canLay0, PyData.canLayAll0, PyData.depth, PyData.depthAll, h]
theorem ok_sio {s : Str} {i : Int} {o : Option Nat} (h : PyData.strOk s = true) : okD (.tup [.str s, .int i, onD o]) = true := by
  cases o <;> simp [okD, DL.plain, plains, toPy, toPys, SeqAt.shaped, PyData.canLay0, PyData.canLayAll0, PyData.depth, PyData.depthAll, h, onD]
theorem s_above : PyData.strOk "above" = true := by decide +kernel
theorem s_most : PyData.strOk "at most" = true := by decide +kernel
theorem s_grows : PyData.strOk "grows" = true := by decide +kernel
theorem s_store : PyData.strOk "store" = true := by decide +kernel
theorem s_never : PyData.strOk "never" = true := by decide +kernel
theorem s_delay : PyData.strOk "delay" = true := by decide +kernel
theorem row_drop {F : Nat → Int} {L k : Nat} (h : k ≤ L) : ((row F L).map D.int).drop k = (row (fun t => F (t + k)) (L - k)).map D.int := by
  unfold row
  rw [← List.map_drop, ← List.map_drop]
  congr 1
  apply List.ext_getElem
  · simp
  · intro i h1 h2
    simp
    congr 1
    omega
theorem w_start {ns : List Int} (h : ns.length ≤ 63) : m__law_start [.scr ns] = some [.lst (ns.map .int), .int 0, .int 0, .int 0, .int 20] := by
  refine of_runN (by rfl) ?_
  unfold b__law_start
  have ht : (ns.map D.int).take 63 = ns.map D.int := List.take_of_length_le (by simpa using h)
  have hl : (ns.map D.int).length = ns.length := by simp
  simp [List.replicate]
  rw [show (63 : Int) = ((63 : Nat) : Int) from rfl, cut_to, ht, hl]
  rw [iP_dis (by rw [sizeLine_v]; omega), lc_all (φ := fun i => .int (gI ns i)), hl]
  · have : (List.range ns.length).map (fun i => D.int (gI ns i)) = ns.map D.int := by
      apply List.ext_getElem?
      intro i
      by_cases hi : i < ns.length
      · rw [gI_get hi, List.getElem?_map, List.getElem?_range hi]; rfl
      · rw [List.getElem?_eq_none (by simp; omega), List.getElem?_eq_none (by simp; omega)]
    rw [this]
    simp (disch := omega) [iP_dis, sizeLine_v]
  · intro i d hd
    obtain ⟨hi, rfl⟩ := ints_inv hd
    simp
end K54

set_option autoImplicit true
set_option relaxedAutoImplicit true
set_option Elab.async false
set_option linter.all false
set_option maxRecDepth 100000
set_option maxHeartbeats 20000000
/-! KQ: the law -/
namespace K54
open PySem L2 DL
theorem w_same {f g : Cv} {a b : Cv} (ha : m_least_curve [cD f] = some (cD a)) (hb : m_least_curve [cD g] = some (cD b)) {k : Bool} (h : k = true ↔ a = b) : m_same_curve [cD f, cD g] = some (.bl k) := by
  refine of_runF (by rfl) ?_
  unfold b_same_curve
  simp [List.replicate, ha, hb, eq_cD h, flD]
theorem w_said {a : Bool} : m__law_said [.bl a, .bl a] = some (.bl true) := by
  cases a <;> rfl
theorem lawf {F : Nat → Int} {L b q N P : Nat} {S : Int} (hq : QP F N P S) (hP : 1 ≤ P) (hN : N ≤ b) (hPq : P ≤ q) (hL : b + 3 * q ≤ L) (hL2 : L ≤ 2000) {l : Cv} (hl : IsLF F l) : m__law_form [.lst ((row F L).map D.int), .int b, .int q] = some (cD l) := by
  obtain ⟨l', h1, h2⟩ := w_lawform hq hP hN hPq hL hL2
  rw [h1, h2.unique hl]
theorem same_iff {f g : Cv} (scf : Sc f) (scg : Sc g) {a b : Cv} (ha : IsLF (va f) a) (hb : IsLF (va g) b) : decide (row (va f) 900 = row (va g) 900) = true ↔ a = b := by
  have sf := sc_sm scf
  have sg := sc_sm scg
  have fp := scf.hp; have fn := scf.hn; have f4 := scf.n4
  have gp := scg.hp; have gn := scg.hn; have g4 := scg.n4
  obtain ⟨e1, e2, e3, e4, _⟩ := lc_ok sf.p4 sg.p4
  have qf := qp_gr (va_qp fp fn) e3
  have qg := qp_gr (va_qp gp gn) e4
  rw [decide_eq_true_eq]
  constructor
  · intro h
    have lt : ∀ t, t < 900 → va f t = va g t := fun t ht => by rw [← row_get (F := va f) ht, ← row_get (F := va g) ht, h]
    have all : ∀ t, va f t = va g t := by
      intro t
      induction t using Nat.strongRecOn with
      | _ t ih =>
        by_cases ht : t < 900
        · exact lt t ht
        · have a1 := qf 10 (by omega)
          have a2 := qg 10 (by omega)
          have a3 := lt 10 (by omega)
          have a4 := lt (10 + lc f g) (by omega)
          have b1 := qf (t - lc f g) (by omega)
          have b2 := qg (t - lc f g) (by omega)
          have b3 := ih (t - lc f g) (by omega)
          rw [show t - lc f g + lc f g = t by omega] at b1 b2
          omega
    exact ha.unique (hb.fn fun t => (all t).symm)
  · intro h
    unfold row
    congr 1
    funext t
    rw [← ha.at, ← hb.at, h]
theorem mm_qp {f g : Cv} (scf : Sc f) (scg : Sc g) : (∃ P S, QP (fun t => min (va f t) (va g t)) 340 P S ∧ 1 ≤ P ∧ P ≤ f.p * g.p) ∧ ∃ P S, QP (fun t => max (va f t) (va g t)) 340 P S ∧ 1 ≤ P ∧ P ≤ f.p * g.p := by
  have sf := sc_sm scf
  have sg := sc_sm scg
  have fp := scf.hp; have fn := scf.hn; have f4 := scf.n4
  have gp := scg.hp; have gn := scg.hn; have g4 := scg.n4
  obtain ⟨d1, d2, d3, d4, d5, d6, d7⟩ := lc_ok sf.p4 sg.p4
  have dle : lc f g ≤ f.p * g.p := by rw [← d5]; exact Nat.div_le_self _ _
  have fle : f.p ≤ f.p * g.p := Nat.le_mul_of_pos_right _ gp
  have gle : g.p ≤ f.p * g.p := Nat.le_mul_of_pos_left _ fp
  have qf := va_qp fp fn
  have qg := va_qp gp gn
  have qfd := qp_gr qf d3
  have qgd := qp_gr qg d4
  rw [show ((lc f g / f.p : Nat) : Int) * f.s = gr f (lc f g) from rfl] at qfd
  rw [show ((lc f g / g.p : Nat) : Int) * g.s = gr g (lc f g) from rfl] at qgd
  rcases Int.lt_trichotomy (gr f (lc f g)) (gr g (lc f g)) with hc | hc | hc
  · have cr := fun t (ht : 340 ≤ t) => (cross scf scg (slope_lt fp gp d3 d4 hc) ht).1
    refine ⟨⟨f.p, f.s, fun t ht => ?_, fp, fle⟩, g.p, g.s, fun t ht => ?_, gp, gle⟩
    · show min (va f (t + f.p)) (va g (t + f.p)) = min (va f t) (va g t) + f.s
      have := cr t ht; have := cr (t + f.p) (by omega); have := qf t (by omega); omega
    · show max (va f (t + g.p)) (va g (t + g.p)) = max (va f t) (va g t) + g.s
      have := cr t ht; have := cr (t + g.p) (by omega); have := qg t (by omega); omega
  · refine ⟨⟨lc f g, gr f (lc f g), fun t ht => ?_, d1, dle⟩, lc f g, gr f (lc f g), fun t ht => ?_, d1, dle⟩
    · show min (va f (t + lc f g)) (va g (t + lc f g)) = min (va f t) (va g t) + gr f (lc f g)
      have := qfd t (by omega); have := qgd t (by omega); omega
    · show max (va f (t + lc f g)) (va g (t + lc f g)) = max (va f t) (va g t) + gr f (lc f g)
      have := qfd t (by omega); have := qgd t (by omega); omega
  · have cr := fun t (ht : 340 ≤ t) => (cross scg scf (slope_lt gp fp d4 d3 hc) ht).1
    refine ⟨⟨g.p, g.s, fun t ht => ?_, gp, gle⟩, f.p, f.s, fun t ht => ?_, fp, fle⟩
    · show min (va f (t + g.p)) (va g (t + g.p)) = min (va f t) (va g t) + g.s
      have := cr t ht; have := cr (t + g.p) (by omega); have := qg t (by omega); omega
    · show max (va f (t + f.p)) (va g (t + f.p)) = max (va f t) (va g t) + f.s
      have := cr t ht; have := cr (t + f.p) (by omega); have := qf t (by omega); omega
theorem rngC_inv {lo c : Int} {n i : Nat} {d : D} (h : (rngC lo c n)[i]? = some d) : i < n ∧ d = .int (lo + i * c) := by
  unfold rngC at h
  obtain ⟨x, h1, h2⟩ := map_inv h
  obtain ⟨h3, rfl⟩ := range_inv h1
  exact ⟨h3, h2⟩
theorem conv_le {f g : Cv} (scf : Sc f) (scg : Sc g) (j : Nat) : ∀ i, i ≤ j → min (Hh f g (f.vs.length + lc f g) j) (Hh g f (g.vs.length + lc f g) j) ≤ va f i + va g (j - i) := by
  have sf := sc_sm scf
  have sg := sc_sm scg
  have fp := scf.hp; have fn := scf.hn
  have gp := scg.hp; have gn := scg.hn
  obtain ⟨d1, d2, d3, d4, _⟩ := lc_ok sf.p4 sg.p4
  have qfd := qp_gr (va_qp fp fn) d3
  have qgd := qp_gr (va_qp gp gn) d4
  rw [show ((lc f g / f.p : Nat) : Int) * f.s = gr f (lc f g) from rfl] at qfd
  rw [show ((lc f g / g.p : Nat) : Int) * g.s = gr g (lc f g) from rfl] at qgd
  generalize lc f g = d at *
  have near1 : ∀ i, i ≤ j → i < f.vs.length + d → min (Hh f g (f.vs.length + d) j) (Hh g f (g.vs.length + d) j) ≤ va f i + va g (j - i) := fun i hi h => by
    have := Hh_le (f := f) (g := g) h hi
    omega
  have near2 : ∀ i, i ≤ j → j - i < g.vs.length + d → min (Hh f g (f.vs.length + d) j) (Hh g f (g.vs.length + d) j) ≤ va f i + va g (j - i) := fun i hi h => by
    have := Hh_le (f := g) (g := f) (t := j) h (by omega)
    rw [show j - (j - i) = i by omega] at this
    omega
  by_cases hAB : gr g d ≤ gr f d
  · intro i
    induction i using Nat.strongRecOn with
    | _ i ih =>
      intro hi
      by_cases h1 : i < f.vs.length + d
      · exact near1 i hi h1
      · have a := ih (i - d) (by omega) (by omega)
        have b := qfd (i - d) (by omega)
        rw [show i - d + d = i by omega] at b
        by_cases h2 : j - i < g.vs.length + d
        · exact near2 i hi h2
        · have c := qgd (j - i) (by omega)
          rw [show j - i + d = j - (i - d) by omega] at c
          omega
  · have key : ∀ k i, j - i = k → i ≤ j → min (Hh f g (f.vs.length + d) j) (Hh g f (g.vs.length + d) j) ≤ va f i + va g (j - i) := by
      intro k
      induction k using Nat.strongRecOn with
      | _ k ih =>
        intro i hk hi
        by_cases h1 : i < f.vs.length + d
        · exact near1 i hi h1
        · by_cases h2 : j - i < g.vs.length + d
          · exact near2 i hi h2
          · have a := ih (j - (i + d)) (by omega) (i + d) rfl (by omega)
            have b := qfd i (by omega)
            have c := qgd (j - (i + d)) (by omega)
            rw [show j - (i + d) + d = j - i by omega] at c
            omega
    exact fun i hi => key _ i rfl hi
theorem conv_eq {f g : Cv} (scf : Sc f) (scg : Sc g) (j : Nat) : minI ((List.range (j + 1)).map fun i => va f i + va g (j - i)) = min (Hh f g (f.vs.length + lc f g) j) (Hh g f (g.vs.length + lc f g) j) := by
  have fp := scf.hp; have fn := scf.hn
  have gp := scg.hp; have gn := scg.hn
  refine minI_eq ?_ fun y hy => ?_
  · obtain ⟨s, s1, s2, s3⟩ := Hh_ex (f := f) (g := g) (low := f.vs.length + lc f g) (t := j) (by omega)
    obtain ⟨r, r1, r2, r3⟩ := Hh_ex (f := g) (g := f) (low := g.vs.length + lc f g) (t := j) (by omega)
    by_cases h : Hh f g (f.vs.length + lc f g) j ≤ Hh g f (g.vs.length + lc f g) j
    · rw [Int.min_eq_left h, s3]
      exact List.mem_map.mpr ⟨s, List.mem_range.mpr (by omega), rfl⟩
    · rw [Int.min_eq_right (by omega), r3]
      refine List.mem_map.mpr ⟨j - r, List.mem_range.mpr (by omega), ?_⟩
      rw [show j - (j - r) = r by omega, Int.add_comm]
  · obtain ⟨i, hi, rfl⟩ := List.mem_map.mp hy
    rw [List.mem_range] at hi
    exact conv_le scf scg j i (by omega)
theorem lc_filter {g : DG} {tt : DT} {f : DE} {S : List Sl} {cs : Option D} {φ : Nat → Bool} {lo : Int} : ∀ (is : List Nat),
    (∀ i, i ∈ is → wG g (.int (lo + (i : Int))) S (fun S1 => wT tt S1 cs (fun b c => b = φ i ∧ c = cs ∧ wE f S1 cs (fun r c => r = .c (.int (lo + (i : Int))) ∧ c = cs) .mk) .mk) .mk) →
      lcL g tt f (is.map fun (i : Nat) => D.int (lo + (i : Int))) S cs = some ((is.filter φ).map fun (i : Nat) => D.int (lo + (i : Int)), cs)
  | [], _ => rfl
  | i :: r, h => by
    obtain ⟨S1, e1, q⟩ := wG_ex.mp (h i List.mem_cons_self)
    obtain ⟨b, c, e2, hb, hcc, q⟩ := wT_ex.mp q
    obtain ⟨r1, c1, e3, hr, hc1⟩ := wE_ex.mp q
    subst hb hcc hr hc1
    have ih := lc_filter (g := g) (tt := tt) (f := f) (φ := φ) (lo := lo) r fun i hi => h i (List.mem_cons_of_mem _ hi)
    rw [List.map_cons]
    unfold lcL
    cases hφ : φ i with
    | true => simp [e1, e2, hφ, e3, ih]
    | false => simp [e1, e2, hφ, ih]
theorem filter_first {φ : Nat → Bool} {n t0 : Nat} (h : t0 < n) (h1 : φ t0 = true) (h2 : ∀ i, i < t0 → φ i = false) : ∃ r, (List.range n).filter φ = t0 :: r := by
  obtain ⟨k, rfl⟩ := Nat.exists_eq_add_of_lt h
  have e : List.range (t0 + k + 1) = List.range t0 ++ (t0 :: (List.range k).map fun i => t0 + 1 + i) := by
    rw [show t0 + k + 1 = t0 + (k + 1) by omega, List.range_add]
    congr 1
    rw [List.range_succ_eq_map]
    simp
    intro a _
    omega
  rw [e, List.filter_append, List.filter_cons_of_pos h1, List.filter_eq_nil_iff.mpr (fun a ha => by rw [h2 a (List.mem_range.mp ha)]; simp)]
  exact ⟨_, rfl⟩
theorem FA_b {f g : Cv} (scf : Sc f) (scg : Sc g) {t0 : Nat} (h : FA f g (some t0)) : t0 < 900 := by
  have sf := sc_sm scf
  have sg := sc_sm scg
  have fp := scf.hp; have fn := scf.hn; have f4 := scf.n4
  have gp := scg.hp; have gn := scg.hn; have g4 := scg.n4
  obtain ⟨d1, d2, d3, d4, _⟩ := lc_ok sf.p4 sg.p4
  have hm : mx f g ≤ 4 := by unfold mx; omega
  obtain ⟨h1, h2⟩ := h
  refine Nat.lt_of_not_le fun hge => ?_
  by_cases hc : gr g (lc f g) < gr f (lc f g)
  · have := (cross scg scf (slope_lt gp fp d4 d3 hc) (t := 341) (by omega)).2 (by omega)
    have := h2 341 (by omega)
    omega
  · obtain ⟨u, u1, u2, u3⟩ := qp_down (qp_diffs sf sg) d1 (by omega) t0
    have := h2 u (by omega)
    have u4 : va f t0 - va g t0 ≤ va f u - va g u := u3
    omega
theorem okSl_c {x : Sl} (h : okSl x = true) : x ≠ .cst := by intro e; rw [e] at h; cases h
theorem toVs_ints {l : List Int} : toVs (l.map D.int) = some (l.map V.int) := by
  induction l with
  | nil => rfl
  | cons a r ih => simp [toVs, toV, ih]
theorem idx_int : ∀ {n : Nat} {F : Nat → Int} {k j : Nat} {m : Int}, j < n → F (k + j) = m → (∀ i, i < j → F (k + i) ≠ m) → idxV (.int m) (((List.range n).map fun i => F (k + i)).map V.int) = some j
  | 0, _, _, _, _, h, _, _ => by omega
  | n + 1, F, k, 0, m, _, h2, _ => by
    rw [List.range_succ_eq_map]
    simp [idxV] at *
    simp [h2, eqV]
  | n + 1, F, k, j + 1, m, h1, h2, h3 => by
    have a := h3 0 (by omega)
    have ih := idx_int (n := n) (F := F) (k := k + 1) (j := j) (m := m) (by omega) (by rw [← h2]; congr 1; omega) (fun i hi => by have := h3 (i + 1) (by omega); rwa [show k + (i + 1) = k + 1 + i by omega] at this)
    rw [List.range_succ_eq_map]
    simp [idxV] at *
    simp [a, eqV]
    rw [show (V.int ∘ fun i => F (k + 1 + i)) = (V.int ∘ (fun i => F (k + i)) ∘ Nat.succ) from funext fun i => by simp; congr 1; omega] at ih
    rw [ih]
theorem fin_eq {f g : Cv} (hf : Ri f) (hg : Ri g) : ∃ res, m_delay_bound [cD f, cD g] = some res ∧ m__law_delay [cD f, cD g, .lst ((row (va f) 900).map .int), .lst ((row (va g) 900).map .int)] = some res ∧ okD res = true := by
  have fp := hf.sc.hp; have fn := hf.sc.hn; have f4 := hf.sc.n4; have fs := hf.s0
  have gp := hg.sc.hp; have gn := hg.sc.hn; have g4 := hg.sc.n4
  by_cases hn : g.s = 0 ∧ ∃ t, va g (g.vs.length - 1) + 1 ≤ va f t
  · obtain ⟨hs, t, ht⟩ := hn
    obtain ⟨o, ho⟩ := AL_ex f (va g (g.vs.length - 1) + 1)
    cases o with
    | none => have := ho t; omega
    | some t0 =>
      have h9 : t0 < 900 := by
        by_cases h0 : f.s = 0
        · refine Nat.lt_of_not_le fun hge => ?_
          have a := va_qp fp fn (t0 - f.p) (by omega)
          rw [show t0 - f.p + f.p = t0 by omega, h0] at a
          have := ho.1
          have := ho.2 (t0 - f.p) (by omega)
          omega
        · have hc : (f.p : Int) * g.s + 1 ≤ g.p * f.s := by
            have : (g.p : Int) * 1 ≤ g.p * f.s := Int.mul_le_mul_of_nonneg_left (by omega) (by omega)
            rw [hs]; omega
          have a := (cross hg.sc hf.sc hc (t := 341) (by omega)).2 (by omega)
          have b := hg.mono (a := g.vs.length - 1) (b := 341) (by omega)
          have := AL_le ho (w := 341) (by omega)
          omega
      exact ⟨_, w_delay_never hf hg hs ho, w_ld_never hf hg hs ho h9, ok_si s_never⟩
  · have h0 : g.s = 0 → ∀ t, va f t ≤ va g (g.vs.length - 1) := fun hs t => by
      refine Int.not_lt.mp fun z => hn ⟨hs, t, by omega⟩
    obtain ⟨A, hA⟩ := Classical.axiomOfChoice (AL_all (f := f) hg h0)
    obtain ⟨r1, a1, a2⟩ := w_delay hf hg h0 hA
    obtain ⟨r2, b1, b2⟩ := w_ld hf hg h0 hA
    refine ⟨r1, a1, ?_⟩
    rcases a2 with ⟨c1, c2⟩ | ⟨c1, b, o, c2, c3⟩
    · rcases b2 with ⟨d1, d2⟩ | ⟨d1, _⟩
      · rw [b1, c2, d2]; exact ⟨rfl, ok_s s_grows⟩
      · omega
    · rcases b2 with ⟨d1, d2⟩ | ⟨d1, b', o', d2, d3⟩
      · omega
      · obtain ⟨e1, e2⟩ := c2.unique d2
        rw [b1, c3, d3, e1, e2]; exact ⟨rfl, ok_sio s_delay⟩
theorem law_true (ns : List Int) (h : ns.length ≤ 63) : m_law [.scr ns] = some (.bl true) := by
  refine of_runF (by rfl) ?_
  unfold b_law
  rw [w_cell]
  simp [List.replicate, w_start h]
  have hc0 : Cell (.lst [.lst (ns.map .int), .int 0, .int 0, .int 0, .int 20]) := ⟨ns, 0, 0, 0, rfl⟩
  generalize (D.lst [.lst (ns.map .int), .int 0, .int 0, .int 0, .int 20]) = c0 at *
  obtain ⟨v1, c1, b1, hc1, e1⟩ := w_take hc0 2 (by omega) (by omega)
  simp at e1
  simp [e1]
  generalize hri : decide (v1 = 0) = ri
  obtain ⟨f, c2, e2, hc2, scf, rif⟩ := w_curve hc1 ri
  obtain ⟨g, c3, e3, hc3, scg, rig⟩ := w_curve hc2 ri
  have sf := sc_sm scf
  have sg := sc_sm scg
  simp [e2]
  simp (disch := omega) [e3, iP_dis, sizeLine_v]
  have fp := scf.hp; have fn := scf.hn; have f4 := scf.n4; have fs := scf.sb
  have gp := scg.hp; have gn := scg.hn; have g4 := scg.n4; have gs := scg.sb
  rw [lc_all (φ := fun i => if i = 0 then .lst ((row (va f) 900).map .int) else .lst ((row (va g) 900).map .int))]
  rotate_left
  · have side : ∀ (q : Cv), q.Ok → ∀ S : List Sl, S[21]? = some (.val (cD q)) → S[9]? = some .no → lcL (gdN 9) dYes (dCall m__law_at (dCons (dVar 21) (dCons (dVar 9) dNil))) (rngD 0 900) S (some c3) = some ((row (va q) 900).map .int, some c3) := by
      intro q hq S h1 h2
      rw [lc_rng (φ := fun k => .int (va q k)), riD]
      · rfl
      · intro i hi
        rw [w_gN, atS_get]
        refine ⟨_, h2, ?_⟩
        simp only [notCst_n]
        simp
        rw [atS_get]
        refine ⟨.val (cD q), by rw [List.getElem?_set_ne (by omega)]; exact h1, ?_⟩
        simp
        rw [atS_get]
        refine ⟨.val (.int i), by rw [List.getElem?_set_self (by have := (List.getElem?_eq_some_iff.mp h2).1; omega)], ?_⟩
        simp
        rw [w_lawat hq i (by omega)]
        simp
    intro i d hd
    match i, hd with
    | 0, hd =>
      cases hd
      simp (disch := omega) [iP_dis, sizeLine_v, rngD_len]
      rw [side f sf.ok _ (by simp) (by simp)]
      simp
    | 1, hd =>
      cases hd
      simp (disch := omega) [iP_dis, sizeLine_v, rngD_len]
      rw [side g sg.ok _ (by simp) (by simp)]
      simp
    | i + 2, hd => simp at hd
  simp [List.range, List.range.loop]
  obtain ⟨v4, c4, b4, hc4, e4⟩ := w_take hc3 6 (by omega) (by omega)
  obtain ⟨v5, c5, b5, hc5, e5⟩ := w_take hc4 300 (by omega) (by omega)
  simp at e4 e5
  simp (disch := omega) [e4, iP_dis]
  have bf : ∀ t, t ≤ 30000 → -(2 ^ 32) < va f t ∧ va f t < 2 ^ 32 := fun t ht => by have := sc_b scf t ht; omega
  have bg : ∀ t, t ≤ 30000 → -(2 ^ 32) < va g t ∧ va g t < 2 ^ 32 := fun t ht => by have := sc_b scg t ht; omega
  have qf := va_qp fp fn
  have qg := va_qp gp gn
  obtain ⟨lf, lf1, lf2, _, _⟩ := w_least_curve sf.ok (by omega) (fun t ht => by have := bf t (by omega); omega)
  obtain ⟨lg, lg1, lg2, _, _⟩ := w_least_curve sg.ok (by omega) (fun t ht => by have := bg t (by omega); omega)
  have lw1 : m__law_form [.lst ((row (va f) 900).map D.int), .int 10, .int f.p] = some (cD lf) := lawf (b := 10) qf fp (by omega) (Nat.le_refl _) (by omega) (by omega) lf2
  have sm := w_same lf1 lg1 (same_iff scf scg lf2 lg2)
  simp (disch := omega) [e5, iP_dis, cD_1]
  rw [oMul_i (by omega)]
  simp [w_at0 sf.ok v5 (by omega)]
  rw [row_l (by omega) (by omega)]
  simp [lf1, cD_1, lw1, ne_cD, sm, eq_ints, w_said]
  obtain ⟨v6, c6, b6, hc6, e6⟩ := w_take hc5 5 (by omega) (by omega)
  simp at e6
  obtain ⟨kk, hkk⟩ : ∃ kk : Int, kk = (v6 : Int) - 2 := ⟨_, rfl⟩
  obtain ⟨lt, lt1, lt2, _, _⟩ := w_times sf.ok (by omega) (fun t ht => by have := bf t (by omega); omega) kk (by omega)
  have lwt : m__law_form [.lst ((row (fun t => kk * va f t) 900).map D.int), .int 10, .int f.p] = some (cD lt) := lawf (b := 10) (fun t ht => by
    show kk * va f (t + f.p) = kk * va f t + kk * f.s
    rw [qf t ht, Int.mul_add]) fp (by omega) (Nat.le_refl _) (by omega) (by omega) lt2
  obtain ⟨ll, ll1, ll2, _, _⟩ := w_later sf.ok (by omega) (fun t ht => by have := bf t (by omega); omega) v4 (by omega)
  have lwl : m__law_form [.lst ((row (fun t => va f (t + v4)) (900 - v4)).map D.int), .int 10, .int f.p] = some (cD ll) := lawf (b := 10) (N := f.vs.length) (fun t ht => by
    show va f (t + f.p + v4) = va f (t + v4) + f.s
    rw [show t + f.p + v4 = t + v4 + f.p by omega, qf _ (by omega)]) fp (by omega) (Nat.le_refl _) (by omega) (by omega) ll2
  have hl : ∀ q : Cv, ((row (va q) 900).map D.int).length = 900 := fun q => by rw [List.length_map, row_len]
  simp [e6]
  rw [← hkk, lt1]
  simp (disch := omega) [iP_dis, sizeLine_v, hl]
  rw [lc_all (φ := fun i => .int (kk * va f i)), hl, riD]
  rotate_left
  · intro i d hd
    obtain ⟨hi, rfl⟩ := ints_inv hd
    rw [row_len] at hi
    rw [row_get hi]
    simp
    rw [oMul_i' (by omega)]
    simp
  rw [show (List.range 900).map (fun i => kk * va f i) = row (fun t => kk * va f t) 900 from rfl]
  simp [cD_1, lwt, ne_cD, ll1]
  rw [show (v4 : Int) = ((v4 : Nat) : Int) from rfl, cut_from, row_drop (by omega)]
  simp [cD_1, lwl, ne_cD]
  obtain ⟨d1, d2, d3, d4, d5, d6, d7⟩ := lc_ok sf.p4 sg.p4
  have dle : lc f g ≤ f.p * g.p := by rw [← d5]; exact Nat.div_le_self _ _
  have q16 : f.p * g.p ≤ 16 := Nat.mul_le_mul (show f.p ≤ 4 by omega) (show g.p ≤ 4 by omega)
  have qfd := qp_gr qf d3
  have qgd := qp_gr qg d4
  obtain ⟨A, hA⟩ : ∃ A, A = gr f (lc f g) := ⟨_, rfl⟩
  obtain ⟨B, hB⟩ : ∃ B, B = gr g (lc f g) := ⟨_, rfl⟩
  rw [show ((lc f g / f.p : Nat) : Int) * f.s = A from hA.symm] at qfd
  rw [show ((lc f g / g.p : Nat) : Int) * g.s = B from hB.symm] at qgd
  obtain ⟨ls, ls1, ls2, _⟩ := w_sum sf.ok sg.ok sf.p4 sg.p4 (by omega) (by omega) (fun t ht => by have := bf t (by omega); omega) (fun t ht => by have := bg t (by omega); omega)
  have lws : m__law_form [.lst ((row (fun t => va f t + va g t) 900).map D.int), .int 10, .int ((f.p : Int) * g.p)] = some (cD ls) := by
    have := lawf (F := fun t => va f t + va g t) (L := 900) (b := 10) (q := f.p * g.p) (N := 4) (P := lc f g) (S := A + B) (fun t ht => by
      show va f (t + lc f g) + va g (t + lc f g) = va f t + va g t + (A + B)
      rw [qfd t (by omega), qgd t (by omega)]; omega) d1 (by omega) dle (by omega) (by omega) ls2
    rw [Int.natCast_mul] at this
    exact this
  simp [ls1]
  simp (disch := omega) [iP_dis, sizeLine_v, rngD_len]
  rw [lc_rng (φ := fun j => .int (va f j + va g j)), riD]
  rotate_left
  · intro j hj
    simp
    rw [row_l (by omega) (by omega)]
    simp
    rw [row_l (by omega) (by omega)]
    simp
  rw [show (List.range 900).map (fun j => va f j + va g j) = row (fun t => va f t + va g t) 900 from rfl]
  simp [lws, ne_cD]
  simp (disch := omega) [iP_dis, sizeLine_v, rngD_len]
  rw [lc_rng (φ := fun j => .int (min (va f j) (va g j))), riD]
  rotate_left
  · intro j hj
    simp
    rw [row_l (by omega) (by omega)]
    simp
    rw [row_l (by omega) (by omega)]
    simp
    split <;> omega
  rw [show (List.range 900).map (fun j => min (va f j) (va g j)) = row (fun t => min (va f t) (va g t)) 900 from rfl]
  simp (disch := omega) [iP_dis, sizeLine_v, rngD_len]
  rw [lc_rng (φ := fun j => .int (max (va f j) (va g j))), riD]
  rotate_left
  · intro j hj
    simp
    rw [row_l (by omega) (by omega)]
    simp
    rw [row_l (by omega) (by omega)]
    simp
    split <;> omega
  rw [show (List.range 900).map (fun j => max (va f j) (va g j)) = row (fun t => max (va f t) (va g t)) 900 from rfl]
  simp
  obtain ⟨⟨P1, S1, mq1, mp1, mle1⟩, ⟨P2, S2, mq2, mp2, mle2⟩⟩ := mm_qp scf scg
  obtain ⟨lo, lo1, lo2, _, _⟩ := w_lower sf sg (T0 := 340) (by omega) (fun h t ht => (cross scf scg (slope_lt fp gp d3 d4 h) ht).1) (fun h t ht => (cross scg scf (slope_lt gp fp d4 d3 h) ht).1)
  obtain ⟨up, up1, up2⟩ := w_upper sf sg bf bg (T0 := 340) (by omega) (fun d df dg h t ht => (cross scf scg (slope_lt fp gp df dg h) ht).1) (fun d df dg h t ht => (cross scg scf (slope_lt gp fp dg df h) ht).1)
  have lwlo : m__law_form [.lst ((row (fun t => min (va f t) (va g t)) 900).map D.int), .int 500, .int ((f.p : Int) * g.p)] = some (cD lo) := by
    have := lawf (L := 900) (b := 500) (q := f.p * g.p) mq1 mp1 (by omega) mle1 (by omega) (by omega) lo2
    rw [Int.natCast_mul] at this
    exact this
  have lwup : m__law_form [.lst ((row (fun t => max (va f t) (va g t)) 900).map D.int), .int 500, .int ((f.p : Int) * g.p)] = some (cD up) := by
    have := lawf (L := 900) (b := 500) (q := f.p * g.p) mq2 mp2 (by omega) mle2 (by omega) (by omega) up2
    rw [Int.natCast_mul] at this
    exact this
  obtain ⟨jn, jn1, jn2, jn3, jn4⟩ := w_joined scf scg
  obtain ⟨jm, jm1, jm2, jm3, jm4⟩ := w_joined scg scf
  have jeq : jm = jn := jm2.unique (jn2.fn fun t => by rw [lc_comm g f]; omega)
  subst jeq
  obtain ⟨lj, lj1, lj2, _, _⟩ := w_least_curve jn4 (by omega) (fun t ht => by
    rw [jn2.at]
    obtain ⟨s, s1, s2, s3⟩ := Hh_ex (f := f) (g := g) (low := f.vs.length + lc f g) (t := t) (by omega)
    obtain ⟨r, r1, r2, r3⟩ := Hh_ex (f := g) (g := f) (low := g.vs.length + lc f g) (t := t) (by omega)
    have := bf s (by omega); have := bg (t - s) (by omega); have := bg r (by omega); have := bf (t - r) (by omega)
    omega)
  have ljeq : lj = jm := lj2.unique (by rw [show va jm = _ from funext jn2.at]; exact jn2)
  subst ljeq
  simp [lo1, lwlo, ne_cD, up1, lwup, jn1]
  refine iP_of ⟨by decide, by decide⟩ ?_
  obtain ⟨low, hlow⟩ : ∃ low, low = (row (fun t => min (va f t) (va g t)) 900).map D.int := ⟨_, rfl⟩
  obtain ⟨high, hhigh⟩ : ∃ high, high = (row (fun t => max (va f t) (va g t)) 900).map D.int := ⟨_, rfl⟩
  obtain ⟨made, hmade⟩ : ∃ made, made = cD lj := ⟨_, rfl⟩
  rw [← hlow, ← hhigh]
  refine wS_mono (Q := fun fl S1 cc => fl = .nx ∧ ∃ x : Sl, okSl x = true ∧ S1 = [.val (.scr ns), .cst, .val (.bl ri), .val (cD f), .val (cD g), .val (.int 900), .val (.lst ((row (va f) 900).map .int)), .val (.lst ((row (va g) 900).map .int)), .val (.int v4), .val (.int v5), .val (.int ((f.p : Int) * g.p)), .val (.int kk), .val (.lst low), .val (.lst high), .val (cD lj), x, .no, .no, .no, .no, .no, .no, .no, .no] ∧ cc = some c6) ?_ ?_
  · refine for_all (fun i S1 cc => ∃ x : Sl, okSl x = true ∧ S1 = [.val (.scr ns), .cst, .val (.bl ri), .val (cD f), .val (cD g), .val (.int 900), .val (.lst ((row (va f) 900).map .int)), .val (.lst ((row (va g) 900).map .int)), .val (.int v4), .val (.int v5), .val (.int ((f.p : Int) * g.p)), .val (.int kk), .val (.lst low), .val (.lst high), .val (cD lj), x, .no, .no, .no, .no, .no, .no, .no, .no] ∧ cc = some c6) _ 0 ⟨.no, by simp, by simp, rfl⟩ ?_ ?_
    · intro i d S1 cc hd hh
      obtain ⟨x, hx, q1, q2⟩ := hh
      rw [q1, q2]
      clear q1 q2
      obtain ⟨hi, rfl⟩ := rngC_inv hd
      have hi9 : i < 9 := hi
      obtain ⟨j, hj⟩ : ∃ j : Nat, j = i * 7 := ⟨_, rfl⟩
      rw [show (0 : Int) + (i : Int) * 7 = (j : Int) by omega]
      simp [notCst_of (okSl_c hx)]
      rw [w_at0 jn4 j (by omega)]
      simp (disch := omega) [iP_dis, sizeLine_v, rngD_len]
      rw [lc_rng (φ := fun i => .int (va f i + va g (j - i))), riD]
      rotate_left
      · intro i hi
        simp
        rw [row_l (by omega) (by omega)]
        simp
        rw [row_l (by omega) (by omega)]
        simp
      have hne : ((List.range (j + 1)).map fun i => va f i + va g (j - i)) ≠ [] := by intro h; have := congrArg List.length h; simp at this
      simp [-List.map_map]
      rw [oMin_l hne, conv_eq scf scg, jn2.at]
      simp
    · intro S1 cc hh
      obtain ⟨x, hx, q1, q2⟩ := hh
      exact ⟨rfl, x, hx, q1, q2⟩
  intro fl S1 cc hh
  obtain ⟨q0, x, hx, q1, q2⟩ := hh
  rw [q0, q1, q2, onFl_nx]
  clear q0 q1 q2
  simp [jm1, ne_cD, lj1]
  rw [iP_dis hx]
  simp (disch := omega) [iP_dis, sizeLine_v, rngD_len]
  have fl := lc_filter (g := gdN 15) (tt := dTst (dOp oGt (dIx (dVar 6) (dVar 15)) (dIx (dVar 7) (dVar 15)))) (f := dVar 15) (S := [.val (.scr ns), .cst, .val (.bl ri), .val (cD f), .val (cD g), .val (.int 900), .val (.lst ((row (va f) 900).map .int)), .val (.lst ((row (va g) 900).map .int)), .val (.int v4), .val (.int v5), .val (.int ((f.p : Int) * g.p)), .val (.int kk), .val (.lst low), .val (.lst high), .val (cD lj), .no, .no, .no, .no, .no, .no, .no, .no, .no]) (cs := some c6) (φ := fun j => decide (va g j < va f j)) (lo := 0) (List.range 900) (fun i hi => by
    rw [List.mem_range] at hi
    simp
    rw [row_l (by omega) (by omega)]
    simp
    rw [row_l (by omega) (by omega)]
    simp)
  rw [show rngD 0 900 = (List.range 900).map (fun (i : Nat) => D.int (0 + (i : Int))) from rfl, fl]
  clear fl
  obtain ⟨o, ho⟩ := FA_ex f g
  have wc := w_compared sf sg ho
  have hab : ∃ above : List D, (((List.range 900).filter fun j => decide (va g j < va f j)).map fun (i : Nat) => D.int (0 + (i : Int))) = above ∧ ((o = none ∧ above = []) ∨ ∃ t r, o = some t ∧ above = .int t :: r) := by
    refine ⟨_, rfl, ?_⟩
    cases o with
    | none => left; exact ⟨rfl, by rw [List.map_eq_nil_iff, List.filter_eq_nil_iff]; intro a _; have := ho a; simp; omega⟩
    | some t0 =>
      right
      obtain ⟨r, hr⟩ := filter_first (φ := fun j => decide (va g j < va f j)) (FA_b scf scg ho) (by have := ho.1; simp; omega) (fun i hi => by have := ho.2 i hi; simp; omega)
      rw [hr]
      exact ⟨t0, _, rfl, by simp; rfl⟩
  obtain ⟨above, hab1, hab2⟩ := hab
  rw [hab1, bD_some, onC_c, w_gN]
  simp only [atS_s, atS_z, notCst_n, onFl_nx, List.set, w_seq]
  refine wS_mono (Q := fun fl S1 cc => fl = .nx ∧ S1 = [.val (.scr ns), .cst, .val (.bl ri), .val (cD f), .val (cD g), .val (.int 900), .val (.lst ((row (va f) 900).map .int)), .val (.lst ((row (va g) 900).map .int)), .val (.int v4), .val (.int v5), .val (.int ((f.p : Int) * g.p)), .val (.int kk), .val (.lst low), .val (.lst high), .val (cD lj), x, .val (.lst above), .no, .no, .no, .no, .no, .no, .no] ∧ cc = some c6) ?_ ?_
  · rcases hab2 with ⟨q1, q2⟩ | ⟨t, r, q1, q2⟩
    · subst q1 q2
      simp [wc]
      simp (disch := omega) [iP_dis, sizeLine_v]
      rw [ne_same (ok_s s_most)]
      simp
    · subst q1 q2
      simp [wc]
      rw [show ixD (.lst (D.int t :: r)) (.int 0) = some (.int t) from ixD_l (i := 0) rfl]
      simp (disch := omega) [iP_dis, sizeLine_v]
      rw [ne_same (ok_si s_above)]
      simp
  clear hab1 hab2 wc
  intro fl S1 cc hh
  rw [hh.1, hh.2.1, hh.2.2, onFl_nx]
  clear hh
  simp (disch := omega) [iP_dis, sizeLine_v, rngD_len, hx]
  rw [lc_rng (φ := fun j => .int (va f j - va g j)), riD]
  rotate_left
  · intro j hj
    simp
    rw [row_l (by omega) (by omega)]
    simp
    rw [row_l (by omega) (by omega)]
    simp
  rw [show (List.range 900).map (fun j => va f j - va g j) = row (fun t => va f t - va g t) 900 from rfl]
  have gcd := gcds f.p (by omega) g.p (by omega) fp gp
  have gd : ((f.p : Int) * (g.p : Int)).fdiv (Nat.gcd f.p g.p : Nat) = (lc f g : Nat) := by
    rw [← d5, ← Int.natCast_mul]
    simp [Int.fdiv_eq_ediv]
  simp [cD_1]
  rw [gcd]
  have gc0 : ¬ Nat.gcd f.p g.p = 0 := by omega
  have gc1 : Nat.gcd f.p g.p < 1073741824 := by omega
  simp [gc0, gc1, gd]
  rw [row_l (by omega) (by omega)]
  simp
  rw [row_l (by omega) (by omega)]
  simp
  have fin : ri = true → ∃ res, m_delay_bound [cD f, cD g] = some res ∧ m__law_delay [cD f, cD g, .lst ((row (va f) 900).map .int), .lst ((row (va g) 900).map .int)] = some res ∧ okD res = true := fun hr => fin_eq (rif hr) (rig hr)
  have x1 := qfd 600 (by omega)
  have x2 := qgd 600 (by omega)
  rw [show (600 + (lc f g : Int)).toNat = 600 + lc f g by omega, x1, x2]
  obtain ⟨ws1, ws2⟩ := w_store sf sg
  rw [← hA, ← hB] at ws1 ws2
  have hd : va f 600 + A - (va g 600 + B) - (va f 600 - va g 600) = A - B := by omega
  rw [hd]
  refine ⟨fun hc => ?_, fun hc => ?_⟩
  · have ws := ws1 (by omega)
    simp (disch := omega) [iP_dis, sizeLine_v, ws]
    rw [ne_same (ok_sii s_grows)]
    simp
    cases ri with
    | false => simp [flD]
    | true =>
      obtain ⟨res, f1, f2, f3⟩ := fin rfl
      simp [f1, f2, eq_same f3, flD]
  · obtain ⟨u, u1, ws, u2, u3⟩ := ws2 (by omega)
    have hm4 : mx f g ≤ 4 := by unfold mx; omega
    have hne : row (fun t => va f t - va g t) 900 ≠ [] := by intro h; have := congrArg List.length h; simp [row] at this
    have hmx : maxI (row (fun t => va f t - va g t) 900) = va f u - va g u := maxI_eq (List.mem_map.mpr ⟨u, List.mem_range.mpr (by omega), rfl⟩) fun y hy => by
      obtain ⟨t, _, rfl⟩ := List.mem_map.mp hy
      exact u2 t
    have hix := idx_int (n := 900) (F := fun t => va f t - va g t) (k := 0) (j := u) (m := va f u - va g u) (by omega) (by simp) (fun i hi => by have z : va f i - va g i < va f u - va g u := u3 i hi; simp only [Nat.zero_add]; omega)
    simp only [Nat.zero_add] at hix
    rw [show (List.range 900).map (fun i => va f i - va g i) = row (fun t => va f t - va g t) 900 from rfl] at hix
    rw [oMax_l hne, hmx]
    simp
    rw [oMax_l hne, hmx]
    simp [-List.map_map, toVs_ints, toV]
    rw [hix]
    simp (disch := omega) [iP_dis, sizeLine_v, ws]
    rw [ne_same (ok_sii s_store)]
    simp
    cases ri with
    | false => simp [flD]
    | true =>
      obtain ⟨res, f1, f2, f3⟩ := fin rfl
      simp [f1, f2, eq_same f3, flD]
end K54

set_option autoImplicit true
set_option relaxedAutoImplicit true
set_option Elab.async false
set_option linter.all false
set_option maxRecDepth 100000
set_option maxHeartbeats 8000000
/-! the walk of k54; printed by gen.py -/
namespace K54
open PySem PySem.Spec PyProof.Rows L2 DL
def topS (i : Nat) : Stmt := PySem.Challenge.pw_longhours_k54_curves_by_values.main.body.getD i (.Pass ⟨0, 0, 0, 0⟩)
abbrev s_common_divisor : Stmt := topS 4
theorem sc_common_divisor : FnScope ["first", "second"] ["first", "second"] (defScope s_common_divisor) := ⟨rfl, rfl, rfl, by decide +kernel, rfl, by decide +kernel, by decide +kernel⟩
abbrev s_value_at : Stmt := topS 7
theorem sc_value_at : FnScope ["curve", "t", "values", "period", "step", "turns"] ["curve", "t"] (defScope s_value_at) := ⟨rfl, rfl, rfl, by decide +kernel, rfl, by decide +kernel, by decide +kernel⟩
abbrev s_multiple_of : Stmt := topS 8
theorem sc_multiple_of : FnScope ["f", "g", "found"] ["f", "g"] (defScope s_multiple_of) := ⟨rfl, rfl, rfl, by decide +kernel, rfl, by decide +kernel, by decide +kernel⟩
abbrev s_growth : Stmt := topS 9
theorem sc_growth : FnScope ["curve", "d"] ["curve", "d"] (defScope s_growth) := ⟨rfl, rfl, rfl, by decide +kernel, rfl, by decide +kernel, by decide +kernel⟩
abbrev s_least_period : Stmt := topS 10
theorem sc_least_period : FnScope ["differences", "period", "size", "k"] ["differences", "period"] (defScope s_least_period) := ⟨rfl, rfl, rfl, by decide +kernel, rfl, by decide +kernel, by decide +kernel⟩
abbrev s_least_curve : Stmt := topS 11
theorem sc_least_curve : FnScope ["curve", "values", "period", "step", "n", "row", "size", "more", "first", "k", "one", "two", "t"] ["curve"] (defScope s_least_curve) := ⟨rfl, rfl, rfl, by decide +kernel, rfl, by decide +kernel, by decide +kernel⟩
abbrev s_same_curve : Stmt := topS 12
theorem sc_same_curve : FnScope ["f", "g"] ["f", "g"] (defScope s_same_curve) := ⟨rfl, rfl, rfl, by decide +kernel, rfl, by decide +kernel, by decide +kernel⟩
abbrev s_first_above : Stmt := topS 13
theorem sc_first_above : FnScope ["f", "g", "d", "n", "t", "more", "found", "lack"] ["f", "g"] (defScope s_first_above) := ⟨rfl, rfl, rfl, by decide +kernel, rfl, by decide +kernel, by decide +kernel⟩
abbrev s_compared_curves : Stmt := topS 14
theorem sc_compared_curves : FnScope ["f", "g", "found"] ["f", "g"] (defScope s_compared_curves) := ⟨rfl, rfl, rfl, by decide +kernel, rfl, by decide +kernel, by decide +kernel⟩
abbrev s_store_paper : Stmt := topS 15
theorem sc_store_paper : FnScope ["f", "g", "d", "more", "best", "found", "t", "one"] ["f", "g"] (defScope s_store_paper) := ⟨rfl, rfl, rfl, by decide +kernel, rfl, by decide +kernel, by decide +kernel⟩
abbrev s_first_at_least : Stmt := topS 16
theorem sc_first_at_least : FnScope ["g", "value", "values", "period", "step", "t", "one", "n"] ["g", "value"] (defScope s_first_at_least) := ⟨rfl, rfl, rfl, by decide +kernel, rfl, by decide +kernel, by decide +kernel⟩
abbrev s_reach : Stmt := topS 18
theorem sc_reach : FnScope ["f", "g", "found"] ["f", "g"] (defScope s_reach) := ⟨rfl, rfl, rfl, by decide +kernel, rfl, by decide +kernel, by decide +kernel⟩
abbrev s_delay_bound : Stmt := topS 17
theorem sc_delay_bound : FnScope ["f", "g", "d", "n", "top", "above", "best", "found", "t", "one"] ["f", "g"] (defScope s_delay_bound) := ⟨rfl, rfl, rfl, by decide +kernel, rfl, by decide +kernel, by decide +kernel⟩
abbrev s_Pair___init__ : Stmt := inClass (topS 20) 0
theorem sc_Pair___init__ : FnScope ["self", "f", "g"] ["self", "f", "g"] (defScope s_Pair___init__) := ⟨rfl, rfl, rfl, by decide +kernel, rfl, by decide +kernel, by decide +kernel⟩
abbrev s_Pair_values : Stmt := inClass (topS 20) 1
theorem sc_Pair_values : FnScope ["self", "t"] ["self", "t"] (defScope s_Pair_values) := ⟨rfl, rfl, rfl, by decide +kernel, rfl, by decide +kernel, by decide +kernel⟩
abbrev s_Pair_settled : Stmt := inClass (topS 20) 2
theorem sc_Pair_settled : FnScope ["self", "more", "other", "first", "n", "least", "turns", "t"] ["self"] (defScope s_Pair_settled) := ⟨rfl, rfl, rfl, by decide +kernel, rfl, by decide +kernel, by decide +kernel⟩
abbrev s_sum_of : Stmt := topS 21
theorem sc_sum_of : FnScope ["f", "g", "pair", "row", "t"] ["f", "g"] (defScope s_sum_of) := ⟨rfl, rfl, rfl, by decide +kernel, rfl, by decide +kernel, by decide +kernel⟩
abbrev s_times_of : Stmt := topS 22
theorem sc_times_of : FnScope ["f", "k", "one"] ["f", "k"] (defScope s_times_of) := ⟨rfl, rfl, rfl, by decide +kernel, rfl, by decide +kernel, by decide +kernel⟩
abbrev s_lower_of : Stmt := topS 23
theorem sc_lower_of : FnScope ["f", "g", "pair", "first", "n", "d", "more", "t"] ["f", "g"] (defScope s_lower_of) := ⟨rfl, rfl, rfl, by decide +kernel, rfl, by decide +kernel, by decide +kernel⟩
abbrev s_upper_of : Stmt := topS 24
theorem sc_upper_of : FnScope ["f", "g"] ["f", "g"] (defScope s_upper_of) := ⟨rfl, rfl, rfl, by decide +kernel, rfl, by decide +kernel, by decide +kernel⟩
abbrev s_later : Stmt := topS 25
theorem sc_later : FnScope ["f", "k", "n", "t"] ["f", "k"] (defScope s_later) := ⟨rfl, rfl, rfl, by decide +kernel, rfl, by decide +kernel, by decide +kernel⟩
abbrev s_one_sided : Stmt := topS 26
theorem sc_one_sided : FnScope ["f", "g", "d", "low", "row", "t", "s"] ["f", "g", "d"] (defScope s_one_sided) := ⟨rfl, rfl, rfl, by decide +kernel, rfl, by decide +kernel, by decide +kernel⟩
abbrev s_joined : Stmt := topS 27
theorem sc_joined : FnScope ["f", "g", "d"] ["f", "g"] (defScope s_joined) := ⟨rfl, rfl, rfl, by decide +kernel, rfl, by decide +kernel, by decide +kernel⟩
abbrev s__law_start : Stmt := topS 29
theorem sc__law_start : FnScope ["script", "cell"] ["script"] (defScope s__law_start) := ⟨rfl, rfl, rfl, by decide +kernel, rfl, by decide +kernel, by decide +kernel⟩
abbrev s__law_fill : Stmt := topS 30
theorem sc__law_fill : FnScope ["c", "number"] ["c"] (defScope s__law_fill) := ⟨rfl, rfl, rfl, by decide +kernel, rfl, by decide +kernel, by decide +kernel⟩
abbrev s__law_take : Stmt := topS 31
theorem sc__law_take : FnScope ["c", "many", "digit"] ["c", "many"] (defScope s__law_take) := ⟨rfl, rfl, rfl, by decide +kernel, rfl, by decide +kernel, by decide +kernel⟩
abbrev s__law_said : Stmt := topS 32
theorem sc__law_said : FnScope ["said", "due"] ["said", "due"] (defScope s__law_said) := ⟨rfl, rfl, rfl, by decide +kernel, rfl, by decide +kernel, by decide +kernel⟩
abbrev s__law_gcd : Stmt := topS 33
theorem sc__law_gcd : FnScope ["a", "b", "turn"] ["a", "b"] (defScope s__law_gcd) := ⟨rfl, rfl, rfl, by decide +kernel, rfl, by decide +kernel, by decide +kernel⟩
abbrev s__law_curve : Stmt := topS 34
theorem sc__law_curve : FnScope ["c", "rising", "n", "period", "values", "turn", "step"] ["c", "rising"] (defScope s__law_curve) := ⟨rfl, rfl, rfl, by decide +kernel, rfl, by decide +kernel, by decide +kernel⟩
abbrev s__law_at : Stmt := topS 35
theorem sc__law_at : FnScope ["curve", "t", "values", "period", "step", "n", "turns"] ["curve", "t"] (defScope s__law_at) := ⟨rfl, rfl, rfl, by decide +kernel, rfl, by decide +kernel, by decide +kernel⟩
abbrev s__law_form : Stmt := topS 36
theorem sc__law_form : FnScope ["row", "begin", "period", "size", "step", "first", "t"] ["row", "begin", "period"] (defScope s__law_form) := ⟨rfl, rfl, rfl, by decide +kernel, rfl, by decide +kernel, by decide +kernel⟩
abbrev s__law_delay : Stmt := topS 37
theorem sc__law_delay : FnScope ["f", "g", "one", "two", "top", "best", "t", "turn", "part"] ["f", "g", "one", "two"] (defScope s__law_delay) := ⟨rfl, rfl, rfl, by decide +kernel, rfl, by decide +kernel, by decide +kernel⟩
abbrev s_law : Stmt := topS 38
theorem sc_law : FnScope ["script", "c", "rising", "f", "g", "most", "one", "two", "k", "t", "whole", "by", "low", "high", "made", "j", "above", "far", "d", "more", "due", "curve", "part", "i"] ["script"] (defScope s_law) := ⟨rfl, rfl, rfl, by decide +kernel, rfl, by decide +kernel, by decide +kernel⟩
structure Txt (K : PySem.W.Frag) (mg : Str → Option Value) (cA : Nat → Addr) (f : Nat → Addr) (fd : Nat → FuncData) : Prop where
  F_common_divisor : Fun K "common_divisor" "common_divisor" s_common_divisor (f 0) (fd 0)
  B_common_divisor : Binds K (fd 0) ["first", "second"] []
  G_common_divisor : mg "common_divisor" = some (.ref (f 0))
  F_value_at : Fun K "value_at" "value_at" s_value_at (f 1) (fd 1)
  B_value_at : Binds K (fd 1) ["curve", "t"] []
  G_value_at : mg "value_at" = some (.ref (f 1))
  F_multiple_of : Fun K "multiple_of" "multiple_of" s_multiple_of (f 2) (fd 2)
  B_multiple_of : Binds K (fd 2) ["f", "g"] []
  G_multiple_of : mg "multiple_of" = some (.ref (f 2))
  F_growth : Fun K "growth" "growth" s_growth (f 3) (fd 3)
  B_growth : Binds K (fd 3) ["curve", "d"] []
  G_growth : mg "growth" = some (.ref (f 3))
  F_least_period : Fun K "least_period" "least_period" s_least_period (f 4) (fd 4)
  B_least_period : Binds K (fd 4) ["differences", "period"] []
  G_least_period : mg "least_period" = some (.ref (f 4))
  F_least_curve : Fun K "least_curve" "least_curve" s_least_curve (f 5) (fd 5)
  B_least_curve : Binds K (fd 5) ["curve"] []
  G_least_curve : mg "least_curve" = some (.ref (f 5))
  F_same_curve : Fun K "same_curve" "same_curve" s_same_curve (f 6) (fd 6)
  B_same_curve : Binds K (fd 6) ["f", "g"] []
  G_same_curve : mg "same_curve" = some (.ref (f 6))
  F_first_above : Fun K "first_above" "first_above" s_first_above (f 7) (fd 7)
  B_first_above : Binds K (fd 7) ["f", "g"] []
  G_first_above : mg "first_above" = some (.ref (f 7))
  F_compared_curves : Fun K "compared_curves" "compared_curves" s_compared_curves (f 8) (fd 8)
  B_compared_curves : Binds K (fd 8) ["f", "g"] []
  G_compared_curves : mg "compared_curves" = some (.ref (f 8))
  F_store_paper : Fun K "store_paper" "store_paper" s_store_paper (f 9) (fd 9)
  B_store_paper : Binds K (fd 9) ["f", "g"] []
  G_store_paper : mg "store_paper" = some (.ref (f 9))
  F_first_at_least : Fun K "first_at_least" "first_at_least" s_first_at_least (f 10) (fd 10)
  B_first_at_least : Binds K (fd 10) ["g", "value"] []
  G_first_at_least : mg "first_at_least" = some (.ref (f 10))
  F_reach : Fun K "reach" "reach" s_reach (f 12) (fd 12)
  B_reach : Binds K (fd 12) ["f", "g"] []
  G_reach : mg "reach" = some (.ref (f 12))
  F_delay_bound : Fun K "delay_bound" "delay_bound" s_delay_bound (f 11) (fd 11)
  B_delay_bound : Binds K (fd 11) ["f", "g"] []
  G_delay_bound : mg "delay_bound" = some (.ref (f 11))
  F_Pair___init__ : Fun K "__init__" "Pair.__init__" s_Pair___init__ (f 13) (fd 13)
  B_Pair___init__ : Binds K (fd 13) ["self", "f", "g"] []
  F_Pair_values : Fun K "values" "Pair.values" s_Pair_values (f 14) (fd 14)
  B_Pair_values : Binds K (fd 14) ["self", "t"] []
  me_Pair_values : Meth K (cA 0) "values" (f 14)
  F_Pair_settled : Fun K "settled" "Pair.settled" s_Pair_settled (f 15) (fd 15)
  B_Pair_settled : Binds K (fd 15) ["self"] []
  me_Pair_settled : Meth K (cA 0) "settled" (f 15)
  F_sum_of : Fun K "sum_of" "sum_of" s_sum_of (f 16) (fd 16)
  B_sum_of : Binds K (fd 16) ["f", "g"] []
  G_sum_of : mg "sum_of" = some (.ref (f 16))
  F_times_of : Fun K "times_of" "times_of" s_times_of (f 17) (fd 17)
  B_times_of : Binds K (fd 17) ["f", "k"] []
  G_times_of : mg "times_of" = some (.ref (f 17))
  F_lower_of : Fun K "lower_of" "lower_of" s_lower_of (f 18) (fd 18)
  B_lower_of : Binds K (fd 18) ["f", "g"] []
  G_lower_of : mg "lower_of" = some (.ref (f 18))
  F_upper_of : Fun K "upper_of" "upper_of" s_upper_of (f 19) (fd 19)
  B_upper_of : Binds K (fd 19) ["f", "g"] []
  G_upper_of : mg "upper_of" = some (.ref (f 19))
  F_later : Fun K "later" "later" s_later (f 20) (fd 20)
  B_later : Binds K (fd 20) ["f", "k"] []
  G_later : mg "later" = some (.ref (f 20))
  F_one_sided : Fun K "one_sided" "one_sided" s_one_sided (f 21) (fd 21)
  B_one_sided : Binds K (fd 21) ["f", "g", "d"] []
  G_one_sided : mg "one_sided" = some (.ref (f 21))
  F_joined : Fun K "joined" "joined" s_joined (f 22) (fd 22)
  B_joined : Binds K (fd 22) ["f", "g"] []
  G_joined : mg "joined" = some (.ref (f 22))
  F__law_start : Fun K "_law_start" "_law_start" s__law_start (f 23) (fd 23)
  B__law_start : Binds K (fd 23) ["script"] []
  G__law_start : mg "_law_start" = some (.ref (f 23))
  F__law_fill : Fun K "_law_fill" "_law_fill" s__law_fill (f 24) (fd 24)
  B__law_fill : Binds K (fd 24) ["c"] []
  G__law_fill : mg "_law_fill" = some (.ref (f 24))
  F__law_take : Fun K "_law_take" "_law_take" s__law_take (f 25) (fd 25)
  B__law_take : Binds K (fd 25) ["c", "many"] []
  G__law_take : mg "_law_take" = some (.ref (f 25))
  F__law_said : Fun K "_law_said" "_law_said" s__law_said (f 26) (fd 26)
  B__law_said : Binds K (fd 26) ["said", "due"] []
  G__law_said : mg "_law_said" = some (.ref (f 26))
  F__law_gcd : Fun K "_law_gcd" "_law_gcd" s__law_gcd (f 27) (fd 27)
  B__law_gcd : Binds K (fd 27) ["a", "b"] []
  G__law_gcd : mg "_law_gcd" = some (.ref (f 27))
  F__law_curve : Fun K "_law_curve" "_law_curve" s__law_curve (f 28) (fd 28)
  B__law_curve : Binds K (fd 28) ["c", "rising"] []
  G__law_curve : mg "_law_curve" = some (.ref (f 28))
  F__law_at : Fun K "_law_at" "_law_at" s__law_at (f 29) (fd 29)
  B__law_at : Binds K (fd 29) ["curve", "t"] []
  G__law_at : mg "_law_at" = some (.ref (f 29))
  F__law_form : Fun K "_law_form" "_law_form" s__law_form (f 30) (fd 30)
  B__law_form : Binds K (fd 30) ["row", "begin", "period"] []
  G__law_form : mg "_law_form" = some (.ref (f 30))
  F__law_delay : Fun K "_law_delay" "_law_delay" s__law_delay (f 31) (fd 31)
  B__law_delay : Binds K (fd 31) ["f", "g", "one", "two"] []
  G__law_delay : mg "_law_delay" = some (.ref (f 31))
  F_law : Fun K "law" "law" s_law (f 32) (fd 32)
  B_law : Binds K (fd 32) ["script"] []
  G_law : mg "law" = some (.ref (f 32))
  cl_Pair : Cls K (cA 0)
  gc_Pair : mg "Pair" = some (.ref (cA 0))
  mk_Pair : Mk K (cA 0) (f 13)
  na_Pair_f : NoAttr K (cA 0) "f"
  na_Pair_g : NoAttr K (cA 0) "g"
  na_Pair_d : NoAttr K (cA 0) "d"
  na_Pair_n : NoAttr K (cA 0) "n"
  gi_MOST_VALUES : ∃ t, mg "MOST_VALUES" = some (.int 4000 t)
  z_abs : mg "abs" = none
  z_all : mg "all" = none
  z_any : mg "any" = none
  z_bool : mg "bool" = none
  z_enumerate : mg "enumerate" = none
  z_int : mg "int" = none
  z_isinstance : mg "isinstance" = none
  z_len : mg "len" = none
  z_max : mg "max" = none
  z_min : mg "min" = none
  z_range : mg "range" = none
  z_sum : mg "sum" = none
  z_tuple : mg "tuple" = none
  z_zip : mg "zip" = none
section
variable {P : Program} {w : World} {K : PySem.W.Frag} {mg : Str → Option Value} {base : Heap} {cA : Nat → Addr} {f : Nat → Addr} {fd : Nat → FuncData}
theorem ok_common_divisor (T : Txt K mg cA f fd) : FnOk P w K mg base CX0 1 (f 0) (fd 0) ["first", "second"] (spF ⟨K, cA⟩ m_common_divisor) := by
  exact fn_F (k := 0) T.F_common_divisor sc_common_divisor (b := b_common_divisor) (fun cdv A outer s H E hr => have sc := sc_common_divisor; ⟨_, (db_cons (ds_par 0 1 rfl sc.nd (da_cons (dx_abs T.z_abs (da_cons (dx_var 0) da_nil)) (da_cons (dx_abs T.z_abs (da_cons (dx_var 1) da_nil)) da_nil)))
  (db_cons (ds_while 20000 PassesOwn.never (dt_ne hr.units (dx_var 1) dx_int) (db_one (ds_par 0 1 rfl sc.nd (da_cons (dx_var 1) (da_cons (dx_mod (dx_var 0) (dx_var 1)) da_nil)))))
  (db_one (ds_ret (dx_var 0)))))⟩)
theorem ok_value_at (T : Txt K mg cA f fd) : FnOk P w K mg base CX0 1 (f 1) (fd 1) ["curve", "t"] (spF ⟨K, cA⟩ m_value_at) := by
  exact fn_F (k := 0) T.F_value_at sc_value_at (b := b_value_at) (fun cdv A outer s H E hr => have sc := sc_value_at; ⟨_, (db_cons (ds_asg (dg_tup 3 rfl (dgs_cons (dg_name 2 sc.nd) (dgs_cons (dg_name 3 sc.nd) (dgs_cons (dg_name 4 sc.nd) dgs_nil)))) (dx_var 0))
  (db_cons (ds_if (dt_lt (dx_var 1) (dx_len T.z_len (da_cons (dx_var 2) da_nil))) (db_one (ds_ret (dx_ix (dx_var 2) (dx_var 1)))) db_nil)
  (db_cons (ds_set 5 sc.nd (dx_add (dx_fdiv (dx_sub (dx_var 1) (dx_len T.z_len (da_cons (dx_var 2) da_nil))) (dx_var 3)) dx_int))
  (db_one (ds_ret (dx_add (dx_ix (dx_var 2) (dx_sub (dx_var 1) (dx_mul (dx_var 5) (dx_var 3)))) (dx_mul (dx_var 5) (dx_var 4))))))))⟩)
theorem ok_multiple_of (T : Txt K mg cA f fd) : FnOk P w K mg base CX0 2 (f 2) (fd 2) ["f", "g"] (spF ⟨K, cA⟩ m_multiple_of) := by
  obtain ⟨t_MOST_VALUES, h_MOST_VALUES⟩ := T.gi_MOST_VALUES
  exact fn_F (k := 1) T.F_multiple_of sc_multiple_of (b := b_multiple_of) (fun cdv A outer s H E hr => have sc := sc_multiple_of; ⟨_, (db_cons (ds_set 2 sc.nd (dx_fdiv (dx_mul (dx_ix (dx_var 0) dx_int) (dx_ix (dx_var 1) dx_int)) (dx_call (ok_common_divisor T) hr T.G_common_divisor T.F_common_divisor.kp T.B_common_divisor (da_cons (dx_ix (dx_var 0) dx_int) (da_cons (dx_ix (dx_var 1) dx_int) da_nil)))))
  (db_cons (ds_if (dt_gt (dx_var 2) (dx_gint h_MOST_VALUES)) (db_one ds_never) db_nil)
  (db_one (ds_ret (dx_var 2)))))⟩)
theorem ok_growth (T : Txt K mg cA f fd) : FnOk P w K mg base CX0 1 (f 3) (fd 3) ["curve", "d"] (spF ⟨K, cA⟩ m_growth) := by
  exact fn_F (k := 0) T.F_growth sc_growth (b := b_growth) (fun cdv A outer s H E hr => have sc := sc_growth; ⟨_, (db_one (ds_ret (dx_mul (dx_fdiv (dx_var 1) (dx_ix (dx_var 0) dx_int)) (dx_ix (dx_var 0) dx_int))))⟩)
theorem ok_least_period (T : Txt K mg cA f fd) : FnOk P w K mg base CX0 1 (f 4) (fd 4) ["differences", "period"] (spF ⟨K, cA⟩ m_least_period) := by
  exact fn_F (k := 0) T.F_least_period sc_least_period (b := b_least_period) (fun cdv A outer s H E hr => have sc := sc_least_period; ⟨_, (db_cons (ds_for PassesOwn.never rfl (di_rng2 T.z_range (da_cons dx_int (da_cons (dx_add (dx_var 1) dx_int) da_nil))) (dg_name 2 sc.nd) (db_one (ds_if (dw_and (dt_eq hr.units (dx_mod (dx_var 1) (dx_var 2)) dx_int) (dw_and1 (dt_tru (dx_all rfl T.z_all (da_cons (df_lc [("k", 3)] rfl sc.nd (di_rng1 T.z_range (da_cons (dx_var 1) da_nil)) (blkOk_by (by kernel_rfl)) (fun _ _ _ _ _ => (dg_name 3 sc.nd)) (by decide) (fun _ _ _ _ _ => dts_nil) (fun _ _ _ _ _ => (dx_eq hr.units (dx_ix (dx_var 0) (dx_var 3)) (dx_ix (dx_var 0) (dx_mod (dx_var 3) (dx_var 2)))))).fz da_nil))))).tst (db_one (ds_ret (dx_var 2))) db_nil)))
  (db_one (ds_ret (dx_var 1))))⟩)
theorem ok_least_curve (T : Txt K mg cA f fd) : FnOk P w K mg base CX0 2 (f 5) (fd 5) ["curve"] (spF ⟨K, cA⟩ m_least_curve) := by
  obtain ⟨t_MOST_VALUES, h_MOST_VALUES⟩ := T.gi_MOST_VALUES
  exact fn_F (k := 1) T.F_least_curve sc_least_curve (b := b_least_curve) (fun cdv A outer s H E hr => have sc := sc_least_curve; ⟨_, (db_cons (ds_asg (dg_tup 3 rfl (dgs_cons (dg_name 1 sc.nd) (dgs_cons (dg_name 2 sc.nd) (dgs_cons (dg_name 3 sc.nd) dgs_nil)))) (dx_var 0))
  (db_cons (ds_set 4 sc.nd (dx_len T.z_len (da_cons (dx_var 1) da_nil)))
  (db_cons (ds_lc 5 [("k", 9)] rfl sc.nd (di_rng1 T.z_range (da_cons (dx_add (dx_var 2) dx_int) da_nil)) (blkOk_by (by kernel_rfl)) (fun _ _ _ _ _ => (dg_name 9 sc.nd)) (by decide) (fun _ _ _ _ _ => dts_nil) (fun _ _ _ _ _ => (dx_call (ok_value_at T) hr T.G_value_at T.F_value_at.kp T.B_value_at (da_cons (dx_var 0) (da_cons (dx_add (dx_sub (dx_var 4) (dx_var 2)) (dx_var 9)) da_nil)))))
  (db_cons (ds_set 6 sc.nd (dx_call (ok_least_period T) hr T.G_least_period T.F_least_period.kp T.B_least_period (da_cons (df_lc [("one", 10), ("two", 11)] rfl sc.nd (di_zip T.z_zip (da_cons (dx_var 5) (da_cons (df_sl (dx_var 5) (do_some dx_int) do_none).fz da_nil))) (blkOk_by (by kernel_rfl)) (fun _ _ _ _ _ => (dg_tup 2 rfl (dgs_cons (dg_name 10 sc.nd) (dgs_cons (dg_name 11 sc.nd) dgs_nil)))) (by decide) (fun _ _ _ _ _ => dts_nil) (fun _ _ _ _ _ => (dx_sub (dx_var 11) (dx_var 10)))).fz (da_cons (dx_var 2) da_nil))))
  (db_cons (ds_set 7 sc.nd (dx_sub (dx_ix (dx_var 5) (dx_var 6)) (dx_ix (dx_var 5) dx_int)))
  (db_cons (ds_set 8 sc.nd (dx_sub (dx_var 4) (dx_var 2)))
  (db_cons (ds_while 20000 PassesOwn.never (dw_and (dt_gt (dx_var 8) dx_int) (dw_and1 (dt_eq hr.units (dx_add (dx_ix (dx_var 1) (dx_sub (dx_var 8) dx_int)) (dx_var 7)) (dx_call (ok_value_at T) hr T.G_value_at T.F_value_at.kp T.B_value_at (da_cons (dx_var 0) (da_cons (dx_add (dx_sub (dx_var 8) dx_int) (dx_var 6)) da_nil)))))).tst (db_one (ds_augS 8 sc.nd dx_int)))
  (db_cons (ds_if (dt_gt (dx_add (dx_var 8) (dx_var 6)) (dx_gint h_MOST_VALUES)) (db_one ds_never) db_nil)
  (db_one (ds_ret (dx_tup (da_cons (dx_totup T.z_tuple (da_cons (df_lc [("t", 12)] rfl sc.nd (di_rng1 T.z_range (da_cons (dx_add (dx_var 8) (dx_var 6)) da_nil)) (blkOk_by (by kernel_rfl)) (fun _ _ _ _ _ => (dg_name 12 sc.nd)) (by decide) (fun _ _ _ _ _ => dts_nil) (fun _ _ _ _ _ => (dx_call (ok_value_at T) hr T.G_value_at T.F_value_at.kp T.B_value_at (da_cons (dx_var 0) (da_cons (dx_var 12) da_nil))))).fz da_nil)) (da_cons (dx_var 6) (da_cons (dx_var 7) da_nil))))))))))))))⟩)
theorem ok_same_curve (T : Txt K mg cA f fd) : FnOk P w K mg base CX0 3 (f 6) (fd 6) ["f", "g"] (spF ⟨K, cA⟩ m_same_curve) := by
  exact fn_F (k := 2) T.F_same_curve sc_same_curve (b := b_same_curve) (fun cdv A outer s H E hr => have sc := sc_same_curve; ⟨_, (db_one (ds_ret (dx_eq hr.units (dx_call (ok_least_curve T) hr T.G_least_curve T.F_least_curve.kp T.B_least_curve (da_cons (dx_var 0) da_nil)) (dx_call (ok_least_curve T) hr T.G_least_curve T.F_least_curve.kp T.B_least_curve (da_cons (dx_var 1) da_nil)))))⟩)
theorem ok_first_above (T : Txt K mg cA f fd) : FnOk P w K mg base CX0 3 (f 7) (fd 7) ["f", "g"] (spF ⟨K, cA⟩ m_first_above) := by
  exact fn_F (k := 2) T.F_first_above sc_first_above (b := b_first_above) (fun cdv A outer s H E hr => have sc := sc_first_above; ⟨_, (db_cons (ds_set 2 sc.nd (dx_call (ok_multiple_of T) hr T.G_multiple_of T.F_multiple_of.kp T.B_multiple_of (da_cons (dx_var 0) (da_cons (dx_var 1) da_nil))))
  (db_cons (ds_set 3 sc.nd (dx_max rfl T.z_max (da_cons (dx_len T.z_len (da_cons (dx_ix (dx_var 0) dx_int) da_nil)) (da_cons (dx_len T.z_len (da_cons (dx_ix (dx_var 1) dx_int) da_nil)) da_nil))))
  (db_cons (ds_for PassesOwn.never rfl (di_rng1 T.z_range (da_cons (dx_add (dx_var 3) (dx_var 2)) da_nil)) (dg_name 4 sc.nd) (db_one (ds_if (dt_gt (dx_call (ok_value_at T) (hr.mono (by decide)) T.G_value_at T.F_value_at.kp T.B_value_at (da_cons (dx_var 0) (da_cons (dx_var 4) da_nil))) (dx_call (ok_value_at T) (hr.mono (by decide)) T.G_value_at T.F_value_at.kp T.B_value_at (da_cons (dx_var 1) (da_cons (dx_var 4) da_nil)))) (db_one (ds_ret (dx_var 4))) db_nil)))
  (db_cons (ds_set 5 sc.nd (dx_sub (dx_call (ok_growth T) (hr.mono (by decide)) T.G_growth T.F_growth.kp T.B_growth (da_cons (dx_var 0) (da_cons (dx_var 2) da_nil))) (dx_call (ok_growth T) (hr.mono (by decide)) T.G_growth T.F_growth.kp T.B_growth (da_cons (dx_var 1) (da_cons (dx_var 2) da_nil)))))
  (db_cons (ds_if (dt_le (dx_var 5) dx_int) (db_one (ds_ret dx_non)) db_nil)
  (db_cons (ds_own 6 sc.nd (df_lst da_nil))
  (db_cons (ds_for PassesOwn.never rfl (di_rng2 T.z_range (da_cons (dx_var 3) (da_cons (dx_add (dx_var 3) (dx_var 2)) da_nil))) (dg_name 4 sc.nd) (db_cons (ds_set 7 sc.nd (dx_sub (dx_call (ok_value_at T) (hr.mono (by decide)) T.G_value_at T.F_value_at.kp T.B_value_at (da_cons (dx_var 1) (da_cons (dx_var 4) da_nil))) (dx_call (ok_value_at T) (hr.mono (by decide)) T.G_value_at T.F_value_at.kp T.B_value_at (da_cons (dx_var 0) (da_cons (dx_var 4) da_nil)))))
  (db_one (ds_append 6 (dx_add (dx_var 4) (dx_mul (dx_add (dx_fdiv (dx_var 7) (dx_var 5)) dx_int) (dx_var 2)))))))
  (db_one (ds_ret (dx_min rfl T.z_min (da_cons (dx_var 6) da_nil)))))))))))⟩)
theorem ok_compared_curves (T : Txt K mg cA f fd) : FnOk P w K mg base CX0 4 (f 8) (fd 8) ["f", "g"] (spF ⟨K, cA⟩ m_compared_curves) := by
  exact fn_F (k := 3) T.F_compared_curves sc_compared_curves (b := b_compared_curves) (fun cdv A outer s H E hr => have sc := sc_compared_curves; ⟨_, (db_cons (ds_set 2 sc.nd (dx_call (ok_first_above T) hr T.G_first_above T.F_first_above.kp T.B_first_above (da_cons (dx_var 0) (da_cons (dx_var 1) da_nil))))
  (db_one (ds_ret (dx_if (dt_is (dx_var 2) dx_non) (dx_tup (da_cons dx_str da_nil)) (dx_tup (da_cons dx_str (da_cons (dx_var 2) da_nil)))))))⟩)
theorem ok_store_paper (T : Txt K mg cA f fd) : FnOk P w K mg base CX0 3 (f 9) (fd 9) ["f", "g"] (spF ⟨K, cA⟩ m_store_paper) := by
  exact fn_F (k := 2) T.F_store_paper sc_store_paper (b := b_store_paper) (fun cdv A outer s H E hr => have sc := sc_store_paper; ⟨_, (db_cons (ds_set 2 sc.nd (dx_call (ok_multiple_of T) hr T.G_multiple_of T.F_multiple_of.kp T.B_multiple_of (da_cons (dx_var 0) (da_cons (dx_var 1) da_nil))))
  (db_cons (ds_set 3 sc.nd (dx_sub (dx_call (ok_growth T) (hr.mono (by decide)) T.G_growth T.F_growth.kp T.B_growth (da_cons (dx_var 0) (da_cons (dx_var 2) da_nil))) (dx_call (ok_growth T) (hr.mono (by decide)) T.G_growth T.F_growth.kp T.B_growth (da_cons (dx_var 1) (da_cons (dx_var 2) da_nil)))))
  (db_cons (ds_if (dt_gt (dx_var 3) dx_int) (db_one (ds_ret (dx_tup (da_cons dx_str (da_cons (dx_var 2) (da_cons (dx_var 3) da_nil)))))) db_nil)
  (db_cons (ds_asg (dg_tup 2 rfl (dgs_cons (dg_name 4 sc.nd) (dgs_cons (dg_name 5 sc.nd) dgs_nil))) (dx_tup (da_cons dx_non (da_cons dx_non da_nil))))
  (db_cons (ds_for PassesOwn.never rfl (di_rng1 T.z_range (da_cons (dx_add (dx_max rfl T.z_max (da_cons (dx_len T.z_len (da_cons (dx_ix (dx_var 0) dx_int) da_nil)) (da_cons (dx_len T.z_len (da_cons (dx_ix (dx_var 1) dx_int) da_nil)) da_nil))) (dx_var 2)) da_nil)) (dg_name 6 sc.nd) (db_cons (ds_set 7 sc.nd (dx_sub (dx_call (ok_value_at T) (hr.mono (by decide)) T.G_value_at T.F_value_at.kp T.B_value_at (da_cons (dx_var 0) (da_cons (dx_var 6) da_nil))) (dx_call (ok_value_at T) (hr.mono (by decide)) T.G_value_at T.F_value_at.kp T.B_value_at (da_cons (dx_var 1) (da_cons (dx_var 6) da_nil)))))
  (db_one (ds_if (dw_or (dt_is (dx_var 4) dx_non) (dw_or1 (dt_gt (dx_var 7) (dx_var 4)))).tst (db_one (ds_par 4 5 rfl sc.nd (da_cons (dx_var 7) (da_cons (dx_var 6) da_nil)))) db_nil))))
  (db_one (ds_ret (dx_tup (da_cons dx_str (da_cons (dx_var 4) (da_cons (dx_var 5) da_nil)))))))))))⟩)
theorem ok_first_at_least (T : Txt K mg cA f fd) : FnOk P w K mg base CX0 2 (f 10) (fd 10) ["g", "value"] (spF ⟨K, cA⟩ m_first_at_least) := by
  exact fn_F (k := 1) T.F_first_at_least sc_first_at_least (b := b_first_at_least) (fun cdv A outer s H E hr => have sc := sc_first_at_least; ⟨_, (db_cons (ds_asg (dg_tup 3 rfl (dgs_cons (dg_name 2 sc.nd) (dgs_cons (dg_name 3 sc.nd) (dgs_cons (dg_name 4 sc.nd) dgs_nil)))) (dx_var 0))
  (db_cons (ds_for PassesOwn.never rfl (di_enum T.z_enumerate (da_cons (dx_var 2) da_nil)) (dg_tup 2 rfl (dgs_cons (dg_name 5 sc.nd) (dgs_cons (dg_name 6 sc.nd) dgs_nil))) (db_one (ds_if (dt_ge (dx_var 6) (dx_var 1)) (db_one (ds_ret (dx_var 5))) db_nil)))
  (db_cons (ds_if (dt_eq hr.units (dx_var 4) dx_int) (db_one (ds_ret dx_non)) db_nil)
  (db_cons (ds_set 7 sc.nd (dx_len T.z_len (da_cons (dx_var 2) da_nil)))
  (db_cons (ds_set 5 sc.nd (dx_add (dx_var 7) (dx_mul (dx_fdiv (dx_sub (dx_sub (dx_var 1) (dx_ix (dx_var 2) (dx_neg dx_int))) dx_int) (dx_var 4)) (dx_var 3))))
  (db_cons (ds_while 20000 PassesOwn.never (dt_lt (dx_call (ok_value_at T) hr T.G_value_at T.F_value_at.kp T.B_value_at (da_cons (dx_var 0) (da_cons (dx_var 5) da_nil))) (dx_var 1)) (db_one (ds_augA 5 sc.nd dx_int)))
  (db_one (ds_ret (dx_var 5)))))))))⟩)
theorem ok_reach (T : Txt K mg cA f fd) : FnOk P w K mg base CX0 3 (f 12) (fd 12) ["f", "g"] (spF ⟨K, cA⟩ m_reach) := by
  exact fn_F (k := 2) T.F_reach sc_reach (b := b_reach) (fun cdv A outer s H E hr => have sc := sc_reach; ⟨_, (db_cons (ds_set 2 sc.nd (dx_call (ok_first_at_least T) hr T.G_first_at_least T.F_first_at_least.kp T.B_first_at_least (da_cons (dx_var 0) (da_cons (dx_ix (dx_ix (dx_var 1) dx_int) (dx_neg dx_int)) da_nil))))
  (db_one (ds_ret (dx_if (dt_is (dx_var 2) dx_non) dx_int (dx_var 2)))))⟩)
theorem ok_delay_bound (T : Txt K mg cA f fd) : FnOk P w K mg base CX0 4 (f 11) (fd 11) ["f", "g"] (spF ⟨K, cA⟩ m_delay_bound) := by
  exact fn_F (k := 3) T.F_delay_bound sc_delay_bound (b := b_delay_bound) (fun cdv A outer s H E hr => have sc := sc_delay_bound; ⟨_, (db_cons (ds_set 2 sc.nd (dx_call (ok_multiple_of T) (hr.mono (by decide)) T.G_multiple_of T.F_multiple_of.kp T.B_multiple_of (da_cons (dx_var 0) (da_cons (dx_var 1) da_nil))))
  (db_cons (ds_set 3 sc.nd (dx_add (dx_len T.z_len (da_cons (dx_ix (dx_var 0) dx_int) da_nil)) (dx_len T.z_len (da_cons (dx_ix (dx_var 1) dx_int) da_nil))))
  (db_cons (ds_if (dt_eq hr.units (dx_ix (dx_var 1) dx_int) dx_int) (db_cons (ds_set 4 sc.nd (dx_ix (dx_ix (dx_var 1) dx_int) (dx_neg dx_int)))
  (db_cons (ds_set 5 sc.nd (dx_call (ok_first_at_least T) (hr.mono (by decide)) T.G_first_at_least T.F_first_at_least.kp T.B_first_at_least (da_cons (dx_var 0) (da_cons (dx_add (dx_var 4) dx_int) da_nil))))
  (db_one (ds_if (dt_isnot (dx_var 5) dx_non) (db_one (ds_ret (dx_tup (da_cons dx_str (da_cons (dx_var 5) da_nil))))) db_nil)))) db_nil)
  (db_cons (ds_if (dt_gt (dx_call (ok_growth T) (hr.mono (by decide)) T.G_growth T.F_growth.kp T.B_growth (da_cons (dx_var 0) (da_cons (dx_var 2) da_nil))) (dx_call (ok_growth T) (hr.mono (by decide)) T.G_growth T.F_growth.kp T.B_growth (da_cons (dx_var 1) (da_cons (dx_var 2) da_nil)))) (db_one (ds_ret (dx_tup (da_cons dx_str da_nil)))) db_nil)
  (db_cons (ds_asg (dg_tup 2 rfl (dgs_cons (dg_name 6 sc.nd) (dgs_cons (dg_name 7 sc.nd) dgs_nil))) (dx_tup (da_cons dx_int (da_cons dx_non da_nil))))
  (db_cons (ds_for PassesOwn.never rfl (di_rng1 T.z_range (da_cons (dx_add (dx_add (dx_var 3) (dx_call (ok_reach T) hr T.G_reach T.F_reach.kp T.B_reach (da_cons (dx_var 0) (da_cons (dx_var 1) da_nil)))) (dx_mul dx_int (dx_var 2))) da_nil)) (dg_name 8 sc.nd) (db_cons (ds_set 9 sc.nd (dx_sub (dx_call (ok_first_at_least T) (hr.mono (by decide)) T.G_first_at_least T.F_first_at_least.kp T.B_first_at_least (da_cons (dx_var 1) (da_cons (dx_call (ok_value_at T) (hr.mono (by decide)) T.G_value_at T.F_value_at.kp T.B_value_at (da_cons (dx_var 0) (da_cons (dx_var 8) da_nil))) da_nil))) (dx_var 8)))
  (db_one (ds_if (dt_gt (dx_var 9) (dx_var 6)) (db_one (ds_par 6 7 rfl sc.nd (da_cons (dx_var 9) (da_cons (dx_var 8) da_nil)))) db_nil))))
  (db_one (ds_ret (dx_tup (da_cons dx_str (da_cons (dx_var 6) (da_cons (dx_var 7) da_nil))))))))))))⟩)
theorem ok_Pair___init__ (T : Txt K mg cA f fd) : FnOk P w K mg base CX0 3 (f 13) (fd 13) ["self", "f", "g"] (spC ⟨K, cA⟩ m_Pair___init__) := by
  exact fn_C (k := 2) T.F_Pair___init__ sc_Pair___init__ (b := b_Pair___init__) (fun cdv A outer s H E hr => have sc := sc_Pair___init__; ⟨_, (db_cons (ds_fld 0 T.cl_Pair T.na_Pair_f (dx_var 1))
  (db_cons (ds_fld 0 T.cl_Pair T.na_Pair_g (dx_var 2))
  (db_cons (ds_fld 0 T.cl_Pair T.na_Pair_d (dx_call (ok_multiple_of T) hr T.G_multiple_of T.F_multiple_of.kp T.B_multiple_of (da_cons (dx_var 1) (da_cons (dx_var 2) da_nil))))
  (db_one (ds_fld 0 T.cl_Pair T.na_Pair_n (dx_max rfl T.z_max (da_cons (dx_len T.z_len (da_cons (dx_ix (dx_var 1) dx_int) da_nil)) (da_cons (dx_len T.z_len (da_cons (dx_ix (dx_var 2) dx_int) da_nil)) da_nil))))))))⟩)
theorem ok_Pair_values (T : Txt K mg cA f fd) : FnOk P w K mg base CX0 2 (f 14) (fd 14) ["self", "t"] (spF ⟨K, cA⟩ m_Pair_values) := by
  exact fn_F (k := 1) T.F_Pair_values sc_Pair_values (b := b_Pair_values) (fun cdv A outer s H E hr => have sc := sc_Pair_values; ⟨_, (db_one (ds_ret (dx_tup (da_cons (dx_call (ok_value_at T) hr T.G_value_at T.F_value_at.kp T.B_value_at (da_cons (dx_fld T.cl_Pair T.na_Pair_f (dx_var 0)) (da_cons (dx_var 1) da_nil))) (da_cons (dx_call (ok_value_at T) hr T.G_value_at T.F_value_at.kp T.B_value_at (da_cons (dx_fld T.cl_Pair T.na_Pair_g (dx_var 0)) (da_cons (dx_var 1) da_nil))) da_nil)))))⟩)
theorem ok_Pair_settled (T : Txt K mg cA f fd) : ∀ n : Nat, FnOk P w K mg base CX0 (5 + n) (f 15) (fd 15) ["self"] (spF ⟨K, cA⟩ (m_Pair_settled n))
  | 0 => fn_none (k := 4) T.F_Pair_settled sc_Pair_settled
  | n + 1 => by
    have ih := ok_Pair_settled T n
    exact fn_F (k := 5 + n) T.F_Pair_settled sc_Pair_settled (b := b_Pair_settled (fun _ => m_Pair_settled n) n) (fun cdv A outer s H E hr => have sc := sc_Pair_settled; ⟨_, (db_cons (ds_set 1 sc.nd (dx_sub (dx_call (ok_growth T) (hr.mono (by omega)) T.G_growth T.F_growth.kp T.B_growth (da_cons (dx_fld T.cl_Pair T.na_Pair_g (dx_var 0)) (da_cons (dx_fld T.cl_Pair T.na_Pair_d (dx_var 0)) da_nil))) (dx_call (ok_growth T) (hr.mono (by omega)) T.G_growth T.F_growth.kp T.B_growth (da_cons (dx_fld T.cl_Pair T.na_Pair_f (dx_var 0)) (da_cons (dx_fld T.cl_Pair T.na_Pair_d (dx_var 0)) da_nil)))))
  (db_cons (ds_if (dt_lt (dx_var 1) dx_int) (db_cons (ds_set 2 sc.nd (dx_make T.mk_Pair (ok_Pair___init__ T) (hr.mono (by omega)) T.gc_Pair T.B_Pair___init__ (da_cons (dx_fld T.cl_Pair T.na_Pair_g (dx_var 0)) (da_cons (dx_fld T.cl_Pair T.na_Pair_f (dx_var 0)) da_nil))))
  (db_cons (ds_asg (dg_tup 2 rfl (dgs_cons (dg_name 3 sc.nd) (dgs_cons (dg_name 4 sc.nd) dgs_nil))) (dx_meth0 T.cl_Pair T.me_Pair_settled ih hr T.B_Pair_settled (dx_var 2)))
  (db_one (ds_ret (dx_tup (da_cons (dx_var 3) (da_cons (dx_var 4) da_nil))))))) db_nil)
  (db_cons (ds_if (dt_eq hr.units (dx_var 1) dx_int) (db_one (ds_ret (dx_tup (da_cons dx_non (da_cons (dx_fld T.cl_Pair T.na_Pair_n (dx_var 0)) da_nil))))) db_nil)
  (db_cons (ds_set 5 sc.nd (dx_min rfl T.z_min (da_cons (df_lc [("t", 7)] rfl sc.nd (di_rng2 T.z_range (da_cons (dx_fld T.cl_Pair T.na_Pair_n (dx_var 0)) (da_cons (dx_add (dx_fld T.cl_Pair T.na_Pair_n (dx_var 0)) (dx_fld T.cl_Pair T.na_Pair_d (dx_var 0))) da_nil))) (blkOk_by (by kernel_rfl)) (fun _ _ _ _ _ => (dg_name 7 sc.nd)) (by decide) (fun _ _ _ _ _ => dts_nil) (fun _ _ _ _ _ => (dx_sub (dx_call (ok_value_at T) (hr.mono (by omega)) T.G_value_at T.F_value_at.kp T.B_value_at (da_cons (dx_fld T.cl_Pair T.na_Pair_g (dx_var 0)) (da_cons (dx_var 7) da_nil))) (dx_call (ok_value_at T) (hr.mono (by omega)) T.G_value_at T.F_value_at.kp T.B_value_at (da_cons (dx_fld T.cl_Pair T.na_Pair_f (dx_var 0)) (da_cons (dx_var 7) da_nil)))))).fz da_nil)))
  (db_cons (ds_set 6 sc.nd (dx_max rfl T.z_max (da_cons dx_int (da_cons (dx_neg (dx_fdiv (dx_var 5) (dx_var 1))) da_nil))))
  (db_one (ds_ret (dx_tup (da_cons (dx_fld T.cl_Pair T.na_Pair_f (dx_var 0)) (da_cons (dx_add (dx_fld T.cl_Pair T.na_Pair_n (dx_var 0)) (dx_mul (dx_var 6) (dx_fld T.cl_Pair T.na_Pair_d (dx_var 0)))) da_nil))))))))))⟩)
theorem ok_sum_of (T : Txt K mg cA f fd) : FnOk P w K mg base CX0 5 (f 16) (fd 16) ["f", "g"] (spF ⟨K, cA⟩ m_sum_of) := by
  exact fn_F (k := 4) T.F_sum_of sc_sum_of (b := b_sum_of) (fun cdv A outer s H E hr => have sc := sc_sum_of; ⟨_, (db_cons (ds_set 2 sc.nd (dx_make T.mk_Pair (ok_Pair___init__ T) hr T.gc_Pair T.B_Pair___init__ (da_cons (dx_var 0) (da_cons (dx_var 1) da_nil))))
  (db_cons (ds_lc 3 [("t", 4)] rfl sc.nd (di_rng1 T.z_range (da_cons (dx_add (dx_fld T.cl_Pair T.na_Pair_n (dx_var 2)) (dx_fld T.cl_Pair T.na_Pair_d (dx_var 2))) da_nil)) (blkOk_by (by kernel_rfl)) (fun _ _ _ _ _ => (dg_name 4 sc.nd)) (by decide) (fun _ _ _ _ _ => dts_nil) (fun _ _ _ _ _ => (dx_sum rfl T.z_sum (da_cons (dx_meth T.cl_Pair T.me_Pair_values (ok_Pair_values T) (hr.mono (by decide)) T.B_Pair_values (dx_var 2) (da_cons (dx_var 4) da_nil)) da_nil))))
  (db_one (ds_ret (dx_call (ok_least_curve T) (hr.mono (by decide)) T.G_least_curve T.F_least_curve.kp T.B_least_curve (da_cons (dx_tup (da_cons (dx_totup T.z_tuple (da_cons (dx_var 3) da_nil)) (da_cons (dx_fld T.cl_Pair T.na_Pair_d (dx_var 2)) (da_cons (dx_add (dx_call (ok_growth T) (hr.mono (by decide)) T.G_growth T.F_growth.kp T.B_growth (da_cons (dx_var 0) (da_cons (dx_fld T.cl_Pair T.na_Pair_d (dx_var 2)) da_nil))) (dx_call (ok_growth T) (hr.mono (by decide)) T.G_growth T.F_growth.kp T.B_growth (da_cons (dx_var 1) (da_cons (dx_fld T.cl_Pair T.na_Pair_d (dx_var 2)) da_nil)))) da_nil)))) da_nil))))))⟩)
theorem ok_times_of (T : Txt K mg cA f fd) : FnOk P w K mg base CX0 3 (f 17) (fd 17) ["f", "k"] (spF ⟨K, cA⟩ m_times_of) := by
  exact fn_F (k := 2) T.F_times_of sc_times_of (b := b_times_of) (fun cdv A outer s H E hr => have sc := sc_times_of; ⟨_, (db_one (ds_ret (dx_call (ok_least_curve T) hr T.G_least_curve T.F_least_curve.kp T.B_least_curve (da_cons (dx_tup (da_cons (dx_totup T.z_tuple (da_cons (df_lc [("one", 2)] rfl sc.nd (di_seq (dx_ix (dx_var 0) dx_int)) (blkOk_by (by kernel_rfl)) (fun _ _ _ _ _ => (dg_name 2 sc.nd)) (by decide) (fun _ _ _ _ _ => dts_nil) (fun _ _ _ _ _ => (dx_mul (dx_var 1) (dx_var 2)))).fz da_nil)) (da_cons (dx_ix (dx_var 0) dx_int) (da_cons (dx_mul (dx_var 1) (dx_ix (dx_var 0) dx_int)) da_nil)))) da_nil))))⟩)
theorem ok_lower_of (T : Txt K mg cA f fd) : FnOk P w K mg base CX0 9 (f 18) (fd 18) ["f", "g"] (spF ⟨K, cA⟩ m_lower_of) := by
  obtain ⟨t_MOST_VALUES, h_MOST_VALUES⟩ := T.gi_MOST_VALUES
  exact fn_F (k := 8) T.F_lower_of sc_lower_of (b := b_lower_of) (fun cdv A outer s H E hr => have sc := sc_lower_of; ⟨_, (db_cons (ds_set 2 sc.nd (dx_make T.mk_Pair (ok_Pair___init__ T) (hr.mono (by decide)) T.gc_Pair T.B_Pair___init__ (da_cons (dx_var 0) (da_cons (dx_var 1) da_nil))))
  (db_cons (ds_asg (dg_tup 2 rfl (dgs_cons (dg_name 3 sc.nd) (dgs_cons (dg_name 4 sc.nd) dgs_nil))) (dx_meth0 T.cl_Pair T.me_Pair_settled (ok_Pair_settled T 3) hr T.B_Pair_settled (dx_var 2)))
  (db_cons (ds_set 5 sc.nd (dx_if (dt_is (dx_var 3) dx_non) (dx_fld T.cl_Pair T.na_Pair_d (dx_var 2)) (dx_ix (dx_var 3) dx_int)))
  (db_cons (ds_set 6 sc.nd (dx_if (dt_is (dx_var 3) dx_non) (dx_call (ok_growth T) (hr.mono (by decide)) T.G_growth T.F_growth.kp T.B_growth (da_cons (dx_var 0) (da_cons (dx_var 5) da_nil))) (dx_ix (dx_var 3) dx_int)))
  (db_cons (ds_if (dt_gt (dx_sub (dx_var 4) (dx_fld T.cl_Pair T.na_Pair_d (dx_var 2))) (dx_gint h_MOST_VALUES)) (db_one ds_never) db_nil)
  (db_one (ds_ret (dx_call (ok_least_curve T) (hr.mono (by decide)) T.G_least_curve T.F_least_curve.kp T.B_least_curve (da_cons (dx_tup (da_cons (dx_totup T.z_tuple (da_cons (df_lc [("t", 7)] rfl sc.nd (di_rng1 T.z_range (da_cons (dx_add (dx_var 4) (dx_var 5)) da_nil)) (blkOk_by (by kernel_rfl)) (fun _ _ _ _ _ => (dg_name 7 sc.nd)) (by decide) (fun _ _ _ _ _ => dts_nil) (fun _ _ _ _ _ => (dx_min rfl T.z_min (da_cons (dx_meth T.cl_Pair T.me_Pair_values (ok_Pair_values T) (hr.mono (by decide)) T.B_Pair_values (dx_var 2) (da_cons (dx_var 7) da_nil)) da_nil)))).fz da_nil)) (da_cons (dx_var 5) (da_cons (dx_var 6) da_nil)))) da_nil)))))))))⟩)
theorem ok_upper_of (T : Txt K mg cA f fd) : FnOk P w K mg base CX0 10 (f 19) (fd 19) ["f", "g"] (spF ⟨K, cA⟩ m_upper_of) := by
  exact fn_F (k := 9) T.F_upper_of sc_upper_of (b := b_upper_of) (fun cdv A outer s H E hr => have sc := sc_upper_of; ⟨_, (db_one (ds_ret (dx_call (ok_times_of T) (hr.mono (by decide)) T.G_times_of T.F_times_of.kp T.B_times_of (da_cons (dx_call (ok_lower_of T) hr T.G_lower_of T.F_lower_of.kp T.B_lower_of (da_cons (dx_call (ok_times_of T) (hr.mono (by decide)) T.G_times_of T.F_times_of.kp T.B_times_of (da_cons (dx_var 0) (da_cons (dx_neg dx_int) da_nil))) (da_cons (dx_call (ok_times_of T) (hr.mono (by decide)) T.G_times_of T.F_times_of.kp T.B_times_of (da_cons (dx_var 1) (da_cons (dx_neg dx_int) da_nil))) da_nil))) (da_cons (dx_neg dx_int) da_nil)))))⟩)
theorem ok_later (T : Txt K mg cA f fd) : FnOk P w K mg base CX0 3 (f 20) (fd 20) ["f", "k"] (spF ⟨K, cA⟩ m_later) := by
  exact fn_F (k := 2) T.F_later sc_later (b := b_later) (fun cdv A outer s H E hr => have sc := sc_later; ⟨_, (db_cons (ds_set 2 sc.nd (dx_max rfl T.z_max (da_cons (dx_len T.z_len (da_cons (dx_ix (dx_var 0) dx_int) da_nil)) (da_cons (dx_ix (dx_var 0) dx_int) da_nil))))
  (db_one (ds_ret (dx_call (ok_least_curve T) hr T.G_least_curve T.F_least_curve.kp T.B_least_curve (da_cons (dx_tup (da_cons (dx_totup T.z_tuple (da_cons (df_lc [("t", 3)] rfl sc.nd (di_rng1 T.z_range (da_cons (dx_var 2) da_nil)) (blkOk_by (by kernel_rfl)) (fun _ _ _ _ _ => (dg_name 3 sc.nd)) (by decide) (fun _ _ _ _ _ => dts_nil) (fun _ _ _ _ _ => (dx_call (ok_value_at T) (hr.mono (by decide)) T.G_value_at T.F_value_at.kp T.B_value_at (da_cons (dx_var 0) (da_cons (dx_add (dx_var 3) (dx_var 1)) da_nil))))).fz da_nil)) (da_cons (dx_ix (dx_var 0) dx_int) (da_cons (dx_ix (dx_var 0) dx_int) da_nil)))) da_nil)))))⟩)
theorem ok_one_sided (T : Txt K mg cA f fd) : FnOk P w K mg base CX0 2 (f 21) (fd 21) ["f", "g", "d"] (spF ⟨K, cA⟩ m_one_sided) := by
  exact fn_F (k := 1) T.F_one_sided sc_one_sided (b := b_one_sided) (fun cdv A outer s H E hr => have sc := sc_one_sided; ⟨_, (db_cons (ds_set 3 sc.nd (dx_add (dx_len T.z_len (da_cons (dx_ix (dx_var 0) dx_int) da_nil)) (dx_var 2)))
  (db_cons (ds_own 4 sc.nd (df_lst da_nil))
  (db_cons (ds_for PassesOwn.never rfl (di_rng1 T.z_range (da_cons (dx_add (dx_add (dx_var 3) (dx_len T.z_len (da_cons (dx_ix (dx_var 1) dx_int) da_nil))) (dx_ix (dx_var 1) dx_int)) da_nil)) (dg_name 5 sc.nd) (db_one (ds_append 4 (dx_min rfl T.z_min (da_cons (df_lc [("s", 6)] rfl sc.nd (di_rng1 T.z_range (da_cons (dx_min rfl T.z_min (da_cons (dx_var 3) (da_cons (dx_add (dx_var 5) dx_int) da_nil))) da_nil)) (blkOk_by (by kernel_rfl)) (fun _ _ _ _ _ => (dg_name 6 sc.nd)) (by decide) (fun _ _ _ _ _ => dts_nil) (fun _ _ _ _ _ => (dx_add (dx_call (ok_value_at T) hr T.G_value_at T.F_value_at.kp T.B_value_at (da_cons (dx_var 0) (da_cons (dx_var 6) da_nil))) (dx_call (ok_value_at T) hr T.G_value_at T.F_value_at.kp T.B_value_at (da_cons (dx_var 1) (da_cons (dx_sub (dx_var 5) (dx_var 6)) da_nil)))))).fz da_nil)))))
  (db_one (ds_ret (dx_tup (da_cons (dx_totup T.z_tuple (da_cons (dx_var 4) da_nil)) (da_cons (dx_ix (dx_var 1) dx_int) (da_cons (dx_ix (dx_var 1) dx_int) da_nil)))))))))⟩)
theorem ok_joined (T : Txt K mg cA f fd) : FnOk P w K mg base CX0 10 (f 22) (fd 22) ["f", "g"] (spF ⟨K, cA⟩ m_joined) := by
  exact fn_F (k := 9) T.F_joined sc_joined (b := b_joined) (fun cdv A outer s H E hr => have sc := sc_joined; ⟨_, (db_cons (ds_set 2 sc.nd (dx_call (ok_multiple_of T) (hr.mono (by decide)) T.G_multiple_of T.F_multiple_of.kp T.B_multiple_of (da_cons (dx_var 0) (da_cons (dx_var 1) da_nil))))
  (db_one (ds_ret (dx_call (ok_lower_of T) hr T.G_lower_of T.F_lower_of.kp T.B_lower_of (da_cons (dx_call (ok_one_sided T) (hr.mono (by decide)) T.G_one_sided T.F_one_sided.kp T.B_one_sided (da_cons (dx_var 0) (da_cons (dx_var 1) (da_cons (dx_var 2) da_nil)))) (da_cons (dx_call (ok_one_sided T) (hr.mono (by decide)) T.G_one_sided T.F_one_sided.kp T.B_one_sided (da_cons (dx_var 1) (da_cons (dx_var 0) (da_cons (dx_var 2) da_nil)))) da_nil))))))⟩)
theorem ok__law_start (T : Txt K mg cA f fd) : FnOk P w K mg base CX0 1 (f 23) (fd 23) ["script"] (spN ⟨K, cA⟩ m__law_start) := by
  exact fn_N (k := 0) T.F__law_start sc__law_start (b := b__law_start) (fun cdv A outer s H E hr => have sc := sc__law_start; ⟨_, (db_one (ds_retF (df_lst (da_cons (df_lc [("cell", 1)] rfl sc.nd (di_seq (df_sl (dx_var 0) do_none (do_some dx_int)).fz) (blkOk_by (by kernel_rfl)) (fun _ _ _ _ _ => (dg_name 1 sc.nd)) (by decide) (fun _ _ _ _ _ => dts_nil) (fun _ _ _ _ _ => (dx_toint T.z_int (da_cons (dx_var 1) da_nil)))).fz (da_cons dx_int (da_cons dx_int (da_cons dx_int (da_cons dx_int da_nil))))))))⟩)
theorem ok__law_fill (T : Txt K mg cA f fd) : FnOk P w K mg base CX0 1 (f 24) (fd 24) ["c"] (spC ⟨K, cA⟩ m__law_fill) := by
  exact fn_C (k := 0) T.F__law_fill sc__law_fill (b := b__law_fill) (fun cdv A outer s H E hr => have sc := sc__law_fill; ⟨_, (db_cons (ds_setix 0 dx_int (dx_add (dx_ix (dx_var 0) dx_int) dx_int))
  (db_cons (ds_set 1 sc.nd (dx_add (dx_mul (dx_ix (dx_var 0) dx_int) dx_int) dx_int))
  (db_cons (ds_if (dt_lt (dx_ix (dx_var 0) dx_int) (dx_len T.z_len (da_cons (dx_ix (dx_var 0) dx_int) da_nil))) (db_cons (ds_set 1 sc.nd (dx_max rfl T.z_max (da_cons (dx_ix (dx_ix (dx_var 0) dx_int) (dx_ix (dx_var 0) dx_int)) (da_cons (dx_sub (dx_sub dx_int dx_int) (dx_ix (dx_ix (dx_var 0) dx_int) (dx_ix (dx_var 0) dx_int))) da_nil))))
  (db_cons (ds_setix 0 dx_int (dx_add (dx_ix (dx_var 0) dx_int) dx_int))
  (db_one (ds_if (dt_ge (dx_var 1) (dx_pow dx_int dx_int)) (db_one (ds_ret (dx_var 1))) db_nil)))) db_nil)
  (db_cons (ds_if (dw_and (dt_tru (dx_ix (dx_var 0) dx_int)) (dw_and1 (dt_ge (dx_ix (dx_var 0) dx_int) (dx_len T.z_len (da_cons (dx_ix (dx_var 0) dx_int) da_nil))))).tst (db_one (ds_set 1 sc.nd (dx_add (dx_var 1) (dx_mod (dx_toint T.z_int (da_cons (dx_ix (dx_ix (dx_var 0) dx_int) (dx_neg dx_int)) da_nil)) dx_int)))) db_nil)
  (db_cons (ds_set 1 sc.nd (dx_mod (dx_toint T.z_int (da_cons (dx_add (dx_mul (dx_var 1) dx_int) (dx_mul (dx_ix (dx_var 0) dx_int) dx_int)) da_nil)) dx_int))
  (db_one (ds_ret (dx_add (dx_fdiv (dx_toint T.z_int (da_cons (dx_add (dx_add (dx_mul (dx_var 1) (dx_var 1)) (dx_mul (dx_ix (dx_var 0) dx_int) dx_int)) dx_int) da_nil)) dx_int) dx_int))))))))⟩)
theorem ok__law_take (T : Txt K mg cA f fd) : FnOk P w K mg base CX0 2 (f 25) (fd 25) ["c", "many"] (spC ⟨K, cA⟩ m__law_take) := by
  exact fn_C (k := 1) T.F__law_take sc__law_take (b := b__law_take) (fun cdv A outer s H E hr => have sc := sc__law_take; ⟨_, (db_cons (ds_if (dt_lt (dx_ix (dx_var 0) dx_int) (dx_var 1)) (db_one (ds_setix 0 dx_int (dx_callC (ok__law_fill T) hr T.G__law_fill T.F__law_fill.kp T.B__law_fill (da_cons (dx_var 0) da_nil)))) db_nil)
  (db_cons (ds_set 2 sc.nd (dx_mod (dx_toint T.z_int (da_cons (dx_ix (dx_var 0) dx_int) da_nil)) (dx_var 1)))
  (db_cons (ds_setix 0 dx_int (dx_fdiv (dx_ix (dx_var 0) dx_int) (dx_var 1)))
  (db_one (ds_ret (dx_var 2))))))⟩)
theorem ok__law_said (T : Txt K mg cA f fd) : FnOk P w K mg base CX0 1 (f 26) (fd 26) ["said", "due"] (spF ⟨K, cA⟩ m__law_said) := by
  exact fn_F (k := 0) T.F__law_said sc__law_said (b := b__law_said) (fun cdv A outer s H E hr => have sc := sc__law_said; ⟨_, (db_one (ds_ret (dx_and (dx_isi T.z_isinstance T.z_bool bb_bool (dx_var 0)) (dx_one (dx_eq hr.units (dx_var 0) (dx_var 1))))))⟩)
theorem ok__law_gcd (T : Txt K mg cA f fd) : FnOk P w K mg base CX0 1 (f 27) (fd 27) ["a", "b"] (spF ⟨K, cA⟩ m__law_gcd) := by
  exact fn_F (k := 0) T.F__law_gcd sc__law_gcd (b := b__law_gcd) (fun cdv A outer s H E hr => have sc := sc__law_gcd; ⟨_, (db_cons (ds_for PassesOwn.never rfl (di_rng1 T.z_range (da_cons dx_int da_nil)) (dg_name 2 sc.nd) (db_cons (ds_if (dt_eq hr.units (dx_var 1) dx_int) (db_one ds_break) db_nil)
  (db_one (ds_par 0 1 rfl sc.nd (da_cons (dx_var 1) (da_cons (dx_mod (dx_var 0) (dx_var 1)) da_nil))))))
  (db_one (ds_ret (dx_var 0))))⟩)
theorem ok__law_curve (T : Txt K mg cA f fd) : FnOk P w K mg base CX0 3 (f 28) (fd 28) ["c", "rising"] (spC ⟨K, cA⟩ m__law_curve) := by
  exact fn_C (k := 2) T.F__law_curve sc__law_curve (b := b__law_curve) (fun cdv A outer s H E hr => have sc := sc__law_curve; ⟨_, (db_cons (ds_set 2 sc.nd (dx_add dx_int (dx_callC (ok__law_take T) hr T.G__law_take T.F__law_take.kp T.B__law_take (da_cons (dx_var 0) (da_cons dx_int da_nil)))))
  (db_cons (ds_set 3 sc.nd (dx_add dx_int (dx_callC (ok__law_take T) hr T.G__law_take T.F__law_take.kp T.B__law_take (da_cons (dx_var 0) (da_cons (dx_var 2) da_nil)))))
  (db_cons (ds_own 4 sc.nd (df_lst (da_cons (dx_sub (dx_callC (ok__law_take T) hr T.G__law_take T.F__law_take.kp T.B__law_take (da_cons (dx_var 0) (da_cons dx_int da_nil))) dx_int) da_nil)))
  (db_cons (ds_for PassesOwn.never rfl (di_rng1 T.z_range (da_cons (dx_sub (dx_var 2) dx_int) da_nil)) (dg_name 5 sc.nd) (db_one (ds_append 4 (dx_if (dt_tru (dx_var 1)) (dx_add (dx_ix (dx_var 4) (dx_sub (dx_len T.z_len (da_cons (dx_var 4) da_nil)) dx_int)) (dx_callC (ok__law_take T) hr T.G__law_take T.F__law_take.kp T.B__law_take (da_cons (dx_var 0) (da_cons dx_int da_nil)))) (dx_sub (dx_callC (ok__law_take T) hr T.G__law_take T.F__law_take.kp T.B__law_take (da_cons (dx_var 0) (da_cons dx_int da_nil))) dx_int)))))
  (db_cons (ds_set 6 sc.nd (dx_sub (dx_callC (ok__law_take T) hr T.G__law_take T.F__law_take.kp T.B__law_take (da_cons (dx_var 0) (da_cons dx_int da_nil))) dx_int))
  (db_cons (ds_if (dt_tru (dx_var 1)) (db_one (ds_set 6 sc.nd (dx_add (dx_sub (dx_ix (dx_var 4) (dx_sub (dx_var 2) dx_int)) (dx_ix (dx_var 4) (dx_sub (dx_var 2) (dx_var 3)))) (dx_callC (ok__law_take T) hr T.G__law_take T.F__law_take.kp T.B__law_take (da_cons (dx_var 0) (da_cons dx_int da_nil)))))) db_nil)
  (db_one (ds_ret (dx_tup (da_cons (dx_totup T.z_tuple (da_cons (dx_var 4) da_nil)) (da_cons (dx_var 3) (da_cons (dx_var 6) da_nil))))))))))))⟩)
theorem ok__law_at (T : Txt K mg cA f fd) : FnOk P w K mg base CX0 1 (f 29) (fd 29) ["curve", "t"] (spF ⟨K, cA⟩ m__law_at) := by
  exact fn_F (k := 0) T.F__law_at sc__law_at (b := b__law_at) (fun cdv A outer s H E hr => have sc := sc__law_at; ⟨_, (db_cons (ds_asg (dg_tup 3 rfl (dgs_cons (dg_name 2 sc.nd) (dgs_cons (dg_name 3 sc.nd) (dgs_cons (dg_name 4 sc.nd) dgs_nil)))) (dx_var 0))
  (db_cons (ds_set 5 sc.nd (dx_len T.z_len (da_cons (dx_var 2) da_nil)))
  (db_cons (ds_if (dt_lt (dx_var 1) (dx_var 5)) (db_one (ds_ret (dx_ix (dx_var 2) (dx_var 1)))) db_nil)
  (db_cons (ds_set 6 sc.nd (dx_add (dx_fdiv (dx_sub (dx_var 1) (dx_var 5)) (dx_var 3)) dx_int))
  (db_one (ds_ret (dx_add (dx_ix (dx_var 2) (dx_sub (dx_var 1) (dx_mul (dx_var 6) (dx_var 3)))) (dx_mul (dx_var 6) (dx_var 4)))))))))⟩)
theorem ok__law_form (T : Txt K mg cA f fd) : FnOk P w K mg base CX0 1 (f 30) (fd 30) ["row", "begin", "period"] (spF ⟨K, cA⟩ m__law_form) := by
  exact fn_F (k := 0) T.F__law_form sc__law_form (b := b__law_form) (fun cdv A outer s H E hr => have sc := sc__law_form; ⟨_, (db_cons (ds_for PassesOwn.never rfl (di_rng2 T.z_range (da_cons dx_int (da_cons (dx_add (dx_var 2) dx_int) da_nil))) (dg_name 3 sc.nd) (db_cons (ds_set 4 sc.nd (dx_sub (dx_ix (dx_var 0) (dx_add (dx_var 1) (dx_var 3))) (dx_ix (dx_var 0) (dx_var 1))))
  (db_one (ds_if (dt_tru (dx_all rfl T.z_all (da_cons (df_lc [("t", 6)] rfl sc.nd (di_rng2 T.z_range (da_cons (dx_var 1) (da_cons (dx_add (dx_var 1) (dx_mul dx_int (dx_var 2))) da_nil))) (blkOk_by (by kernel_rfl)) (fun _ _ _ _ _ => (dg_name 6 sc.nd)) (by decide) (fun _ _ _ _ _ => dts_nil) (fun _ _ _ _ _ => (dx_eq hr.units (dx_sub (dx_ix (dx_var 0) (dx_add (dx_var 6) (dx_var 3))) (dx_ix (dx_var 0) (dx_var 6))) (dx_var 4)))).fz da_nil))) (db_one (ds_for PassesOwn.never rfl (di_rng1 T.z_range (da_cons (dx_add (dx_var 1) dx_int) da_nil)) (dg_name 5 sc.nd) (db_one (ds_if (dt_tru (dx_all rfl T.z_all (da_cons (df_lc [("t", 6)] rfl sc.nd (di_rng2 T.z_range (da_cons (dx_var 5) (da_cons (dx_add (dx_var 1) (dx_mul dx_int (dx_var 2))) da_nil))) (blkOk_by (by kernel_rfl)) (fun _ _ _ _ _ => (dg_name 6 sc.nd)) (by decide) (fun _ _ _ _ _ => dts_nil) (fun _ _ _ _ _ => (dx_eq hr.units (dx_sub (dx_ix (dx_var 0) (dx_add (dx_var 6) (dx_var 3))) (dx_ix (dx_var 0) (dx_var 6))) (dx_var 4)))).fz da_nil))) (db_one (ds_ret (dx_tup (da_cons (dx_totup T.z_tuple (da_cons (df_sl (dx_var 0) do_none (do_some (dx_add (dx_var 5) (dx_var 3)))).fz da_nil)) (da_cons (dx_var 3) (da_cons (dx_var 4) da_nil)))))) db_nil)))) db_nil))))
  (db_one (ds_ret dx_non)))⟩)
theorem ok__law_delay (T : Txt K mg cA f fd) : FnOk P w K mg base CX0 1 (f 31) (fd 31) ["f", "g", "one", "two"] (spF ⟨K, cA⟩ m__law_delay) := by
  exact fn_F (k := 0) T.F__law_delay sc__law_delay (b := b__law_delay) (fun cdv A outer s H E hr => have sc := sc__law_delay; ⟨_, (db_cons (ds_set 4 sc.nd (dx_if (dt_eq hr.units (dx_ix (dx_var 1) dx_int) dx_int) (dx_max rfl T.z_max (da_cons (dx_var 3) da_nil)) dx_non))
  (db_cons (ds_if (dw_and (dt_isnot (dx_var 4) dx_non) (dw_and1 (dt_tru (dx_any rfl T.z_any (da_cons (df_lc [("part", 8)] rfl sc.nd (di_seq (dx_var 2)) (blkOk_by (by kernel_rfl)) (fun _ _ _ _ _ => (dg_name 8 sc.nd)) (by decide) (fun _ _ _ _ _ => dts_nil) (fun _ _ _ _ _ => (dx_gt (dx_var 8) (dx_var 4)))).fz da_nil))))).tst (db_one (ds_ret (dx_tup (da_cons dx_str (da_cons (dx_idx (df_lc [("part", 8)] rfl sc.nd (di_seq (dx_var 2)) (blkOk_by (by kernel_rfl)) (fun _ _ _ _ _ => (dg_name 8 sc.nd)) (by decide) (fun _ _ _ _ _ => dts_nil) (fun _ _ _ _ _ => (dx_gt (dx_var 8) (dx_var 4)))).fz dx_bl) da_nil))))) db_nil)
  (db_cons (ds_if (dt_gt (dx_mul (dx_ix (dx_var 0) dx_int) (dx_ix (dx_var 1) dx_int)) (dx_mul (dx_ix (dx_var 1) dx_int) (dx_ix (dx_var 0) dx_int))) (db_one (ds_ret (dx_tup (da_cons dx_str da_nil)))) db_nil)
  (db_cons (ds_set 5 sc.nd dx_int)
  (db_cons (ds_for PassesOwn.never rfl (di_rng1 T.z_range (da_cons dx_int da_nil)) (dg_name 6 sc.nd) (db_one (ds_for PassesOwn.never rfl (di_rng1 T.z_range (da_cons dx_int da_nil)) (dg_name 7 sc.nd) (db_cons (ds_if (dt_le (dx_ix (dx_var 2) (dx_var 6)) (dx_ix (dx_var 3) (dx_add (dx_var 6) (dx_var 5)))) (db_one ds_break) db_nil)
  (db_one (ds_set 5 sc.nd (dx_add (dx_var 5) dx_int)))))))
  (db_cons (ds_for PassesOwn.never rfl (di_rng1 T.z_range (da_cons dx_int da_nil)) (dg_name 6 sc.nd) (db_one (ds_if (dw_and (dt_gt (dx_var 5) dx_int) (dw_and1 (dt_gt (dx_ix (dx_var 2) (dx_var 6)) (dx_ix (dx_var 3) (dx_sub (dx_add (dx_var 6) (dx_var 5)) dx_int))))).tst (db_one (ds_ret (dx_tup (da_cons dx_str (da_cons (dx_var 5) (da_cons (dx_var 6) da_nil)))))) db_nil)))
  (db_one (ds_ret (dx_tup (da_cons dx_str (da_cons dx_int (da_cons dx_non da_nil))))))))))))⟩)
theorem ok_law (T : Txt K mg cA f fd) : FnOk P w K mg base CX0 11 (f 32) (fd 32) ["script"] (spF ⟨K, cA⟩ m_law) := by
  exact fn_F (k := 10) T.F_law sc_law (b := b_law) (fun cdv A outer s H E hr => have sc := sc_law; ⟨_, (db_cell 1 sc.nd (df_call (ok__law_start T) (hr.mono (by decide)) T.G__law_start T.F__law_start.kp T.B__law_start (da_cons (dx_var 0) da_nil))
  (db_cons (ds_set 2 sc.nd (dx_eq hr.units (dx_callC (ok__law_take T) (hr.mono (by decide)) T.G__law_take T.F__law_take.kp T.B__law_take (da_cons (dx_var 1) (da_cons dx_int da_nil))) dx_int))
  (db_cons (ds_par 3 4 rfl sc.nd (da_cons (dx_callC (ok__law_curve T) (hr.mono (by decide)) T.G__law_curve T.F__law_curve.kp T.B__law_curve (da_cons (dx_var 1) (da_cons (dx_var 2) da_nil))) (da_cons (dx_callC (ok__law_curve T) (hr.mono (by decide)) T.G__law_curve T.F__law_curve.kp T.B__law_curve (da_cons (dx_var 1) (da_cons (dx_var 2) da_nil))) da_nil)))
  (db_cons (ds_set 5 sc.nd dx_int)
  (db_cons (ds_asg (dg_tup 2 rfl (dgs_cons (dg_name 6 sc.nd) (dgs_cons (dg_name 7 sc.nd) dgs_nil))) (df_lc [("curve", 21)] rfl sc.nd (di_seq (df_lst (da_cons (dx_var 3) (da_cons (dx_var 4) da_nil))).fz) (blkOk_by (by kernel_rfl)) (fun _ _ _ _ _ => (dg_name 21 sc.nd)) (by decide) (fun _ _ _ _ _ => dts_nil) (fun _ _ _ _ _ => (df_lc [("t", 9)] rfl sc.nd (di_rng1 T.z_range (da_cons (dx_var 5) da_nil)) (blkOk_by (by kernel_rfl)) (fun _ _ _ _ _ => (dg_name 9 sc.nd)) (by decide) (fun _ _ _ _ _ => dts_nil) (fun _ _ _ _ _ => (dx_call (ok__law_at T) (hr.mono (by decide)) T.G__law_at T.F__law_at.kp T.B__law_at (da_cons (dx_var 21) (da_cons (dx_var 9) da_nil))))).fz)).fz)
  (db_cons (ds_par 8 9 rfl sc.nd (da_cons (dx_callC (ok__law_take T) (hr.mono (by decide)) T.G__law_take T.F__law_take.kp T.B__law_take (da_cons (dx_var 1) (da_cons dx_int da_nil))) (da_cons (dx_callC (ok__law_take T) (hr.mono (by decide)) T.G__law_take T.F__law_take.kp T.B__law_take (da_cons (dx_var 1) (da_cons dx_int da_nil))) da_nil)))
  (db_cons (ds_set 10 sc.nd (dx_mul (dx_ix (dx_var 3) dx_int) (dx_ix (dx_var 4) dx_int)))
  (db_cons (ds_if (dw_or (dt_ne hr.units (dx_call (ok_value_at T) (hr.mono (by decide)) T.G_value_at T.F_value_at.kp T.B_value_at (da_cons (dx_var 3) (da_cons (dx_var 9) da_nil))) (dx_ix (dx_var 6) (dx_var 9))) (dw_or (dt_ne hr.units (dx_call (ok_least_curve T) (hr.mono (by decide)) T.G_least_curve T.F_least_curve.kp T.B_least_curve (da_cons (dx_var 3) da_nil)) (dx_call (ok__law_form T) (hr.mono (by decide)) T.G__law_form T.F__law_form.kp T.B__law_form (da_cons (dx_var 6) (da_cons dx_int (da_cons (dx_ix (dx_var 3) dx_int) da_nil))))) (dw_or1 (dt_not (dt_tru (dx_call (ok__law_said T) (hr.mono (by decide)) T.G__law_said T.F__law_said.kp T.B__law_said (da_cons (dx_call (ok_same_curve T) (hr.mono (by decide)) T.G_same_curve T.F_same_curve.kp T.B_same_curve (da_cons (dx_var 3) (da_cons (dx_var 4) da_nil))) (da_cons (dx_eq hr.units (dx_var 6) (dx_var 7)) da_nil)))))))).tst (db_one (ds_ret dx_bl)) db_nil)
  (db_cons (ds_set 11 sc.nd (dx_sub (dx_callC (ok__law_take T) (hr.mono (by decide)) T.G__law_take T.F__law_take.kp T.B__law_take (da_cons (dx_var 1) (da_cons dx_int da_nil))) dx_int))
  (db_cons (ds_if (dw_or (dt_ne hr.units (dx_call (ok_times_of T) (hr.mono (by decide)) T.G_times_of T.F_times_of.kp T.B_times_of (da_cons (dx_var 3) (da_cons (dx_var 11) da_nil))) (dx_call (ok__law_form T) (hr.mono (by decide)) T.G__law_form T.F__law_form.kp T.B__law_form (da_cons (df_lc [("part", 22)] rfl sc.nd (di_seq (dx_var 6)) (blkOk_by (by kernel_rfl)) (fun _ _ _ _ _ => (dg_name 22 sc.nd)) (by decide) (fun _ _ _ _ _ => dts_nil) (fun _ _ _ _ _ => (dx_mul (dx_var 11) (dx_var 22)))).fz (da_cons dx_int (da_cons (dx_ix (dx_var 3) dx_int) da_nil))))) (dw_or1 (dt_ne hr.units (dx_call (ok_later T) (hr.mono (by decide)) T.G_later T.F_later.kp T.B_later (da_cons (dx_var 3) (da_cons (dx_var 8) da_nil))) (dx_call (ok__law_form T) (hr.mono (by decide)) T.G__law_form T.F__law_form.kp T.B__law_form (da_cons (df_sl (dx_var 6) (do_some (dx_var 8)) do_none).fz (da_cons dx_int (da_cons (dx_ix (dx_var 3) dx_int) da_nil))))))).tst (db_one (ds_ret dx_bl)) db_nil)
  (db_cons (ds_if (dt_ne hr.units (dx_call (ok_sum_of T) (hr.mono (by decide)) T.G_sum_of T.F_sum_of.kp T.B_sum_of (da_cons (dx_var 3) (da_cons (dx_var 4) da_nil))) (dx_call (ok__law_form T) (hr.mono (by decide)) T.G__law_form T.F__law_form.kp T.B__law_form (da_cons (df_lc [("j", 15)] rfl sc.nd (di_rng1 T.z_range (da_cons (dx_var 5) da_nil)) (blkOk_by (by kernel_rfl)) (fun _ _ _ _ _ => (dg_name 15 sc.nd)) (by decide) (fun _ _ _ _ _ => dts_nil) (fun _ _ _ _ _ => (dx_add (dx_ix (dx_var 6) (dx_var 15)) (dx_ix (dx_var 7) (dx_var 15))))).fz (da_cons dx_int (da_cons (dx_var 10) da_nil))))) (db_one (ds_ret dx_bl)) db_nil)
  (db_cons (ds_par 12 13 rfl sc.nd (da_cons (df_lc [("j", 15)] rfl sc.nd (di_rng1 T.z_range (da_cons (dx_var 5) da_nil)) (blkOk_by (by kernel_rfl)) (fun _ _ _ _ _ => (dg_name 15 sc.nd)) (by decide) (fun _ _ _ _ _ => dts_nil) (fun _ _ _ _ _ => (dx_min rfl T.z_min (da_cons (dx_ix (dx_var 6) (dx_var 15)) (da_cons (dx_ix (dx_var 7) (dx_var 15)) da_nil))))).fz (da_cons (df_lc [("j", 15)] rfl sc.nd (di_rng1 T.z_range (da_cons (dx_var 5) da_nil)) (blkOk_by (by kernel_rfl)) (fun _ _ _ _ _ => (dg_name 15 sc.nd)) (by decide) (fun _ _ _ _ _ => dts_nil) (fun _ _ _ _ _ => (dx_max rfl T.z_max (da_cons (dx_ix (dx_var 6) (dx_var 15)) (da_cons (dx_ix (dx_var 7) (dx_var 15)) da_nil))))).fz da_nil)))
  (db_cons (ds_if (dw_or (dt_ne hr.units (dx_call (ok_lower_of T) (hr.mono (by decide)) T.G_lower_of T.F_lower_of.kp T.B_lower_of (da_cons (dx_var 3) (da_cons (dx_var 4) da_nil))) (dx_call (ok__law_form T) (hr.mono (by decide)) T.G__law_form T.F__law_form.kp T.B__law_form (da_cons (dx_var 12) (da_cons dx_int (da_cons (dx_var 10) da_nil))))) (dw_or1 (dt_ne hr.units (dx_call (ok_upper_of T) hr T.G_upper_of T.F_upper_of.kp T.B_upper_of (da_cons (dx_var 3) (da_cons (dx_var 4) da_nil))) (dx_call (ok__law_form T) (hr.mono (by decide)) T.G__law_form T.F__law_form.kp T.B__law_form (da_cons (dx_var 13) (da_cons dx_int (da_cons (dx_var 10) da_nil))))))).tst (db_one (ds_ret dx_bl)) db_nil)
  (db_cons (ds_set 14 sc.nd (dx_call (ok_joined T) hr T.G_joined T.F_joined.kp T.B_joined (da_cons (dx_var 3) (da_cons (dx_var 4) da_nil))))
  (db_cons (ds_for PassesOwn.never rfl (di_rng3 T.z_range (da_cons dx_int (da_cons dx_int (da_cons dx_int da_nil)))) (dg_name 15 sc.nd) (db_one (ds_if (dt_ne hr.units (dx_call (ok_value_at T) (hr.mono (by decide)) T.G_value_at T.F_value_at.kp T.B_value_at (da_cons (dx_var 14) (da_cons (dx_var 15) da_nil))) (dx_min rfl T.z_min (da_cons (df_lc [("i", 23)] rfl sc.nd (di_rng1 T.z_range (da_cons (dx_add (dx_var 15) dx_int) da_nil)) (blkOk_by (by kernel_rfl)) (fun _ _ _ _ _ => (dg_name 23 sc.nd)) (by decide) (fun _ _ _ _ _ => dts_nil) (fun _ _ _ _ _ => (dx_add (dx_ix (dx_var 6) (dx_var 23)) (dx_ix (dx_var 7) (dx_sub (dx_var 15) (dx_var 23)))))).fz da_nil))) (db_one (ds_ret dx_bl)) db_nil)))
  (db_cons (ds_if (dw_or (dt_ne hr.units (dx_var 14) (dx_call (ok_joined T) hr T.G_joined T.F_joined.kp T.B_joined (da_cons (dx_var 4) (da_cons (dx_var 3) da_nil)))) (dw_or1 (dt_ne hr.units (dx_var 14) (dx_call (ok_least_curve T) (hr.mono (by decide)) T.G_least_curve T.F_least_curve.kp T.B_least_curve (da_cons (dx_var 14) da_nil))))).tst (db_one (ds_ret dx_bl)) db_nil)
  (db_cons (ds_lc 16 [("j", 15)] rfl sc.nd (di_rng1 T.z_range (da_cons (dx_var 5) da_nil)) (blkOk_by (by kernel_rfl)) (fun _ _ _ _ _ => (dg_name 15 sc.nd)) (by decide) (fun _ _ _ _ _ => (dts_one (dt_gt (dx_ix (dx_var 6) (dx_var 15)) (dx_ix (dx_var 7) (dx_var 15))))) (fun _ _ _ _ _ => (dx_var 15)))
  (db_cons (ds_if (dt_ne hr.units (dx_call (ok_compared_curves T) (hr.mono (by decide)) T.G_compared_curves T.F_compared_curves.kp T.B_compared_curves (da_cons (dx_var 3) (da_cons (dx_var 4) da_nil))) (dx_if (dt_tru (dx_var 16)) (dx_tup (da_cons dx_str (da_cons (dx_ix (dx_var 16) dx_int) da_nil))) (dx_tup (da_cons dx_str da_nil)))) (db_one (ds_ret dx_bl)) db_nil)
  (db_cons (ds_lc 17 [("j", 15)] rfl sc.nd (di_rng1 T.z_range (da_cons (dx_var 5) da_nil)) (blkOk_by (by kernel_rfl)) (fun _ _ _ _ _ => (dg_name 15 sc.nd)) (by decide) (fun _ _ _ _ _ => dts_nil) (fun _ _ _ _ _ => (dx_sub (dx_ix (dx_var 6) (dx_var 15)) (dx_ix (dx_var 7) (dx_var 15)))))
  (db_cons (ds_set 18 sc.nd (dx_fdiv (dx_var 10) (dx_call (ok__law_gcd T) (hr.mono (by decide)) T.G__law_gcd T.F__law_gcd.kp T.B__law_gcd (da_cons (dx_ix (dx_var 3) dx_int) (da_cons (dx_ix (dx_var 4) dx_int) da_nil)))))
  (db_cons (ds_set 19 sc.nd (dx_sub (dx_ix (dx_var 17) (dx_add dx_int (dx_var 18))) (dx_ix (dx_var 17) dx_int)))
  (db_cons (ds_set 20 sc.nd (dx_if (dt_gt (dx_var 19) dx_int) (dx_tup (da_cons dx_str (da_cons (dx_var 18) (da_cons (dx_var 19) da_nil)))) (dx_tup (da_cons dx_str (da_cons (dx_max rfl T.z_max (da_cons (dx_var 17) da_nil)) (da_cons (dx_idx (dx_var 17) (dx_max rfl T.z_max (da_cons (dx_var 17) da_nil))) da_nil))))))
  (db_cons (ds_if (dt_ne hr.units (dx_call (ok_store_paper T) (hr.mono (by decide)) T.G_store_paper T.F_store_paper.kp T.B_store_paper (da_cons (dx_var 3) (da_cons (dx_var 4) da_nil))) (dx_var 20)) (db_one (ds_ret dx_bl)) db_nil)
  (db_one (ds_ret (dx_or (dx_not (dx_var 2)) (dx_one (dx_eq hr.units (dx_call (ok_delay_bound T) (hr.mono (by decide)) T.G_delay_bound T.F_delay_bound.kp T.B_delay_bound (da_cons (dx_var 3) (da_cons (dx_var 4) da_nil))) (dx_call (ok__law_delay T) (hr.mono (by decide)) T.G__law_delay T.F__law_delay.kp T.B__law_delay (da_cons (dx_var 3) (da_cons (dx_var 4) (da_cons (dx_var 6) (da_cons (dx_var 7) da_nil)))))))))))))))))))))))))))))))))⟩)
end
end K54

set_option autoImplicit true
set_option relaxedAutoImplicit true
set_option Elab.async false
set_option linter.all false
set_option maxRecDepth 100000
set_option maxHeartbeats 8000000
namespace K54
open PySem PySem.Spec PyProof.Rows L2 DL
def spLaw (K : PySem.W.Frag) : Sp := fun vs H Q _ => ∃ (a : Addr) (ns : List Int), vs = [.ref a] ∧ SqL K H a (ns.map V.int) ∧ ns.length ≤ 63 ∧ ∀ H2, Q (.bl true) H2
theorem spLaw_ok {K : PySem.W.Frag} {cA : Nat → Addr} {vs : List V} {H : Hp} {Q : VK} {E : XK} (h : spLaw K vs H Q E) : spF ⟨K, cA⟩ m_law vs H Q E := by
  obtain ⟨a, ns, rfl, hS, hl, q⟩ := h
  refine ⟨H, [.scr ns], .bl true, Same.refl _, Rps.cons (show Rp _ H (.scr ns) _ by unfold Rp; exact ⟨a, rfl, hS⟩) Rps.nil, law_true ns hl, fun v H0 H2 g rp => ?_⟩
  unfold Rp at rp
  subst rp
  exact q H2
theorem all_mk {l : PySem.W.OpenLaw} {w : World} {K : PySem.W.Frag} {h : Heap} {mg : Str → Option Value} {fa : Addr} {f0 : Addr} {od0 an0 : Option Addr} {sl0 : Array (Option Value)} {oc0 kV0 dc0 pm0 cd0 ct0 : Value}
    {f1 : Addr} {od1 an1 : Option Addr} {sl1 : Array (Option Value)} {oc1 kV1 dc1 pm1 cd1 ct1 : Value}
    {f2 : Addr} {od2 an2 : Option Addr} {sl2 : Array (Option Value)} {oc2 kV2 dc2 pm2 cd2 ct2 : Value}
    {f3 : Addr} {od3 an3 : Option Addr} {sl3 : Array (Option Value)} {oc3 kV3 dc3 pm3 cd3 ct3 : Value}
    {f4 : Addr} {od4 an4 : Option Addr} {sl4 : Array (Option Value)} {oc4 kV4 dc4 pm4 cd4 ct4 : Value}
    {f5 : Addr} {od5 an5 : Option Addr} {sl5 : Array (Option Value)} {oc5 kV5 dc5 pm5 cd5 ct5 : Value}
    {f6 : Addr} {od6 an6 : Option Addr} {sl6 : Array (Option Value)} {oc6 kV6 dc6 pm6 cd6 ct6 : Value}
    {f7 : Addr} {od7 an7 : Option Addr} {sl7 : Array (Option Value)} {oc7 kV7 dc7 pm7 cd7 ct7 : Value}
    {f8 : Addr} {od8 an8 : Option Addr} {sl8 : Array (Option Value)} {oc8 kV8 dc8 pm8 cd8 ct8 : Value}
    {f9 : Addr} {od9 an9 : Option Addr} {sl9 : Array (Option Value)} {oc9 kV9 dc9 pm9 cd9 ct9 : Value}
    {f10 : Addr} {od10 an10 : Option Addr} {sl10 : Array (Option Value)} {oc10 kV10 dc10 pm10 cd10 ct10 : Value}
    {f12 : Addr} {od12 an12 : Option Addr} {sl12 : Array (Option Value)} {oc12 kV12 dc12 pm12 cd12 ct12 : Value}
    {f11 : Addr} {od11 an11 : Option Addr} {sl11 : Array (Option Value)} {oc11 kV11 dc11 pm11 cd11 ct11 : Value}
    {f13 : Addr} {od13 an13 : Option Addr} {sl13 : Array (Option Value)} {oc13 kV13 dc13 pm13 cd13 ct13 : Value}
    {f14 : Addr} {od14 an14 : Option Addr} {sl14 : Array (Option Value)} {oc14 kV14 dc14 pm14 cd14 ct14 : Value}
    {f15 : Addr} {od15 an15 : Option Addr} {sl15 : Array (Option Value)} {oc15 kV15 dc15 pm15 cd15 ct15 : Value}
    {f16 : Addr} {od16 an16 : Option Addr} {sl16 : Array (Option Value)} {oc16 kV16 dc16 pm16 cd16 ct16 : Value}
    {f17 : Addr} {od17 an17 : Option Addr} {sl17 : Array (Option Value)} {oc17 kV17 dc17 pm17 cd17 ct17 : Value}
    {f18 : Addr} {od18 an18 : Option Addr} {sl18 : Array (Option Value)} {oc18 kV18 dc18 pm18 cd18 ct18 : Value}
    {f19 : Addr} {od19 an19 : Option Addr} {sl19 : Array (Option Value)} {oc19 kV19 dc19 pm19 cd19 ct19 : Value}
    {f20 : Addr} {od20 an20 : Option Addr} {sl20 : Array (Option Value)} {oc20 kV20 dc20 pm20 cd20 ct20 : Value}
    {f21 : Addr} {od21 an21 : Option Addr} {sl21 : Array (Option Value)} {oc21 kV21 dc21 pm21 cd21 ct21 : Value}
    {f22 : Addr} {od22 an22 : Option Addr} {sl22 : Array (Option Value)} {oc22 kV22 dc22 pm22 cd22 ct22 : Value}
    {f23 : Addr} {od23 an23 : Option Addr} {sl23 : Array (Option Value)} {oc23 kV23 dc23 pm23 cd23 ct23 : Value}
    {f24 : Addr} {od24 an24 : Option Addr} {sl24 : Array (Option Value)} {oc24 kV24 dc24 pm24 cd24 ct24 : Value}
    {f25 : Addr} {od25 an25 : Option Addr} {sl25 : Array (Option Value)} {oc25 kV25 dc25 pm25 cd25 ct25 : Value}
    {f26 : Addr} {od26 an26 : Option Addr} {sl26 : Array (Option Value)} {oc26 kV26 dc26 pm26 cd26 ct26 : Value}
    {f27 : Addr} {od27 an27 : Option Addr} {sl27 : Array (Option Value)} {oc27 kV27 dc27 pm27 cd27 ct27 : Value}
    {f28 : Addr} {od28 an28 : Option Addr} {sl28 : Array (Option Value)} {oc28 kV28 dc28 pm28 cd28 ct28 : Value}
    {f29 : Addr} {od29 an29 : Option Addr} {sl29 : Array (Option Value)} {oc29 kV29 dc29 pm29 cd29 ct29 : Value}
    {f30 : Addr} {od30 an30 : Option Addr} {sl30 : Array (Option Value)} {oc30 kV30 dc30 pm30 cd30 ct30 : Value}
    {f31 : Addr} {od31 an31 : Option Addr} {sl31 : Array (Option Value)} {oc31 kV31 dc31 pm31 cd31 ct31 : Value}
    {f32 : Addr} {od32 an32 : Option Addr} {sl32 : Array (Option Value)} {oc32 kV32 dc32 pm32 cd32 ct32 : Value}
    {C0 : Addr}
    {tk_MOST_VALUES : Tok}
    (X : K.In h) (G : h.Ns mainGlobals mg) (hfa : mg "law" = some (.ref fa))
    (a0 : PySem.W.nsIn K mainGlobals "common_divisor" = some (some (.ref f0)))
    (l0 : K.lookup f0 = some ⟨oc0, od0, .func (PySem.W.fnOf "common_divisor" "common_divisor" (defArgs s_common_divisor) (defBody s_common_divisor) (defScope s_common_divisor) .none kV0 dc0 pm0 an0 cd0 ct0), sl0⟩) (c0 : PySem.W.codeIn K cd0 "common_divisor" = true) (k0 : PySem.W.keepIn K (.ref f0) = true)
    (a1 : PySem.W.nsIn K mainGlobals "value_at" = some (some (.ref f1)))
    (l1 : K.lookup f1 = some ⟨oc1, od1, .func (PySem.W.fnOf "value_at" "value_at" (defArgs s_value_at) (defBody s_value_at) (defScope s_value_at) .none kV1 dc1 pm1 an1 cd1 ct1), sl1⟩) (c1 : PySem.W.codeIn K cd1 "value_at" = true) (k1 : PySem.W.keepIn K (.ref f1) = true)
    (a2 : PySem.W.nsIn K mainGlobals "multiple_of" = some (some (.ref f2)))
    (l2 : K.lookup f2 = some ⟨oc2, od2, .func (PySem.W.fnOf "multiple_of" "multiple_of" (defArgs s_multiple_of) (defBody s_multiple_of) (defScope s_multiple_of) .none kV2 dc2 pm2 an2 cd2 ct2), sl2⟩) (c2 : PySem.W.codeIn K cd2 "multiple_of" = true) (k2 : PySem.W.keepIn K (.ref f2) = true)
    (a3 : PySem.W.nsIn K mainGlobals "growth" = some (some (.ref f3)))
    (l3 : K.lookup f3 = some ⟨oc3, od3, .func (PySem.W.fnOf "growth" "growth" (defArgs s_growth) (defBody s_growth) (defScope s_growth) .none kV3 dc3 pm3 an3 cd3 ct3), sl3⟩) (c3 : PySem.W.codeIn K cd3 "growth" = true) (k3 : PySem.W.keepIn K (.ref f3) = true)
    (a4 : PySem.W.nsIn K mainGlobals "least_period" = some (some (.ref f4)))
    (l4 : K.lookup f4 = some ⟨oc4, od4, .func (PySem.W.fnOf "least_period" "least_period" (defArgs s_least_period) (defBody s_least_period) (defScope s_least_period) .none kV4 dc4 pm4 an4 cd4 ct4), sl4⟩) (c4 : PySem.W.codeIn K cd4 "least_period" = true) (k4 : PySem.W.keepIn K (.ref f4) = true)
    (a5 : PySem.W.nsIn K mainGlobals "least_curve" = some (some (.ref f5)))
    (l5 : K.lookup f5 = some ⟨oc5, od5, .func (PySem.W.fnOf "least_curve" "least_curve" (defArgs s_least_curve) (defBody s_least_curve) (defScope s_least_curve) .none kV5 dc5 pm5 an5 cd5 ct5), sl5⟩) (c5 : PySem.W.codeIn K cd5 "least_curve" = true) (k5 : PySem.W.keepIn K (.ref f5) = true)
    (a6 : PySem.W.nsIn K mainGlobals "same_curve" = some (some (.ref f6)))
    (l6 : K.lookup f6 = some ⟨oc6, od6, .func (PySem.W.fnOf "same_curve" "same_curve" (defArgs s_same_curve) (defBody s_same_curve) (defScope s_same_curve) .none kV6 dc6 pm6 an6 cd6 ct6), sl6⟩) (c6 : PySem.W.codeIn K cd6 "same_curve" = true) (k6 : PySem.W.keepIn K (.ref f6) = true)
    (a7 : PySem.W.nsIn K mainGlobals "first_above" = some (some (.ref f7)))
    (l7 : K.lookup f7 = some ⟨oc7, od7, .func (PySem.W.fnOf "first_above" "first_above" (defArgs s_first_above) (defBody s_first_above) (defScope s_first_above) .none kV7 dc7 pm7 an7 cd7 ct7), sl7⟩) (c7 : PySem.W.codeIn K cd7 "first_above" = true) (k7 : PySem.W.keepIn K (.ref f7) = true)
    (a8 : PySem.W.nsIn K mainGlobals "compared_curves" = some (some (.ref f8)))
    (l8 : K.lookup f8 = some ⟨oc8, od8, .func (PySem.W.fnOf "compared_curves" "compared_curves" (defArgs s_compared_curves) (defBody s_compared_curves) (defScope s_compared_curves) .none kV8 dc8 pm8 an8 cd8 ct8), sl8⟩) (c8 : PySem.W.codeIn K cd8 "compared_curves" = true) (k8 : PySem.W.keepIn K (.ref f8) = true)
    (a9 : PySem.W.nsIn K mainGlobals "store_paper" = some (some (.ref f9)))
    (l9 : K.lookup f9 = some ⟨oc9, od9, .func (PySem.W.fnOf "store_paper" "store_paper" (defArgs s_store_paper) (defBody s_store_paper) (defScope s_store_paper) .none kV9 dc9 pm9 an9 cd9 ct9), sl9⟩) (c9 : PySem.W.codeIn K cd9 "store_paper" = true) (k9 : PySem.W.keepIn K (.ref f9) = true)
    (a10 : PySem.W.nsIn K mainGlobals "first_at_least" = some (some (.ref f10)))
    (l10 : K.lookup f10 = some ⟨oc10, od10, .func (PySem.W.fnOf "first_at_least" "first_at_least" (defArgs s_first_at_least) (defBody s_first_at_least) (defScope s_first_at_least) .none kV10 dc10 pm10 an10 cd10 ct10), sl10⟩) (c10 : PySem.W.codeIn K cd10 "first_at_least" = true) (k10 : PySem.W.keepIn K (.ref f10) = true)
    (a12 : PySem.W.nsIn K mainGlobals "reach" = some (some (.ref f12)))
    (l12 : K.lookup f12 = some ⟨oc12, od12, .func (PySem.W.fnOf "reach" "reach" (defArgs s_reach) (defBody s_reach) (defScope s_reach) .none kV12 dc12 pm12 an12 cd12 ct12), sl12⟩) (c12 : PySem.W.codeIn K cd12 "reach" = true) (k12 : PySem.W.keepIn K (.ref f12) = true)
    (a11 : PySem.W.nsIn K mainGlobals "delay_bound" = some (some (.ref f11)))
    (l11 : K.lookup f11 = some ⟨oc11, od11, .func (PySem.W.fnOf "delay_bound" "delay_bound" (defArgs s_delay_bound) (defBody s_delay_bound) (defScope s_delay_bound) .none kV11 dc11 pm11 an11 cd11 ct11), sl11⟩) (c11 : PySem.W.codeIn K cd11 "delay_bound" = true) (k11 : PySem.W.keepIn K (.ref f11) = true)
    (a13 : PySem.W.findIn K (.ref C0) "__init__" = some (some (.ref f13))) (i13 : PySem.W.isFn K (.ref f13) = true)
    (l13 : K.lookup f13 = some ⟨oc13, od13, .func (PySem.W.fnOf "__init__" "Pair.__init__" (defArgs s_Pair___init__) (defBody s_Pair___init__) (defScope s_Pair___init__) .none kV13 dc13 pm13 an13 cd13 ct13), sl13⟩) (c13 : PySem.W.codeIn K cd13 "Pair.__init__" = true) (k13 : PySem.W.keepIn K (.ref f13) = true)
    (a14 : PySem.W.findIn K (.ref C0) "values" = some (some (.ref f14))) (i14 : PySem.W.isFn K (.ref f14) = true)
    (l14 : K.lookup f14 = some ⟨oc14, od14, .func (PySem.W.fnOf "values" "Pair.values" (defArgs s_Pair_values) (defBody s_Pair_values) (defScope s_Pair_values) .none kV14 dc14 pm14 an14 cd14 ct14), sl14⟩) (c14 : PySem.W.codeIn K cd14 "Pair.values" = true) (k14 : PySem.W.keepIn K (.ref f14) = true)
    (a15 : PySem.W.findIn K (.ref C0) "settled" = some (some (.ref f15))) (i15 : PySem.W.isFn K (.ref f15) = true)
    (l15 : K.lookup f15 = some ⟨oc15, od15, .func (PySem.W.fnOf "settled" "Pair.settled" (defArgs s_Pair_settled) (defBody s_Pair_settled) (defScope s_Pair_settled) .none kV15 dc15 pm15 an15 cd15 ct15), sl15⟩) (c15 : PySem.W.codeIn K cd15 "Pair.settled" = true) (k15 : PySem.W.keepIn K (.ref f15) = true)
    (a16 : PySem.W.nsIn K mainGlobals "sum_of" = some (some (.ref f16)))
    (l16 : K.lookup f16 = some ⟨oc16, od16, .func (PySem.W.fnOf "sum_of" "sum_of" (defArgs s_sum_of) (defBody s_sum_of) (defScope s_sum_of) .none kV16 dc16 pm16 an16 cd16 ct16), sl16⟩) (c16 : PySem.W.codeIn K cd16 "sum_of" = true) (k16 : PySem.W.keepIn K (.ref f16) = true)
    (a17 : PySem.W.nsIn K mainGlobals "times_of" = some (some (.ref f17)))
    (l17 : K.lookup f17 = some ⟨oc17, od17, .func (PySem.W.fnOf "times_of" "times_of" (defArgs s_times_of) (defBody s_times_of) (defScope s_times_of) .none kV17 dc17 pm17 an17 cd17 ct17), sl17⟩) (c17 : PySem.W.codeIn K cd17 "times_of" = true) (k17 : PySem.W.keepIn K (.ref f17) = true)
    (a18 : PySem.W.nsIn K mainGlobals "lower_of" = some (some (.ref f18)))
    (l18 : K.lookup f18 = some ⟨oc18, od18, .func (PySem.W.fnOf "lower_of" "lower_of" (defArgs s_lower_of) (defBody s_lower_of) (defScope s_lower_of) .none kV18 dc18 pm18 an18 cd18 ct18), sl18⟩) (c18 : PySem.W.codeIn K cd18 "lower_of" = true) (k18 : PySem.W.keepIn K (.ref f18) = true)
    (a19 : PySem.W.nsIn K mainGlobals "upper_of" = some (some (.ref f19)))
    (l19 : K.lookup f19 = some ⟨oc19, od19, .func (PySem.W.fnOf "upper_of" "upper_of" (defArgs s_upper_of) (defBody s_upper_of) (defScope s_upper_of) .none kV19 dc19 pm19 an19 cd19 ct19), sl19⟩) (c19 : PySem.W.codeIn K cd19 "upper_of" = true) (k19 : PySem.W.keepIn K (.ref f19) = true)
    (a20 : PySem.W.nsIn K mainGlobals "later" = some (some (.ref f20)))
    (l20 : K.lookup f20 = some ⟨oc20, od20, .func (PySem.W.fnOf "later" "later" (defArgs s_later) (defBody s_later) (defScope s_later) .none kV20 dc20 pm20 an20 cd20 ct20), sl20⟩) (c20 : PySem.W.codeIn K cd20 "later" = true) (k20 : PySem.W.keepIn K (.ref f20) = true)
    (a21 : PySem.W.nsIn K mainGlobals "one_sided" = some (some (.ref f21)))
    (l21 : K.lookup f21 = some ⟨oc21, od21, .func (PySem.W.fnOf "one_sided" "one_sided" (defArgs s_one_sided) (defBody s_one_sided) (defScope s_one_sided) .none kV21 dc21 pm21 an21 cd21 ct21), sl21⟩) (c21 : PySem.W.codeIn K cd21 "one_sided" = true) (k21 : PySem.W.keepIn K (.ref f21) = true)
    (a22 : PySem.W.nsIn K mainGlobals "joined" = some (some (.ref f22)))
    (l22 : K.lookup f22 = some ⟨oc22, od22, .func (PySem.W.fnOf "joined" "joined" (defArgs s_joined) (defBody s_joined) (defScope s_joined) .none kV22 dc22 pm22 an22 cd22 ct22), sl22⟩) (c22 : PySem.W.codeIn K cd22 "joined" = true) (k22 : PySem.W.keepIn K (.ref f22) = true)
    (a23 : PySem.W.nsIn K mainGlobals "_law_start" = some (some (.ref f23)))
    (l23 : K.lookup f23 = some ⟨oc23, od23, .func (PySem.W.fnOf "_law_start" "_law_start" (defArgs s__law_start) (defBody s__law_start) (defScope s__law_start) .none kV23 dc23 pm23 an23 cd23 ct23), sl23⟩) (c23 : PySem.W.codeIn K cd23 "_law_start" = true) (k23 : PySem.W.keepIn K (.ref f23) = true)
    (a24 : PySem.W.nsIn K mainGlobals "_law_fill" = some (some (.ref f24)))
    (l24 : K.lookup f24 = some ⟨oc24, od24, .func (PySem.W.fnOf "_law_fill" "_law_fill" (defArgs s__law_fill) (defBody s__law_fill) (defScope s__law_fill) .none kV24 dc24 pm24 an24 cd24 ct24), sl24⟩) (c24 : PySem.W.codeIn K cd24 "_law_fill" = true) (k24 : PySem.W.keepIn K (.ref f24) = true)
    (a25 : PySem.W.nsIn K mainGlobals "_law_take" = some (some (.ref f25)))
    (l25 : K.lookup f25 = some ⟨oc25, od25, .func (PySem.W.fnOf "_law_take" "_law_take" (defArgs s__law_take) (defBody s__law_take) (defScope s__law_take) .none kV25 dc25 pm25 an25 cd25 ct25), sl25⟩) (c25 : PySem.W.codeIn K cd25 "_law_take" = true) (k25 : PySem.W.keepIn K (.ref f25) = true)
    (a26 : PySem.W.nsIn K mainGlobals "_law_said" = some (some (.ref f26)))
    (l26 : K.lookup f26 = some ⟨oc26, od26, .func (PySem.W.fnOf "_law_said" "_law_said" (defArgs s__law_said) (defBody s__law_said) (defScope s__law_said) .none kV26 dc26 pm26 an26 cd26 ct26), sl26⟩) (c26 : PySem.W.codeIn K cd26 "_law_said" = true) (k26 : PySem.W.keepIn K (.ref f26) = true)
    (a27 : PySem.W.nsIn K mainGlobals "_law_gcd" = some (some (.ref f27)))
    (l27 : K.lookup f27 = some ⟨oc27, od27, .func (PySem.W.fnOf "_law_gcd" "_law_gcd" (defArgs s__law_gcd) (defBody s__law_gcd) (defScope s__law_gcd) .none kV27 dc27 pm27 an27 cd27 ct27), sl27⟩) (c27 : PySem.W.codeIn K cd27 "_law_gcd" = true) (k27 : PySem.W.keepIn K (.ref f27) = true)
    (a28 : PySem.W.nsIn K mainGlobals "_law_curve" = some (some (.ref f28)))
    (l28 : K.lookup f28 = some ⟨oc28, od28, .func (PySem.W.fnOf "_law_curve" "_law_curve" (defArgs s__law_curve) (defBody s__law_curve) (defScope s__law_curve) .none kV28 dc28 pm28 an28 cd28 ct28), sl28⟩) (c28 : PySem.W.codeIn K cd28 "_law_curve" = true) (k28 : PySem.W.keepIn K (.ref f28) = true)
    (a29 : PySem.W.nsIn K mainGlobals "_law_at" = some (some (.ref f29)))
    (l29 : K.lookup f29 = some ⟨oc29, od29, .func (PySem.W.fnOf "_law_at" "_law_at" (defArgs s__law_at) (defBody s__law_at) (defScope s__law_at) .none kV29 dc29 pm29 an29 cd29 ct29), sl29⟩) (c29 : PySem.W.codeIn K cd29 "_law_at" = true) (k29 : PySem.W.keepIn K (.ref f29) = true)
    (a30 : PySem.W.nsIn K mainGlobals "_law_form" = some (some (.ref f30)))
    (l30 : K.lookup f30 = some ⟨oc30, od30, .func (PySem.W.fnOf "_law_form" "_law_form" (defArgs s__law_form) (defBody s__law_form) (defScope s__law_form) .none kV30 dc30 pm30 an30 cd30 ct30), sl30⟩) (c30 : PySem.W.codeIn K cd30 "_law_form" = true) (k30 : PySem.W.keepIn K (.ref f30) = true)
    (a31 : PySem.W.nsIn K mainGlobals "_law_delay" = some (some (.ref f31)))
    (l31 : K.lookup f31 = some ⟨oc31, od31, .func (PySem.W.fnOf "_law_delay" "_law_delay" (defArgs s__law_delay) (defBody s__law_delay) (defScope s__law_delay) .none kV31 dc31 pm31 an31 cd31 ct31), sl31⟩) (c31 : PySem.W.codeIn K cd31 "_law_delay" = true) (k31 : PySem.W.keepIn K (.ref f31) = true)
    (a32 : PySem.W.nsIn K mainGlobals "law" = some (some (.ref f32)))
    (l32 : K.lookup f32 = some ⟨oc32, od32, .func (PySem.W.fnOf "law" "law" (defArgs s_law) (defBody s_law) (defScope s_law) .none kV32 dc32 pm32 an32 cd32 ct32), sl32⟩) (c32 : PySem.W.codeIn K cd32 "law" = true) (k32 : PySem.W.keepIn K (.ref f32) = true)
    (gC0 : PySem.W.nsIn K mainGlobals "Pair" = some (some (.ref C0))) (pg0 : PySem.W.plainGet K C0 Str.empty = true) (hd0 : PySem.W.hasDictIn K C0 = true) (po0 : PySem.W.plainOver K C0 = true) (sa0 : PySem.W.findIn K (.ref C0) "__setattr__" = some (some (.builtin "object.__setattr__"))) (mk0 : PySem.W.makesIn K C0 = true) (kc0 : PySem.W.keepIn K (.ref C0) = true)
    (n0_f : PySem.W.findIn K (.ref C0) "f" = some none)
    (n0_g : PySem.W.findIn K (.ref C0) "g" = some none)
    (n0_d : PySem.W.findIn K (.ref C0) "d" = some none)
    (n0_n : PySem.W.findIn K (.ref C0) "n" = some none)
    (z_abs : PySem.W.nsIn K mainGlobals "abs" = some none)
    (z_all : PySem.W.nsIn K mainGlobals "all" = some none)
    (z_any : PySem.W.nsIn K mainGlobals "any" = some none)
    (z_bool : PySem.W.nsIn K mainGlobals "bool" = some none)
    (z_enumerate : PySem.W.nsIn K mainGlobals "enumerate" = some none)
    (z_int : PySem.W.nsIn K mainGlobals "int" = some none)
    (z_isinstance : PySem.W.nsIn K mainGlobals "isinstance" = some none)
    (z_len : PySem.W.nsIn K mainGlobals "len" = some none)
    (z_max : PySem.W.nsIn K mainGlobals "max" = some none)
    (z_min : PySem.W.nsIn K mainGlobals "min" = some none)
    (z_range : PySem.W.nsIn K mainGlobals "range" = some none)
    (z_sum : PySem.W.nsIn K mainGlobals "sum" = some none)
    (z_tuple : PySem.W.nsIn K mainGlobals "tuple" = some none)
    (z_zip : PySem.W.nsIn K mainGlobals "zip" = some none)
    (g_MOST_VALUES : PySem.W.nsIn K mainGlobals "MOST_VALUES" = some (some (.int 4000 tk_MOST_VALUES))) :
    ∃ fd : FuncData, (∀ (s : Shared) (v : Value), BindsTo s fd ⟨[v], []⟩ [("script", v)]) ∧ ∀ base : Heap, K.In base → base.Ns mainGlobals mg → FnOk l.prog w K mg base CX0 11 fa fd ["script"] (spLaw K) := by
  have e := hfa.symm.trans (PySem.W.mg_of X G a32)
  cases e
  let cA : Nat → Addr := fun i => match i with
  | 0 => C0
  | _ => 0
  let f : Nat → Addr := fun i => match i with
  | 0 => f0
  | 1 => f1
  | 2 => f2
  | 3 => f3
  | 4 => f4
  | 5 => f5
  | 6 => f6
  | 7 => f7
  | 8 => f8
  | 9 => f9
  | 10 => f10
  | 12 => f12
  | 11 => f11
  | 13 => f13
  | 14 => f14
  | 15 => f15
  | 16 => f16
  | 17 => f17
  | 18 => f18
  | 19 => f19
  | 20 => f20
  | 21 => f21
  | 22 => f22
  | 23 => f23
  | 24 => f24
  | 25 => f25
  | 26 => f26
  | 27 => f27
  | 28 => f28
  | 29 => f29
  | 30 => f30
  | 31 => f31
  | 32 => fa
  | _ => 0
  let fd : Nat → FuncData := fun i => match i with
  | 0 => PySem.W.fnOf "common_divisor" "common_divisor" (defArgs s_common_divisor) (defBody s_common_divisor) (defScope s_common_divisor) .none kV0 dc0 pm0 an0 cd0 ct0
  | 1 => PySem.W.fnOf "value_at" "value_at" (defArgs s_value_at) (defBody s_value_at) (defScope s_value_at) .none kV1 dc1 pm1 an1 cd1 ct1
  | 2 => PySem.W.fnOf "multiple_of" "multiple_of" (defArgs s_multiple_of) (defBody s_multiple_of) (defScope s_multiple_of) .none kV2 dc2 pm2 an2 cd2 ct2
  | 3 => PySem.W.fnOf "growth" "growth" (defArgs s_growth) (defBody s_growth) (defScope s_growth) .none kV3 dc3 pm3 an3 cd3 ct3
  | 4 => PySem.W.fnOf "least_period" "least_period" (defArgs s_least_period) (defBody s_least_period) (defScope s_least_period) .none kV4 dc4 pm4 an4 cd4 ct4
  | 5 => PySem.W.fnOf "least_curve" "least_curve" (defArgs s_least_curve) (defBody s_least_curve) (defScope s_least_curve) .none kV5 dc5 pm5 an5 cd5 ct5
  | 6 => PySem.W.fnOf "same_curve" "same_curve" (defArgs s_same_curve) (defBody s_same_curve) (defScope s_same_curve) .none kV6 dc6 pm6 an6 cd6 ct6
  | 7 => PySem.W.fnOf "first_above" "first_above" (defArgs s_first_above) (defBody s_first_above) (defScope s_first_above) .none kV7 dc7 pm7 an7 cd7 ct7
  | 8 => PySem.W.fnOf "compared_curves" "compared_curves" (defArgs s_compared_curves) (defBody s_compared_curves) (defScope s_compared_curves) .none kV8 dc8 pm8 an8 cd8 ct8
  | 9 => PySem.W.fnOf "store_paper" "store_paper" (defArgs s_store_paper) (defBody s_store_paper) (defScope s_store_paper) .none kV9 dc9 pm9 an9 cd9 ct9
  | 10 => PySem.W.fnOf "first_at_least" "first_at_least" (defArgs s_first_at_least) (defBody s_first_at_least) (defScope s_first_at_least) .none kV10 dc10 pm10 an10 cd10 ct10
  | 12 => PySem.W.fnOf "reach" "reach" (defArgs s_reach) (defBody s_reach) (defScope s_reach) .none kV12 dc12 pm12 an12 cd12 ct12
  | 11 => PySem.W.fnOf "delay_bound" "delay_bound" (defArgs s_delay_bound) (defBody s_delay_bound) (defScope s_delay_bound) .none kV11 dc11 pm11 an11 cd11 ct11
  | 13 => PySem.W.fnOf "__init__" "Pair.__init__" (defArgs s_Pair___init__) (defBody s_Pair___init__) (defScope s_Pair___init__) .none kV13 dc13 pm13 an13 cd13 ct13
  | 14 => PySem.W.fnOf "values" "Pair.values" (defArgs s_Pair_values) (defBody s_Pair_values) (defScope s_Pair_values) .none kV14 dc14 pm14 an14 cd14 ct14
  | 15 => PySem.W.fnOf "settled" "Pair.settled" (defArgs s_Pair_settled) (defBody s_Pair_settled) (defScope s_Pair_settled) .none kV15 dc15 pm15 an15 cd15 ct15
  | 16 => PySem.W.fnOf "sum_of" "sum_of" (defArgs s_sum_of) (defBody s_sum_of) (defScope s_sum_of) .none kV16 dc16 pm16 an16 cd16 ct16
  | 17 => PySem.W.fnOf "times_of" "times_of" (defArgs s_times_of) (defBody s_times_of) (defScope s_times_of) .none kV17 dc17 pm17 an17 cd17 ct17
  | 18 => PySem.W.fnOf "lower_of" "lower_of" (defArgs s_lower_of) (defBody s_lower_of) (defScope s_lower_of) .none kV18 dc18 pm18 an18 cd18 ct18
  | 19 => PySem.W.fnOf "upper_of" "upper_of" (defArgs s_upper_of) (defBody s_upper_of) (defScope s_upper_of) .none kV19 dc19 pm19 an19 cd19 ct19
  | 20 => PySem.W.fnOf "later" "later" (defArgs s_later) (defBody s_later) (defScope s_later) .none kV20 dc20 pm20 an20 cd20 ct20
  | 21 => PySem.W.fnOf "one_sided" "one_sided" (defArgs s_one_sided) (defBody s_one_sided) (defScope s_one_sided) .none kV21 dc21 pm21 an21 cd21 ct21
  | 22 => PySem.W.fnOf "joined" "joined" (defArgs s_joined) (defBody s_joined) (defScope s_joined) .none kV22 dc22 pm22 an22 cd22 ct22
  | 23 => PySem.W.fnOf "_law_start" "_law_start" (defArgs s__law_start) (defBody s__law_start) (defScope s__law_start) .none kV23 dc23 pm23 an23 cd23 ct23
  | 24 => PySem.W.fnOf "_law_fill" "_law_fill" (defArgs s__law_fill) (defBody s__law_fill) (defScope s__law_fill) .none kV24 dc24 pm24 an24 cd24 ct24
  | 25 => PySem.W.fnOf "_law_take" "_law_take" (defArgs s__law_take) (defBody s__law_take) (defScope s__law_take) .none kV25 dc25 pm25 an25 cd25 ct25
  | 26 => PySem.W.fnOf "_law_said" "_law_said" (defArgs s__law_said) (defBody s__law_said) (defScope s__law_said) .none kV26 dc26 pm26 an26 cd26 ct26
  | 27 => PySem.W.fnOf "_law_gcd" "_law_gcd" (defArgs s__law_gcd) (defBody s__law_gcd) (defScope s__law_gcd) .none kV27 dc27 pm27 an27 cd27 ct27
  | 28 => PySem.W.fnOf "_law_curve" "_law_curve" (defArgs s__law_curve) (defBody s__law_curve) (defScope s__law_curve) .none kV28 dc28 pm28 an28 cd28 ct28
  | 29 => PySem.W.fnOf "_law_at" "_law_at" (defArgs s__law_at) (defBody s__law_at) (defScope s__law_at) .none kV29 dc29 pm29 an29 cd29 ct29
  | 30 => PySem.W.fnOf "_law_form" "_law_form" (defArgs s__law_form) (defBody s__law_form) (defScope s__law_form) .none kV30 dc30 pm30 an30 cd30 ct30
  | 31 => PySem.W.fnOf "_law_delay" "_law_delay" (defArgs s__law_delay) (defBody s__law_delay) (defScope s__law_delay) .none kV31 dc31 pm31 an31 cd31 ct31
  | 32 => PySem.W.fnOf "law" "law" (defArgs s_law) (defBody s_law) (defScope s_law) .none kV32 dc32 pm32 an32 cd32 ct32
  | _ => PySem.W.fnOf "law" "law" (defArgs s_law) (defBody s_law) (defScope s_law) .none kV32 dc32 pm32 an32 cd32 ct32
  have T : Txt K mg cA f fd := ⟨fun_mk (st := s_common_divisor) l0 c0 k0,
    (fun_mk (st := s_common_divisor) l0 c0 k0).binds (ps := ["first", "second"]) fun _ _ _ _ _ _ us hl => match us, hl with | [_, _], _ => rfl,
    PySem.W.mg_of X G a0,
    fun_mk (st := s_value_at) l1 c1 k1,
    (fun_mk (st := s_value_at) l1 c1 k1).binds (ps := ["curve", "t"]) fun _ _ _ _ _ _ us hl => match us, hl with | [_, _], _ => rfl,
    PySem.W.mg_of X G a1,
    fun_mk (st := s_multiple_of) l2 c2 k2,
    (fun_mk (st := s_multiple_of) l2 c2 k2).binds (ps := ["f", "g"]) fun _ _ _ _ _ _ us hl => match us, hl with | [_, _], _ => rfl,
    PySem.W.mg_of X G a2,
    fun_mk (st := s_growth) l3 c3 k3,
    (fun_mk (st := s_growth) l3 c3 k3).binds (ps := ["curve", "d"]) fun _ _ _ _ _ _ us hl => match us, hl with | [_, _], _ => rfl,
    PySem.W.mg_of X G a3,
    fun_mk (st := s_least_period) l4 c4 k4,
    (fun_mk (st := s_least_period) l4 c4 k4).binds (ps := ["differences", "period"]) fun _ _ _ _ _ _ us hl => match us, hl with | [_, _], _ => rfl,
    PySem.W.mg_of X G a4,
    fun_mk (st := s_least_curve) l5 c5 k5,
    (fun_mk (st := s_least_curve) l5 c5 k5).binds (ps := ["curve"]) fun _ _ _ _ _ _ us hl => match us, hl with | [_], _ => rfl,
    PySem.W.mg_of X G a5,
    fun_mk (st := s_same_curve) l6 c6 k6,
    (fun_mk (st := s_same_curve) l6 c6 k6).binds (ps := ["f", "g"]) fun _ _ _ _ _ _ us hl => match us, hl with | [_, _], _ => rfl,
    PySem.W.mg_of X G a6,
    fun_mk (st := s_first_above) l7 c7 k7,
    (fun_mk (st := s_first_above) l7 c7 k7).binds (ps := ["f", "g"]) fun _ _ _ _ _ _ us hl => match us, hl with | [_, _], _ => rfl,
    PySem.W.mg_of X G a7,
    fun_mk (st := s_compared_curves) l8 c8 k8,
    (fun_mk (st := s_compared_curves) l8 c8 k8).binds (ps := ["f", "g"]) fun _ _ _ _ _ _ us hl => match us, hl with | [_, _], _ => rfl,
    PySem.W.mg_of X G a8,
    fun_mk (st := s_store_paper) l9 c9 k9,
    (fun_mk (st := s_store_paper) l9 c9 k9).binds (ps := ["f", "g"]) fun _ _ _ _ _ _ us hl => match us, hl with | [_, _], _ => rfl,
    PySem.W.mg_of X G a9,
    fun_mk (st := s_first_at_least) l10 c10 k10,
    (fun_mk (st := s_first_at_least) l10 c10 k10).binds (ps := ["g", "value"]) fun _ _ _ _ _ _ us hl => match us, hl with | [_, _], _ => rfl,
    PySem.W.mg_of X G a10,
    fun_mk (st := s_reach) l12 c12 k12,
    (fun_mk (st := s_reach) l12 c12 k12).binds (ps := ["f", "g"]) fun _ _ _ _ _ _ us hl => match us, hl with | [_, _], _ => rfl,
    PySem.W.mg_of X G a12,
    fun_mk (st := s_delay_bound) l11 c11 k11,
    (fun_mk (st := s_delay_bound) l11 c11 k11).binds (ps := ["f", "g"]) fun _ _ _ _ _ _ us hl => match us, hl with | [_, _], _ => rfl,
    PySem.W.mg_of X G a11,
    fun_mk (st := s_Pair___init__) l13 c13 k13,
    (fun_mk (st := s_Pair___init__) l13 c13 k13).binds (ps := ["self", "f", "g"]) fun _ _ _ _ _ _ us hl => match us, hl with | [_, _, _], _ => rfl,
    fun_mk (st := s_Pair_values) l14 c14 k14,
    (fun_mk (st := s_Pair_values) l14 c14 k14).binds (ps := ["self", "t"]) fun _ _ _ _ _ _ us hl => match us, hl with | [_, _], _ => rfl,
    ⟨a14, i14, k14⟩,
    fun_mk (st := s_Pair_settled) l15 c15 k15,
    (fun_mk (st := s_Pair_settled) l15 c15 k15).binds (ps := ["self"]) fun _ _ _ _ _ _ us hl => match us, hl with | [_], _ => rfl,
    ⟨a15, i15, k15⟩,
    fun_mk (st := s_sum_of) l16 c16 k16,
    (fun_mk (st := s_sum_of) l16 c16 k16).binds (ps := ["f", "g"]) fun _ _ _ _ _ _ us hl => match us, hl with | [_, _], _ => rfl,
    PySem.W.mg_of X G a16,
    fun_mk (st := s_times_of) l17 c17 k17,
    (fun_mk (st := s_times_of) l17 c17 k17).binds (ps := ["f", "k"]) fun _ _ _ _ _ _ us hl => match us, hl with | [_, _], _ => rfl,
    PySem.W.mg_of X G a17,
    fun_mk (st := s_lower_of) l18 c18 k18,
    (fun_mk (st := s_lower_of) l18 c18 k18).binds (ps := ["f", "g"]) fun _ _ _ _ _ _ us hl => match us, hl with | [_, _], _ => rfl,
    PySem.W.mg_of X G a18,
    fun_mk (st := s_upper_of) l19 c19 k19,
    (fun_mk (st := s_upper_of) l19 c19 k19).binds (ps := ["f", "g"]) fun _ _ _ _ _ _ us hl => match us, hl with | [_, _], _ => rfl,
    PySem.W.mg_of X G a19,
    fun_mk (st := s_later) l20 c20 k20,
    (fun_mk (st := s_later) l20 c20 k20).binds (ps := ["f", "k"]) fun _ _ _ _ _ _ us hl => match us, hl with | [_, _], _ => rfl,
    PySem.W.mg_of X G a20,
    fun_mk (st := s_one_sided) l21 c21 k21,
    (fun_mk (st := s_one_sided) l21 c21 k21).binds (ps := ["f", "g", "d"]) fun _ _ _ _ _ _ us hl => match us, hl with | [_, _, _], _ => rfl,
    PySem.W.mg_of X G a21,
    fun_mk (st := s_joined) l22 c22 k22,
    (fun_mk (st := s_joined) l22 c22 k22).binds (ps := ["f", "g"]) fun _ _ _ _ _ _ us hl => match us, hl with | [_, _], _ => rfl,
    PySem.W.mg_of X G a22,
    fun_mk (st := s__law_start) l23 c23 k23,
    (fun_mk (st := s__law_start) l23 c23 k23).binds (ps := ["script"]) fun _ _ _ _ _ _ us hl => match us, hl with | [_], _ => rfl,
    PySem.W.mg_of X G a23,
    fun_mk (st := s__law_fill) l24 c24 k24,
    (fun_mk (st := s__law_fill) l24 c24 k24).binds (ps := ["c"]) fun _ _ _ _ _ _ us hl => match us, hl with | [_], _ => rfl,
    PySem.W.mg_of X G a24,
    fun_mk (st := s__law_take) l25 c25 k25,
    (fun_mk (st := s__law_take) l25 c25 k25).binds (ps := ["c", "many"]) fun _ _ _ _ _ _ us hl => match us, hl with | [_, _], _ => rfl,
    PySem.W.mg_of X G a25,
    fun_mk (st := s__law_said) l26 c26 k26,
    (fun_mk (st := s__law_said) l26 c26 k26).binds (ps := ["said", "due"]) fun _ _ _ _ _ _ us hl => match us, hl with | [_, _], _ => rfl,
    PySem.W.mg_of X G a26,
    fun_mk (st := s__law_gcd) l27 c27 k27,
    (fun_mk (st := s__law_gcd) l27 c27 k27).binds (ps := ["a", "b"]) fun _ _ _ _ _ _ us hl => match us, hl with | [_, _], _ => rfl,
    PySem.W.mg_of X G a27,
    fun_mk (st := s__law_curve) l28 c28 k28,
    (fun_mk (st := s__law_curve) l28 c28 k28).binds (ps := ["c", "rising"]) fun _ _ _ _ _ _ us hl => match us, hl with | [_, _], _ => rfl,
    PySem.W.mg_of X G a28,
    fun_mk (st := s__law_at) l29 c29 k29,
    (fun_mk (st := s__law_at) l29 c29 k29).binds (ps := ["curve", "t"]) fun _ _ _ _ _ _ us hl => match us, hl with | [_, _], _ => rfl,
    PySem.W.mg_of X G a29,
    fun_mk (st := s__law_form) l30 c30 k30,
    (fun_mk (st := s__law_form) l30 c30 k30).binds (ps := ["row", "begin", "period"]) fun _ _ _ _ _ _ us hl => match us, hl with | [_, _, _], _ => rfl,
    PySem.W.mg_of X G a30,
    fun_mk (st := s__law_delay) l31 c31 k31,
    (fun_mk (st := s__law_delay) l31 c31 k31).binds (ps := ["f", "g", "one", "two"]) fun _ _ _ _ _ _ us hl => match us, hl with | [_, _, _, _], _ => rfl,
    PySem.W.mg_of X G a31,
    fun_mk (st := s_law) l32 c32 k32,
    (fun_mk (st := s_law) l32 c32 k32).binds (ps := ["script"]) fun _ _ _ _ _ _ us hl => match us, hl with | [_], _ => rfl,
    PySem.W.mg_of X G a32,
    ⟨pg0, hd0, po0, sa0⟩,
    PySem.W.mg_of X G gC0,
    ⟨mk0, a13, i13, kc0⟩,
    n0_f,
    n0_g,
    n0_d,
    n0_n,
    ⟨_, PySem.W.mg_of X G g_MOST_VALUES⟩,
    PySem.W.mg_none_of X G z_abs,
    PySem.W.mg_none_of X G z_all,
    PySem.W.mg_none_of X G z_any,
    PySem.W.mg_none_of X G z_bool,
    PySem.W.mg_none_of X G z_enumerate,
    PySem.W.mg_none_of X G z_int,
    PySem.W.mg_none_of X G z_isinstance,
    PySem.W.mg_none_of X G z_len,
    PySem.W.mg_none_of X G z_max,
    PySem.W.mg_none_of X G z_min,
    PySem.W.mg_none_of X G z_range,
    PySem.W.mg_none_of X G z_sum,
    PySem.W.mg_none_of X G z_tuple,
    PySem.W.mg_none_of X G z_zip⟩
  exact ⟨fd 32, fun s v => .of_eq rfl, fun base _ _ => (ok_law T).imp fun vs H Q E h => spLaw_ok h⟩

theorem walk {l : PySem.W.OpenLaw} {q : Program} {loose : List Str} {XP : (Str → Option Value) → Heap → Prop} {YP : World → Heap → Prop} {d : DefRec} {K : Params → PySem.W.Frag} (hn : l.most = some 63) (hdf : d.params.defaults = [])
    (hY : ∀ (w : World) (h : Heap), YP w h → (K w.params).In h)
    (F : ∀ (w : World) (mg : Str → Option Value) (fa : Addr) (h : Heap), (K w.params).In h → h.Ns mainGlobals mg → mg d.name = some (.ref fa) →
      ∃ fd : FuncData, (∀ (s : Shared) (u : Value), BindsTo s fd ⟨[u], []⟩ [("script", u)]) ∧ ∀ base : Heap, (K w.params).In base → base.Ns mainGlobals mg → FnOk l.prog w (K w.params) mg base CX0 11 fa fd ["script"] (spLaw (K w.params))) :
    PySem.W.WalkO q loose XP YP l.row.toRowW d [] (fun f vs => PySem.call f vs) :=
  L2.walk_of (n := 63) (k := 11) (x := "script") (CX := fun _ => CX0) (sp := fun w => spLaw (K w.params)) hn (by decide) hdf ⟨rfl, by decide, by decide⟩ hY F (fun _ _ a ns hl _ hS => ⟨a, ns, rfl, hS, hl, fun _ => rfl⟩) fun _ _ _ _ _ z => z
end K54
open PySem PySem.W PyProof.Rows
set_option maxRecDepth 100000 in
set_option maxHeartbeats 0 in
theorem PySem.Challenge.cw_longhours_k54_curves_by_values_holds : PySem.Challenge.rw_longhours_k54_curves_by_values.Holds := by
  w_on; o_law; k_head; (case hw => w_witness2)
  k_fill
  refine K54.walk (l := PySem.Challenge.rw_longhours_k54_curves_by_values) rfl rfl (fun w h Y => PySem.W.kIn_of Y) ?F
  case F =>
    intro w mg fa h KX G hmg
    refine' K54.all_mk KX G hmg ?a0 ?l0 ?c0 ?k0 ?a1 ?l1 ?c1 ?k1 ?a2 ?l2 ?c2 ?k2 ?a3 ?l3 ?c3 ?k3 ?a4 ?l4 ?c4 ?k4 ?a5 ?l5 ?c5 ?k5 ?a6 ?l6 ?c6 ?k6 ?a7 ?l7 ?c7 ?k7 ?a8 ?l8 ?c8 ?k8 ?a9 ?l9 ?c9 ?k9 ?a10 ?l10 ?c10 ?k10 ?a12 ?l12 ?c12 ?k12 ?a11 ?l11 ?c11 ?k11 ?a13 ?i13 ?l13 ?c13 ?k13 ?a14 ?i14 ?l14 ?c14 ?k14 ?a15 ?i15 ?l15 ?c15 ?k15 ?a16 ?l16 ?c16 ?k16 ?a17 ?l17 ?c17 ?k17 ?a18 ?l18 ?c18 ?k18 ?a19 ?l19 ?c19 ?k19 ?a20 ?l20 ?c20 ?k20 ?a21 ?l21 ?c21 ?k21 ?a22 ?l22 ?c22 ?k22 ?a23 ?l23 ?c23 ?k23 ?a24 ?l24 ?c24 ?k24 ?a25 ?l25 ?c25 ?k25 ?a26 ?l26 ?c26 ?k26 ?a27 ?l27 ?c27 ?k27 ?a28 ?l28 ?c28 ?k28 ?a29 ?l29 ?c29 ?k29 ?a30 ?l30 ?c30 ?k30 ?a31 ?l31 ?c31 ?k31 ?a32 ?l32 ?c32 ?k32 ?gC0 ?pg0 ?hd0 ?po0 ?sa0 ?mk0 ?kc0 ?n0_f ?n0_g ?n0_d ?n0_n ?z_abs ?z_all ?z_any ?z_bool ?z_enumerate ?z_int ?z_isinstance ?z_len ?z_max ?z_min ?z_range ?z_sum ?z_tuple ?z_zip ?g_MOST_VALUES
    (case gC0 => k_is)
    (case pg0 => k_is)
    (case hd0 => k_is)
    (case po0 => k_is)
    (case sa0 => k_is)
    (case mk0 => k_is)
    (case kc0 => k_is)
    (case n0_f => k_is)
    (case n0_g => k_is)
    (case n0_d => k_is)
    (case n0_n => k_is)
    (case a0 => k_is)
    (case l0 => k_is)
    (case c0 => k_is)
    (case k0 => k_is)
    (case a1 => k_is)
    (case l1 => k_is)
    (case c1 => k_is)
    (case k1 => k_is)
    (case a2 => k_is)
    (case l2 => k_is)
    (case c2 => k_is)
    (case k2 => k_is)
    (case a3 => k_is)
    (case l3 => k_is)
    (case c3 => k_is)
    (case k3 => k_is)
    (case a4 => k_is)
    (case l4 => k_is)
    (case c4 => k_is)
    (case k4 => k_is)
    (case a5 => k_is)
    (case l5 => k_is)
    (case c5 => k_is)
    (case k5 => k_is)
    (case a6 => k_is)
    (case l6 => k_is)
    (case c6 => k_is)
    (case k6 => k_is)
    (case a7 => k_is)
    (case l7 => k_is)
    (case c7 => k_is)
    (case k7 => k_is)
    (case a8 => k_is)
    (case l8 => k_is)
    (case c8 => k_is)
    (case k8 => k_is)
    (case a9 => k_is)
    (case l9 => k_is)
    (case c9 => k_is)
    (case k9 => k_is)
    (case a10 => k_is)
    (case l10 => k_is)
    (case c10 => k_is)
    (case k10 => k_is)
    (case a12 => k_is)
    (case l12 => k_is)
    (case c12 => k_is)
    (case k12 => k_is)
    (case a11 => k_is)
    (case l11 => k_is)
    (case c11 => k_is)
    (case k11 => k_is)
    (case a13 => k_is)
    (case i13 => k_is)
    (case l13 => k_is)
    (case c13 => k_is)
    (case k13 => k_is)
    (case a14 => k_is)
    (case i14 => k_is)
    (case l14 => k_is)
    (case c14 => k_is)
    (case k14 => k_is)
    (case a15 => k_is)
    (case i15 => k_is)
    (case l15 => k_is)
    (case c15 => k_is)
    (case k15 => k_is)
    (case a16 => k_is)
    (case l16 => k_is)
    (case c16 => k_is)
    (case k16 => k_is)
    (case a17 => k_is)
    (case l17 => k_is)
    (case c17 => k_is)
    (case k17 => k_is)
    (case a18 => k_is)
    (case l18 => k_is)
    (case c18 => k_is)
    (case k18 => k_is)
    (case a19 => k_is)
    (case l19 => k_is)
    (case c19 => k_is)
    (case k19 => k_is)
    (case a20 => k_is)
    (case l20 => k_is)
    (case c20 => k_is)
    (case k20 => k_is)
    (case a21 => k_is)
    (case l21 => k_is)
    (case c21 => k_is)
    (case k21 => k_is)
    (case a22 => k_is)
    (case l22 => k_is)
    (case c22 => k_is)
    (case k22 => k_is)
    (case a23 => k_is)
    (case l23 => k_is)
    (case c23 => k_is)
    (case k23 => k_is)
    (case a24 => k_is)
    (case l24 => k_is)
    (case c24 => k_is)
    (case k24 => k_is)
    (case a25 => k_is)
    (case l25 => k_is)
    (case c25 => k_is)
    (case k25 => k_is)
    (case a26 => k_is)
    (case l26 => k_is)
    (case c26 => k_is)
    (case k26 => k_is)
    (case a27 => k_is)
    (case l27 => k_is)
    (case c27 => k_is)
    (case k27 => k_is)
    (case a28 => k_is)
    (case l28 => k_is)
    (case c28 => k_is)
    (case k28 => k_is)
    (case a29 => k_is)
    (case l29 => k_is)
    (case c29 => k_is)
    (case k29 => k_is)
    (case a30 => k_is)
    (case l30 => k_is)
    (case c30 => k_is)
    (case k30 => k_is)
    (case a31 => k_is)
    (case l31 => k_is)
    (case c31 => k_is)
    (case k31 => k_is)
    (case a32 => k_is)
    (case l32 => k_is)
    (case c32 => k_is)
    (case k32 => k_is)
    (case z_abs => k_is)
    (case z_all => k_is)
    (case z_any => k_is)
    (case z_bool => k_is)
    (case z_enumerate => k_is)
    (case z_int => k_is)
    (case z_isinstance => k_is)
    (case z_len => k_is)
    (case z_max => k_is)
    (case z_min => k_is)
    (case z_range => k_is)
    (case z_sum => k_is)
    (case z_tuple => k_is)
    (case z_zip => k_is)
    (case g_MOST_VALUES => k_is)

