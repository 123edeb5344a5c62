import PyProof.Rows.All
import PySem.Challenge.RW_longhours_k62_calendars_and_near_meeting
import HandS.ForMost
import HandS.IsInst
import HandS.NoneIn
import HandS.RaiseMore
import HandS.Flow
import KE.GoesMore
import HandS.Deep
import HandS.TupAny
import HandS.SetFor
import HandS.Strs
import HandS.Zip
import HandS.Style
import PyProof.Ascii
set_option autoImplicit true
set_option relaxedAutoImplicit true
set_option Elab.async false
set_option linter.all false
set_option maxRecDepth 100000
set_option maxHeartbeats 4000000
/-! DL: deep data over the hand layer. A: data, what stands where, the state. -/
namespace DL
open PySem PySem.Spec PyProof.Rows L2

/-- deep data -/
inductive D where
  | non | bl (b : Bool) | int (i : Int) | str (x : Str)
  | tup (xs : List D) | lst (xs : List D)
  | obj (C : Nat) (ns : List Str) (xs : List D)
  /-- the script -/
  | scr (ns : List Int)

/-- the written part, and where its classes stand -/
structure Gm where
  K : PySem.W.Frag
  cA : Nat → Addr

theorem sqt_same {K : PySem.W.Frag} {H H' : Hp} {a : Addr} {xs : List V} (e : Same H H') (h : SqT K H a xs) : SqT K H' a xs := by
  rcases h with (h | ⟨o, h⟩) | h
  · exact .inl (.inl (e _ _ h))
  · exact .inl (.inr ⟨o, e _ _ h⟩)
  · exact .inr h

mutual
def Rp (G : Gm) (H : Hp) : D → V → Prop
  | .non, v => v = .non
  | .bl b, v => v = .bl b
  | .int i, v => v = .int i
  | .str x, v => v = .str x
  | .tup ds, v => ∃ a vs, v = V.ref a ∧ SqT G.K H a vs ∧ Rps G H ds vs
  | .lst ds, v => ∃ a vs, v = V.ref a ∧ H a = some (.lst vs) ∧ Rps G H ds vs
  | .obj C ns ds, v => ∃ a dx vs, v = V.ref a ∧ H a = some (.ins (G.cA C) dx (ns.zip vs)) ∧ H dx = some (.own a) ∧ ns.length = ds.length ∧ Rps G H ds vs
  | .scr ns, v => ∃ a, v = V.ref a ∧ SqL G.K H a (ns.map V.int)
def Rps (G : Gm) (H : Hp) : List D → List V → Prop
  | [], vs => vs = []
  | d :: ds, vs => ∃ v r, vs = v :: r ∧ Rp G H d v ∧ Rps G H ds r
end

variable {G : Gm}

mutual
theorem Rp.mono {H H' : Hp} (e : Same H H') : ∀ (d : D) (v : V), Rp G H d v → Rp G H' d v
  | .non, _, h => by unfold Rp at h ⊢; exact h
  | .bl _, _, h => by unfold Rp at h ⊢; exact h
  | .int _, _, h => by unfold Rp at h ⊢; exact h
  | .str _, _, h => by unfold Rp at h ⊢; exact h
  | .tup ds, v, h => by
    unfold Rp at h ⊢
    obtain ⟨a, vs, h1, h2, h3⟩ := h
    exact ⟨a, vs, h1, sqt_same e h2, Rps.mono e ds vs h3⟩
  | .lst ds, v, h => by
    unfold Rp at h ⊢
    obtain ⟨a, vs, h1, h2, h3⟩ := h
    exact ⟨a, vs, h1, e _ _ h2, Rps.mono e ds vs h3⟩
  | .obj C ns ds, v, h => by
    unfold Rp at h ⊢
    obtain ⟨a, dx, vs, h1, h2, h3, h4, h5⟩ := h
    exact ⟨a, dx, vs, h1, e _ _ h2, e _ _ h3, h4, Rps.mono e ds vs h5⟩
  | .scr ns, v, h => by
    unfold Rp at h ⊢
    obtain ⟨a, h1, h2⟩ := h
    exact ⟨a, h1, e.seq h2⟩
theorem Rps.mono {H H' : Hp} (e : Same H H') : ∀ (ds : List D) (vs : List V), Rps G H ds vs → Rps G H' ds vs
  | [], _, h => by unfold Rps at h ⊢; exact h
  | d :: ds, vs, h => by
    unfold Rps at h ⊢
    obtain ⟨v, r, h1, h2, h3⟩ := h
    exact ⟨v, r, h1, Rp.mono e d v h2, Rps.mono e ds r h3⟩
end

theorem Rps.len {H : Hp} : ∀ {ds : List D} {vs : List V}, Rps G H ds vs → vs.length = ds.length
  | [], _, h => by unfold Rps at h; subst h; rfl
  | d :: ds, vs, h => by
    unfold Rps at h
    obtain ⟨v, r, rfl, _, h3⟩ := h
    rw [List.length_cons, List.length_cons, Rps.len h3]
theorem Rps.get {H : Hp} : ∀ {ds : List D} {vs : List V} {i : Nat} {d : D}, Rps G H ds vs → ds[i]? = some d → ∃ v, vs[i]? = some v ∧ Rp G H d v
  | [], _, _, _, _, e => by simp at e
  | d :: ds, vs, 0, x, h, e => by
    unfold Rps at h
    obtain ⟨v, r, rfl, h2, _⟩ := h
    simp at e; subst e
    exact ⟨v, rfl, h2⟩
  | d :: ds, vs, i + 1, x, h, e => by
    unfold Rps at h
    obtain ⟨v, r, rfl, _, h3⟩ := h
    obtain ⟨w, e1, e2⟩ := Rps.get (i := i) h3 (by simpa using e)
    exact ⟨w, by simpa using e1, e2⟩
theorem Rps.getV {H : Hp} : ∀ {ds : List D} {vs : List V} {i : Nat} {v : V}, Rps G H ds vs → vs[i]? = some v → ∃ d, ds[i]? = some d ∧ Rp G H d v := fun {ds vs i v} h e => by
  have hl : i < ds.length := by rw [← h.len]; exact (List.getElem?_eq_some_iff.mp e).1
  obtain ⟨w, e1, e2⟩ := h.get (List.getElem?_eq_getElem hl)
  rw [e] at e1; cases e1
  exact ⟨_, List.getElem?_eq_getElem hl, e2⟩
theorem Rps.nil {H : Hp} : Rps G H [] [] := by unfold Rps; rfl
theorem Rps.cons {H : Hp} {d : D} {v : V} {ds : List D} {vs : List V} (h : Rp G H d v) (t : Rps G H ds vs) : Rps G H (d :: ds) (v :: vs) := by
  unfold Rps; exact ⟨v, vs, rfl, h, t⟩
theorem Rps.append {H : Hp} : ∀ {ds es : List D} {vs ws : List V}, Rps G H ds vs → Rps G H es ws → Rps G H (ds ++ es) (vs ++ ws)
  | [], _, _, _, h, t => by unfold Rps at h; subst h; exact t
  | d :: ds, es, vs, ws, h, t => by
    unfold Rps at h
    obtain ⟨v, r, rfl, h2, h3⟩ := h
    exact Rps.cons h2 (Rps.append h3 t)
theorem Rps.drop {H : Hp} : ∀ {ds : List D} {vs : List V} (n : Nat), Rps G H ds vs → Rps G H (ds.drop n) (vs.drop n)
  | _, _, 0, h => h
  | [], _, n + 1, h => by unfold Rps at h; subst h; exact Rps.nil
  | d :: ds, vs, n + 1, h => by
    unfold Rps at h
    obtain ⟨v, r, rfl, h2, h3⟩ := h
    exact Rps.drop n h3
theorem Rps.take {H : Hp} : ∀ {ds : List D} {vs : List V} (n : Nat), Rps G H ds vs → Rps G H (ds.take n) (vs.take n)
  | _, _, 0, _ => Rps.nil
  | [], _, n + 1, h => by unfold Rps at h; subst h; exact Rps.nil
  | d :: ds, vs, n + 1, h => by
    unfold Rps at h
    obtain ⟨v, r, rfl, h2, h3⟩ := h
    exact Rps.cons h2 (Rps.take n h3)
theorem Rps.set {H : Hp} {d : D} {v : V} (hd : Rp G H d v) : ∀ {ds : List D} {vs : List V} (n : Nat), Rps G H ds vs → Rps G H (ds.set n d) (vs.set n v)
  | [], _, _, h => by unfold Rps at h; subst h; exact Rps.nil
  | _ :: ds, vs, 0, h => by
    unfold Rps at h
    obtain ⟨v, r, rfl, h2, h3⟩ := h
    exact Rps.cons hd h3
  | _ :: ds, vs, n + 1, h => by
    unfold Rps at h
    obtain ⟨v, r, rfl, h2, h3⟩ := h
    exact Rps.cons h2 (Rps.set hd n h3)
theorem Rps.atI {H : Hp} {ds : List D} {vs : List V} {i : Int} {d : D} (h : Rps G H ds vs) (e : atI ds i = some d) : ∃ v, atI vs i = some v ∧ Rp G H d v := by
  unfold L2.atI at e ⊢
  rw [h.len]
  cases q : ixN ds.length i with
  | none => rw [q] at e; cases e
  | some j =>
    rw [q] at e
    exact h.get e

/-! ### slots, results -/
inductive Sl where
  | no | val (d : D) | own (ds : List D) | cst
/-- an expression's value: clean data; the owned list in a slot; the cell -/
inductive R where
  | c (d : D) | o (i : Nat) | k
/-- how a statement ends -/
inductive Fl where
  | nx | bk | ct | rt (d : D)
  /-- a new list that nobody else knows -/
  | rf (ds : List D)

/-- a def's frame: what stood at its entry (but the cell), what may not be reached, the cell -/
structure Fr where
  He : Hp
  ban : Addr → Prop
  pc : Option Addr

abbrev VS := List (Option V)

def SlOk (G : Gm) (F : Fr) (H0 H : Hp) (σ : VS) (i : Nat) : Sl → Prop
  | .no => True
  | .val d => ∃ v, σ[i]? = some (some v) ∧ Rp G H0 d v
  | .own ds => ∃ p vs, σ[i]? = some (some (V.ref p)) ∧ H0 p = none ∧ F.He p = none ∧ F.pc ≠ some p ∧ H p = some (.lst vs) ∧ Rps G H0 ds vs
  | .cst => ∃ p, F.pc = some p ∧ σ[i]? = some (some (V.ref p))
def PcOk (G : Gm) (He H0 H : Hp) : Option Addr → Option D → Prop
  | none, none => True
  | some p, some (.lst ds) => H0 p = none ∧ He p = none ∧ ∃ vs, H p = some (.lst vs) ∧ Rps G H0 ds vs
  | some p, some (.obj C ns ds) => H0 p = none ∧ He p = none ∧ ∃ dx vs, H p = some (.ins (G.cA C) dx (ns.zip vs)) ∧ H dx = some (.own p) ∧ H0 dx = none ∧ He dx = none ∧ ns.length = ds.length ∧ Rps G H0 ds vs
  | _, _ => False

structure StOk (G : Gm) (F : Fr) (H0 H : Hp) (S : List Sl) (cs : Option D) (σ : VS) : Prop where
  ex : Same H0 H
  he : Same F.He H
  bn : ∀ a, F.ban a → F.He a ≠ none ∧ H0 a = none
  len : S.length = σ.length
  sl : ∀ (i : Nat) (s : Sl), S[i]? = some s → SlOk G F H0 H σ i s
  ds : ∀ (i j : Nat) (p : Addr) (xs ys : List D), i ≠ j → S[i]? = some (Sl.own xs) → S[j]? = some (Sl.own ys) → σ[i]? = some (some (V.ref p)) → σ[j]? = some (some (V.ref p)) → False
  pc : PcOk G F.He H0 H F.pc cs

/-- the heap and its known part grow; nothing that stood apart is taken in -/
structure Gr (H0 H H0' H' : Hp) : Prop where
  a : Same H0 H0'
  b : Same H H'
  c : Same H0' H'
  d : ∀ x, H x ≠ none → H0 x = none → H0' x = none
theorem Gr.refl {H0 H : Hp} (h : Same H0 H) : Gr H0 H H0 H := ⟨Same.refl _, Same.refl _, h, fun _ _ q => q⟩
theorem Same.ne {H H' : Hp} (e : Same H H') {a : Addr} (h : H a ≠ none) : H' a ≠ none := by
  cases q : H a with
  | none => exact absurd q h
  | some o => rw [e a o q]; simp
theorem Gr.trans {H0 H H1 H' H2 H'' : Hp} (x : Gr H0 H H1 H') (y : Gr H1 H' H2 H'') : Gr H0 H H2 H'' :=
  ⟨x.a.trans y.a, x.b.trans y.b, y.c, fun q h1 h2 => y.d q (Same.ne x.b h1) (x.d q h1 h2)⟩
theorem ne_none {H : Hp} {a : Addr} {o : HO} (h : H a = some o) : H a ≠ none := by rw [h]; simp

section
variable {F : Fr} {H0 H H0' H' : Hp} {S : List Sl} {cs : Option D} {σ : VS}
theorem SlOk.grow (g : Gr H0 H H0' H') {i : Nat} : ∀ {s : Sl}, SlOk G F H0 H σ i s → SlOk G F H0' H' σ i s
  | .no, _ => trivial
  | .val d, h => let ⟨v, e, r⟩ := h; ⟨v, e, r.mono g.a⟩
  | .own ds, h => let ⟨p, vs, e, h1, h2, h3, h4, h5⟩ := h; ⟨p, vs, e, g.d p (ne_none h4) h1, h2, h3, g.b _ _ h4, h5.mono g.a⟩
  | .cst, h => h
theorem PcOk.grow {He : Hp} (g : Gr H0 H H0' H') : ∀ {pc : Option Addr} {cs : Option D}, PcOk G He H0 H pc cs → PcOk G He H0' H' pc cs
  | none, none, _ => trivial
  | some p, some (.lst ds), h => let ⟨h1, h2, vs, h3, h4⟩ := h; ⟨g.d p (ne_none h3) h1, h2, vs, g.b _ _ h3, h4.mono g.a⟩
  | some p, some (.obj C ns ds), h => let ⟨h1, h2, dx, vs, h3, h4, h5, h6, h7, h8⟩ := h
    ⟨g.d p (ne_none h3) h1, h2, dx, vs, g.b _ _ h3, g.b _ _ h4, g.d dx (ne_none h4) h5, h6, h7, h8.mono g.a⟩
  | none, some _, h => h.elim
  | some _, none, h => h.elim
  | some _, some .non, h => h.elim
  | some _, some (.bl _), h => h.elim
  | some _, some (.int _), h => h.elim
  | some _, some (.str _), h => h.elim
  | some _, some (.tup _), h => h.elim
  | some _, some (.scr _), h => h.elim
theorem StOk.grow (I : StOk G F H0 H S cs σ) (g : Gr H0 H H0' H') : StOk G F H0' H' S cs σ :=
  ⟨g.c, I.he.trans g.b, fun a h => ⟨(I.bn a h).1, g.d a (Same.ne I.he (I.bn a h).1) (I.bn a h).2⟩, I.len, fun i s e => (I.sl i s e).grow g, I.ds, I.pc.grow g⟩
/-- a new known object -/
theorem Gr.new (e : Same H0 H) {p : Addr} (o : HO) (h : H p = none) : Gr H0 H (upd H0 p o) (upd H p o) := by
  have h0 : H0 p = none := e.free h
  refine ⟨fun b x q => ?_, fun b x q => ?_, fun b x q => ?_, fun x h1 h2 => ?_⟩
  · rw [upd_ne (ne_of_none q h0)]; exact q
  · rw [upd_ne (ne_of_none q h)]; exact q
  · by_cases hb : b = p
    · subst hb; rw [upd_same] at q ⊢; exact q
    · rw [upd_ne hb] at q ⊢; exact e _ _ q
  · have : x ≠ p := fun z => h1 (z ▸ h)
    rw [upd_ne this]; exact h2
/-- a new object, not known -/
theorem Gr.off (e : Same H0 H) {p : Addr} (o : HO) (h : H p = none) : Gr H0 H H0 (upd H p o) := by
  refine ⟨Same.refl _, fun b x q => ?_, fun b x q => ?_, fun x h1 h2 => h2⟩
  · rw [upd_ne (ne_of_none q h)]; exact q
  · rw [upd_ne (ne_of_none (e _ _ q) h)]; exact e _ _ q
theorem upd_at {p : Addr} {o : HO} : upd H p o p = some o := upd_same
/-- an object that is only owned is taken in -/
theorem Gr.freeze (e : Same H0 H) {p : Addr} {o : HO} (h : H p = some o) : Same H0 (upd H0 p o) ∧ Same (upd H0 p o) H := by
  refine ⟨fun b x q => ?_, fun b x q => ?_⟩
  · by_cases hb : b = p
    · subst hb; rw [upd_same]; rw [e _ _ q] at h; exact h.symm ▸ rfl
    · rw [upd_ne hb]; exact q
  · by_cases hb : b = p
    · subst hb; rw [upd_same] at q; cases q; exact h
    · rw [upd_ne hb] at q; exact e _ _ q
end
end DL

set_option autoImplicit true
set_option relaxedAutoImplicit true
set_option Elab.async false
set_option linter.all false
set_option maxRecDepth 100000
set_option maxHeartbeats 4000000
/-! DL, B: expressions, tests, arguments. -/
namespace DL
open PySem PySem.Spec PyProof.Rows L2

abbrev DE := List Sl → Option D → Option (R × Option D)
abbrev DT := List Sl → Option D → Option (Bool × Option D)
abbrev DA := List Sl → Option D → Option (List R × Option D)
abbrev DF := List Sl → Option D → Option (List D × Option D)
abbrev DS := List Sl → Option D → Option (Fl × List Sl × Option D)
abbrev DG := D → List Sl → Option (List Sl)

variable {G : Gm}

def RR (G : Gm) (F : Fr) (H0 : Hp) (σ : VS) : R → V → Prop
  | .c d, v => Rp G H0 d v
  | .o i, v => σ[i]? = some (some v)
  | .k, v => ∃ p, F.pc = some p ∧ v = V.ref p
def RRs (G : Gm) (F : Fr) (H0 : Hp) (σ : VS) : List R → List V → Prop
  | [], vs => vs = []
  | r :: rs, vs => ∃ v w, vs = v :: w ∧ RR G F H0 σ r v ∧ RRs G F H0 σ rs w
theorem RR.mono {F : Fr} {H0 H0' : Hp} {σ : VS} (e : Same H0 H0') : ∀ {r : R} {v : V}, RR G F H0 σ r v → RR G F H0' σ r v
  | .c d, v, h => Rp.mono e d v h
  | .o i, v, h => h
  | .k, v, h => h
theorem RRs.mono {F : Fr} {H0 H0' : Hp} {σ : VS} (e : Same H0 H0') : ∀ {rs : List R} {vs : List V}, RRs G F H0 σ rs vs → RRs G F H0' σ rs vs
  | [], vs, h => h
  | r :: rs, vs, h => let ⟨v, w, e1, h1, h2⟩ := h; ⟨v, w, e1, h1.mono e, RRs.mono e h2⟩

/-- what a value reads as -/
def rd (S : List Sl) (cs : Option D) : R → Option D
  | .c d => some d
  | .o i => match S[i]? with
    | some (.own ds) => some (.lst ds)
    | _ => none
  | .k => cs
def rds (S : List Sl) (cs : Option D) : List R → Option (List D)
  | [] => some []
  | r :: rs => match rd S cs r with
    | some d => match rds S cs rs with
      | some ds => some (d :: ds)
      | none => none
    | none => none
/-- clean values alone -/
def cleans : List R → Option (List D)
  | [] => some []
  | .c d :: rs => match cleans rs with
    | some ds => some (d :: ds)
    | none => none
  | _ :: _ => none

/-- the value as it may be read now (an owned list's items are known) -/
def RB (G : Gm) (H0 H : Hp) : D → V → Prop
  | .lst ds, v => ∃ a vs, v = V.ref a ∧ H a = some (.lst vs) ∧ Rps G H0 ds vs
  | .obj C ns ds, v => ∃ a dx vs, v = V.ref a ∧ H a = some (.ins (G.cA C) dx (ns.zip vs)) ∧ ns.length = ds.length ∧ Rps G H0 ds vs
  | d, v => Rp G H0 d v
def RBs (G : Gm) (H0 H : Hp) : List D → List V → Prop
  | [], vs => vs = []
  | d :: ds, vs => ∃ v w, vs = v :: w ∧ RB G H0 H d v ∧ RBs G H0 H ds w
theorem Rp.rb {H0 H : Hp} (e : Same H0 H) : ∀ {d : D} {v : V}, Rp G H0 d v → RB G H0 H d v
  | .non, _, h => h
  | .bl _, _, h => h
  | .int _, _, h => h
  | .str _, _, h => h
  | .tup _, _, h => h
  | .scr _, _, h => h
  | .lst ds, v, h => by
    unfold Rp at h
    obtain ⟨a, vs, h1, h2, h3⟩ := h
    exact ⟨a, vs, h1, e _ _ h2, h3⟩
  | .obj C ns ds, v, h => by
    unfold Rp at h
    obtain ⟨a, dx, vs, h1, h2, h3, h4, h5⟩ := h
    exact ⟨a, dx, vs, h1, e _ _ h2, h4, h5⟩

section
variable {F : Fr} {H0 H : Hp} {S : List Sl} {cs : Option D} {σ : VS}
theorem rd_ok (I : StOk G F H0 H S cs σ) {r : R} {v : V} {d : D} (h : RR G F H0 σ r v) (e : rd S cs r = some d) : RB G H0 H d v := by
  cases r with
  | c x => cases e; exact Rp.rb I.ex h
  | o i =>
    have e' : (match S[i]? with
      | some (.own ds) => some (D.lst ds)
      | _ => none) = some d := e
    split at e'
    · rename_i ds q
      cases e'
      obtain ⟨p, vs, e1, _, _, _, e5, e6⟩ := I.sl _ _ q
      rw [show σ[i]? = some (some v) from h] at e1
      cases e1
      exact ⟨p, vs, rfl, e5, e6⟩
    · cases e'
  | k =>
    obtain ⟨p, e1, rfl⟩ := h
    have e' : cs = some d := e
    have q := I.pc
    rw [e1, e'] at q
    cases d with
    | lst ds => obtain ⟨_, _, vs, h3, h4⟩ := q; exact ⟨p, vs, rfl, h3, h4⟩
    | obj C ns ds => obtain ⟨_, _, dx, vs, h3, _, _, _, h7, h8⟩ := q; exact ⟨p, dx, vs, rfl, h3, h7, h8⟩
    | non => exact False.elim q
    | bl _ => exact False.elim q
    | int _ => exact False.elim q
    | str _ => exact False.elim q
    | tup _ => exact False.elim q
    | scr _ => exact False.elim q
theorem rds_ok (I : StOk G F H0 H S cs σ) : ∀ {rs : List R} {vs : List V} {ds : List D}, RRs G F H0 σ rs vs → rds S cs rs = some ds → RBs G H0 H ds vs
  | [], vs, ds, h, e => by cases e; exact h
  | r :: rs, vs, ds, h, e => by
    obtain ⟨v, w, rfl, h1, h2⟩ := h
    unfold rds at e
    split at e
    · rename_i d q
      split at e
      · rename_i ds' q'
        cases e
        exact ⟨v, w, rfl, rd_ok I h1 q, rds_ok I h2 q'⟩
      · cases e
    · cases e
theorem cleans_ok : ∀ {rs : List R} {vs : List V} {ds : List D}, RRs G F H0 σ rs vs → cleans rs = some ds → Rps G H0 ds vs
  | [], vs, ds, h, e => by cases e; exact (show vs = [] from h) ▸ Rps.nil
  | .c d :: rs, vs, ds, h, e => by
    obtain ⟨v, w, rfl, h1, h2⟩ := h
    unfold cleans at e
    split at e
    · rename_i ds' q'
      cases e
      exact Rps.cons h1 (cleans_ok h2 q')
    · cases e
  | .o _ :: _, _, _, _, e => by cases e
  | .k :: _, _, _, _, e => by cases e
end

/-- what follows, from a value r -/
def Fin (G : Gm) (F : Fr) (H0 : Hp) (S : List Sl) (cs : Option D) (σ : VS) (r : R) (Q : VK) : Prop :=
  ∀ v H0' H', Same H0 H0' → StOk G F H0' H' S cs σ → RR G F H0' σ r v → Q v H'
theorem Fin.mono {F : Fr} {H0 H0' : Hp} {S : List Sl} {cs : Option D} {σ : VS} {r : R} {Q : VK} (e : Same H0 H0') (h : Fin G F H0 S cs σ r Q) : Fin G F H0' S cs σ r Q :=
  fun v Ha Hb e' I q => h v Ha Hb (e.trans e') I q

structure SimE (G : Gm) (t : TE) (f : DE) : Prop where
  run : ∀ (F : Fr) (H0 H : Hp) (S : List Sl) (cs : Option D) (σ : VS) (Q : VK), StOk G F H0 H S cs σ → ∀ r cs', f S cs = some (r, cs') → Fin G F H0 S cs' σ r Q → t σ H Q
structure SimT (G : Gm) (t : TT) (f : DT) : Prop where
  run : ∀ (F : Fr) (H0 H : Hp) (S : List Sl) (cs : Option D) (σ : VS) (Q : Bool → Hp → Prop), StOk G F H0 H S cs σ → ∀ b cs', f S cs = some (b, cs') →
    (∀ H0' H', Same H0 H0' → StOk G F H0' H' S cs' σ → Q b H') → t σ H Q
structure SimA (G : Gm) (t : TA) (f : DA) : Prop where
  run : ∀ (F : Fr) (H0 H : Hp) (S : List Sl) (cs : Option D) (σ : VS) (Q : List V → Hp → Prop), StOk G F H0 H S cs σ → ∀ rs cs', f S cs = some (rs, cs') →
    (∀ vs H0' H', Same H0 H0' → StOk G F H0' H' S cs' σ → RRs G F H0' σ rs vs → Q vs H') → t σ H Q
/-- p is apart from all that is owned -/
def Apart (F : Fr) (S : List Sl) (σ : VS) (p : Addr) : Prop := F.pc ≠ some p ∧ ∀ (i : Nat) (xs : List D), S[i]? = some (Sl.own xs) → σ[i]? ≠ some (some (V.ref p))
/-- a new list, owned by nobody yet -/
def FinF (G : Gm) (F : Fr) (H0 : Hp) (S : List Sl) (cs : Option D) (σ : VS) (ds : List D) (Q : VK) : Prop :=
  ∀ p vs H0' H', Same H0 H0' → StOk G F H0' H' S cs σ → H0' p = none → F.He p = none → Apart F S σ p → H' p = some (.lst vs) → Rps G H0' ds vs → Q (.ref p) H'
structure SimF (G : Gm) (t : TE) (f : DF) : Prop where
  run : ∀ (F : Fr) (H0 H : Hp) (S : List Sl) (cs : Option D) (σ : VS) (Q : VK), StOk G F H0 H S cs σ → ∀ ds cs', f S cs = some (ds, cs') → FinF G F H0 S cs' σ ds Q → t σ H Q

theorem StOk.apart {F : Fr} {H0 H : Hp} {S : List Sl} {cs : Option D} {σ : VS} (I : StOk G F H0 H S cs σ) {p : Addr} (h : H p = none) : Apart F S σ p := by
  refine ⟨fun e => ?_, fun i xs e q => ?_⟩
  · have z := I.pc
    rw [e] at z
    cases cs with
    | none => exact z
    | some d =>
      cases d with
      | lst ds => obtain ⟨_, _, vs, h3, _⟩ := z; rw [h] at h3; cases h3
      | obj C ns ds => obtain ⟨_, _, dx, vs, h3, _⟩ := z; rw [h] at h3; cases h3
      | _ => exact z
  · obtain ⟨p', vs, e1, _, _, _, e5, _⟩ := I.sl _ _ e
    rw [q] at e1; cases e1
    rw [h] at e5; cases e5
/-- a fresh list is taken in -/
theorem StOk.freezeF {F : Fr} {H0 H : Hp} {S : List Sl} {cs : Option D} {σ : VS} (I : StOk G F H0 H S cs σ) {p : Addr} {o : HO} (hp : H p = some o) (h0 : H0 p = none) (he : F.He p = none) (ap : Apart F S σ p)
    (hcell : ∀ x, o ≠ .own x) : Same H0 (upd H0 p o) ∧ StOk G F (upd H0 p o) H S cs σ := by
  obtain ⟨s1, s2⟩ := Gr.freeze I.ex hp
  refine ⟨s1, s2, I.he, fun a h => ⟨(I.bn a h).1, ?_⟩, I.len, fun i s e => ?_, I.ds, ?_⟩
  · have : a ≠ p := fun z => (I.bn a h).1 (z ▸ he)
    rw [upd_ne this]; exact (I.bn a h).2
  · have q := I.sl i s e
    cases s with
    | no => trivial
    | val d => obtain ⟨v, e1, r⟩ := q; exact ⟨v, e1, r.mono s1⟩
    | own ds =>
      obtain ⟨p', vs, e1, h1, h2, h3, h4, h5⟩ := q
      have : p' ≠ p := fun z => ap.2 i ds e (z ▸ e1)
      exact ⟨p', vs, e1, by rw [upd_ne this]; exact h1, h2, h3, h4, h5.mono s1⟩
    | cst => exact q
  · have q := I.pc
    cases e : F.pc with
    | none => rw [e] at q; cases cs with
      | none => trivial
      | some d => cases d <;> exact q
    | some p' =>
      have hne : p' ≠ p := fun z => ap.1 (z ▸ e)
      rw [e] at q
      cases cs with
      | none => exact q
      | some d =>
        cases d with
        | lst ds => obtain ⟨h1, h2, vs, h3, h4⟩ := q; exact ⟨by rw [upd_ne hne]; exact h1, h2, vs, h3, h4.mono s1⟩
        | obj C ns ds =>
          obtain ⟨h1, h2, dx, vs, h3, h4, h5, h6, h7, h8⟩ := q
          have hdx : dx ≠ p := fun z => by
            rw [z, hp] at h4
            exact hcell _ (Option.some.inj h4)
          exact ⟨by rw [upd_ne hne]; exact h1, h2, dx, vs, h3, h4, by rw [upd_ne hdx]; exact h5, h6, h7, h8.mono s1⟩
        | _ => exact q

/-- as a value: the new list is known from now on -/
def dFz (f : DF) : DE := fun S cs => match f S cs with
  | some (ds, c1) => some (.c (.lst ds), c1)
  | none => none
theorem SimF.fz {t : TE} {f : DF} (h : SimF G t f) : SimE G t (dFz f) := by
  refine ⟨fun F H0 H S cs σ Q I r cs' e q => ?_⟩
  unfold dFz at e
  split at e
  · rename_i ds c1 e1
    cases e
    refine h.run F H0 H S cs σ Q I ds _ e1 fun p vs Ha Hb s1 I1 h0 he ap hp rs => ?_
    obtain ⟨s2, I2⟩ := I1.freezeF hp h0 he ap (fun _ z => nomatch z)
    refine q _ _ _ (s1.trans s2) I2 ?_
    show Rp G _ (.lst ds) _
    unfold Rp
    exact ⟨p, vs, rfl, upd_same, rs.mono s2⟩
  · cases e

/-! ### judgements: the layer's and ours together -/
structure DExp (X : Cx) (K : PySem.W.Frag) (cA : Nat → Addr) (e : Expr) (t : TE) (f : DE) : Prop where
  pe : PE X e t
  sim : SimE ⟨K, cA⟩ t f
structure DFsh (X : Cx) (K : PySem.W.Frag) (cA : Nat → Addr) (e : Expr) (t : TE) (f : DF) : Prop where
  pe : PE X e t
  sim : SimF ⟨K, cA⟩ t f
structure DTst (X : Cx) (K : PySem.W.Frag) (cA : Nat → Addr) (e : Expr) (t : TT) (f : DT) : Prop where
  pt : PT X e t
  sim : SimT ⟨K, cA⟩ t f
structure DTsw (X : Cx) (K : PySem.W.Frag) (cA : Nat → Addr) (e : Expr) (t : TT) (f : DT) : Prop where
  pw : PW X e t
  sim : SimT ⟨K, cA⟩ t f
structure DArg (X : Cx) (K : PySem.W.Frag) (cA : Nat → Addr) (es : List Expr) (t : TA) (f : DA) : Prop where
  pa : PA X es t
  sim : SimA ⟨K, cA⟩ t f
theorem DFsh.fz {X : Cx} {K : PySem.W.Frag} {cA : Nat → Addr} {e : Expr} {t : TE} {f : DF} (h : DFsh X K cA e t f) : DExp X K cA e t (dFz f) := ⟨h.pe, h.sim.fz⟩
theorem DTsw.tst {X : Cx} {K : PySem.W.Frag} {cA : Nat → Addr} {e : Expr} {t : TT} {f : DT} (h : DTsw X K cA e t f) : DTst X K cA e t f := ⟨h.pw.pt, h.sim⟩

/-! ### names, constants -/
def dVar (i : Nat) : DE := fun S cs => match S[i]? with
  | some (.val d) => some (.c d, cs)
  | some (.own _) => some (.o i, cs)
  | some .cst => some (.k, cs)
  | _ => none
theorem sim_var {i : Nat} : SimE G (tVar i) (dVar i) := by
  refine ⟨fun F H0 H S cs σ Q I r cs' e q => ?_⟩
  unfold dVar at e
  split at e
  · rename_i d e1
    cases e
    obtain ⟨v, e2, h⟩ := I.sl _ _ e1
    exact ⟨v, e2, q v H0 H (Same.refl _) I h⟩
  · rename_i ds e1
    cases e
    obtain ⟨p, vs, e2, _⟩ := I.sl _ _ e1
    exact ⟨_, e2, q _ H0 H (Same.refl _) I e2⟩
  · rename_i e1
    cases e
    obtain ⟨p, e2, e3⟩ := I.sl _ _ e1
    exact ⟨_, e3, q _ H0 H (Same.refl _) I ⟨p, e2, rfl⟩⟩
  · cases e
def dC (d : D) : DE := fun _ cs => some (.c d, cs)
theorem sim_c {v : V} {d : D} (h : ∀ H, Rp G H d v) : SimE G (tC v) (dC d) := by
  refine ⟨fun F H0 H S cs σ Q I r cs' e q => ?_⟩
  cases e
  exact q v H0 H (Same.refl _) I (h _)
section
variable {X : Cx} {K : PySem.W.Frag} {cA : Nat → Addr}
theorem dx_var (i : Nat) {x : Str} {pos : Pos} (hN : X.N[i]? = some x := by rfl) (hv : Vis X.env.scope x := by first | exact Or.inl rfl | exact Or.inr (Or.inl rfl) | exact Or.inr (Or.inr rfl)) (hd : (x == ("__debug__" : Str)) = false := by decide)
    (hcd : (x == ("__classdict__" : Str)) = false := by decide) : DExp X K cA (.Name x pos) (tVar i) (dVar i) := ⟨pe_var hN hv hd hcd, sim_var⟩
theorem dx_int {i j pos} : DExp X K cA (.Constant (.int i) j pos) (tC (.int i)) (dC (.int i)) := ⟨pe_int, sim_c fun _ => by unfold Rp; rfl⟩
theorem dx_bl {b j pos} : DExp X K cA (.Constant (.bool b) j pos) (tC (.bl b)) (dC (.bl b)) := ⟨pe_bl, sim_c fun _ => by unfold Rp; rfl⟩
theorem dx_non {j pos} : DExp X K cA (.Constant .none j pos) (tC .non) (dC .non) := ⟨pe_non, sim_c fun _ => by unfold Rp; rfl⟩
theorem dx_str {x j pos} : DExp X K cA (.Constant (.str x) j pos) (tC (.str x)) (dC (.str x)) := ⟨pe_str, sim_c fun _ => by unfold Rp; rfl⟩
/-- a module's number -/
theorem dx_gint {x : Str} {i : Int} {t : Tok} {pos : Pos} (hm : X.mg x = some (.int i t)) (hg : Gl X x := by rfl) (hd : (x == ("__debug__" : Str)) = false := by decide) : DExp X K cA (.Name x pos) (tC (.int i)) (dC (.int i)) :=
  ⟨pe_glob hg hm ⟨_, rfl⟩ hd, sim_c fun _ => by unfold Rp; rfl⟩
end

/-! ### two values -/
def OpSim (G : Gm) (r : R2) (op : D → D → Option D) : Prop :=
  ∀ (F : Fr) (H0 H : Hp) (S : List Sl) (cs : Option D) (σ : VS) (Q : VK) (x y z : D) (v w : V), StOk G F H0 H S cs σ → Rp G H0 x v → Rp G H0 y w → op x y = some z → Fin G F H0 S cs σ (.c z) Q → r v w H Q
def dOp (op : D → D → Option D) (f g : DE) : DE := fun S cs => match f S cs with
  | some (.c x, c1) => match g S c1 with
    | some (.c y, c2) => match op x y with
      | some z => some (.c z, c2)
      | none => none
    | _ => none
  | _ => none
theorem sim_op {r : R2} {op : D → D → Option D} {ta tb : TE} {f g : DE} (ho : OpSim G r op) (ha : SimE G ta f) (hb : SimE G tb g) : SimE G (tOp r ta tb) (dOp op f g) := by
  refine ⟨fun F H0 H S cs σ Q I r cs' e q => ?_⟩
  unfold dOp at e
  split at e
  · rename_i x c1 e1
    split at e
    · rename_i y c2 e2
      split at e
      · rename_i z e3
        cases e
        refine ha.run F H0 H S cs σ _ I _ _ e1 fun v Ha Hb s1 I1 r1 => ?_
        refine hb.run F Ha Hb S c1 σ _ I1 _ _ e2 fun w Hc Hd s2 I2 r2 => ?_
        exact ho F Hc Hd S _ σ Q x y z v w I2 (Rp.mono s2 _ _ r1) r2 e3 (q.mono (s1.trans s2))
      · cases e
    · cases e
  · cases e
def orD (op op' : D → D → Option D) (x y : D) : Option D := match op x y with
  | some z => some z
  | none => op' x y
theorem OpSim.or {r r' : R2} {op op' : D → D → Option D} (h : OpSim G r op) (h' : OpSim G r' op') : OpSim G (fun x y H Q => r x y H Q ∨ r' x y H Q) (orD op op') := by
  intro F H0 H S cs σ Q x y z v w I rx ry e q
  unfold orD at e
  split at e
  · rename_i z' e1
    cases e
    exact .inl (h F H0 H S cs σ Q x y _ v w I rx ry e1 q)
  · exact .inr (h' F H0 H S cs σ Q x y _ v w I rx ry e q)
/-- a value that leaves the heap as it is -/
theorem Fin.here {F : Fr} {H0 H : Hp} {S : List Sl} {cs : Option D} {σ : VS} {z : D} {Q : VK} (q : Fin G F H0 S cs σ (.c z) Q) (I : StOk G F H0 H S cs σ) {v : V} (h : Rp G H0 z v) : Q v H := q v H0 H (Same.refl _) I h

def oInt (C : Int → Int → Bool) (g : Int → Int → D) : D → D → Option D
  | .int i, .int j => if C i j = true then some (g i j) else none
  | _, _ => none
theorem ops_I {C : Int → Int → Prop} {c : Int → Int → Bool} {g : Int → Int → V} {d : Int → Int → D} (hc : ∀ i j, c i j = true → C i j) (hd : ∀ H i j, Rp G H (d i j) (g i j)) : OpSim G (rI C g) (oInt c d) := by
  intro F H0 H S cs σ Q x y z v w I rx ry e q
  unfold oInt at e
  split at e
  · rename_i i j
    split at e
    · rename_i hC
      cases e
      unfold Rp at rx ry
      exact ⟨i, j, rx, ry, hc _ _ hC, q.here I (hd _ _ _)⟩
    · cases e
  · cases e
theorem ops_I0 {g : Int → Int → V} {d : Int → Int → D} (hd : ∀ H i j, Rp G H (d i j) (g i j)) : OpSim G (rI0 g) (oInt (fun _ _ => true) d) := by
  intro F H0 H S cs σ Q x y z v w I rx ry e q
  unfold oInt at e
  split at e
  · rename_i i j
    split at e
    · cases e
      unfold Rp at rx ry
      exact ⟨i, j, rx, ry, q.here I (hd _ _ _)⟩
    · cases e
  · cases e
theorem rp_int {H : Hp} {i : Int} : Rp G H (.int i) (.int i) := by unfold Rp; rfl
theorem rp_bl {H : Hp} {b : Bool} : Rp G H (.bl b) (.bl b) := by unfold Rp; rfl
theorem rp_non {H : Hp} : Rp G H .non .non := by unfold Rp; rfl
theorem rp_str {H : Hp} {x : Str} : Rp G H (.str x) (.str x) := by unfold Rp; rfl

abbrev oAddI : D → D → Option D := oInt (fun _ _ => true) fun i j => .int (i + j)
abbrev oSub : D → D → Option D := oInt (fun _ _ => true) fun i j => .int (i - j)
abbrev bMul (i j : Int) : Bool := decide (-(2 ^ 64) < i ∧ i < 2 ^ 64) || decide (-(2 ^ 64) < j ∧ j < 2 ^ 64)
abbrev oMulI : D → D → Option D := oInt bMul fun i j => .int (i * j)
abbrev oFdiv : D → D → Option D := oInt (fun _ j => decide (j ≠ 0 ∧ j.natAbs < 1073741824)) fun i j => .int (i.fdiv j)
abbrev oMod : D → D → Option D := oInt (fun _ j => decide (j ≠ 0)) fun i j => .int (i.fmod j)
abbrev oPow : D → D → Option D := oInt (fun i j => decide (0 ≤ j ∧ j ≤ 1000000 ∧ i.natAbs < 2 ^ 64)) fun i j => .int (i ^ j.toNat)
theorem bMul_ok {i j : Int} (h : bMul i j = true) : CMul i j := by
  unfold CMul
  rw [Bool.or_eq_true] at h
  exact h.imp of_decide_eq_true of_decide_eq_true

/-- strings -/
def oAddS : D → D → Option D
  | .str x, .str y => if x.length + y.length ≤ sizeLine then some (.str (x ++ y)) else none
  | _, _ => none
theorem ops_addS : OpSim G (fun x y H Q => ∃ i j, x = .str i ∧ y = .str j ∧ i.length + j.length ≤ sizeLine ∧ Q (.str (i ++ j)) H) oAddS := by
  intro F H0 H S cs σ Q x y z v w I rx ry e q
  unfold oAddS at e
  split at e
  · split at e
    · rename_i hl
      cases e
      unfold Rp at rx ry
      exact ⟨_, _, rx, ry, hl, q.here I rp_str⟩
    · cases e
  · cases e
/-- tuples -/
def oAddT : D → D → Option D
  | .tup xs, .tup ys => if xs ≠ [] ∧ xs.length + ys.length ≤ sizeLine then some (.tup (xs ++ ys)) else none
  | _, _ => none
theorem StOk.new {F : Fr} {H0 H : Hp} {S : List Sl} {cs : Option D} {σ : VS} (I : StOk G F H0 H S cs σ) {p : Addr} (o : HO) (h : H p = none) : StOk G F (upd H0 p o) (upd H p o) S cs σ := I.grow (Gr.new I.ex o h)
theorem same_new {H0 H : Hp} (e : Same H0 H) {p : Addr} (o : HO) (h : H p = none) : Same H0 (upd H0 p o) := (Gr.new e o h).a
theorem ops_addT : OpSim G (rCatT G.K) oAddT := by
  intro F H0 H S cs σ Q x y z v w I rx ry e q
  unfold oAddT at e
  split at e
  · rename_i xs ys
    split at e
    · rename_i hl
      cases e
      unfold Rp at rx ry
      obtain ⟨a, vs, rfl, ha, hs⟩ := rx
      obtain ⟨b, ws, rfl, hb, ht⟩ := ry
      refine ⟨a, b, vs, ws, rfl, rfl, sqt_same I.ex ha, sqt_same I.ex hb, fun z => ?_, ?_, fun z => ?_, fun z p hp => ?_⟩
      · have := hs.len
        rw [z] at this
        cases xs with
        | nil => exact hl.1 rfl
        | cons _ _ => cases this
      · rw [hs.len, ht.len]; exact hl.2
      · refine q.here I ?_
        unfold Rp
        have e0 : ys = [] := by
          have := ht.len
          rw [z] at this
          cases ys with
          | nil => rfl
          | cons _ _ => cases this
        rw [e0, List.append_nil]
        exact ⟨a, vs, rfl, ha, hs⟩
      · refine q _ _ _ (same_new I.ex _ hp) (I.new _ hp) ?_
        show Rp G _ (.tup _) _
        unfold Rp
        exact ⟨p, _, rfl, .inl (.inl upd_same), (hs.append ht).mono (same_new I.ex _ hp)⟩
    · cases e
  · cases e
/-- lists -/
def oAddL : D → D → Option D
  | .lst xs, .lst ys => if xs.length + ys.length ≤ sizeLine then some (.lst (xs ++ ys)) else none
  | _, _ => none
theorem ops_addL : OpSim G rCat oAddL := by
  intro F H0 H S cs σ Q x y z v w I rx ry e q
  unfold oAddL at e
  split at e
  · rename_i xs ys
    split at e
    · rename_i hl
      cases e
      unfold Rp at rx ry
      obtain ⟨a, vs, rfl, ha, hs⟩ := rx
      obtain ⟨b, ws, rfl, hb, ht⟩ := ry
      refine ⟨a, b, vs, ws, rfl, rfl, I.ex _ _ ha, I.ex _ _ hb, ?_, fun p hp => ?_⟩
      · rw [hs.len, ht.len]; exact hl
      · refine q _ _ _ (same_new I.ex _ hp) (I.new _ hp) ?_
        show Rp G _ (.lst _) _
        unfold Rp
        exact ⟨p, _, rfl, upd_same, (hs.append ht).mono (same_new I.ex _ hp)⟩
    · cases e
  · cases e
/-- a + b: ints, strings, tuples, lists -/
def oAdd : D → D → Option D := orD oAddI (orD oAddS (orD oAddT oAddL))
def rAddA (K : PySem.W.Frag) : R2 := fun x y H Q => rI0 (fun i j => .int (i + j)) x y H Q ∨ ((∃ i j, x = .str i ∧ y = .str j ∧ i.length + j.length ≤ sizeLine ∧ Q (.str (i ++ j)) H) ∨ (rCatT K x y H Q ∨ rCat x y H Q))
theorem ops_add : OpSim G (rAddA G.K) oAdd := OpSim.or (ops_I0 fun _ _ _ => rp_int) (OpSim.or ops_addS (OpSim.or ops_addT ops_addL))
theorem op_addA {X : Cx} : OpR X (binaryOp .Add) (rAddA X.K) := op_add.or (op_add_str.or (op_catT.or op_cat))
/-- lists times ints -/
def oMulL : D → D → Option D
  | .lst xs, .int k => if -(2 ^ 63) ≤ k ∧ k < 2 ^ 63 ∧ xs.length * k.toNat ≤ sizeLine then some (.lst (List.replicate k.toNat xs).flatten) else none
  | _, _ => none
theorem Rps.rep {H : Hp} {ds : List D} {vs : List V} (h : Rps G H ds vs) : ∀ k : Nat, Rps G H (List.replicate k ds).flatten (List.replicate k vs).flatten
  | 0 => Rps.nil
  | k + 1 => by
    rw [List.replicate_succ, List.replicate_succ, List.flatten_cons, List.flatten_cons]
    exact h.append (Rps.rep h k)
theorem ops_mulL : OpSim G rRep oMulL := by
  intro F H0 H S cs σ Q x y z v w I rx ry e q
  unfold oMulL at e
  split at e
  · rename_i xs k
    split at e
    · rename_i hl
      cases e
      unfold Rp at rx ry
      obtain ⟨a, vs, rfl, ha, hs⟩ := rx
      refine ⟨a, k, vs, rfl, ry, I.ex _ _ ha, hl.1, hl.2.1, ?_, fun p hp => ?_⟩
      · rw [hs.len]; exact hl.2.2
      · refine q _ _ _ (same_new I.ex _ hp) (I.new _ hp) ?_
        show Rp G _ (.lst _) _
        unfold Rp
        exact ⟨p, _, rfl, upd_same, (hs.rep _).mono (same_new I.ex _ hp)⟩
    · cases e
  · cases e
def oMul : D → D → Option D := orD oMulI oMulL
def rMulA : R2 := fun x y H Q => rI CMul (fun i j => .int (i * j)) x y H Q ∨ rRep x y H Q
theorem ops_mul : OpSim G rMulA oMul := OpSim.or (ops_I (fun _ _ h => bMul_ok h) fun _ _ _ => rp_int) ops_mulL
theorem op_mulA {X : Cx} : OpR X (binaryOp .Mult) rMulA := op_mul.or op_rep
theorem ops_sub : OpSim G (rI0 fun i j => .int (i - j)) oSub := ops_I0 fun _ _ _ => rp_int
theorem ops_fdiv : OpSim G (rI CDivN fun i j => .int (i.fdiv j)) oFdiv := ops_I (fun i j h => show j ≠ 0 ∧ j.natAbs < 1073741824 from of_decide_eq_true h) fun _ _ _ => rp_int
theorem ops_mod : OpSim G (rI (fun _ j => j ≠ 0) fun i j => .int (i.fmod j)) oMod := ops_I (fun _ _ h => of_decide_eq_true h) fun _ _ _ => rp_int
theorem ops_pow : OpSim G (rI CPow fun i j => .int (i ^ j.toNat)) oPow := ops_I (fun i j h => show 0 ≤ j ∧ j ≤ 1000000 ∧ i.natAbs < 2 ^ 64 from of_decide_eq_true h) fun _ _ _ => rp_int

/-! ### comparisons -/
abbrev oLt : D → D → Option D := oInt (fun _ _ => true) fun i j => .bl (decide (i < j))
abbrev oLe : D → D → Option D := oInt (fun _ _ => true) fun i j => .bl (decide (i ≤ j))
abbrev oGt : D → D → Option D := oInt (fun _ _ => true) fun i j => .bl (decide (j < i))
abbrev oGe : D → D → Option D := oInt (fun _ _ => true) fun i j => .bl (decide (j ≤ i))
theorem ops_lt : OpSim G (rI0 fun i j => .bl (decide (i < j))) oLt := ops_I0 fun _ _ _ => rp_bl
theorem ops_le : OpSim G (rI0 fun i j => .bl (decide (i ≤ j))) oLe := ops_I0 fun _ _ _ => rp_bl
theorem ops_gt : OpSim G (rI0 fun i j => .bl (decide (j < i))) oGt := ops_I0 fun _ _ _ => rp_bl
theorem ops_ge : OpSim G (rI0 fun i j => .bl (decide (j ≤ i))) oGe := ops_I0 fun _ _ _ => rp_bl
/-- is None -/
def isNonD : D → Bool
  | .non => true
  | _ => false
def oIsN : D → D → Option D := fun x y => match y with
  | .non => some (.bl (isNonD x))
  | _ => none
def oNotN : D → D → Option D := fun x y => match y with
  | .non => some (.bl (!isNonD x))
  | _ => none
theorem isnon_of {H : Hp} {x : D} {v : V} (h : Rp G H x v) : decide (v = .non) = isNonD x := by
  cases x with
  | non => unfold Rp at h; subst h; rfl
  | bl _ => unfold Rp at h; subst h; rfl
  | int _ => unfold Rp at h; subst h; rfl
  | str _ => unfold Rp at h; subst h; rfl
  | tup _ => unfold Rp at h; obtain ⟨a, vs, rfl, _⟩ := h; rfl
  | lst _ => unfold Rp at h; obtain ⟨a, vs, rfl, _⟩ := h; rfl
  | obj _ _ _ => unfold Rp at h; obtain ⟨a, dx, vs, rfl, _⟩ := h; rfl
  | scr _ => unfold Rp at h; obtain ⟨a, rfl, _⟩ := h; rfl
theorem ops_isN : OpSim G (fun x y H Q => y = .non ∧ Q (.bl (decide (x = .non))) H) oIsN := by
  intro F H0 H S cs σ Q x y z v w I rx ry e q
  unfold oIsN at e
  split at e
  · cases e
    unfold Rp at ry
    exact ⟨ry, q.here I (by rw [isnon_of rx]; exact rp_bl)⟩
  · cases e
theorem ops_notN : OpSim G (fun x y H Q => y = .non ∧ Q (.bl (!decide (x = .non))) H) oNotN := by
  intro F H0 H S cs σ Q x y z v w I rx ry e q
  unfold oNotN at e
  split at e
  · cases e
    unfold Rp at ry
    exact ⟨ry, q.here I (by rw [isnon_of rx]; exact rp_bl)⟩
  · cases e
mutual
def toPy : D → PyData
  | .non => .none
  | .bl b => .bool b
  | .int i => .int i
  | .str x => .str x
  | .tup ds => .tuple (toPys ds)
  | .lst ds => .list (toPys ds)
  | .obj _ _ _ => .dict []
  | .scr _ => .dict []
def toPys : List D → List PyData
  | [] => []
  | d :: ds => toPy d :: toPys ds
end
mutual
def plain : D → Bool
  | .obj _ _ _ => false
  | .scr _ => false
  | .tup ds => plains ds
  | .lst ds => plains ds
  | _ => true
def plains : List D → Bool
  | [] => true
  | d :: ds => plain d && plains ds
end
mutual
theorem Rp.dp {H0 H : Hp} (e : Same H0 H) : ∀ (d : D) (v : V), Rp G H0 d v → plain d = true → Dp G.K H v (toPy d)
  | .non, v, h, _ => by unfold Rp at h; subst h; exact .non
  | .bl b, v, h, _ => by unfold Rp at h; subst h; exact .bl b
  | .int i, v, h, _ => by unfold Rp at h; subst h; exact .int i
  | .str x, v, h, _ => by unfold Rp at h; subst h; exact .str x
  | .tup ds, v, h, q => by
    unfold Rp at h
    obtain ⟨a, vs, rfl, h2, h3⟩ := h
    exact .tup (sqt_same e h2) (Rps.dp e ds vs h3 (by unfold plain at q; exact q))
  | .lst ds, v, h, q => by
    unfold Rp at h
    obtain ⟨a, vs, rfl, h2, h3⟩ := h
    exact .lst (.inl (.inl (e _ _ h2))) (Rps.dp e ds vs h3 (by unfold plain at q; exact q))
  | .obj _ _ _, v, h, q => by unfold plain at q; cases q
  | .scr _, v, h, q => by unfold plain at q; cases q
theorem Rps.dp {H0 H : Hp} (e : Same H0 H) : ∀ (ds : List D) (vs : List V), Rps G H0 ds vs → plains ds = true → DpAll G.K H vs (toPys ds)
  | [], vs, h, _ => by unfold Rps at h; subst h; exact .nil
  | d :: ds, vs, h, q => by
    unfold Rps at h
    obtain ⟨v, r, rfl, h2, h3⟩ := h
    unfold plains at q
    rw [Bool.and_eq_true] at q
    exact .cons (Rp.dp e d v h2 q.1) (Rps.dp e ds r h3 q.2)
end
def okD (d : D) : Bool := plain d && SeqAt.shaped (toPy d)
def eqD (x y : D) : Bool := PyData.eqv (toPy x) (toPy y)
def oEq : D → D → Option D := fun x y => if okD x = true ∧ okD y = true then some (.bl (eqD x y)) else none
def oNe : D → D → Option D := fun x y => if okD x = true ∧ okD y = true then some (.bl (!eqD x y)) else none
theorem ops_eq : OpSim G (rEqD G.K) oEq := by
  intro F H0 H S cs σ Q x y z v w I rx ry e q
  unfold oEq at e
  split at e
  · rename_i hk
    cases e
    have h1 := Bool.and_eq_true_iff.mp hk.1
    have h2 := Bool.and_eq_true_iff.mp hk.2
    exact ⟨_, _, Rp.dp I.ex x v rx h1.1, Rp.dp I.ex y w ry h2.1, h1.2, h2.2, q.here I rp_bl⟩
  · cases e
theorem ops_ne : OpSim G (rNeD G.K) oNe := by
  intro F H0 H S cs σ Q x y z v w I rx ry e q
  unfold oNe at e
  split at e
  · rename_i hk
    cases e
    have h1 := Bool.and_eq_true_iff.mp hk.1
    have h2 := Bool.and_eq_true_iff.mp hk.2
    exact ⟨_, _, Rp.dp I.ex x v rx h1.1, Rp.dp I.ex y w ry h2.1, h1.2, h2.2, q.here I rp_bl⟩
  · cases e

/-! ### one value -/
def dNeg (f : DE) : DE := fun S cs => match f S cs with
  | some (.c (.int i), c1) => some (.c (.int (-i)), c1)
  | _ => none
theorem sim_neg {ta : TE} {f : DE} (ha : SimE G ta f) : SimE G (tUn (rU fun i => .int (-i)) ta) (dNeg f) := by
  refine ⟨fun F H0 H S cs σ Q I r cs' e q => ?_⟩
  unfold dNeg at e
  split at e
  · rename_i i c1 e1
    cases e
    refine ha.run F H0 H S cs σ _ I _ _ e1 fun v Ha Hb s1 I1 r1 => ?_
    have r1' : Rp G Ha (.int i) v := r1
    unfold Rp at r1'
    exact ⟨i, r1', (q.mono s1).here I1 rp_int⟩
  · cases e

/-! ### truth -/
def truD : D → Option Bool
  | .non => some false
  | .bl b => some b
  | .int i => some (i != 0)
  | .str x => if x.length ≤ sizeLine then some ((x.length : Int) != 0) else none
  | .lst ds => some !ds.isEmpty
  | .tup ds => some !ds.isEmpty
  | _ => none
theorem isEmpty_rps {H : Hp} {ds : List D} {vs : List V} (h : Rps G H ds vs) : vs.isEmpty = ds.isEmpty := by
  have := h.len
  cases ds <;> cases vs <;> first | rfl | cases this
theorem tru_rb {H0 H : Hp} (ex : Same H0 H) {d : D} {v : V} {b : Bool} (h : RB G H0 H d v) (e : truD d = some b) : TruV G.K v H b := by
  cases d with
  | non => unfold RB Rp at h; subst h; cases e; rfl
  | bl _ => unfold RB Rp at h; subst h; cases e; rfl
  | int _ => unfold RB Rp at h; subst h; cases e; rfl
  | str x =>
    unfold RB Rp at h; subst h
    have e' : (if x.length ≤ sizeLine then some ((x.length : Int) != 0) else none) = some b := e
    split at e'
    · cases e'; exact ⟨by assumption, rfl⟩
    · cases e'
  | lst ds =>
    unfold RB at h
    obtain ⟨a, vs, rfl, h2, h3⟩ := h
    cases e
    exact .inl ⟨vs, .inl (.inl h2), by rw [isEmpty_rps h3]⟩
  | tup ds =>
    unfold RB Rp at h
    obtain ⟨a, vs, rfl, h2, h3⟩ := h
    cases e
    exact .inr (.inl ⟨vs, sqt_same ex h2, by rw [isEmpty_rps h3]⟩)
  | obj _ _ _ => cases e
  | scr _ => cases e
/-- a value as a test -/
def dTru (f : DE) : DT := fun S cs => match f S cs with
  | some (r, c1) => match rd S c1 r with
    | some d => match truD d with
      | some b => some (b, c1)
      | none => none
    | none => none
  | none => none
theorem sim_tru {ta : TE} {f : DE} (ha : SimE G ta f) : SimT G (fun σ H Q => ta σ H fun x H' => ∃ k, TruV G.K x H' k ∧ Q k H') (dTru f) := by
  refine ⟨fun F H0 H S cs σ Q I b cs' e q => ?_⟩
  unfold dTru at e
  split at e
  · rename_i r c1 e1
    split at e
    · rename_i d e2
      split at e
      · rename_i b' e3
        cases e
        exact ha.run F H0 H S cs σ _ I _ _ e1 fun v Ha Hb s1 I1 r1 => ⟨_, tru_rb I1.ex (rd_ok I1 r1 e2) e3, q _ _ s1 I1⟩
      · cases e
    · cases e
  · cases e
/-- a bool as a test -/
def dTst (f : DE) : DT := fun S cs => match f S cs with
  | some (.c (.bl b), c1) => some (b, c1)
  | _ => none
theorem sim_tst {ta : TE} {f : DE} (ha : SimE G ta f) : SimT G (tTest ta) (dTst f) := by
  refine ⟨fun F H0 H S cs σ Q I b cs' e q => ?_⟩
  unfold dTst at e
  split at e
  · rename_i b' c1 e1
    cases e
    refine ha.run F H0 H S cs σ _ I _ _ e1 fun v Ha Hb s1 I1 r1 => ?_
    have r1' : Rp G Ha (.bl _) v := r1
    unfold Rp at r1'
    exact ⟨_, r1', q _ _ s1 I1⟩
  · cases e
def dAnd (f g : DT) : DT := fun S cs => match f S cs with
  | some (true, c1) => g S c1
  | some (false, c1) => some (false, c1)
  | none => none
def dOr (f g : DT) : DT := fun S cs => match f S cs with
  | some (true, c1) => some (true, c1)
  | some (false, c1) => g S c1
  | none => none
def dNot (f : DT) : DT := fun S cs => match f S cs with
  | some (b, c1) => some (!b, c1)
  | none => none
theorem sim_and {t u : TT} {f g : DT} (hf : SimT G t f) (hg : SimT G u g) : SimT G (tAnd t u) (dAnd f g) := by
  refine ⟨fun F H0 H S cs σ Q I b cs' e q => ?_⟩
  unfold dAnd at e
  split at e
  · rename_i c1 e1
    refine hf.run F H0 H S cs σ _ I _ _ e1 fun Ha Hb s1 I1 => ?_
    rw [if_pos rfl]
    exact hg.run F Ha Hb S c1 σ Q I1 _ _ e fun Hc Hd s2 I2 => q _ _ (s1.trans s2) I2
  · rename_i c1 e1
    cases e
    exact hf.run F H0 H S cs σ _ I _ _ e1 fun Ha Hb s1 I1 => iteF (q _ _ s1 I1)
  · cases e
theorem sim_or {t u : TT} {f g : DT} (hf : SimT G t f) (hg : SimT G u g) : SimT G (tOr t u) (dOr f g) := by
  refine ⟨fun F H0 H S cs σ Q I b cs' e q => ?_⟩
  unfold dOr at e
  split at e
  · rename_i c1 e1
    cases e
    exact hf.run F H0 H S cs σ _ I _ _ e1 fun Ha Hb s1 I1 => iteT (q _ _ s1 I1)
  · rename_i c1 e1
    refine hf.run F H0 H S cs σ _ I _ _ e1 fun Ha Hb s1 I1 => ?_
    rw [if_neg Bool.false_ne_true]
    exact hg.run F Ha Hb S c1 σ Q I1 _ _ e fun Hc Hd s2 I2 => q _ _ (s1.trans s2) I2
  · cases e
theorem sim_not {t : TT} {f : DT} (hf : SimT G t f) : SimT G (tNot t) (dNot f) := by
  refine ⟨fun F H0 H S cs σ Q I b cs' e q => ?_⟩
  unfold dNot at e
  split at e
  · rename_i b' c1 e1
    cases e
    exact hf.run F H0 H S cs σ _ I _ _ e1 fun Ha Hb s1 I1 => q _ _ s1 I1
  · cases e
/-- a if t else b -/
def dIf (c : DT) (f g : DE) : DE := fun S cs => match c S cs with
  | some (true, c1) => f S c1
  | some (false, c1) => g S c1
  | none => none
theorem sim_if {t : TT} {c : DT} {ta tb : TE} {f g : DE} (hc : SimT G t c) (hf : SimE G ta f) (hg : SimE G tb g) : SimE G (tIf t ta tb) (dIf c f g) := by
  refine ⟨fun F H0 H S cs σ Q I r cs' e q => ?_⟩
  unfold dIf at e
  split at e
  · rename_i c1 e1
    refine hc.run F H0 H S cs σ _ I _ _ e1 fun Ha Hb s1 I1 => ?_
    rw [if_pos rfl]
    exact hf.run F Ha Hb S c1 σ Q I1 _ _ e (q.mono s1)
  · rename_i c1 e1
    refine hc.run F H0 H S cs σ _ I _ _ e1 fun Ha Hb s1 I1 => ?_
    rw [if_neg Bool.false_ne_true]
    exact hg.run F Ha Hb S c1 σ Q I1 _ _ e (q.mono s1)
  · cases e
/-- a and b, a or b, not a as values, by truth -/
def dAndV (f g : DE) : DE := fun S cs => match f S cs with
  | some (.c x, c1) => match truD x with
    | some true => g S c1
    | some false => some (.c x, c1)
    | none => none
  | _ => none
def dOrV (f g : DE) : DE := fun S cs => match f S cs with
  | some (.c x, c1) => match truD x with
    | some true => some (.c x, c1)
    | some false => g S c1
    | none => none
  | _ => none
def dNotV (f : DE) : DE := fun S cs => match f S cs with
  | some (r, c1) => match rd S c1 r with
    | some d => match truD d with
      | some b => some (.c (.bl (!b)), c1)
      | none => none
    | none => none
  | none => none
theorem sim_andV {ta tb : TE} {f g : DE} (hf : SimE G ta f) (hg : SimE G tb g) : SimE G (tAndT G.K ta tb) (dAndV f g) := by
  refine ⟨fun F H0 H S cs σ Q I r cs' e q => ?_⟩
  unfold dAndV at e
  split at e
  · rename_i x c1 e1
    refine hf.run F H0 H S cs σ _ I _ _ e1 fun v Ha Hb s1 I1 r1 => ?_
    split at e
    · rename_i e2
      refine ⟨true, tru_rb I1.ex (Rp.rb I1.ex r1) e2, ?_⟩
      rw [if_pos rfl]
      exact hg.run F Ha Hb S c1 σ Q I1 _ _ e (q.mono s1)
    · rename_i e2
      cases e
      exact ⟨false, tru_rb I1.ex (Rp.rb I1.ex r1) e2, iteF ((q.mono s1).here I1 r1)⟩
    · cases e
  · cases e
theorem sim_orV {ta tb : TE} {f g : DE} (hf : SimE G ta f) (hg : SimE G tb g) : SimE G (tOrT G.K ta tb) (dOrV f g) := by
  refine ⟨fun F H0 H S cs σ Q I r cs' e q => ?_⟩
  unfold dOrV at e
  split at e
  · rename_i x c1 e1
    refine hf.run F H0 H S cs σ _ I _ _ e1 fun v Ha Hb s1 I1 r1 => ?_
    split at e
    · rename_i e2
      cases e
      exact ⟨true, tru_rb I1.ex (Rp.rb I1.ex r1) e2, iteT ((q.mono s1).here I1 r1)⟩
    · rename_i e2
      refine ⟨false, tru_rb I1.ex (Rp.rb I1.ex r1) e2, ?_⟩
      rw [if_neg Bool.false_ne_true]
      exact hg.run F Ha Hb S c1 σ Q I1 _ _ e (q.mono s1)
    · cases e
  · cases e
theorem sim_notV {ta : TE} {f : DE} (hf : SimE G ta f) : SimE G (tNotT G.K ta) (dNotV f) := by
  refine ⟨fun F H0 H S cs σ Q I r cs' e q => ?_⟩
  unfold dNotV at e
  split at e
  · rename_i r c1 e1
    split at e
    · rename_i d e2
      split at e
      · rename_i b' e3
        cases e
        exact hf.run F H0 H S cs σ _ I _ _ e1 fun v Ha Hb s1 I1 r1 => ⟨_, tru_rb I1.ex (rd_ok I1 r1 e2) e3, (q.mono s1).here I1 rp_bl⟩
      · cases e
    · cases e
  · cases e

/-! ### arguments -/
def dNil : DA := fun _ cs => some ([], cs)
def dCons (f : DE) (g : DA) : DA := fun S cs => match f S cs with
  | some (r, c1) => match g S c1 with
    | some (rs, c2) => some (r :: rs, c2)
    | none => none
  | none => none
theorem sim_nil : SimA G tNil dNil := by
  refine ⟨fun F H0 H S cs σ Q I rs cs' e q => ?_⟩
  cases e
  exact q [] H0 H (Same.refl _) I rfl
theorem sim_cons {ta : TE} {tr : TA} {f : DE} {g : DA} (hf : SimE G ta f) (hg : SimA G tr g) : SimA G (tCons ta tr) (dCons f g) := by
  refine ⟨fun F H0 H S cs σ Q I rs cs' e q => ?_⟩
  unfold dCons at e
  split at e
  · rename_i r c1 e1
    split at e
    · rename_i rs' c2 e2
      cases e
      refine hf.run F H0 H S cs σ _ I _ _ e1 fun v Ha Hb s1 I1 r1 => ?_
      exact hg.run F Ha Hb S c1 σ _ I1 _ _ e2 fun vs Hc Hd s2 I2 r2 => q _ _ _ (s1.trans s2) I2 ⟨v, vs, rfl, r1.mono s2, r2⟩
    · cases e
  · cases e
/-- displays -/
def dTup (f : DA) : DE := fun S cs => match f S cs with
  | some (rs, c1) => match cleans rs with
    | some ds => if ds.length ≤ sizeLine then some (.c (.tup ds), c1) else none
    | none => none
  | none => none
theorem cleans_len : ∀ {rs : List R} {ds : List D}, cleans rs = some ds → rs.length = ds.length
  | [], ds, e => by cases e; rfl
  | .c d :: rs, ds, e => by
    unfold cleans at e
    split at e
    · rename_i ds' q'
      cases e
      rw [List.length_cons, List.length_cons, cleans_len q']
    · cases e
  | .o _ :: _, _, e => by cases e
  | .k :: _, _, e => by cases e
theorem sim_tup {t : TA} {f : DA} (hf : SimA G t f) : SimE G (tTup t) (dTup f) := by
  refine ⟨fun F H0 H S cs σ Q I r cs' e q => ?_⟩
  unfold dTup at e
  split at e
  · rename_i rs c1 e1
    split at e
    · rename_i ds e2
      split at e
      · rename_i hl
        cases e
        refine hf.run F H0 H S cs σ _ I _ _ e1 fun vs Ha Hb s1 I1 r1 => ?_
        have rp := cleans_ok r1 e2
        refine ⟨by rw [rp.len]; exact hl, fun p hp => q _ _ _ (s1.trans (same_new I1.ex _ hp)) (I1.new _ hp) ?_⟩
        show Rp G _ (.tup ds) _
        unfold Rp
        exact ⟨p, vs, rfl, .inl (.inl upd_same), rp.mono (same_new I1.ex _ hp)⟩
      · cases e
    · cases e
  · cases e
def dLst (f : DA) : DF := fun S cs => match f S cs with
  | some (rs, c1) => match cleans rs with
    | some ds => if ds.length ≤ sizeLine then some (ds, c1) else none
    | none => none
  | none => none
theorem StOk.off {F : Fr} {H0 H : Hp} {S : List Sl} {cs : Option D} {σ : VS} (I : StOk G F H0 H S cs σ) {p : Addr} (o : HO) (h : H p = none) : StOk G F H0 (upd H p o) S cs σ := I.grow (Gr.off I.ex o h)
/-- a new list is laid -/
theorem FinF.laid {F : Fr} {H0 H : Hp} {S : List Sl} {cs : Option D} {σ : VS} {ds : List D} {vs : List V} {Q : VK} (q : FinF G F H0 S cs σ ds Q) (I : StOk G F H0 H S cs σ) (h : Rps G H0 ds vs) {p : Addr} (hp : H p = none) : Q (.ref p) (upd H p (.lst vs)) :=
  q p vs H0 _ (Same.refl _) (I.off _ hp) (I.ex.free hp) (I.he.free hp) (I.apart hp) upd_same h
theorem FinF.mono {F : Fr} {H0 H0' : Hp} {S : List Sl} {cs : Option D} {σ : VS} {ds : List D} {Q : VK} (e : Same H0 H0') (q : FinF G F H0 S cs σ ds Q) : FinF G F H0' S cs σ ds Q := fun p vs Ha Hb s => q p vs Ha Hb (e.trans s)
theorem sim_lst {t : TA} {f : DA} (hf : SimA G t f) : SimF G (tLst t) (dLst f) := by
  refine ⟨fun F H0 H S cs σ Q I r cs' e q => ?_⟩
  unfold dLst at e
  split at e
  · rename_i rs c1 e1
    split at e
    · rename_i ds e2
      split at e
      · rename_i hl
        cases e
        refine hf.run F H0 H S cs σ _ I _ _ e1 fun vs Ha Hb s1 I1 r1 => ?_
        have rp := cleans_ok r1 e2
        exact ⟨by rw [rp.len]; exact hl, fun p hp => (q.mono s1).laid I1 rp hp⟩
      · cases e
    · cases e
  · cases e
end DL

set_option autoImplicit true
set_option relaxedAutoImplicit true
set_option Elab.async false
set_option linter.all false
set_option maxRecDepth 100000
set_option maxHeartbeats 4000000
/-! DL, C: subscripts, slices, built-ins, calls, comprehensions. -/
namespace DL
open PySem PySem.Spec PyProof.Rows L2
variable {G : Gm}

/-! ### subscripts -/
def ixD (x y : D) : Option D := match x, y with
  | .lst ds, .int i => atI ds i
  | .tup ds, .int i => atI ds i
  | .str z, .int i => if z.length ≤ sizeLine then (match atI z.cps.toList i with | some c => some (.str ⟨#[c]⟩) | none => none) else none
  | _, _ => none
/-- a subscript's base may be an owned list -/
def dIx (f g : DE) : DE := fun S cs => match f S cs with
  | some (r, c1) => match g S c1 with
    | some (.c y, c2) => match rd S c2 r with
      | some x => match ixD x y with
        | some z => some (.c z, c2)
        | none => none
      | none => none
    | _ => none
  | none => none
theorem ix_rb {F : Fr} {H0 H : Hp} {S : List Sl} {cs : Option D} {σ : VS} {Q : VK} {x y z : D} {v w : V} (I : StOk G F H0 H S cs σ) (rx : RB G H0 H x v) (ry : Rp G H0 y w) (e : ixD x y = some z) (q : Fin G F H0 S cs σ (.c z) Q) : rIx G.K v w H Q := by
  unfold ixD at e
  split at e
  · rename_i ds i
    unfold RB at rx
    unfold Rp at ry
    obtain ⟨a, vs, rfl, h2, h3⟩ := rx
    obtain ⟨u, e1, r1⟩ := h3.atI e
    exact .inl ⟨a, vs, i, u, rfl, ry, .inl (.inl h2), e1, q.here I r1⟩
  · rename_i ds i
    unfold RB Rp at rx
    unfold Rp at ry
    obtain ⟨a, vs, rfl, h2, h3⟩ := rx
    obtain ⟨u, e1, r1⟩ := h3.atI e
    exact .inr (.inl ⟨a, vs, i, u, rfl, ry, sqt_same I.ex h2, e1, q.here I r1⟩)
  · rename_i z' i
    unfold RB Rp at rx
    unfold Rp at ry
    split at e
    · rename_i hl
      split at e
      · rename_i c e1
        cases e
        exact .inr (.inr ⟨z', i, c, rx, ry, hl, e1, q.here I rp_str⟩)
      · cases e
    · cases e
  · cases e
theorem sim_ix {ta tb : TE} {f g : DE} (ha : SimE G ta f) (hb : SimE G tb g) : SimE G (tOp (rIx G.K) ta tb) (dIx f g) := by
  refine ⟨fun F H0 H S cs σ Q I r cs' e q => ?_⟩
  unfold dIx at e
  split at e
  · rename_i r1 c1 e1
    split at e
    · rename_i y c2 e2
      split at e
      · rename_i x e3
        split at e
        · rename_i z e4
          cases e
          refine ha.run F H0 H S cs σ _ I _ _ e1 fun v Ha Hb s1 I1 q1 => ?_
          refine hb.run F Ha Hb S c1 σ _ I1 _ _ e2 fun w Hc Hd s2 I2 q2 => ?_
          exact ix_rb I2 (rd_ok I2 (q1.mono s2) e3) q2 e4 (q.mono (s1.trans s2))
        · cases e
      · cases e
    · cases e
  · cases e

/-! ### slices -/
abbrev DO := List Sl → Option D → Option (Option Int × Option D)
structure SimO (G : Gm) (t : TO) (f : DO) : Prop where
  run : ∀ (F : Fr) (H0 H : Hp) (S : List Sl) (cs : Option D) (σ : VS) (Q : Option Int → Hp → Prop), StOk G F H0 H S cs σ → ∀ o cs', f S cs = some (o, cs') →
    (∀ H0' H', Same H0 H0' → StOk G F H0' H' S cs' σ → Q o H') → t σ H Q
def dNoPart : DO := fun _ cs => some (none, cs)
def dPart (f : DE) : DO := fun S cs => match f S cs with
  | some (.c (.int i), c1) => some (some i, c1)
  | _ => none
theorem sim_nopart : SimO G tNoPart dNoPart := by
  refine ⟨fun F H0 H S cs σ Q I o cs' e q => ?_⟩
  cases e
  exact q H0 H (Same.refl _) I
theorem sim_part {ta : TE} {f : DE} (ha : SimE G ta f) : SimO G (tPart ta) (dPart f) := by
  refine ⟨fun F H0 H S cs σ Q I o cs' e q => ?_⟩
  unfold dPart at e
  split at e
  · rename_i i c1 e1
    cases e
    refine ha.run F H0 H S cs σ _ I _ _ e1 fun v Ha Hb s1 I1 r1 => ?_
    have r1' : Rp G Ha (.int i) v := r1
    unfold Rp at r1'
    exact ⟨i, r1', q _ _ s1 I1⟩
  · cases e
def cutD {α : Type} (xs : List α) (lo hi : Option Int) : List α := (xs.drop (HT.sIx xs.length 0 lo)).take (HT.sIx xs.length xs.length hi - HT.sIx xs.length 0 lo)
theorem Rps.cut {H : Hp} {ds : List D} {vs : List V} (h : Rps G H ds vs) (lo hi : Option Int) : Rps G H (cutD ds lo hi) (cutV vs lo hi) := by
  unfold cutD cutV
  rw [h.len]
  exact (h.drop _).take _
/-- a list's slice, as a new list -/
def dSlF (f : DE) (lo hi : DO) : DF := fun S cs => match f S cs with
  | some (r, c1) => match lo S c1 with
    | some (a, c2) => match hi S c2 with
      | some (b, c3) => match rd S c3 r with
        | some (.lst ds) => some (cutD ds a b, c3)
        | some (.scr ns) => some (cutD (ns.map D.int) a b, c3)
        | _ => none
      | none => none
    | none => none
  | none => none
theorem rps_ints {H : Hp} : ∀ ns : List Int, Rps G H (ns.map D.int) (ns.map V.int)
  | [] => Rps.nil
  | n :: ns => Rps.cons rp_int (rps_ints ns)
theorem sim_slF {ta : TE} {tl th : TO} {f : DE} {lo hi : DO} (ha : SimE G ta f) (hl : SimO G tl lo) (hh : SimO G th hi) : SimF G (tSl (rSlL G.K) ta tl th) (dSlF f lo hi) := by
  refine ⟨fun F H0 H S cs σ Q I r cs' e q => ?_⟩
  unfold dSlF at e
  split at e
  · rename_i r1 c1 e1
    split at e
    · rename_i a c2 e2
      split at e
      · rename_i b c3 e3
        split at e
        · rename_i ds e4
          cases e
          refine ha.run F H0 H S cs σ _ I _ _ e1 fun v Ha Hb s1 I1 q1 => ?_
          refine hl.run F Ha Hb S c1 σ _ I1 _ _ e2 fun Hc Hd s2 I2 => ?_
          refine hh.run F Hc Hd S c2 σ _ I2 _ _ e3 fun He Hf s3 I3 => ?_
          have rb := rd_ok I3 (q1.mono (s2.trans s3)) e4
          unfold RB at rb
          obtain ⟨p, vs, rfl, h2, h3⟩ := rb
          exact ⟨p, vs, rfl, .inl (.inl h2), fun p' hp => (q.mono ((s1.trans s2).trans s3)).laid I3 (h3.cut a b) hp⟩
        · rename_i ns e4
          cases e
          refine ha.run F H0 H S cs σ _ I _ _ e1 fun v Ha Hb s1 I1 q1 => ?_
          refine hl.run F Ha Hb S c1 σ _ I1 _ _ e2 fun Hc Hd s2 I2 => ?_
          refine hh.run F Hc Hd S c2 σ _ I2 _ _ e3 fun He Hf s3 I3 => ?_
          have rb := rd_ok I3 (q1.mono (s2.trans s3)) e4
          unfold RB Rp at rb
          obtain ⟨p, rfl, h2⟩ := rb
          exact ⟨p, _, rfl, I3.ex.seq h2, fun p' hp => (q.mono ((s1.trans s2).trans s3)).laid I3 ((rps_ints ns).cut a b) hp⟩
        · cases e
      · cases e
    · cases e
  · cases e

/-! ### built-ins -/
/-- a call whose value is made of what the arguments read -/
def CallSim (G : Gm) (r : List V → Hp → VK → Prop) (op : List D → Option D) : Prop :=
  ∀ (F : Fr) (H0 H : Hp) (S : List Sl) (cs : Option D) (σ : VS) (Q : VK) (xs : List D) (z : D) (vs : List V), StOk G F H0 H S cs σ → RBs G H0 H xs vs → op xs = some z → Fin G F H0 S cs σ (.c z) Q → r vs H Q
def CallSimF (G : Gm) (r : List V → Hp → VK → Prop) (op : List D → Option (List D)) : Prop :=
  ∀ (F : Fr) (H0 H : Hp) (S : List Sl) (cs : Option D) (σ : VS) (Q : VK) (xs zs : List D) (vs : List V), StOk G F H0 H S cs σ → RBs G H0 H xs vs → op xs = some zs → FinF G F H0 S cs σ zs Q → r vs H Q
def dCB (op : List D → Option D) (f : DA) : DE := fun S cs => match f S cs with
  | some (rs, c1) => match rds S c1 rs with
    | some xs => match op xs with
      | some z => some (.c z, c1)
      | none => none
    | none => none
  | none => none
theorem sim_cb {r : List V → Hp → VK → Prop} {op : List D → Option D} {t : TA} {f : DA} (ho : CallSim G r op) (hf : SimA G t f) : SimE G (tCB r t) (dCB op f) := by
  refine ⟨fun F H0 H S cs σ Q I r cs' e q => ?_⟩
  unfold dCB at e
  split at e
  · rename_i rs c1 e1
    split at e
    · rename_i xs e2
      split at e
      · rename_i z e3
        cases e
        exact hf.run F H0 H S cs σ _ I _ _ e1 fun vs Ha Hb s1 I1 r1 => ho F Ha Hb S _ σ Q xs z vs I1 (rds_ok I1 r1 e2) e3 (q.mono s1)
      · cases e
    · cases e
  · cases e
def dCBF (op : List D → Option (List D)) (f : DA) : DF := fun S cs => match f S cs with
  | some (rs, c1) => match rds S c1 rs with
    | some xs => match op xs with
      | some z => some (z, c1)
      | none => none
    | none => none
  | none => none
theorem sim_cbF {r : List V → Hp → VK → Prop} {op : List D → Option (List D)} {t : TA} {f : DA} (ho : CallSimF G r op) (hf : SimA G t f) : SimF G (tCB r t) (dCBF op f) := by
  refine ⟨fun F H0 H S cs σ Q I r cs' e q => ?_⟩
  unfold dCBF at e
  split at e
  · rename_i rs c1 e1
    split at e
    · rename_i xs e2
      split at e
      · rename_i z e3
        cases e
        exact hf.run F H0 H S cs σ _ I _ _ e1 fun vs Ha Hb s1 I1 r1 => ho F Ha Hb S _ σ Q xs _ vs I1 (rds_ok I1 r1 e2) e3 (q.mono s1)
      · cases e
    · cases e
  · cases e
theorem RBs.one {H0 H : Hp} {x : D} {vs : List V} (h : RBs G H0 H [x] vs) : ∃ v, vs = [v] ∧ RB G H0 H x v := by
  obtain ⟨v, w, rfl, h1, rfl⟩ := h
  exact ⟨v, rfl, h1⟩
theorem RBs.two {H0 H : Hp} {x y : D} {vs : List V} (h : RBs G H0 H [x, y] vs) : ∃ v w, vs = [v, w] ∧ RB G H0 H x v ∧ RB G H0 H y w := by
  obtain ⟨v, w, rfl, h1, w2, w3, rfl, h2, rfl⟩ := h
  exact ⟨v, w2, rfl, h1, h2⟩
/-- what stands in a list or a tuple -/
def itemsD : D → Option (List D)
  | .lst ds => some ds
  | .tup ds => some ds
  | _ => none
theorem seq_rb {H0 H : Hp} (ex : Same H0 H) {x : D} {v : V} {ds : List D} (h : RB G H0 H x v) (e : itemsD x = some ds) : ∃ a vs, v = .ref a ∧ (SqL G.K H a vs ∨ SqT G.K H a vs) ∧ Rps G H0 ds vs := by
  cases x with
  | lst xs => cases e; obtain ⟨a, vs, e1, h2, h3⟩ := h; exact ⟨a, vs, e1, .inl (.inl (.inl h2)), h3⟩
  | tup xs =>
    cases e
    unfold RB Rp at h
    obtain ⟨a, vs, e1, h2, h3⟩ := h
    exact ⟨a, vs, e1, .inr (sqt_same ex h2), h3⟩
  | _ => cases e

/-- len -/
def oLen : List D → Option D
  | [.str x] => if x.length ≤ sizeLine then some (.int x.length) else none
  | [x] => match itemsD x with
    | some ds => some (.int ds.length)
    | none => none
  | _ => none
def rLenA (K : PySem.W.Frag) : List V → Hp → VK → Prop := fun xs H Q => ∃ x n, xs = [x] ∧ LenV K x H n ∧ Q (.int n) H
theorem cs_len : CallSim G (rLenA G.K) oLen := by
  intro F H0 H S cs σ Q xs z vs I rb e q
  unfold oLen at e
  split at e
  · split at e
    · rename_i x hl
      cases e
      obtain ⟨v, rfl, h⟩ := rb.one
      unfold RB Rp at h
      subst h
      exact ⟨_, _, rfl, ⟨hl, rfl⟩, q.here I rp_int⟩
    · cases e
  · split at e
    · rename_i x ds e1
      cases e
      obtain ⟨v, rfl, h⟩ := rb.one
      obtain ⟨a, vs, rfl, hs, hr⟩ := seq_rb I.ex h e1
      refine ⟨_, ds.length, rfl, ?_, q.here I rp_int⟩
      rcases hs with hs | hs
      · exact .inl ⟨vs, hs, hr.len.symm⟩
      · exact .inr ⟨vs, hs, hr.len.symm⟩
    · cases e
  · cases e
/-- abs, int, bool -/
def oAbs : List D → Option D
  | [.int i] => some (.int (if i < 0 then -i else i))
  | _ => none
theorem cs_abs : CallSim G (fun xs H Q => ∃ i, xs = [.int i] ∧ Q (.int (if i < 0 then -i else i)) H) oAbs := by
  intro F H0 H S cs σ Q xs z vs I rb e q
  unfold oAbs at e
  split at e
  · cases e
    obtain ⟨v, rfl, h⟩ := rb.one
    unfold RB Rp at h
    subst h
    exact ⟨_, rfl, q.here I rp_int⟩
  · cases e
def oToInt : List D → Option D
  | [.int i] => some (.int i)
  | [.bl k] => some (.int (if k then 1 else 0))
  | _ => none
theorem cs_int : CallSim G (fun xs H Q => (∃ i, xs = [.int i] ∧ Q (.int i) H) ∨ ∃ k, xs = [.bl k] ∧ Q (.int (if k then 1 else 0)) H) oToInt := by
  intro F H0 H S cs σ Q xs z vs I rb e q
  unfold oToInt at e
  split at e
  · cases e
    obtain ⟨v, rfl, h⟩ := rb.one
    unfold RB Rp at h
    subst h
    exact .inl ⟨_, rfl, q.here I rp_int⟩
  · cases e
    obtain ⟨v, rfl, h⟩ := rb.one
    unfold RB Rp at h
    subst h
    exact .inr ⟨_, rfl, q.here I rp_int⟩
  · cases e
def oMax2 : List D → Option D
  | [.int i, .int j] => some (.int (if j > i then j else i))
  | _ => none
def oMin2 : List D → Option D
  | [.int i, .int j] => some (.int (if j < i then j else i))
  | _ => none
theorem cs_max2 : CallSim G (fun xs H Q => ∃ i j, xs = [.int i, .int j] ∧ Q (.int (if j > i then j else i)) H) oMax2 := by
  intro F H0 H S cs σ Q xs z vs I rb e q
  unfold oMax2 at e
  split at e
  · cases e
    obtain ⟨v, w, rfl, h1, h2⟩ := rb.two
    unfold RB Rp at h1 h2
    subst h1; subst h2
    exact ⟨_, _, rfl, q.here I rp_int⟩
  · cases e
theorem cs_min2 : CallSim G (fun xs H Q => ∃ i j, xs = [.int i, .int j] ∧ Q (.int (if j < i then j else i)) H) oMin2 := by
  intro F H0 H S cs σ Q xs z vs I rb e q
  unfold oMin2 at e
  split at e
  · cases e
    obtain ⟨v, w, rfl, h1, h2⟩ := rb.two
    unfold RB Rp at h1 h2
    subst h1; subst h2
    exact ⟨_, _, rfl, q.here I rp_int⟩
  · cases e
/-- the ints of a list -/
def intsD : List D → Option (List Int)
  | [] => some []
  | .int i :: r => match intsD r with
    | some ns => some (i :: ns)
    | none => none
  | _ => none
def blsD : List D → Option (List Bool)
  | [] => some []
  | .bl i :: r => match blsD r with
    | some ns => some (i :: ns)
    | none => none
  | _ => none
theorem rps_intsD {H : Hp} : ∀ {ds : List D} {vs : List V} {ns : List Int}, Rps G H ds vs → intsD ds = some ns → vs = ns.map V.int
  | [], vs, ns, h, e => by cases e; unfold Rps at h; exact h
  | .int i :: r, vs, ns, h, e => by
    unfold Rps at h
    obtain ⟨v, w, rfl, h1, h2⟩ := h
    unfold intsD at e
    split at e
    · rename_i ns' e1
      cases e
      unfold Rp at h1
      rw [h1, rps_intsD h2 e1]; rfl
    · cases e
  | .non :: _, _, _, _, e => by cases e
  | .bl _ :: _, _, _, _, e => by cases e
  | .str _ :: _, _, _, _, e => by cases e
  | .tup _ :: _, _, _, _, e => by cases e
  | .lst _ :: _, _, _, _, e => by cases e
  | .obj _ _ _ :: _, _, _, _, e => by cases e
  | .scr _ :: _, _, _, _, e => by cases e
theorem rps_blsD {H : Hp} : ∀ {ds : List D} {vs : List V} {ns : List Bool}, Rps G H ds vs → blsD ds = some ns → vs = ns.map V.bl
  | [], vs, ns, h, e => by cases e; unfold Rps at h; exact h
  | .bl i :: r, vs, ns, h, e => by
    unfold Rps at h
    obtain ⟨v, w, rfl, h1, h2⟩ := h
    unfold blsD at e
    split at e
    · rename_i ns' e1
      cases e
      unfold Rp at h1
      rw [h1, rps_blsD h2 e1]; rfl
    · cases e
  | .non :: _, _, _, _, e => by cases e
  | .int _ :: _, _, _, _, e => by cases e
  | .str _ :: _, _, _, _, e => by cases e
  | .tup _ :: _, _, _, _, e => by cases e
  | .lst _ :: _, _, _, _, e => by cases e
  | .obj _ _ _ :: _, _, _, _, e => by cases e
  | .scr _ :: _, _, _, _, e => by cases e
/-- all, any of a list of truth values -/
def oAll : List D → Option D
  | [.lst ds] => match blsD ds with
    | some bs => some (.bl (bs.all id))
    | none => none
  | _ => none
def oAny : List D → Option D
  | [.lst ds] => match blsD ds with
    | some bs => some (.bl (bs.any id))
    | none => none
  | _ => none
theorem cs_all : CallSim G (rAll G.K) oAll := by
  intro F H0 H S cs σ Q xs z vs I rb e q
  unfold oAll at e
  split at e
  · split at e
    · rename_i ds bs e1
      cases e
      obtain ⟨v, rfl, h⟩ := rb.one
      unfold RB at h
      obtain ⟨a, ws, rfl, h2, h3⟩ := h
      exact ⟨a, bs, rfl, .inl (.inl (by rw [h2, rps_blsD h3 e1])), q.here I rp_bl⟩
    · cases e
  · cases e
theorem cs_any : CallSim G (rAny G.K) oAny := by
  intro F H0 H S cs σ Q xs z vs I rb e q
  unfold oAny at e
  split at e
  · split at e
    · rename_i ds bs e1
      cases e
      obtain ⟨v, rfl, h⟩ := rb.one
      unfold RB at h
      obtain ⟨a, ws, rfl, h2, h3⟩ := h
      exact ⟨a, bs, rfl, .inl (.inl (by rw [h2, rps_blsD h3 e1])), q.here I rp_bl⟩
    · cases e
  · cases e
/-- the greatest, the least of a list of ints -/
def maxI : List Int → Int
  | [] => 0
  | [x] => x
  | x :: r => if maxI r > x then maxI r else x
def minI : List Int → Int
  | [] => 0
  | [x] => x
  | x :: r => if minI r < x then minI r else x
theorem maxI_cons (x y : Int) (r : List Int) : maxI (x :: y :: r) = if maxI (y :: r) > x then maxI (y :: r) else x := rfl
theorem minI_cons (x y : Int) (r : List Int) : minI (x :: y :: r) = if minI (y :: r) < x then minI (y :: r) else x := rfl
theorem maxI_ge : ∀ {ns : List Int} {y : Int}, y ∈ ns → y ≤ maxI ns
  | [x], y, h => by rw [List.mem_singleton.mp h]; exact Int.le_refl _
  | x :: z :: r, y, h => by
    rw [maxI_cons]
    rcases List.mem_cons.mp h with e | h
    · split <;> omega
    · have := maxI_ge h
      split <;> omega
theorem maxI_mem : ∀ {ns : List Int}, ns ≠ [] → maxI ns ∈ ns
  | [], h => absurd rfl h
  | [x], _ => List.mem_singleton.mpr rfl
  | x :: y :: r, _ => by
    rw [maxI_cons]
    split
    · exact List.mem_cons_of_mem _ (maxI_mem (by simp))
    · exact List.mem_cons_self
theorem minI_le : ∀ {ns : List Int} {y : Int}, y ∈ ns → minI ns ≤ y
  | [x], y, h => by rw [List.mem_singleton.mp h]; exact Int.le_refl _
  | x :: z :: r, y, h => by
    rw [minI_cons]
    rcases List.mem_cons.mp h with e | h
    · split <;> omega
    · have := minI_le h
      split <;> omega
theorem minI_mem : ∀ {ns : List Int}, ns ≠ [] → minI ns ∈ ns
  | [], h => absurd rfl h
  | [x], _ => List.mem_singleton.mpr rfl
  | x :: y :: r, _ => by
    rw [minI_cons]
    split
    · exact List.mem_cons_of_mem _ (minI_mem (by simp))
    · exact List.mem_cons_self
def oMaxL : List D → Option D
  | [.lst ds] => match intsD ds with
    | some ns => if ns = [] then none else some (.int (maxI ns))
    | none => none
  | _ => none
def oMinL : List D → Option D
  | [.lst ds] => match intsD ds with
    | some ns => if ns = [] then none else some (.int (minI ns))
    | none => none
  | _ => none
def oSumL : List D → Option D
  | [.lst ds] => match intsD ds with
    | some ns => some (.int ns.sum)
    | none => none
  | _ => none
theorem pos_of_ne {α : Type} {l : List α} (h : ¬ l = []) : 0 < l.length := by
  cases l with
  | nil => exact absurd rfl h
  | cons _ _ => exact Nat.succ_pos _
theorem cs_maxL : CallSim G (rMax G.K) oMaxL := by
  intro F H0 H S cs σ Q xs z vs I rb e q
  unfold oMaxL at e
  split at e
  · split at e
    · rename_i ds ns e1
      split at e
      · cases e
      · rename_i hn
        cases e
        obtain ⟨v, rfl, h⟩ := rb.one
        unfold RB at h
        obtain ⟨a, ws, rfl, h2, h3⟩ := h
        refine ⟨a, ns, rfl, .inl (.inl (by rw [h2, rps_intsD h3 e1])), pos_of_ne hn, fun m hm hle => ?_⟩
        have : m = maxI ns := Int.le_antisymm (maxI_ge hm) (hle _ (maxI_mem hn))
        subst this
        exact q.here I rp_int
    · cases e
  · cases e
theorem cs_minL : CallSim G (rMin G.K) oMinL := by
  intro F H0 H S cs σ Q xs z vs I rb e q
  unfold oMinL at e
  split at e
  · split at e
    · rename_i ds ns e1
      split at e
      · cases e
      · rename_i hn
        cases e
        obtain ⟨v, rfl, h⟩ := rb.one
        unfold RB at h
        obtain ⟨a, ws, rfl, h2, h3⟩ := h
        refine ⟨a, ns, rfl, .inl (.inl (by rw [h2, rps_intsD h3 e1])), pos_of_ne hn, fun m hm hle => ?_⟩
        have : m = minI ns := Int.le_antisymm (hle _ (minI_mem hn)) (minI_le hm)
        subst this
        exact q.here I rp_int
    · cases e
  · cases e
theorem cs_sumL : CallSim G (rSum G.K) oSumL := by
  intro F H0 H S cs σ Q xs z vs I rb e q
  unfold oSumL at e
  split at e
  · split at e
    · rename_i ds ns e1
      cases e
      obtain ⟨v, rfl, h⟩ := rb.one
      unfold RB at h
      obtain ⟨a, ws, rfl, h2, h3⟩ := h
      exact ⟨a, ns, rfl, .inl (.inl (by rw [h2, rps_intsD h3 e1])), q.here I rp_int⟩
    · cases e
  · cases e
/-- tuple(x) -/
def oTuple : List D → Option D
  | [.lst ds] => some (.tup ds)
  | [.tup ds] => some (.tup ds)
  | _ => none
def rTupleA (K : PySem.W.Frag) : List V → Hp → VK → Prop := fun xs H Q => ∃ p ys, xs = [.ref p] ∧ ((SqL K H p ys ∧ ∀ l, H l = none → Q (.ref l) (upd H l (.tup ys))) ∨ (SqT K H p ys ∧ Q (.ref p) H))
theorem cs_tuple : CallSim G (rTupleA G.K) oTuple := by
  intro F H0 H S cs σ Q xs z vs I rb e q
  unfold oTuple at e
  split at e
  · rename_i ds
    cases e
    obtain ⟨v, rfl, h⟩ := rb.one
    unfold RB at h
    obtain ⟨a, ws, rfl, h2, h3⟩ := h
    refine ⟨a, ws, rfl, .inl ⟨.inl (.inl h2), fun l hl => q _ _ _ (same_new I.ex _ hl) (I.new _ hl) ?_⟩⟩
    show Rp G _ (.tup ds) _
    unfold Rp
    exact ⟨l, ws, rfl, .inl (.inl upd_same), h3.mono (same_new I.ex _ hl)⟩
  · rename_i ds
    cases e
    obtain ⟨v, rfl, h⟩ := rb.one
    unfold RB at h
    have h' := h
    unfold Rp at h
    obtain ⟨a, ws, rfl, h2, h3⟩ := h
    exact ⟨a, ws, rfl, .inr ⟨sqt_same I.ex h2, q.here I h'⟩⟩
  · cases e
/-- list(x) -/
def oList : List D → Option (List D)
  | [x] => itemsD x
  | _ => none
def rListA (K : PySem.W.Frag) : List V → Hp → VK → Prop := fun xs H Q => ∃ p ys, xs = [.ref p] ∧ (SqL K H p ys ∨ SqT K H p ys) ∧ ∀ l, H l = none → Q (.ref l) (upd H l (.lst ys))
theorem cs_list : CallSimF G (rListA G.K) oList := by
  intro F H0 H S cs σ Q xs zs vs I rb e q
  unfold oList at e
  split at e
  · obtain ⟨v, rfl, h⟩ := rb.one
    obtain ⟨a, ws, rfl, hs, hr⟩ := seq_rb I.ex h e
    exact ⟨a, ws, rfl, hs, fun l hl => q.laid I hr hl⟩
  · cases e

/-! ### calls of the text's defs -/
/-- what a def without the cell promises -/
def spF (G : Gm) (m : List D → Option D) : Sp := fun vs H Q _ => ∃ H0 ds d, Same H0 H ∧ Rps G H0 ds vs ∧ m ds = some d ∧ ∀ v H0' H', Gr H0 H H0' H' → Rp G H0' d v → Q v H'
/-- what a def promises whose first argument is the cell -/
def spC (G : Gm) (m : D → List D → Option (D × D)) : Sp := fun ws H Q _ => ∃ p vs He H0 c ds d c', ws = .ref p :: vs ∧ Same H0 H ∧ Same He H ∧ PcOk G He H0 H (some p) (some c) ∧ Rps G H0 ds vs ∧ m c ds = some (d, c') ∧
  ∀ v H0' H', Same H0 H0' → Same H0' H' → Same He H' → (∀ a, He a ≠ none → H0 a = none → H0' a = none) → PcOk G He H0' H' (some p) (some c') → Rp G H0' d v → Q v H'
def dCall (m : List D → Option D) (f : DA) : DE := fun S cs => match f S cs with
  | some (rs, c1) => match cleans rs with
    | some ds => match m ds with
      | some d => some (.c d, c1)
      | none => none
    | none => none
  | none => none
theorem sim_call {m : List D → Option D} {t : TA} {f : DA} {E : XK} (hf : SimA G t f) : SimE G (tCall (spF G m) [] E t) (dCall m f) := by
  refine ⟨fun F H0 H S cs σ Q I r cs' e q => ?_⟩
  unfold dCall at e
  split at e
  · rename_i rs c1 e1
    split at e
    · rename_i ds e2
      split at e
      · rename_i d e3
        cases e
        refine hf.run F H0 H S cs σ _ I _ _ e1 fun vs Ha Hb s1 I1 r1 => ?_
        rw [List.append_nil]
        exact ⟨Ha, ds, d, I1.ex, cleans_ok r1 e2, e3, fun v H0' H' g rp => q _ _ _ (s1.trans g.a) (I1.grow g) rp⟩
      · cases e
    · cases e
  · cases e
end DL

set_option autoImplicit true
set_option relaxedAutoImplicit true
set_option Elab.async false
set_option linter.all false
set_option maxRecDepth 100000
set_option maxHeartbeats 4000000
/-! DL, D: calls with the cell, instances, isinstance. -/
namespace DL
open PySem PySem.Spec PyProof.Rows L2
variable {G : Gm}

/-! ### the cell handed on -/
def dCallC (m : D → List D → Option (D × D)) (f : DA) : DE := fun S cs => match f S cs with
  | some (.k :: rs, some c) => match cleans rs with
    | some ds => match m c ds with
      | some (d, c') => some (.c d, some c')
      | none => none
    | none => none
  | _ => none
/-- all that stands but the cell -/
def but (H : Hp) (p dx : Addr) : Hp := fun a => if a = p ∨ a = dx then none else H a
theorem but_same {H : Hp} {p dx : Addr} : Same (but H p dx) H := fun a o e => by
  unfold but at e
  split at e
  · cases e
  · exact e
theorem but_ne {H : Hp} {p dx a : Addr} (h1 : a ≠ p) (h2 : a ≠ dx) : but H p dx a = H a := by
  unfold but
  rw [if_neg (fun z => z.elim h1 h2)]
theorem but_p {H : Hp} {p dx : Addr} : but H p dx p = none := by unfold but; rw [if_pos (.inl rfl)]
theorem but_dx {H : Hp} {p dx : Addr} : but H p dx dx = none := by unfold but; rw [if_pos (.inr rfl)]
section
variable {F : Fr} {H0 H H0' H' : Hp} {S : List Sl} {σ : VS} {p : Addr} {c c' : D}
/-- the cell's own dict, or itself -/
theorem pc_dx (h : PcOk G F.He H0 H (some p) (some c)) : ∃ dx, (dx = p ∨ H dx = some (.own p)) ∧ F.He dx = none ∧ H0 dx = none ∧ PcOk G (but H p dx) H0 H (some p) (some c) := by
  cases c with
  | lst ds => obtain ⟨h1, h2, vs, h3, h4⟩ := h; exact ⟨p, .inl rfl, h2, h1, h1, but_p, vs, h3, h4⟩
  | obj C ns ds =>
    obtain ⟨h1, h2, dx, vs, h3, h4, h5, h6, h7, h8⟩ := h
    exact ⟨dx, .inr h4, h6, h5, h1, but_p, dx, vs, h3, h4, h5, but_dx, h7, h8⟩
  | _ => exact False.elim h
theorem pc_back {dx : Addr} (h : PcOk G (but H p dx) H0' H' (some p) (some c')) (he : Same F.He H) (hp : F.He p = none) (hd : F.He dx = none) : PcOk G F.He H0' H' (some p) (some c') := by
  cases c' with
  | lst ds => obtain ⟨h1, h2, vs, h3, h4⟩ := h; exact ⟨h1, hp, vs, h3, h4⟩
  | obj C ns ds =>
    obtain ⟨h1, h2, dx', vs, h3, h4, h5, h6, h7, h8⟩ := h
    refine ⟨h1, hp, dx', vs, h3, h4, h5, ?_, h7, h8⟩
    cases q : F.He dx' with
    | none => rfl
    | some o =>
      have e := he _ _ q
      by_cases z1 : dx' = p
      · rw [z1, hp] at q; cases q
      · by_cases z2 : dx' = dx
        · rw [z2, hd] at q; cases q
        · rw [but_ne z1 z2, e] at h6; cases h6
  | _ => exact False.elim h
/-- behind a call that was handed the cell -/
theorem StOk.after (I : StOk G F H0 H S (some c) σ) (hpc : F.pc = some p) {dx : Addr} (hdx : dx = p ∨ H dx = some (.own p)) (hd : F.He dx = none) (h0d : H0 dx = none) (s1 : Same H0 H0') (s2 : Same H0' H') (s3 : Same (but H p dx) H')
    (s4 : ∀ a, but H p dx a ≠ none → H0 a = none → H0' a = none) (h : PcOk G (but H p dx) H0' H' (some p) (some c')) : StOk G F H0' H' S (some c') σ := by
  have hp : F.He p = none := by
    have q := I.pc
    rw [hpc] at q
    cases c with
    | lst ds => exact q.2.1
    | obj C ns ds => exact q.2.1
    | _ => exact False.elim q
  have keepH : ∀ a o, F.He a = some o → but H p dx a = some o := fun a o e => by
    rw [but_ne (fun z => by rw [z, hp] at e; cases e) (fun z => by rw [z, hd] at e; cases e)]
    exact I.he _ _ e
  refine ⟨s2, fun a o e => s3 _ _ (keepH a o e), fun a b => ⟨(I.bn a b).1, ?_⟩, I.len, fun i s e => ?_, I.ds, ?_⟩
  · refine s4 a ?_ (I.bn a b).2
    cases q : F.He a with
    | none => exact absurd q (I.bn a b).1
    | some o => rw [keepH a o q]; simp
  · have q := I.sl i s e
    cases s with
    | no => trivial
    | val d => obtain ⟨v, e1, r⟩ := q; exact ⟨v, e1, r.mono s1⟩
    | own ds =>
      obtain ⟨a, vs, e1, h1, h2, h3, h4, h5⟩ := q
      have n1 : a ≠ p := fun z => h3 (by rw [hpc, z])
      have n2 : a ≠ dx := fun z => by
        rcases hdx with w | w
        · exact n1 (z.trans w)
        · rw [← z, h4] at w; cases w
      have q1 : but H p dx a = some (.lst vs) := by rw [but_ne n1 n2]; exact h4
      exact ⟨a, vs, e1, s4 a (by rw [q1]; simp) h1, h2, h3, s3 _ _ q1, h5.mono s1⟩
    | cst => exact q
  · rw [hpc]
    exact pc_back h I.he hp hd
end
theorem sim_callC {m : D → List D → Option (D × D)} {t : TA} {f : DA} {E : XK} (hf : SimA G t f) : SimE G (tCall (spC G m) [] E t) (dCallC m f) := by
  refine ⟨fun F H0 H S cs σ Q I r cs' e q => ?_⟩
  unfold dCallC at e
  split at e
  · rename_i rs c e1
    split at e
    · rename_i ds e2
      split at e
      · rename_i d c' e3
        cases e
        refine hf.run F H0 H S cs σ _ I _ _ e1 fun vs Ha Hb s1 I1 r1 => ?_
        obtain ⟨v, w, rfl, ⟨p, hpc, rfl⟩, r2⟩ := r1
        rw [List.append_nil]
        have hc := I1.pc
        rw [hpc] at hc
        obtain ⟨dx, z1, z2, z3, z4⟩ := pc_dx (F := F) hc
        exact ⟨p, w, but Hb p dx, Ha, c, ds, d, c', rfl, I1.ex, but_same, z4, cleans_ok r2 e2, e3, fun v H0' H' a1 a2 a3 a4 a5 rp => q _ _ _ (s1.trans a1) (I1.after hpc z1 z2 z3 a1 a2 a3 a4 a5) rp⟩
      · cases e
    · cases e
  · cases e
/-- a fresh list comes back -/
def spN (G : Gm) (m : List D → Option (List D)) : Sp := fun vs H Q _ => ∃ H0 ds d, Same H0 H ∧ Rps G H0 ds vs ∧ m ds = some d ∧ ∀ p ws H0' H', Gr H0 H H0' H' → H p = none → H0' p = none → H' p = some (.lst ws) → Rps G H0' d ws → Q (.ref p) H'
def dCallN (m : List D → Option (List D)) (f : DA) : DF := fun S cs => match f S cs with
  | some (rs, c1) => match cleans rs with
    | some ds => match m ds with
      | some d => some (d, c1)
      | none => none
    | none => none
  | none => none
theorem sim_callN {m : List D → Option (List D)} {t : TA} {f : DA} {E : XK} (hf : SimA G t f) : SimF G (tCall (spN G m) [] E t) (dCallN m f) := by
  refine ⟨fun F H0 H S cs σ Q I r cs' e q => ?_⟩
  unfold dCallN at e
  split at e
  · rename_i rs c1 e1
    split at e
    · rename_i ds e2
      split at e
      · rename_i d e3
        cases e
        refine hf.run F H0 H S cs σ _ I _ _ e1 fun vs Ha Hb s1 I1 r1 => ?_
        rw [List.append_nil]
        exact ⟨Ha, ds, _, I1.ex, cleans_ok r1 e2, e3, fun p ws H0' H' g hp h0 hl rp => q p ws _ _ (s1.trans g.a) (I1.grow g) h0 (I1.he.free hp) (I1.apart hp) hl rp⟩
      · cases e
    · cases e
  · cases e

/-! ### instances -/
def fldD : List Str → List D → Str → Option D
  | n :: ns, d :: ds, f => if f = n then some d else fldD ns ds f
  | _, _, _ => none
theorem fld_rp {H : Hp} {f : Str} {z : D} : ∀ {ns : List Str} {ds : List D} {vs : List V}, Rps G H ds vs → fldD ns ds f = some z → ∃ v, (ns.zip vs).lookup f = some v ∧ Rp G H z v
  | [], _, _, _, e => by unfold fldD at e; cases e
  | _ :: _, [], _, _, e => by unfold fldD at e; cases e
  | n :: ns, d :: ds, vs, h, e => by
    unfold Rps at h
    obtain ⟨v, w, rfl, h1, h2⟩ := h
    unfold fldD at e
    rw [List.zip_cons_cons, List.lookup_cons]
    split at e
    · rename_i hf
      cases e
      subst hf
      rw [beq_self_eq_true]
      exact ⟨v, rfl, h1⟩
    · rename_i hf
      rw [show (f == n) = false from beq_eq_false_iff_ne.mpr hf]
      exact fld_rp h2 e
theorem fld_no {f : Str} : ∀ {ns : List Str} {vs : List V}, f ∉ ns → (ns.zip vs).lookup f = none
  | [], _, _ => rfl
  | _ :: _, [], _ => rfl
  | n :: ns, v :: vs, h => by
    rw [List.zip_cons_cons, List.lookup_cons, show (f == n) = false from beq_eq_false_iff_ne.mpr fun z => h (z ▸ List.mem_cons_self)]
    exact fld_no fun z => h (List.mem_cons_of_mem _ z)
/-- e.f -/
def dFld (C : Nat) (fl : Str) (f : DE) : DE := fun S cs => match f S cs with
  | some (r, c1) => match rd S c1 r with
    | some (.obj C' ns ds) => if C' = C then (match fldD ns ds fl with
      | some z => some (.c z, c1)
      | none => none) else none
    | _ => none
  | none => none
theorem sim_fld {C : Nat} {fl : Str} {ta : TE} {f : DE} (hC : Cls G.K (G.cA C)) (hn : NoAttr G.K (G.cA C) fl) (hf : SimE G ta f) : SimE G (tFld G.K ta fl) (dFld C fl f) := by
  refine ⟨fun F H0 H S cs σ Q I r cs' e q => ?_⟩
  unfold dFld at e
  split at e
  · rename_i r1 c1 e1
    split at e
    · rename_i C' ns ds e2
      split at e
      · rename_i hc
        split at e
        · rename_i z e3
          cases e
          subst hc
          refine hf.run F H0 H S cs σ _ I _ _ e1 fun v Ha Hb s1 I1 q1 => ?_
          have rb := rd_ok I1 q1 e2
          unfold RB at rb
          obtain ⟨a, dx, vs, rfl, h2, h3, h4⟩ := rb
          obtain ⟨u, hu, ru⟩ := fld_rp h4 e3
          exact ⟨a, _, dx, _, u, rfl, h2, hC, hn, hu, (q.mono s1).here I1 ru⟩
        · cases e
      · cases e
    · cases e
  · cases e
/-- o.m(..), the object known data -/
def dMeth (C : Nat) (mn : Str) (m : List D → Option D) (fo : DE) (f : DA) : DE := fun S cs => match fo S cs with
  | some (.c (.obj C' ns ds), c1) => if C' = C ∧ mn ∉ ns then (match f S c1 with
    | some (rs, c2) => match cleans rs with
      | some xs => match m (.obj C' ns ds :: xs) with
        | some z => some (.c z, c2)
        | none => none
      | none => none
    | none => none) else none
  | _ => none
theorem sim_meth {C : Nat} {mn : Str} {m : List D → Option D} {to : TE} {fo : DE} {t : TA} {f : DA} {E : XK} (ho : SimE G to fo) (hf : SimA G t f) : SimE G (tMeth (G.cA C) mn (spF G m) [] E to t) (dMeth C mn m fo f) := by
  refine ⟨fun F H0 H S cs σ Q I r cs' e q => ?_⟩
  unfold dMeth at e
  split at e
  · rename_i C' ns ds c1 e1
    split at e
    · rename_i hc
      split at e
      · rename_i rs c2 e2
        split at e
        · rename_i xs e3
          split at e
          · rename_i z e4
            cases e
            obtain ⟨rfl, hm⟩ := hc
            refine ho.run F H0 H S cs σ _ I _ _ e1 fun v Ha Hb s1 I1 q1 => ?_
            have q1' : Rp G Ha (.obj C' ns ds) v := q1
            have rb := q1'
            unfold Rp at rb
            obtain ⟨a, dx, vs, rfl, h2, h3, h4, h5⟩ := rb
            refine ⟨a, dx, _, rfl, I1.ex _ _ h2, fld_no hm, hf.run F Ha Hb S c1 σ _ I1 _ _ e2 fun us Hc Hd s2 I2 r2 => ?_⟩
            rw [List.append_nil]
            exact ⟨Hc, _, z, I2.ex, Rps.cons (Rp.mono s2 _ _ q1') (cleans_ok r2 e3), e4, fun v H0' H' g rp => q _ _ _ ((s1.trans s2).trans g.a) (I2.grow g) rp⟩
          · cases e
        · cases e
      · cases e
    · cases e
  · cases e
/-- C(..), its __init__ -/
def dMake (C : Nat) (m : D → List D → Option (D × D)) (f : DA) : DE := fun S cs => match f S cs with
  | some (rs, c1) => match cleans rs with
    | some ds => match m (.obj C [] []) ds with
      | some (.non, .obj C' ns es) => if C' = C then some (.c (.obj C' ns es), c1) else none
      | _ => none
    | none => none
  | none => none
theorem sim_make {C : Nat} {m : D → List D → Option (D × D)} {t : TA} {f : DA} {E : XK} (hf : SimA G t f) : SimE G (tMake (G.cA C) (spC G m) [] E t) (dMake C m f) := by
  refine ⟨fun F H0 H S cs σ Q I r cs' e q => ?_⟩
  unfold dMake at e
  split at e
  · rename_i rs c1 e1
    split at e
    · rename_i ds e2
      split at e
      · rename_i C' ns es e3
        split at e
        · rename_i hc
          cases e
          subst hc
          refine hf.run F H0 H S cs σ _ I _ _ e1 fun vs Ha Hb s1 I1 r1 => ?_
          intro x dx hx hdx hne
          have hxdx : (upd Hb dx (.own x)) x = none := by rw [upd_ne (Ne.symm hne)]; exact hx
          rw [List.append_nil]
          have sm : Same Hb (upd (upd Hb dx (.own x)) x (.ins (G.cA C') dx [])) := fun b o z => by
            rw [upd_ne (ne_of_none z hx), upd_ne (ne_of_none z hdx)]; exact z
          refine ⟨x, vs, Hb, Ha, .obj C' [] [], ds, _, _, rfl, I1.ex.trans sm, sm, ⟨I1.ex.free hx, hx, dx, [], upd_same, ?_, I1.ex.free hdx, hdx, rfl, Rps.nil⟩, cleans_ok r1 e2, e3, ?_⟩
          · rw [upd_ne hne]; exact upd_same
          · intro v H0' H' a1 a2 a3 a4 a5 rp
            obtain ⟨b1, b2, dy, us, b3, b4, b5, b6, b7, b8⟩ := a5
            unfold Rp at rp
            refine ⟨rp, ?_⟩
            have I2 : StOk G F H0' H' S cs' σ := I1.grow ⟨a1, a3, a2, a4⟩
            -- the instance and its dict are taken in
            have hdyx : dy ≠ x := fun z => by rw [z, b3] at b4; cases b4
            obtain ⟨t1, t2⟩ := Gr.freeze I2.ex b4
            have h0x : upd H0' dy (.own x) x = none := by rw [upd_ne (Ne.symm hdyx)]; exact b1
            obtain ⟨t3, t4⟩ := Gr.freeze t2 b3
            have I3 : StOk G F (upd (upd H0' dy (.own x)) x (.ins (G.cA C') dy (ns.zip us))) H' S cs' σ := by
              have nn : ∀ a, F.He a ≠ none → a ≠ x ∧ a ≠ dy := fun a z => by
                have z2 : Hb a ≠ none := Same.ne I1.he z
                exact ⟨fun w => z2 (w ▸ hx), fun w => z2 (w ▸ b6)⟩
              refine ⟨t4, I2.he, fun a z => ⟨(I2.bn a z).1, ?_⟩, I2.len, fun i s ei => ?_, I2.ds, ?_⟩
              · have := nn a (I2.bn a z).1
                rw [upd_ne this.1, upd_ne this.2]; exact (I2.bn a z).2
              · have w := I2.sl i s ei
                have w1 := I1.sl i s ei
                cases s with
                | no => trivial
                | val d => obtain ⟨v, e1, r⟩ := w; exact ⟨v, e1, r.mono (t1.trans t3)⟩
                | own zs =>
                  obtain ⟨p', vs', u1, u2, u3, u4, u5, u6⟩ := w
                  obtain ⟨p2, vs2, w1, _, _, _, w5, _⟩ := w1
                  rw [u1] at w1; cases w1
                  have n1 : p' ≠ x := ne_of_none w5 hx
                  have n2 : p' ≠ dy := ne_of_none w5 b6
                  exact ⟨p', vs', u1, by rw [upd_ne n1, upd_ne n2]; exact u2, u3, u4, u5, u6.mono (t1.trans t3)⟩
                | cst => exact w
              · have w := I2.pc
                have w1 := I1.pc
                cases ep : F.pc with
                | none => rw [ep] at w; cases cs' with
                  | none => trivial
                  | some d => cases d <;> exact w
                | some p' =>
                  rw [ep] at w w1
                  cases cs' with
                  | none => exact w
                  | some d =>
                    cases d with
                    | lst zs =>
                      obtain ⟨u1, u2, vs', u3, u4⟩ := w
                      obtain ⟨_, _, vs2, w3, _⟩ := w1
                      exact ⟨by rw [upd_ne (ne_of_none w3 hx), upd_ne (ne_of_none w3 b6)]; exact u1, u2, vs', u3, u4.mono (t1.trans t3)⟩
                    | obj C2 ns2 zs =>
                      obtain ⟨u1, u2, dz, vs', u3, u4, u5, u6, u7, u8⟩ := w
                      obtain ⟨_, _, dz2, vs2, w3, w4, _, _, _, _⟩ := w1
                      have e3' := a3 _ _ w3
                      have hz : dz2 = dz := by
                        have z := Option.some.inj (e3'.symm.trans u3)
                        injection z
                      rw [hz] at w4
                      exact ⟨by rw [upd_ne (ne_of_none w3 hx), upd_ne (ne_of_none w3 b6)]; exact u1, u2, dz, vs', u3, u4, by rw [upd_ne (ne_of_none w4 hx), upd_ne (ne_of_none w4 b6)]; exact u5, u6, u7, u8.mono (t1.trans t3)⟩
                    | _ => exact w
            refine q _ _ _ ((s1.trans a1).trans (t1.trans t3)) I3 ?_
            show Rp G _ (.obj C' ns es) _
            unfold Rp
            exact ⟨x, dy, us, rfl, upd_same, by rw [upd_ne hdyx]; exact upd_same, b7, b8.mono (t1.trans t3)⟩
        · cases e
      · cases e
    · cases e
  · cases e

/-! ### isinstance(e, T) of a built-in type -/
def tyD : D → String
  | .non => "NoneType"
  | .bl _ => "bool"
  | .int _ => "int"
  | .str _ => "str"
  | .tup _ => "tuple"
  | .lst _ => "list"
  | .obj _ _ _ => ""
  | .scr _ => ""
/-- the answers -/
def isiD : D → String → Option Bool
  | .non, "bool" => some false | .non, "int" => some false | .non, "str" => some false | .non, "tuple" => some false | .non, "list" => some false
  | .bl _, "bool" => some true | .bl _, "int" => some true | .bl _, "str" => some false | .bl _, "tuple" => some false | .bl _, "list" => some false
  | .int _, "bool" => some false | .int _, "int" => some true | .int _, "str" => some false | .int _, "tuple" => some false | .int _, "list" => some false
  | .str _, "bool" => some false | .str _, "int" => some false | .str _, "str" => some true | .str _, "tuple" => some false | .str _, "list" => some false
  | .tup _, "bool" => some false | .tup _, "int" => some false | .tup _, "str" => some false | .tup _, "tuple" => some true | .tup _, "list" => some false
  | .lst _, "bool" => some false | .lst _, "int" => some false | .lst _, "str" => some false | .lst _, "tuple" => some false | .lst _, "list" => some true
  | _, _ => none
theorem isi_kit {K : PySem.W.Frag} {d : D} {T : String} {b : Bool} (h : isiD d T = some b) : PySem.W.kitOne K (.type (tyD d)) (.type T) = some b := by
  unfold isiD at h
  split at h <;> first | (cases h; done) | (cases h; dsimp only [tyD]; exact kit_ty (by decide +kernel))
theorem tyx_rb {H0 H : Hp} (ex : Same H0 H) {d : D} {v : V} {T : String} {b : Bool} (h : RB G H0 H d v) (e : isiD d T = some b) : TyX G.K H v (.type (tyD d)) := by
  cases d with
  | non => unfold RB Rp at h; subst h; exact .base .non
  | bl _ => unfold RB Rp at h; subst h; exact .base (.bl _)
  | int _ => unfold RB Rp at h; subst h; exact .base (.int _)
  | str _ => unfold RB Rp at h; subst h; exact .base (.str _)
  | tup ds =>
    unfold RB Rp at h
    obtain ⟨a, vs, rfl, h2, h3⟩ := h
    rcases sqt_same ex h2 with (h2 | ⟨o, h2⟩) | ⟨o, its, n, h2, h4, _⟩
    · exact .base (.tup h2)
    · exact .fTuple h2
    · exact .kTuple h2 h4
  | lst ds =>
    unfold RB at h
    obtain ⟨a, vs, rfl, h2, h3⟩ := h
    exact .base (.lst h2)
  | obj C ns ds => unfold isiD at e; cases e
  | scr ns => unfold isiD at e; cases e
def dIsi (T : String) (f : DE) : DE := fun S cs => match f S cs with
  | some (r, c1) => match rd S c1 r with
    | some d => match isiD d T with
      | some b => some (.c (.bl b), c1)
      | none => none
    | none => none
  | none => none
theorem sim_isi {T : String} {ta : TE} {f : DE} (hf : SimE G ta f) : SimE G (tCB (rIsi G.K) (tCons ta (tCons (tC (.ty T)) tNil))) (dIsi T f) := by
  refine ⟨fun F H0 H S cs σ Q I r cs' e q => ?_⟩
  unfold dIsi at e
  split at e
  · rename_i r1 c1 e1
    split at e
    · rename_i d e2
      split at e
      · rename_i b e3
        cases e
        refine hf.run F H0 H S cs σ _ I _ _ e1 fun v Ha Hb s1 I1 q1 => ?_
        exact ⟨v, .ty T, _, _, b, rfl, .ty T, tyx_rb I1.ex (rd_ok I1 q1 e2) e3, isi_kit e3, (q.mono s1).here I1 rp_bl⟩
      · cases e
    · cases e
  · cases e
section
variable {X : Cx} {K : PySem.W.Frag} {cA : Nat → Addr}
theorem dx_isi {T : String} {x : Str} {p p2 pos : Pos} {a : Expr} {ta : TE} {f : DE} (hm : X.mg "isinstance" = none) (ht : X.mg x = none) (hb : bootBuiltins x = some (.type T)) (ha : DExp X K cA a ta f)
    (hg : Gl X "isinstance" := by rfl) (hgt : Gl X x := by rfl) (hn : x ≠ "__name__" := by decide) (hd : (x == ("__debug__" : Str)) = false := by decide)
    (hs1 : starEach (a :: [.Name x p2]) X.env = (false, eval a X.env) :: starEach [.Name x p2] X.env := by rfl) (hpl : ((backTo pos (starEach [Expr.Name x p2] X.env)).any fun x => x.fst) = false := by rfl) (hK : X.K = K := by rfl) :
    DExp X K cA (.Call (.Name "isinstance" p) [a, .Name x p2] [] pos) (tCB (rIsi K) (tCons ta (tCons (tC (.ty T)) tNil))) (dIsi T f) := by
  subst hK
  exact ⟨pe_callB call_isi hg hm (by decide +kernel) (pa_cons ha.pe (pa_cons (pe_bltn hgt ht hb rfl hn hd) pa_nil) hs1) (he := hs1) (hpl := hpl), sim_isi ha.sim⟩
end
end DL

set_option autoImplicit true
set_option relaxedAutoImplicit true
set_option Elab.async false
set_option linter.all false
set_option maxRecDepth 100000
set_option maxHeartbeats 4000000
/-! DL, E: what is walked, targets, comprehensions. -/
namespace DL
open PySem PySem.Spec PyProof.Rows L2
variable {G : Gm}

/-! ### slots stored, forgotten -/
def wipeD (S : List Sl) : List Nat → List Sl
  | [] => S
  | v :: vs => (wipeD S vs).set v .no
def noOwn (S : List Sl) (vs : List Nat) : Bool := vs.all fun v => match S[v]? with
  | some (.own _) => false
  | some .cst => false
  | _ => true
theorem wipeD_get {S : List Sl} {i : Nat} : ∀ {vs : List Nat}, i ∉ vs → (wipeD S vs)[i]? = S[i]?
  | [], _ => rfl
  | v :: vs, h => by
    unfold wipeD
    rw [List.getElem?_set_ne (show v ≠ i from fun z => h (by rw [z]; exact List.mem_cons_self))]
    exact wipeD_get fun z => h (List.mem_cons_of_mem _ z)
theorem wipeV_get {σ : VS} {i : Nat} : ∀ {vs : List Nat}, i ∉ vs → (wipe σ vs)[i]? = σ[i]?
  | [], _ => rfl
  | v :: vs, h => by
    unfold wipe
    rw [List.getElem?_set_ne (show v ≠ i from fun z => h (by rw [z]; exact List.mem_cons_self))]
    exact wipeV_get fun z => h (List.mem_cons_of_mem _ z)
theorem wipeD_len (S : List Sl) : ∀ vs : List Nat, (wipeD S vs).length = S.length
  | [] => rfl
  | v :: vs => by unfold wipeD; rw [List.length_set, wipeD_len S vs]
theorem wipeD_in {S : List Sl} {i : Nat} {s : Sl} : ∀ {vs : List Nat}, i ∈ vs → (wipeD S vs)[i]? = some s → s = .no
  | v :: vs, h, e => by
    unfold wipeD at e
    by_cases hv : v = i
    · subst hv
      by_cases hl : v < (wipeD S vs).length
      · rw [List.getElem?_set_self hl] at e; cases e; rfl
      · rw [List.getElem?_eq_none (by rw [List.length_set]; omega)] at e; cases e
    · rw [List.getElem?_set_ne hv] at e
      exact wipeD_in ((List.mem_cons.mp h).resolve_left (fun z => hv z.symm)) e
/-- what is forgotten may have been anything -/
theorem wipeD_set {S : List Sl} {i : Nat} {s : Sl} : ∀ {vs : List Nat}, i ∈ vs → wipeD (S.set i s) vs = wipeD S vs
  | v :: vs, h => by
    unfold wipeD
    by_cases hm : i ∈ vs
    · rw [wipeD_set hm]
    · have e : i = v := (List.mem_cons.mp h).resolve_right hm
      subst e
      have : wipeD (S.set i s) vs = (wipeD S vs).set i s := by
        clear h
        induction vs with
        | nil => rfl
        | cons w ws ih =>
          unfold wipeD
          have n : i ≠ w := fun z => hm (z ▸ List.mem_cons_self)
          rw [ih (fun z => hm (List.mem_cons_of_mem _ z)), List.set_comm _ _ n]
      rw [this, List.set_set]
theorem wipeV_set {σ : VS} {i : Nat} {s : Option V} : ∀ {vs : List Nat}, i ∈ vs → wipe (σ.set i s) vs = wipe σ vs
  | v :: vs, h => by
    unfold wipe
    by_cases hm : i ∈ vs
    · rw [wipeV_set hm]
    · have e : i = v := (List.mem_cons.mp h).resolve_right hm
      subst e
      have : wipe (σ.set i s) vs = (wipe σ vs).set i s := by
        clear h
        induction vs with
        | nil => rfl
        | cons w ws ih =>
          unfold wipe
          have n : i ≠ w := fun z => hm (z ▸ List.mem_cons_self)
          rw [ih (fun z => hm (List.mem_cons_of_mem _ z)), List.set_comm _ _ n]
      rw [this, List.set_set]
theorem wipeD_wipe {S : List Sl} {vs : List Nat} : wipeD (wipeD S vs) vs = wipeD S vs := by
  have h : ∀ (us : List Nat), (∀ u ∈ us, u ∈ vs) → wipeD (wipeD S us) vs = wipeD S vs := by
    intro us
    induction us with
    | nil => intro _; rfl
    | cons u us ih =>
      intro hu
      show wipeD ((wipeD S us).set u .no) vs = _
      rw [wipeD_set (hu u List.mem_cons_self)]
      exact ih fun w hw => hu w (List.mem_cons_of_mem _ hw)
  exact h vs fun _ h => h

section
variable {F : Fr} {H0 H H0' H' : Hp} {S : List Sl} {cs cs' : Option D} {σ : VS}
theorem StOk.setNo (I : StOk G F H0 H S cs σ) (i : Nat) : StOk G F H0 H (S.set i .no) cs (σ.set i none) := by
  refine ⟨I.ex, I.he, I.bn, by rw [List.length_set, List.length_set]; exact I.len, fun j s e => ?_, fun j k p xs ys n e1 e2 e3 e4 => ?_, I.pc⟩
  · by_cases hj : i = j
    · subst hj
      by_cases hl : i < S.length
      · rw [List.getElem?_set_self hl] at e; cases e; trivial
      · rw [List.getElem?_eq_none (by rw [List.length_set]; omega)] at e; cases e
    · rw [List.getElem?_set_ne hj] at e
      have q := I.sl j s e
      cases s with
      | no => trivial
      | val d => obtain ⟨v, e1, r⟩ := q; exact ⟨v, by rw [List.getElem?_set_ne hj]; exact e1, r⟩
      | own ds => obtain ⟨p, vs, e1, r⟩ := q; exact ⟨p, vs, by rw [List.getElem?_set_ne hj]; exact e1, r⟩
      | cst => obtain ⟨p, e0, e1⟩ := q; exact ⟨p, e0, by rw [List.getElem?_set_ne hj]; exact e1⟩
  · have hj : i ≠ j := fun z => by
      subst z
      by_cases hl : i < S.length
      · rw [List.getElem?_set_self hl] at e1; cases e1
      · rw [List.getElem?_eq_none (by rw [List.length_set]; omega)] at e1; cases e1
    have hk : i ≠ k := fun z => by
      subst z
      by_cases hl : i < S.length
      · rw [List.getElem?_set_self hl] at e2; cases e2
      · rw [List.getElem?_eq_none (by rw [List.length_set]; omega)] at e2; cases e2
    rw [List.getElem?_set_ne hj] at e1 e3
    rw [List.getElem?_set_ne hk] at e2 e4
    exact I.ds j k p xs ys n e1 e2 e3 e4
theorem StOk.setVal (I : StOk G F H0 H S cs σ) (i : Nat) {d : D} {v : V} (r : Rp G H0 d v) : StOk G F H0 H (S.set i (.val d)) cs (σ.set i (some v)) := by
  refine ⟨I.ex, I.he, I.bn, by rw [List.length_set, List.length_set]; exact I.len, fun j s e => ?_, fun j k p xs ys n e1 e2 e3 e4 => ?_, I.pc⟩
  · by_cases hj : i = j
    · subst hj
      by_cases hl : i < S.length
      · rw [List.getElem?_set_self hl] at e; cases e
        exact ⟨v, by rw [List.getElem?_set_self (by rw [← I.len]; exact hl)], r⟩
      · rw [List.getElem?_eq_none (by rw [List.length_set]; omega)] at e; cases e
    · rw [List.getElem?_set_ne hj] at e
      have q := I.sl j s e
      cases s with
      | no => trivial
      | val d => obtain ⟨v, e1, r⟩ := q; exact ⟨v, by rw [List.getElem?_set_ne hj]; exact e1, r⟩
      | own ds => obtain ⟨p, vs, e1, r⟩ := q; exact ⟨p, vs, by rw [List.getElem?_set_ne hj]; exact e1, r⟩
      | cst => obtain ⟨p, e0, e1⟩ := q; exact ⟨p, e0, by rw [List.getElem?_set_ne hj]; exact e1⟩
  · have hj : i ≠ j := fun z => by
      subst z
      by_cases hl : i < S.length
      · rw [List.getElem?_set_self hl] at e1; cases e1
      · rw [List.getElem?_eq_none (by rw [List.length_set]; omega)] at e1; cases e1
    have hk : i ≠ k := fun z => by
      subst z
      by_cases hl : i < S.length
      · rw [List.getElem?_set_self hl] at e2; cases e2
      · rw [List.getElem?_eq_none (by rw [List.length_set]; omega)] at e2; cases e2
    rw [List.getElem?_set_ne hj] at e1 e3
    rw [List.getElem?_set_ne hk] at e2 e4
    exact I.ds j k p xs ys n e1 e2 e3 e4
theorem StOk.wiped (I : StOk G F H0 H S cs σ) : ∀ vs : List Nat, StOk G F H0 H (wipeD S vs) cs (wipe σ vs)
  | [] => I
  | v :: vs => (I.wiped vs).setNo v
/-- behind a block: the slots that it forgot are as they were -/
theorem StOk.unwiped {vs : List Nat} (I : StOk G F H0 H S cs σ) (no : noOwn S vs = true) (s1 : Same H0 H0') (I' : StOk G F H0' H' (wipeD S vs) cs' (wipe σ vs)) : StOk G F H0' H' S cs' σ := by
  have own : ∀ (i : Nat) (xs : List D), S[i]? = some (.own xs) → i ∉ vs := fun i xs e hm => by
    have := List.all_eq_true.mp no i hm
    rw [e] at this
    cases this
  refine ⟨I'.ex, I'.he, I'.bn, I.len, fun i s e => ?_, I.ds, I'.pc⟩
  by_cases hi : i ∈ vs
  · have h1 := List.all_eq_true.mp no i hi
    rw [e] at h1
    have q := I.sl i s e
    cases s with
    | no => trivial
    | val d => obtain ⟨v, e1, r⟩ := q; exact ⟨v, e1, r.mono s1⟩
    | own _ => cases h1
    | cst => cases h1
  · have q := I'.sl i s (by rw [wipeD_get hi]; exact e)
    cases s with
    | no => trivial
    | val d => obtain ⟨v, e1, r⟩ := q; exact ⟨v, by rw [← wipeV_get hi]; exact e1, r⟩
    | own ds => obtain ⟨p, us, e1, r⟩ := q; exact ⟨p, us, by rw [← wipeV_get hi]; exact e1, r⟩
    | cst => obtain ⟨p, e0, e1⟩ := q; exact ⟨p, e0, by rw [← wipeV_get hi]; exact e1⟩
theorem Apart.wiped {p : Addr} (h : Apart F S σ p) (vs : List Nat) : Apart F (wipeD S vs) (wipe σ vs) p := by
  refine ⟨h.1, fun i xs e q => ?_⟩
  have hi : i ∉ vs := fun hm => by cases wipeD_in hm e
  rw [wipeD_get hi] at e
  rw [wipeV_get hi] at q
  exact h.2 i xs e q
theorem Apart.setVal {p : Addr} (h : Apart F S σ p) (i : Nat) (d : D) (v : Option V) : Apart F (S.set i (.val d)) (σ.set i v) p := by
  refine ⟨h.1, fun j xs e q => ?_⟩
  have hj : i ≠ j := fun z => by
    subst z
    by_cases hl : i < S.length
    · rw [List.getElem?_set_self hl] at e; cases e
    · rw [List.getElem?_eq_none (by rw [List.length_set]; omega)] at e; cases e
  rw [List.getElem?_set_ne hj] at e q
  exact h.2 j xs e q
/-- an address that is apart is written -/
theorem StOk.mutOff (I : StOk G F H0 H S cs σ) {p : Addr} {o : HO} (h0 : H0 p = none) (he : F.He p = none) (ap : Apart F S σ p) (hx : ∀ x, H p ≠ some (.own x)) : StOk G F H0 (upd H p o) S cs σ := by
  have nx : ∀ b u, F.He b = some u → b ≠ p := fun b u e z => by rw [z, he] at e; cases e
  refine ⟨fun b u e => by rw [upd_ne (ne_of_none e h0)]; exact I.ex _ _ e, fun b u e => by rw [upd_ne (nx b u e)]; exact I.he _ _ e, I.bn, I.len, fun i s e => ?_, I.ds, ?_⟩
  · have q := I.sl i s e
    cases s with
    | no => trivial
    | val d => exact q
    | own ds =>
      obtain ⟨p', vs, e1, h1, h2, h3, h4, h5⟩ := q
      have : p' ≠ p := fun z => ap.2 i ds e (z ▸ e1)
      exact ⟨p', vs, e1, h1, h2, h3, by rw [upd_ne this]; exact h4, h5⟩
    | cst => exact q
  · have q := I.pc
    cases e : F.pc with
    | none => rw [e] at q; cases cs with
      | none => trivial
      | some d => cases d <;> exact q
    | some p' =>
      have hne : p' ≠ p := fun z => ap.1 (z ▸ e)
      rw [e] at q
      cases cs with
      | none => exact q
      | some d =>
        cases d with
        | lst ds => obtain ⟨h1, h2, vs, h3, h4⟩ := q; exact ⟨h1, h2, vs, by rw [upd_ne hne]; exact h3, h4⟩
        | obj C ns ds =>
          obtain ⟨h1, h2, dx, vs, h3, h4, h5, h6, h7, h8⟩ := q
          have hdx : dx ≠ p := fun z => hx _ (z ▸ h4)
          exact ⟨h1, h2, dx, vs, by rw [upd_ne hne]; exact h3, by rw [upd_ne hdx]; exact h4, h5, h6, h7, h8⟩
        | _ => exact q
/-- an address that is apart is kept for a while -/
def Fr.keep (F : Fr) (p : Addr) (o : HO) : Fr := { F with He := upd F.He p o, ban := fun a => F.ban a ∨ a = p }
theorem StOk.kept (I : StOk G F H0 H S cs σ) {p : Addr} {o : HO} (hp : H p = some o) (h0 : H0 p = none) (ap : Apart F S σ p) (hx : ∀ x, o ≠ .own x) : StOk G (F.keep p o) H0 H S cs σ := by
  refine ⟨I.ex, fun b u e => ?_, fun a h => ?_, I.len, fun i s e => ?_, I.ds, ?_⟩
  · by_cases hb : b = p
    · subst hb
      have e' : some o = some u := (upd_same (H := F.He)).symm.trans e
      rw [← e']; exact hp
    · have e' : F.He b = some u := (upd_ne (H := F.He) (o := o) hb).symm.trans e
      exact I.he _ _ e'
  · by_cases ha : a = p
    · subst ha
      exact ⟨by show upd F.He a o a ≠ none; rw [upd_same]; simp, h0⟩
    · rcases h with h | h
      · exact ⟨by show upd F.He p o a ≠ none; rw [upd_ne ha]; exact (I.bn a h).1, (I.bn a h).2⟩
      · exact absurd h ha
  · have q := I.sl i s e
    cases s with
    | no => trivial
    | val d => exact q
    | own ds =>
      obtain ⟨p', vs, e1, h1, h2, h3, h4, h5⟩ := q
      have : p' ≠ p := fun z => ap.2 i ds e (z ▸ e1)
      exact ⟨p', vs, e1, h1, by show upd F.He p o p' = none; rw [upd_ne this]; exact h2, h3, h4, h5⟩
    | cst => exact q
  · have q := I.pc
    show PcOk G (upd F.He p o) H0 H F.pc cs
    cases e : F.pc with
    | none => rw [e] at q; cases cs with
      | none => trivial
      | some d => cases d <;> exact q
    | some p' =>
      have hne : p' ≠ p := fun z => ap.1 (z ▸ e)
      rw [e] at q
      cases cs with
      | none => exact q
      | some d =>
        cases d with
        | lst ds => obtain ⟨h1, h2, vs, h3, h4⟩ := q; exact ⟨h1, by rw [upd_ne hne]; exact h2, vs, h3, h4⟩
        | obj C ns ds =>
          obtain ⟨h1, h2, dx, vs, h3, h4, h5, h6, h7, h8⟩ := q
          have hdx : dx ≠ p := fun z => by rw [z, hp] at h4; exact hx _ (Option.some.inj h4)
          exact ⟨h1, by rw [upd_ne hne]; exact h2, dx, vs, h3, h4, h5, by rw [upd_ne hdx]; exact h6, h7, h8⟩
        | _ => exact q
theorem StOk.unkept {p : Addr} {o : HO} (hp : F.He p = none) (hb : ∀ a, F.ban a → F.He a ≠ none) (I : StOk G (F.keep p o) H0 H S cs σ) : StOk G F H0 H S cs σ ∧ H p = some o ∧ H0 p = none := by
  have back : ∀ a, upd F.He p o a = none → F.He a = none := fun a h => by
    by_cases ha : a = p
    · rw [ha]; exact hp
    · rw [upd_ne ha] at h; exact h
  refine ⟨⟨I.ex, fun b u e => I.he b u ?_, fun a h => ⟨?_, (I.bn a (.inl h)).2⟩, I.len, fun i s e => ?_, I.ds, ?_⟩, I.he p o (show upd F.He p o p = some o from upd_same), (I.bn p (.inr rfl)).2⟩
  · show upd F.He p o b = some u
    rw [upd_ne (fun z => by rw [z, hp] at e; cases e)]; exact e
  · exact hb a h
  · have q := I.sl i s e
    cases s with
    | no => trivial
    | val d => exact q
    | own ds => obtain ⟨p', vs, e1, h1, h2, h3, h4, h5⟩ := q; exact ⟨p', vs, e1, h1, back _ h2, h3, h4, h5⟩
    | cst => exact q
  · have q := I.pc
    have q' : PcOk G (upd F.He p o) H0 H F.pc cs := q
    cases e : F.pc with
    | none => rw [e] at q'; cases cs with
      | none => trivial
      | some d => cases d <;> exact q'
    | some p' =>
      rw [e] at q'
      cases cs with
      | none => exact q'
      | some d =>
        cases d with
        | lst ds => obtain ⟨h1, h2, vs, h3, h4⟩ := q'; exact ⟨h1, back _ h2, vs, h3, h4⟩
        | obj C ns ds => obtain ⟨h1, h2, dx, vs, h3, h4, h5, h6, h7, h8⟩ := q'; exact ⟨h1, back _ h2, dx, vs, h3, h4, h5, back _ h6, h7, h8⟩
        | _ => exact q'
end

/-! ### targets -/
structure SimG (G : Gm) (t : TG) (f : DG) (ts : List Nat) : Prop where
  run : ∀ (F : Fr) (H0 H : Hp) (S : List Sl) (cs : Option D) (σ : VS) (d : D) (v : V) (Q : L2.St → Hp → Prop), StOk G F H0 H S cs σ → Rp G H0 d v → ∀ S', f d S = some S' →
    (∀ σ', StOk G F H0 H S' cs σ' → (∀ p, Apart F S σ p → Apart F S' σ' p) → (∀ vs : List Nat, (∀ i ∈ ts, i ∈ vs) → wipe σ' vs = wipe σ vs) → Q σ' H) → t v σ H Q
  wD : ∀ d S S', f d S = some S' → ∀ vs : List Nat, (∀ i ∈ ts, i ∈ vs) → wipeD S' vs = wipeD S vs
structure SimGs (G : Gm) (t : TGs) (f : List D → List Sl → Option (List Sl)) (ts : List Nat) : Prop where
  run : ∀ (F : Fr) (H0 H : Hp) (S : List Sl) (cs : Option D) (σ : VS) (ds : List D) (vs : List V) (Q : L2.St → Hp → Prop), StOk G F H0 H S cs σ → Rps G H0 ds vs → ∀ S', f ds S = some S' →
    (∀ σ', StOk G F H0 H S' cs σ' → (∀ p, Apart F S σ p → Apart F S' σ' p) → (∀ vs : List Nat, (∀ i ∈ ts, i ∈ vs) → wipe σ' vs = wipe σ vs) → Q σ' H) → t vs σ H Q
  wD : ∀ ds S S', f ds S = some S' → ∀ vs : List Nat, (∀ i ∈ ts, i ∈ vs) → wipeD S' vs = wipeD S vs
def gdN (i : Nat) : DG := fun d S => match S[i]? with
  | some .cst => none
  | some _ => some (S.set i (.val d))
  | none => none
theorem sim_gN {i : Nat} : SimG G (gName i) (gdN i) [i] := by
  refine ⟨fun F H0 H S cs σ d v Q I r S' e q => ?_, fun d S S' e vs hs => ?_⟩
  · unfold gdN at e
    split at e
    · cases e
    · cases e
      exact q _ (I.setVal i r) (fun p h => h.setVal i d _) fun vs hs => wipeV_set (hs i List.mem_cons_self)
    · cases e
  · unfold gdN at e
    split at e
    · cases e
    · cases e
      exact wipeD_set (hs i List.mem_cons_self)
    · cases e
def gdNil : List D → List Sl → Option (List Sl) := fun ds S => match ds with
  | [] => some S
  | _ => none
def gdCons (f : DG) (g : List D → List Sl → Option (List Sl)) : List D → List Sl → Option (List Sl) := fun ds S => match ds with
  | d :: r => match f d S with
    | some S1 => g r S1
    | none => none
  | [] => none
theorem sim_gsN : SimGs G gNil gdNil [] := by
  refine ⟨fun F H0 H S cs σ ds vs Q I r S' e q => ?_, fun d S S' e vs hs => ?_⟩
  · unfold gdNil at e
    split at e
    · cases e
      unfold Rps at r
      exact ⟨r, q _ I (fun p h => h) fun _ _ => rfl⟩
    · cases e
  · unfold gdNil at e
    split at e
    · cases e; rfl
    · cases e
theorem sim_gsC {t : TG} {u : TGs} {f : DG} {g : List D → List Sl → Option (List Sl)} {ts us : List Nat} (hf : SimG G t f ts) (hg : SimGs G u g us) : SimGs G (gCons t u) (gdCons f g) (ts ++ us) := by
  refine ⟨fun F H0 H S cs σ ds vs Q I r S' e q => ?_, fun d S S' e vs hs => ?_⟩
  · unfold gdCons at e
    split at e
    · rename_i d r'
      split at e
      · rename_i S1 e1
        unfold Rps at r
        obtain ⟨v, w, rfl, h1, h2⟩ := r
        refine ⟨v, w, rfl, hf.run F H0 H S cs σ d v _ I h1 S1 e1 fun σ1 I1 a1 w1 => ?_⟩
        exact hg.run F H0 H S1 cs σ1 r' w Q I1 h2 S' e fun σ2 I2 a2 w2 => q σ2 I2 (fun p h => a2 p (a1 p h)) fun vs hs =>
          (w2 vs fun i hi => hs i (List.mem_append_right _ hi)).trans (w1 vs fun i hi => hs i (List.mem_append_left _ hi))
      · cases e
    · cases e
  · unfold gdCons at e
    split at e
    · split at e
      · rename_i S1 e1
        exact (hg.wD _ _ _ e vs fun i hi => hs i (List.mem_append_right _ hi)).trans (hf.wD _ _ _ e1 vs fun i hi => hs i (List.mem_append_left _ hi))
      · cases e
    · cases e
/-- (a, b, ..) = a tuple or a list -/
def gdT (n : Nat) (g : List D → List Sl → Option (List Sl)) : DG := fun d S => match itemsD d with
  | some ds => if ds.length = n then g ds S else none
  | none => none
def gSeqA (K : PySem.W.Frag) (n : Nat) (t : TGs) : TG := fun v σ H Q => gTup K n t v σ H Q ∨ gUnl K n t v σ H Q
theorem sim_gT {n : Nat} {t : TGs} {g : List D → List Sl → Option (List Sl)} {ts : List Nat} (hg : SimGs G t g ts) : SimG G (gSeqA G.K n t) (gdT n g) ts := by
  refine ⟨fun F H0 H S cs σ d v Q I r S' e q => ?_, fun d S S' e vs hs => ?_⟩
  · unfold gdT at e
    split at e
    · rename_i ds e1
      split at e
      · rename_i hl
        cases d with
        | tup xs =>
          cases e1
          unfold Rp at r
          obtain ⟨a, us, rfl, h2, h3⟩ := r
          exact .inl ⟨a, us, rfl, sqt_same I.ex h2, by rw [h3.len]; exact hl, hg.run F H0 H S cs σ _ us Q I h3 S' e q⟩
        | lst xs =>
          cases e1
          unfold Rp at r
          obtain ⟨a, us, rfl, h2, h3⟩ := r
          exact .inr ⟨a, us, rfl, .inl (.inl (I.ex _ _ h2)), by rw [h3.len]; exact hl, hg.run F H0 H S cs σ _ us Q I h3 S' e q⟩
        | _ => cases e1
      · cases e
    · cases e
  · unfold gdT at e
    split at e
    · split at e
      · exact hg.wD _ _ _ e vs hs
      · cases e
    · cases e
theorem pg_seqA {X : Cx} {es : List Expr} {k : Nat} {pos : Pos} {t : TGs} {n : Nat} (hc : X.calm = true) (h : PGs X es t)
    (hn : (assignEach es X.env).length = n := by rfl) (hst : (assignEach es X.env).findIdx? (·.1) = none := by rfl) : PG X (.Tuple es k pos) (gSeqA X.K n t) := by
  refine ⟨fun pins s σ H v u Q I r hw => ?_⟩
  rcases hw with hw | hw
  · exact (pg_tup hc h hn hst).run pins s σ H v u Q I r hw
  · exact (pg_unl hc h hn hst).run pins s σ H v u Q I r hw

structure DTgt (X : Cx) (K : PySem.W.Frag) (cA : Nat → Addr) (e : Expr) (t : TG) (f : DG) (ts : List Nat) : Prop where
  pg : PG X e t
  sim : SimG ⟨K, cA⟩ t f ts
structure DTgs (X : Cx) (K : PySem.W.Frag) (cA : Nat → Addr) (es : List Expr) (t : TGs) (f : List D → List Sl → Option (List Sl)) (ts : List Nat) : Prop where
  pg : PGs X es t
  sim : SimGs ⟨K, cA⟩ t f ts
section
variable {X : Cx} {K : PySem.W.Frag} {cA : Nat → Addr}
theorem dg_name (i : Nat) {x : Str} {pos : Pos} (hN : X.N.Nodup) (hi : X.N[i]? = some x := by rfl) (hx : Loc X.env.scope x := by first | exact .inl rfl | exact .inr rfl)
    (hf : X.fn x = true ∨ X.env.scope.names.lookup x = some .local := by first | exact .inl rfl | exact .inr rfl) : DTgt X K cA (.Name x pos) (gName i) (gdN i) [i] := ⟨pg_name hN hi hx hf, sim_gN⟩
theorem dgs_nil : DTgs X K cA [] gNil gdNil [] := ⟨pgs_nil, sim_gsN⟩
theorem dgs_cons {e : Expr} {es : List Expr} {t : TG} {u : TGs} {f : DG} {g : List D → List Sl → Option (List Sl)} {ts us : List Nat} (h1 : DTgt X K cA e t f ts) (h2 : DTgs X K cA es u g us)
    (hs : (assignEach (e :: es) X.env).map (·.2) = assign e X.env :: (assignEach es X.env).map (·.2) := by rfl) : DTgs X K cA (e :: es) (gCons t u) (gdCons f g) (ts ++ us) := ⟨pgs_cons h1.pg h2.pg hs, sim_gsC h1.sim h2.sim⟩
theorem dg_tup {es : List Expr} {k : Nat} {pos : Pos} {t : TGs} {g : List D → List Sl → Option (List Sl)} {ts : List Nat} (n : Nat) (hc : X.calm = true) (h : DTgs X K cA es t g ts)
    (hn : (assignEach es X.env).length = n := by rfl) (hst : (assignEach es X.env).findIdx? (·.1) = none := by rfl) (hK : X.K = K := by rfl) : DTgt X K cA (.Tuple es k pos) (gSeqA K n t) (gdT n g) ts := by
  subst hK
  exact ⟨pg_seqA hc h.pg hn hst, sim_gT h.sim⟩
end

/-! ### what is walked -/
structure JOk (G : Gm) (J : It) (ds : List D) (Hb : Hp) : Prop where
  go : ∀ i H0 H, Same Hb H0 → Same H0 H → i < ds.length → J.go i H
  stop : ∀ i H0 H, Same Hb H0 → Same H0 H → i = ds.length → J.stop i H
  yld : ∀ i H0 H x H', Same Hb H0 → Same H0 H → i < ds.length → J.yld i H x H' → ∃ d H0', ds[i]? = some d ∧ Gr H0 H H0' H' ∧ Rp G H0' d x
structure SimI (G : Gm) (wi : TI) (f : DF) : Prop where
  run : ∀ (F : Fr) (H0 H : Hp) (S : List Sl) (cs : Option D) (σ : VS) (R : It → Hp → Prop), StOk G F H0 H S cs σ → ∀ ds cs', f S cs = some (ds, cs') →
    (∀ J H0' H', Same H0 H0' → StOk G F H0' H' S cs' σ → JOk G J ds H0' → R J H') → wi σ H R
structure DIter (X : Cx) (K : PySem.W.Frag) (cA : Nat → Addr) (tg e : Expr) (t : TI) (f : DF) : Prop where
  pi : PI X tg e t
  sim : SimI ⟨K, cA⟩ t f
/-- lists, tuples, strings -/
def strD (x : Str) : List D := x.cps.toList.map fun c => .str ⟨#[c]⟩
def diSeq (f : DE) : DF := fun S cs => match f S cs with
  | some (.c (.lst ds), c1) => some (ds, c1)
  | some (.c (.tup ds), c1) => some (ds, c1)
  | some (.c (.str x), c1) => some (strD x, c1)
  | _ => none
def iSeqA (K : PySem.W.Frag) (te : TE) : TI := fun σ H R => iList K te σ H R ∨ (iTup K te σ H R ∨ iStr te σ H R)
theorem pi_seqA {X : Cx} {tg e : Expr} {te : TE} (h : PE X e te) : PI X tg e (iSeqA X.K te) := by
  refine ⟨fun pins s σ H R I hw => ?_⟩
  rcases hw with hw | hw | hw
  · exact (pi_list h).run pins s σ H R I hw
  · exact (pi_tup h).run pins s σ H R I hw
  · exact (pi_str h).run pins s σ H R I hw
theorem jok_list {K : PySem.W.Frag} {H : Hp} {a : Addr} {vs : List V} {ds : List D} {G : Gm} (hK : G.K = K) (h : H a = some (.lst vs)) (r : Rps G H ds vs) : JOk G (Itl K a) ds H := by
  refine ⟨fun i H0 H1 s1 s2 hi => ?_, fun i H0 H1 s1 s2 hi => ?_, fun i H0 H1 x H' s1 s2 hi y => ?_⟩
  · obtain ⟨v, e1, _⟩ := r.get (List.getElem?_eq_getElem hi)
    exact ⟨vs, v, .inl (.inl (s2 _ _ (s1 _ _ h))), e1⟩
  · exact ⟨vs, .inl (.inl (s2 _ _ (s1 _ _ h))), by rw [r.len]; omega⟩
  · obtain ⟨rfl, y⟩ := y
    obtain ⟨v, e1, r1⟩ := r.get (List.getElem?_eq_getElem hi)
    have e2 := y vs (.inl (.inl (s2 _ _ (s1 _ _ h))))
    rw [e1] at e2; cases e2
    exact ⟨_, H0, List.getElem?_eq_getElem hi, Gr.refl s2, r1.mono s1⟩
theorem jok_tup {H : Hp} {a : Addr} {vs : List V} {ds : List D} (h : SqT G.K H a vs) (r : Rps G H ds vs) : JOk G (Itt G.K a) ds H := by
  refine ⟨fun i H0 H1 s1 s2 hi => ?_, fun i H0 H1 s1 s2 hi => ?_, fun i H0 H1 x H' s1 s2 hi y => ?_⟩
  · obtain ⟨v, e1, _⟩ := r.get (List.getElem?_eq_getElem hi)
    exact ⟨vs, v, sqt_same (s1.trans s2) h, e1⟩
  · exact ⟨vs, sqt_same (s1.trans s2) h, by rw [r.len]; omega⟩
  · obtain ⟨rfl, y⟩ := y
    obtain ⟨v, e1, r1⟩ := r.get (List.getElem?_eq_getElem hi)
    have e2 := y vs (sqt_same (s1.trans s2) h)
    rw [e1] at e2; cases e2
    exact ⟨_, H0, List.getElem?_eq_getElem hi, Gr.refl s2, r1.mono s1⟩
theorem jok_str {H : Hp} {x : Str} : JOk G (Its x) (strD x) H := by
  have hl : (strD x).length = x.cps.size := by unfold strD; rw [List.length_map, Array.length_toList]
  refine ⟨fun i H0 H1 s1 s2 hi => by rw [hl] at hi; exact hi, fun i H0 H1 s1 s2 hi => by rw [hl] at hi; exact Nat.le_of_eq hi.symm, fun i H0 H1 v H' s1 s2 hi y => ?_⟩
  obtain ⟨rfl, c, e, rfl⟩ := y
  refine ⟨.str ⟨#[c]⟩, H0, ?_, Gr.refl s2, rp_str⟩
  unfold strD
  rw [List.getElem?_map, Array.getElem?_toList, e]
  rfl
theorem sim_iseq {te : TE} {f : DE} (h : SimE G te f) : SimI G (iSeqA G.K te) (diSeq f) := by
  refine ⟨fun F H0 H S cs σ R I ds cs' e q => ?_⟩
  unfold diSeq at e
  split at e
  · rename_i ds' c1 e1
    cases e
    refine .inl (h.run F H0 H S cs σ _ I _ _ e1 fun v Ha Hb s1 I1 r1 => ?_)
    have r1' : Rp G Ha (.lst ds) v := r1
    unfold Rp at r1'
    obtain ⟨a, vs, rfl, h2, h3⟩ := r1'
    exact ⟨a, rfl, ⟨vs, .inl (.inl (I1.ex _ _ h2))⟩, q _ _ _ s1 I1 (jok_list rfl h2 h3)⟩
  · rename_i ds' c1 e1
    cases e
    refine .inr (.inl (h.run F H0 H S cs σ _ I _ _ e1 fun v Ha Hb s1 I1 r1 => ?_))
    have r1' : Rp G Ha (.tup ds) v := r1
    unfold Rp at r1'
    obtain ⟨a, vs, rfl, h2, h3⟩ := r1'
    exact ⟨a, rfl, ⟨vs, sqt_same I1.ex h2⟩, q _ _ _ s1 I1 (jok_tup h2 h3)⟩
  · rename_i x c1 e1
    cases e
    refine .inr (.inr (h.run F H0 H S cs σ _ I _ _ e1 fun v Ha Hb s1 I1 r1 => ?_))
    have r1' : Rp G Ha (.str x) v := r1
    unfold Rp at r1'
    exact ⟨x, r1', q _ _ _ s1 I1 jok_str⟩
  · cases e
/-- range -/
def rngD (lo : Int) (n : Nat) : List D := (List.range n).map fun (i : Nat) => .int (lo + (i : Int))
def rngC (lo c : Int) (n : Nat) : List D := (List.range n).map fun (i : Nat) => .int (lo + (i : Int) * c)
theorem jok_rng {H : Hp} {lo : Int} {n : Nat} : JOk G (Itr lo n) (rngD lo n) H := by
  have hl : (rngD lo n).length = n := by unfold rngD; rw [List.length_map, List.length_range]
  refine ⟨fun i H0 H1 s1 s2 hi => by rw [hl] at hi; exact hi, fun i H0 H1 s1 s2 hi => by rw [hl] at hi; exact Nat.le_of_eq hi.symm, fun i H0 H1 v H' s1 s2 hi y => ?_⟩
  obtain ⟨rfl, rfl⟩ := y
  rw [hl] at hi
  refine ⟨.int (lo + (i : Int)), H0, ?_, Gr.refl s2, rp_int⟩
  unfold rngD
  rw [List.getElem?_map, List.getElem?_range hi]
  rfl
theorem jok_rngC {H : Hp} {lo c : Int} {n : Nat} : JOk G (Itc lo c n) (rngC lo c n) H := by
  have hl : (rngC lo c n).length = n := by unfold rngC; rw [List.length_map, List.length_range]
  refine ⟨fun i H0 H1 s1 s2 hi => by rw [hl] at hi; exact hi, fun i H0 H1 s1 s2 hi => by rw [hl] at hi; exact Nat.le_of_eq hi.symm, fun i H0 H1 v H' s1 s2 hi y => ?_⟩
  obtain ⟨rfl, rfl⟩ := y
  rw [hl] at hi
  refine ⟨.int (lo + (i : Int) * c), H0, ?_, Gr.refl s2, rp_int⟩
  unfold rngC
  rw [List.getElem?_map, List.getElem?_range hi]
  rfl
def diRng1 (f : DA) : DF := fun S cs => match f S cs with
  | some ([.c (.int j)], c1) => if -(2 ^ 62) ≤ j ∧ j < 2 ^ 62 then some (rngD 0 j.toNat, c1) else none
  | _ => none
def diRng2 (f : DA) : DF := fun S cs => match f S cs with
  | some ([.c (.int i), .c (.int j)], c1) => if -(2 ^ 62) ≤ i ∧ i < 2 ^ 62 ∧ -(2 ^ 62) ≤ j ∧ j < 2 ^ 62 then some (rngD i (j - i).toNat, c1) else none
  | _ => none
def diRng3 (f : DA) : DF := fun S cs => match f S cs with
  | some ([.c (.int i), .c (.int j), .c (.int k)], c1) => if k ≠ 0 ∧ k.natAbs < 1073741824 ∧ Builtin.Range.small i j k = true ∧ 0 ≤ Builtin.Range.rangeSize i j k then some (rngC i k (Builtin.Range.rangeSize i j k).toNat, c1) else none
  | _ => none
theorem sim_rng1 {t : TA} {f : DA} (h : SimA G t f) : SimI G (iRng1 t) (diRng1 f) := by
  refine ⟨fun F H0 H S cs σ R I ds cs' e q => ?_⟩
  unfold diRng1 at e
  split at e
  · rename_i j c1 e1
    split at e
    · rename_i hj
      cases e
      refine h.run F H0 H S cs σ _ I _ _ e1 fun vs Ha Hb s1 I1 r1 => ?_
      obtain ⟨v, w, rfl, h1, rfl⟩ := r1
      have h1' : Rp G Ha (.int j) v := h1
      unfold Rp at h1'
      subst h1'
      exact ⟨j, rfl, hj.1, hj.2, q _ _ _ s1 I1 jok_rng⟩
    · cases e
  · cases e
theorem sim_rng2 {t : TA} {f : DA} (h : SimA G t f) : SimI G (iRng2 t) (diRng2 f) := by
  refine ⟨fun F H0 H S cs σ R I ds cs' e q => ?_⟩
  unfold diRng2 at e
  split at e
  · rename_i i j c1 e1
    split at e
    · rename_i hj
      cases e
      refine h.run F H0 H S cs σ _ I _ _ e1 fun vs Ha Hb s1 I1 r1 => ?_
      obtain ⟨v, w, rfl, h1, v2, w2, rfl, h2, rfl⟩ := r1
      have h1' : Rp G Ha (.int i) v := h1
      have h2' : Rp G Ha (.int j) v2 := h2
      unfold Rp at h1' h2'
      subst h1'; subst h2'
      exact ⟨i, j, rfl, hj, q _ _ _ s1 I1 jok_rng⟩
    · cases e
  · cases e
theorem sim_rng3 {t : TA} {f : DA} (h : SimA G t f) : SimI G (iRng3 t) (diRng3 f) := by
  refine ⟨fun F H0 H S cs σ R I ds cs' e q => ?_⟩
  unfold diRng3 at e
  split at e
  · rename_i i j k c1 e1
    split at e
    · rename_i hj
      cases e
      refine h.run F H0 H S cs σ _ I _ _ e1 fun vs Ha Hb s1 I1 r1 => ?_
      obtain ⟨v, w, rfl, h1, v2, w2, rfl, h2, v3, w3, rfl, h3, rfl⟩ := r1
      have h1' : Rp G Ha (.int i) v := h1
      have h2' : Rp G Ha (.int j) v2 := h2
      have h3' : Rp G Ha (.int k) v3 := h3
      unfold Rp at h1' h2' h3'
      subst h1'; subst h2'; subst h3'
      exact ⟨i, j, k, _, rfl, ⟨hj.1, hj.2.1, hj.2.2.1, by rw [Int.toNat_of_nonneg hj.2.2.2]⟩, q _ _ _ s1 I1 jok_rngC⟩
    · cases e
  · cases e
/-- zip of two lists -/
def zipD : List D → List D → List D
  | x :: xs, y :: ys => .tup [x, y] :: zipD xs ys
  | _, _ => []
theorem zipD_len : ∀ xs ys : List D, (zipD xs ys).length = min xs.length ys.length
  | [], _ => by simp [zipD]
  | _ :: _, [] => by simp [zipD]
  | x :: xs, y :: ys => by simp [zipD, zipD_len xs ys]
theorem zipD_get : ∀ {xs ys : List D} {i : Nat} {x y : D}, xs[i]? = some x → ys[i]? = some y → (zipD xs ys)[i]? = some (.tup [x, y])
  | [], _, _, _, _, h, _ => by simp at h
  | _ :: _, [], _, _, _, _, h => by simp at h
  | a :: xs, b :: ys, 0, x, y, h1, h2 => by
    simp at h1 h2; subst h1; subst h2; rfl
  | a :: xs, b :: ys, i + 1, x, y, h1, h2 => by
    have h1' : xs[i]? = some x := by simpa using h1
    have h2' : ys[i]? = some y := by simpa using h2
    show (zipD xs ys)[i]? = _
    exact zipD_get h1' h2'
def diZip (f : DA) : DF := fun S cs => match f S cs with
  | some ([.c (.lst xs), .c (.lst ys)], c1) => some (zipD xs ys, c1)
  | _ => none
theorem jok_zip {H : Hp} {a b : Addr} {vs ws : List V} {xs ys : List D} (h1 : H a = some (.lst vs)) (h2 : H b = some (.lst ws)) (r1 : Rps G H xs vs) (r2 : Rps G H ys ws) : JOk G (Itz G.K a b) (zipD xs ys) H := by
  have hl := zipD_len xs ys
  have l1 := r1.len
  have l2 := r2.len
  refine ⟨fun i H0 H1 s1 s2 hi => ?_, fun i H0 H1 s1 s2 hi => ?_, fun i H0 H1 x H' s1 s2 hi y => ?_⟩
  · have e1 : i < xs.length := by omega
    have e2 : i < ys.length := by omega
    obtain ⟨v, q1, _⟩ := r1.get (List.getElem?_eq_getElem e1)
    obtain ⟨w, q2, _⟩ := r2.get (List.getElem?_eq_getElem e2)
    exact ⟨vs, ws, v, w, .inl (.inl (s2 _ _ (s1 _ _ h1))), .inl (.inl (s2 _ _ (s1 _ _ h2))), q1, q2⟩
  · exact ⟨vs, ws, .inl (.inl (s2 _ _ (s1 _ _ h1))), .inl (.inl (s2 _ _ (s1 _ _ h2))), by omega⟩
  · obtain ⟨T, x1, y1, rfl, nT, rfl, f1, f2⟩ := y
    have e1 : i < xs.length := by omega
    have e2 : i < ys.length := by omega
    obtain ⟨v, q1, p1⟩ := r1.get (List.getElem?_eq_getElem e1)
    obtain ⟨w, q2, p2⟩ := r2.get (List.getElem?_eq_getElem e2)
    have z1 := f1 vs (.inl (.inl (s2 _ _ (s1 _ _ h1))))
    have z2 := f2 ws (.inl (.inl (s2 _ _ (s1 _ _ h2))))
    rw [q1] at z1; cases z1
    rw [q2] at z2; cases z2
    refine ⟨_, _, zipD_get (List.getElem?_eq_getElem e1) (List.getElem?_eq_getElem e2), Gr.new s2 _ nT, ?_⟩
    unfold Rp
    have sn := same_new s2 (.tup [x1, y1]) nT
    exact ⟨T, [x1, y1], rfl, .inl (.inl upd_same), Rps.cons (Rp.mono (s1.trans sn) _ _ p1) (Rps.cons (Rp.mono (s1.trans sn) _ _ p2) Rps.nil)⟩
theorem sim_zip {t : TA} {f : DA} (h : SimA G t f) : SimI G (iZip G.K t) (diZip f) := by
  refine ⟨fun F H0 H S cs σ R I ds cs' e q => ?_⟩
  unfold diZip at e
  split at e
  · rename_i xs ys c1 e1
    cases e
    refine h.run F H0 H S cs σ _ I _ _ e1 fun vs Ha Hb s1 I1 r1 => ?_
    obtain ⟨v, w, rfl, h1, v2, w2, rfl, h2, rfl⟩ := r1
    have h1' : Rp G Ha (.lst xs) v := h1
    have h2' : Rp G Ha (.lst ys) v2 := h2
    unfold Rp at h1' h2'
    obtain ⟨a, us, rfl, a2, a3⟩ := h1'
    obtain ⟨b, ws, rfl, b2, b3⟩ := h2'
    exact ⟨a, b, us, ws, rfl, .inl (.inl (I1.ex _ _ a2)), .inl (.inl (I1.ex _ _ b2)), q _ _ _ s1 I1 (jok_zip a2 b2 a3 b3)⟩
  · cases e

/-! ### list comprehensions -/
def dYes : DT := fun _ cs => some (true, cs)
theorem sim_yes : SimT G tYes dYes := by
  refine ⟨fun F H0 H S cs σ Q I b cs' e q => ?_⟩
  cases e
  exact q H0 H (Same.refl _) I
def lcL (g : DG) (tt : DT) (f : DE) : List D → List Sl → Option D → Option (List D × Option D)
  | [], _, cs => some ([], cs)
  | d :: r, S, cs => match g d S with
    | some S1 => match tt S1 cs with
      | some (true, c1) => match f S1 c1 with
        | some (.c y, c2) => match lcL g tt f r S c2 with
          | some (ys, c3) => some (y :: ys, c3)
          | none => none
        | _ => none
      | some (false, c1) => lcL g tt f r S c1
      | none => none
    | none => none
def dLc (src : DF) (g : DG) (tt : DT) (f : DE) (vs : List Nat) : DF := fun S cs => match noOwn S vs with
  | true => match src S cs with
    | some (ds, c1) => if ds.length < sizeLine then lcL g tt f ds (wipeD S vs) c1 else none
    | none => none
  | false => none
theorem wipeV_wipe {σ : VS} {vs : List Nat} : wipe (wipe σ vs) vs = wipe σ vs := by
  have h : ∀ (us : List Nat), (∀ u ∈ us, u ∈ vs) → wipe (wipe σ us) vs = wipe σ vs := by
    intro us
    induction us with
    | nil => intro _; rfl
    | cons u us ih =>
      intro hu
      show wipe ((wipe σ us).set u none) vs = _
      rw [wipeV_set (hu u List.mem_cons_self)]
      exact ih fun w hw => hu w (List.mem_cons_of_mem _ hw)
  exact h vs fun _ h => h
theorem sim_lc {wi : TI} {g : TG} {tt : TT} {te : TE} {vs : List Nat} {src : DF} {dg : DG} {ts : List Nat} {dt : DT} {de : DE} (hi : SimI G wi src) (hg : SimG G g dg ts) (hsub : ∀ i ∈ ts, i ∈ vs) (ht : SimT G tt dt) (he : SimE G te de) :
    SimF G (tLc wi g tt te vs) (dLc src dg dt de vs) := by
  refine ⟨fun F H0 H S cs σ Q I ys cs' e q => ?_⟩
  unfold dLc at e
  split at e
  rotate_left
  · cases e
  rename_i hno
  split at e
  rotate_left
  · cases e
  rename_i ds c1 e1
  split at e
  rotate_left
  · cases e
  rename_i hlen
  refine hi.run F H0 H S cs σ _ I _ _ e1 fun J Ha Hb s1 I1 jok => ?_
  intro Dl hD
  have apD : Apart F S σ Dl := I1.apart hD
  have heD : F.He Dl = none := I1.he.free hD
  have h0D : Ha Dl = none := I1.ex.free hD
  have hb : ∀ a, F.ban a → F.He a ≠ none := fun a h => (I1.bn a h).1
  have apW := apD.wiped vs
  refine ⟨fun i m Hc => m = ds.length - i ∧ i ≤ ds.length ∧ ∃ H0c acc accV zs c, Same Ha H0c ∧ StOk G F H0c Hc (wipeD S vs) c (wipe σ vs) ∧ Hc Dl = some (.lst accV) ∧ H0c Dl = none ∧ Rps G H0c acc accV ∧ accV.length ≤ i ∧
    lcL dg dt de (ds.drop i) (wipeD S vs) c = some (zs, cs') ∧ acc ++ zs = ys, ⟨ds.length, by simp, Nat.zero_le _, Ha, [], [], ys, c1, Same.refl _, (I1.off _ hD).wiped vs, upd_same, h0D, Rps.nil, Nat.le_refl _, e, rfl⟩, ?_⟩
  rintro i m Hc ⟨rfl, hi, H0c, acc, accV, zs, c, sa, I2, hDl, h0Dl, racc, hacc, el, rfl⟩
  by_cases hlt : i < ds.length
  · refine .inr ⟨jok.go i H0c Hc sa I2.ex hlt, fun Hn => ∃ H0c acc' accV' zs' c', Same Ha H0c ∧ StOk G F H0c Hn (wipeD S vs) c' (wipe σ vs) ∧ Hn Dl = some (.lst accV') ∧ H0c Dl = none ∧ Rps G H0c acc' accV' ∧ accV'.length ≤ i + 1 ∧
      lcL dg dt de (ds.drop (i + 1)) (wipeD S vs) c' = some (zs', cs') ∧ acc' ++ zs' = acc ++ zs, fun Hn hn => ?_, fun x Hx hy => ?_⟩
    · obtain ⟨H0n, acc', accV', zs', c', n1, n2, n3, n4, n5, n6, n7, n8⟩ := hn
      exact ⟨ds.length - (i + 1), by omega, rfl, hlt, H0n, acc', accV', zs', c', n1, n2, n3, n4, n5, n6, n7, n8⟩
    · obtain ⟨d, H0d, ed, gr, rd⟩ := jok.yld i H0c Hc x Hx sa I2.ex hlt hy
      have I3 := I2.grow gr
      rw [List.drop_eq_getElem_cons hlt, show ds[i] = d from Option.some.inj ((List.getElem?_eq_getElem hlt).symm.trans ed)] at el
      have hDx : Hx Dl = some (.lst accV) := gr.b _ _ hDl
      have h0x : H0d Dl = none := gr.d Dl (ne_none hDl) h0Dl
      unfold lcL at el
      split at el
      rotate_left
      · cases el
      rename_i S1 eg
      refine hg.run F H0d Hx (wipeD S vs) c (wipe σ vs) d x _ I3 rd S1 eg fun σ2 I4 ap2 w2 => ?_
      have wv : wipe σ2 vs = wipe σ vs := (w2 vs hsub).trans wipeV_wipe
      have wd : wipeD S1 vs = wipeD S vs := (hg.wD _ _ _ eg vs hsub).trans wipeD_wipe
      refine ⟨wv, ?_⟩
      have apS1 := ap2 Dl apW
      have I5 := I4.kept hDx h0x apS1 (fun _ z => nomatch z)
      split at el
      · rename_i c2 et
        split at el
        · rename_i y c3 ee
          split at el
          · rename_i ys' c4 er
            cases el
            refine ht.run (F.keep Dl (.lst accV)) H0d Hx S1 c σ2 _ I5 _ _ et fun H0e He s5 I6 => ?_
            rw [if_pos rfl]
            refine he.run (F.keep Dl (.lst accV)) H0e He S1 c2 σ2 _ I6 _ _ ee fun v H0f Hf s6 I7 r7 => ?_
            obtain ⟨I8, hDf, h0f⟩ := I7.unkept heD hb
            have I9 : StOk G F H0f (upd Hf Dl (.lst (accV ++ [v]))) S1 c3 σ2 := I8.mutOff h0f heD apS1 (fun z w => by rw [hDf] at w; cases w)
            have I10 := I9.wiped vs
            rw [wv, wd] at I10
            refine ⟨accV, hDf, by omega, H0f, acc ++ [y], accV ++ [v], ys', c3, (sa.trans gr.a).trans (s5.trans s6), I10, upd_same, h0f, ?_, ?_, er, by rw [List.append_assoc]; rfl⟩
            · exact (racc.mono (gr.a.trans (s5.trans s6))).append (Rps.cons r7 Rps.nil)
            · rw [List.length_append]; simp; omega
          · cases el
        · cases el
      · rename_i c2 et
        refine ht.run (F.keep Dl (.lst accV)) H0d Hx S1 c σ2 _ I5 _ _ et fun H0e He s5 I6 => ?_
        refine iteF ?_
        obtain ⟨I8, hDf, h0f⟩ := I6.unkept heD hb
        have I10 := I8.wiped vs
        rw [wv, wd] at I10
        exact ⟨H0e, acc, accV, zs, c2, (sa.trans gr.a).trans s5, I10, hDf, h0f, racc.mono (gr.a.trans s5), by omega, el, rfl⟩
      · cases el
  · have hi' : i = ds.length := by omega
    subst hi'
    rw [List.drop_length] at el
    cases el
    refine .inl ⟨jok.stop _ H0c Hc sa I2.ex rfl, ?_⟩
    exact q Dl accV H0c Hc (s1.trans sa) (I.unwiped hno (s1.trans sa) I2) h0Dl heD apD hDl (by rw [List.append_nil]; exact racc)
end DL

set_option autoImplicit true
set_option relaxedAutoImplicit true
set_option Elab.async false
set_option autoImplicit false
set_option linter.all false
set_option maxRecDepth 100000
set_option maxHeartbeats 4000000
/-! DL, F: statements, defs. -/
namespace DL
open PySem PySem.Spec PyProof.Rows L2
variable {G : Gm}

def EndOk (G : Gm) (F : Fr) (H0 : Hp) (En : Ends) : Fl → List Sl → Option D → Prop
  | .nx, S, cs => ∀ σ H0' H', Same H0 H0' → StOk G F H0' H' S cs σ → En.nx σ H'
  | .bk, S, cs => ∀ σ H0' H', Same H0 H0' → StOk G F H0' H' S cs σ → En.bk σ H'
  | .ct, S, cs => ∀ σ H0' H', Same H0 H0' → StOk G F H0' H' S cs σ → En.ct σ H'
  | .rt d, _, cs => ∀ v H0' H', Same H0 H0' → StOk G F H0' H' [] cs [] → Rp G H0' d v → En.rt v H'
  | .rf ds, _, cs => ∀ p vs H0' H', Same H0 H0' → StOk G F H0' H' [] cs [] → H0' p = none → F.He p = none → F.pc ≠ some p → H' p = some (.lst vs) → Rps G H0' ds vs → En.rt (.ref p) H'
theorem EndOk.mono {F : Fr} {H0 H0' : Hp} {En : Ends} (s : Same H0 H0') : ∀ {fl : Fl} {S : List Sl} {cs : Option D}, EndOk G F H0 En fl S cs → EndOk G F H0' En fl S cs
  | .nx, _, _, h => fun σ Ha Hb s' I => h σ Ha Hb (s.trans s') I
  | .bk, _, _, h => fun σ Ha Hb s' I => h σ Ha Hb (s.trans s') I
  | .ct, _, _, h => fun σ Ha Hb s' I => h σ Ha Hb (s.trans s') I
  | .rt _, _, _, h => fun v Ha Hb s' I => h v Ha Hb (s.trans s') I
  | .rf _, _, _, h => fun p vs Ha Hb s' I => h p vs Ha Hb (s.trans s') I
theorem StOk.bare {F : Fr} {H0 H : Hp} {S : List Sl} {cs : Option D} {σ : VS} (I : StOk G F H0 H S cs σ) : StOk G F H0 H [] cs [] :=
  ⟨I.ex, I.he, I.bn, rfl, fun i s e => by simp at e, fun i j p xs ys n e => by simp at e, I.pc⟩

structure SimS (G : Gm) (t : TS) (f : DS) : Prop where
  run : ∀ (F : Fr) (H0 H : Hp) (S : List Sl) (cs : Option D) (σ : VS) (E : Ends), StOk G F H0 H S cs σ → ∀ fl S' cs', f S cs = some (fl, S', cs') → EndOk G F H0 E fl S' cs' → t E σ H
structure DStm (X : Cx) (K : PySem.W.Frag) (cA : Nat → Addr) (st : Stmt) (t : TS) (f : DS) : Prop where
  ps : PS X st t
  sim : SimS ⟨K, cA⟩ t f
structure DBlk (X : Cx) (K : PySem.W.Frag) (cA : Nat → Addr) (st : List Stmt) (t : TS) (f : DS) : Prop where
  ps : PSs X st t
  sim : SimS ⟨K, cA⟩ t f

def dsNil : DS := fun S cs => some (.nx, S, cs)
def dsSeq (f g : DS) : DS := fun S cs => match f S cs with
  | some (.nx, S1, c1) => g S1 c1
  | o => o
theorem sim_nx : SimS G tNext dsNil := by
  refine ⟨fun F H0 H S cs σ E I fl S' cs' e q => ?_⟩
  cases e
  exact q σ H0 H (Same.refl _) I
theorem sim_seq {t u : TS} {f g : DS} (hf : SimS G t f) (hg : SimS G u g) : SimS G (tSeq t u) (dsSeq f g) := by
  refine ⟨fun F H0 H S cs σ E I fl S' cs' e q => ?_⟩
  unfold dsSeq at e
  split at e
  · rename_i S1 c1 e1
    exact hf.run F H0 H S cs σ _ I _ _ _ e1 fun σ1 Ha Hb s1 I1 => hg.run F Ha Hb S1 c1 σ1 E I1 _ _ _ e (q.mono s1)
  · rename_i hn
    refine hf.run F H0 H S cs σ _ I _ _ _ e ?_
    cases fl with
    | nx => exact absurd e (hn S' cs')
    | bk => exact q
    | ct => exact q
    | rt d => exact q
    | rf ds => exact q
theorem db_nil {X : Cx} {K : PySem.W.Frag} {cA : Nat → Addr} : DBlk X K cA [] tNext dsNil := ⟨pss_nil, sim_nx⟩
theorem db_cons {X : Cx} {K : PySem.W.Frag} {cA : Nat → Addr} {st : Stmt} {rest : List Stmt} {t u : TS} {f g : DS} (h1 : DStm X K cA st t f) (h2 : DBlk X K cA rest u g) : DBlk X K cA (st :: rest) (tSeq t u) (dsSeq f g) := ⟨pss_cons h1.ps h2.ps, sim_seq h1.sim h2.sim⟩
theorem db_one {X : Cx} {K : PySem.W.Frag} {cA : Nat → Addr} {st : Stmt} {t : TS} {f : DS} (h1 : DStm X K cA st t f) : DBlk X K cA [st] t f := ⟨pss_one h1.ps, h1.sim⟩

/-! ### small statements -/
def dsBreak : DS := fun S cs => some (.bk, S, cs)
def dsCont : DS := fun S cs => some (.ct, S, cs)
def dsNever : DS := fun _ _ => none
theorem sim_break : SimS G tBreak dsBreak := by
  refine ⟨fun F H0 H S cs σ E I fl S' cs' e q => ?_⟩
  cases e
  exact q σ H0 H (Same.refl _) I
theorem sim_cont : SimS G tCont dsCont := by
  refine ⟨fun F H0 H S cs σ E I fl S' cs' e q => ?_⟩
  cases e
  exact q σ H0 H (Same.refl _) I
theorem sim_never : SimS G tNever dsNever := by
  refine ⟨fun F H0 H S cs σ E I fl S' cs' e q => ?_⟩
  cases e
def dsDrop (f : DE) : DS := fun S cs => match f S cs with
  | some (_, c1) => some (.nx, S, c1)
  | none => none
theorem sim_drop {te : TE} {f : DE} (h : SimE G te f) : SimS G (tDrop te) (dsDrop f) := by
  refine ⟨fun F H0 H S cs σ E I fl S' cs' e q => ?_⟩
  unfold dsDrop at e
  split at e
  · rename_i r c1 e1
    cases e
    exact h.run F H0 H S cs σ _ I _ _ e1 fun v Ha Hb s1 I1 r1 => q _ _ _ s1 I1
  · cases e
/-- return -/
def dsRet (f : DE) : DS := fun S cs => match f S cs with
  | some (.c d, c1) => some (.rt d, [], c1)
  | some (.o i, c1) => match S[i]? with
    | some (.own ds) => some (.rf ds, [], c1)
    | _ => none
  | _ => none
theorem sim_ret {te : TE} {f : DE} (h : SimE G te f) : SimS G (tRet te) (dsRet f) := by
  refine ⟨fun F H0 H S cs σ E I fl S' cs' e q => ?_⟩
  unfold dsRet at e
  split at e
  · rename_i d c1 e1
    cases e
    exact h.run F H0 H S cs σ _ I _ _ e1 fun v Ha Hb s1 I1 r1 => q _ _ _ s1 I1.bare r1
  · rename_i i c1 e1
    split at e
    · rename_i ds e2
      cases e
      refine h.run F H0 H S cs σ _ I _ _ e1 fun v Ha Hb s1 I1 r1 => ?_
      obtain ⟨p, vs, a1, a2, a3, a4, a5, a6⟩ := I1.sl _ _ e2
      rw [show σ[i]? = some (some v) from r1] at a1
      cases a1
      exact q p vs _ _ s1 I1.bare a2 a3 a4 a5 a6
    · cases e
  · cases e
def dsRetF (f : DF) : DS := fun S cs => match f S cs with
  | some (ds, c1) => some (.rf ds, [], c1)
  | none => none
theorem sim_retF {te : TE} {f : DF} (h : SimF G te f) : SimS G (tRet te) (dsRetF f) := by
  refine ⟨fun F H0 H S cs σ E I fl S' cs' e q => ?_⟩
  unfold dsRetF at e
  split at e
  · rename_i ds c1 e1
    cases e
    exact h.run F H0 H S cs σ _ I _ _ e1 fun p vs Ha Hb s1 I1 a1 a2 a3 a4 a5 => q p vs _ _ s1 I1.bare a1 a2 a3.1 a4 a5
  · cases e
def dsRetN : DS := fun S cs => some (.rt .non, [], cs)
theorem sim_retN : SimS G tRetN dsRetN := by
  refine ⟨fun F H0 H S cs σ E I fl S' cs' e q => ?_⟩
  cases e
  exact q _ _ _ (Same.refl _) I.bare rp_non
/-- if -/
def dsIf (c : DT) (f g : DS) : DS := fun S cs => match c S cs with
  | some (true, c1) => f S c1
  | some (false, c1) => g S c1
  | none => none
theorem sim_ifS {tc : TT} {c : DT} {t u : TS} {f g : DS} (hc : SimT G tc c) (hf : SimS G t f) (hg : SimS G u g) : SimS G (tIfS tc t u) (dsIf c f g) := by
  refine ⟨fun F H0 H S cs σ E I fl S' cs' e q => ?_⟩
  unfold dsIf at e
  split at e
  · rename_i c1 e1
    refine hc.run F H0 H S cs σ _ I _ _ e1 fun Ha Hb s1 I1 => ?_
    rw [if_pos rfl]
    exact hf.run F Ha Hb S c1 σ E I1 _ _ _ e (q.mono s1)
  · rename_i c1 e1
    refine hc.run F H0 H S cs σ _ I _ _ e1 fun Ha Hb s1 I1 => ?_
    rw [if_neg Bool.false_ne_true]
    exact hg.run F Ha Hb S c1 σ E I1 _ _ _ e (q.mono s1)
  · cases e
/-- target = e -/
def dsAsg (f : DE) (g : DG) : DS := fun S cs => match f S cs with
  | some (.c d, c1) => match g d S with
    | some S1 => some (.nx, S1, c1)
    | none => none
  | _ => none
theorem sim_asg {te : TE} {f : DE} {t : TG} {g : DG} {ts : List Nat} (h : SimE G te f) (hg : SimG G t g ts) : SimS G (tAsg te t) (dsAsg f g) := by
  refine ⟨fun F H0 H S cs σ E I fl S' cs' e q => ?_⟩
  unfold dsAsg at e
  split at e
  · rename_i d c1 e1
    split at e
    · rename_i S1 e2
      cases e
      exact h.run F H0 H S cs σ _ I _ _ e1 fun v Ha Hb s1 I1 r1 => hg.run F Ha Hb S _ σ d v _ I1 r1 _ e2 fun σ' I2 _ _ => q σ' _ _ s1 I2
    · cases e
  · cases e
/-- a name that holds a new list of its own -/
def dsOwn (i : Nat) (f : DF) : DS := fun S cs => match f S cs with
  | some (ds, c1) => match S[i]? with
    | some .cst => none
    | some _ => some (.nx, S.set i (.own ds), c1)
    | none => none
  | none => none
theorem StOk.setOwn {F : Fr} {H0 H : Hp} {S : List Sl} {cs : Option D} {σ : VS} (I : StOk G F H0 H S cs σ) (i : Nat) {p : Addr} {vs : List V} {ds : List D} (h0 : H0 p = none) (he : F.He p = none) (ap : Apart F S σ p) (hp : H p = some (.lst vs)) (r : Rps G H0 ds vs) :
    StOk G F H0 H (S.set i (.own ds)) cs (σ.set i (some (.ref p))) := by
  have inb : ∀ {j : Nat} {s : Sl}, i = j → (S.set i (.own ds))[j]? = some s → i < S.length ∧ s = .own ds := fun {j s} z e => by
    subst z
    by_cases hl : i < S.length
    · rw [List.getElem?_set_self hl] at e; cases e; exact ⟨hl, rfl⟩
    · rw [List.getElem?_eq_none (by rw [List.length_set]; omega)] at e; cases e
  refine ⟨I.ex, I.he, I.bn, by rw [List.length_set, List.length_set]; exact I.len, fun j s e => ?_, fun j k q xs ys n e1 e2 e3 e4 => ?_, I.pc⟩
  · by_cases hj : i = j
    · obtain ⟨hl, rfl⟩ := inb hj e
      subst hj
      exact ⟨p, vs, by rw [List.getElem?_set_self (by rw [← I.len]; exact hl)], h0, he, ap.1, hp, r⟩
    · rw [List.getElem?_set_ne hj] at e
      have q := I.sl j s e
      cases s with
      | no => trivial
      | val d => obtain ⟨v, e1, r⟩ := q; exact ⟨v, by rw [List.getElem?_set_ne hj]; exact e1, r⟩
      | own ds => obtain ⟨p, vs, e1, r⟩ := q; exact ⟨p, vs, by rw [List.getElem?_set_ne hj]; exact e1, r⟩
      | cst => obtain ⟨p, e0, e1⟩ := q; exact ⟨p, e0, by rw [List.getElem?_set_ne hj]; exact e1⟩
  · by_cases hj : i = j
    · have hk : i ≠ k := fun z => n (hj ▸ z ▸ rfl)
      obtain ⟨hl, _⟩ := inb hj e1
      rw [← hj, List.getElem?_set_self (by rw [← I.len]; exact hl)] at e3
      cases e3
      rw [List.getElem?_set_ne hk] at e2 e4
      exact ap.2 k ys e2 e4
    · by_cases hk : i = k
      · obtain ⟨hl, _⟩ := inb hk e2
        rw [← hk, List.getElem?_set_self (by rw [← I.len]; exact hl)] at e4
        cases e4
        rw [List.getElem?_set_ne hj] at e1 e3
        exact ap.2 j xs e1 e3
      · rw [List.getElem?_set_ne hj] at e1 e3
        rw [List.getElem?_set_ne hk] at e2 e4
        exact I.ds j k q xs ys n e1 e2 e3 e4
theorem sim_own {te : TE} {f : DF} {i : Nat} (h : SimF G te f) : SimS G (tAsg te (gName i)) (dsOwn i f) := by
  refine ⟨fun F H0 H S cs σ E I fl S' cs' e q => ?_⟩
  unfold dsOwn at e
  split at e
  · rename_i ds c1 e1
    split at e
    · cases e
    · cases e
      exact h.run F H0 H S cs σ _ I _ _ e1 fun p vs Ha Hb s1 I1 a1 a2 a3 a4 a5 => q _ _ _ s1 (I1.setOwn i a1 a2 a3 a4 a5)
    · cases e
  · cases e
/-- a, b = e1, e2 -/
def dsPar (i j : Nat) (f : DA) : DS := fun S cs => match f S cs with
  | some ([.c x, .c y], c1) => match gdN i x S with
    | some S1 => match gdN j y S1 with
      | some S2 => some (.nx, S2, c1)
      | none => none
    | none => none
  | _ => none
theorem sim_par {i j : Nat} {t : TA} {f : DA} (h : SimA G t f) : SimS G (tPar i j t) (dsPar i j f) := by
  refine ⟨fun F H0 H S cs σ E I fl S' cs' e q => ?_⟩
  unfold dsPar at e
  split at e
  · rename_i x y c1 e1
    split at e
    · rename_i S1 e2
      split at e
      · rename_i S2 e3
        cases e
        refine h.run F H0 H S cs σ _ I _ _ e1 fun vs Ha Hb s1 I1 r1 => ?_
        obtain ⟨v, w, rfl, h1, v2, w2, rfl, h2, rfl⟩ := r1
        refine ⟨v, v2, rfl, ?_⟩
        unfold gdN at e2 e3
        split at e2
        · cases e2
        · cases e2
          split at e3
          · cases e3
          · cases e3
            exact q _ _ _ s1 ((I1.setVal i h1).setVal j h2)
          · cases e3
        · cases e2
      · cases e
    · cases e
  · cases e
/-- x op= e of ints -/
def dsAug (i : Nat) (op : Int → Int → Int) (f : DE) : DS := fun S cs => match S[i]? with
  | some (.val (.int x)) => match f S cs with
    | some (.c (.int y), c1) => some (.nx, S.set i (.val (.int (op x y))), c1)
    | _ => none
  | _ => none
theorem sim_aug {i : Nat} {op : Int → Int → Int} {te : TE} {f : DE} (h : SimE G te f) : SimS G (tAug i te (ipI op)) (dsAug i op f) := by
  refine ⟨fun F H0 H S cs σ E I fl S' cs' e q => ?_⟩
  unfold dsAug at e
  split at e
  · rename_i x e1
    split at e
    · rename_i y c1 e2
      cases e
      obtain ⟨v, e3, r⟩ := I.sl _ _ e1
      unfold Rp at r
      refine ⟨v, e3, h.run F H0 H S cs σ _ I _ _ e2 fun w Ha Hb s1 I1 r1 => ?_⟩
      have r1' : Rp G Ha (.int y) w := r1
      unfold Rp at r1'
      exact ⟨x, y, r, r1', q _ _ _ s1 (I1.setVal i rp_int)⟩
    · cases e
  · cases e
/-- xs.append(e) of one's own list -/
def dsApp (i : Nat) (f : DE) : DS := fun S cs => match f S cs with
  | some (.c d, c1) => match S[i]? with
    | some (.own ds) => if ds.length < sizeLine then some (.nx, S.set i (.own (ds ++ [d])), c1) else none
    | _ => none
  | _ => none
theorem StOk.mutOwn {F : Fr} {H0 H : Hp} {S : List Sl} {cs : Option D} {σ : VS} (I : StOk G F H0 H S cs σ) {i : Nat} {ds ds' : List D} {p : Addr} {vs' : List V} (e : S[i]? = some (.own ds)) (ep : σ[i]? = some (some (.ref p))) (r : Rps G H0 ds' vs') :
    StOk G F H0 (upd H p (.lst vs')) (S.set i (.own ds')) cs σ := by
  obtain ⟨p', vs, e1, a2, a3, a4, a5, a6⟩ := I.sl _ _ e
  rw [ep] at e1; cases e1
  have hi : i < S.length := (List.getElem?_eq_some_iff.mp e).1
  -- the state with the slot forgotten
  have ap : Apart F (S.set i .no) (σ.set i none) p := by
    refine ⟨a4, fun j xs e2 e3 => ?_⟩
    have hj : i ≠ j := fun z => by
      subst z
      rw [List.getElem?_set_self hi] at e2; cases e2
    rw [List.getElem?_set_ne hj] at e2 e3
    exact I.ds i j p ds xs hj e e2 ep e3
  have I1 := (I.setNo i).mutOff (o := .lst vs') a2 a3 ap (fun x z => by rw [a5] at z; cases z)
  have I2 := I1.setOwn i (ds := ds') a2 a3 ap upd_same r
  rw [List.set_set, List.set_set] at I2
  have hs : σ.set i (some (V.ref p)) = σ := by
    apply List.ext_getElem?
    intro j
    by_cases hj : i = j
    · subst hj; rw [List.getElem?_set_self (by rw [← I.len]; exact hi), ep]
    · rw [List.getElem?_set_ne hj]
  rw [hs] at I2
  exact I2
theorem sim_app {i : Nat} {te : TE} {f : DE} (h : SimE G te f) : SimS G (tDrop (tBM G.K "list" rAppend (tVar i) (tCons te tNil))) (dsApp i f) := by
  refine ⟨fun F H0 H S cs σ E I fl S' cs' e q => ?_⟩
  unfold dsApp at e
  split at e
  · rename_i d c1 e1
    split at e
    · rename_i ds e2
      split at e
      · rename_i hl
        cases e
        obtain ⟨p, vs, a1, a2, a3, a4, a5, a6⟩ := I.sl _ _ e2
        refine ⟨.ref p, a1, .inl ⟨rfl, vs, .inl (.inl a5)⟩, h.run F H0 H S cs σ _ I _ _ e1 fun w Ha Hb s1 I1 r1 => ?_⟩
        obtain ⟨p', us, b1, b2, b3, b4, b5, b6⟩ := I1.sl _ _ e2
        rw [a1] at b1; cases b1
        exact ⟨p, us, w, rfl, rfl, b5, by rw [b6.len]; exact hl, q _ _ _ s1 (I1.mutOwn e2 a1 (b6.append (Rps.cons r1 Rps.nil)))⟩
      · cases e
    · cases e
  · cases e
/-- xs[i] = e of one's own list, of the cell -/
def dsSet (j : Nat) (fi fe : DE) : DS := fun S cs => match fe S cs with
  | some (.c d, c1) => match fi S c1 with
    | some (.c (.int k), c2) => match S[j]? with
      | some (.own ds) => match ixN ds.length k with
        | some n => some (.nx, S.set j (.own (ds.set n d)), c2)
        | none => none
      | some .cst => match c2 with
        | some (.lst ds) => match ixN ds.length k with
          | some n => some (.nx, S, some (.lst (ds.set n d)))
          | none => none
        | _ => none
      | _ => none
    | _ => none
  | _ => none
theorem StOk.mutPc {F : Fr} {H0 H : Hp} {S : List Sl} {σ : VS} {ds ds' : List D} (I : StOk G F H0 H S (some (.lst ds)) σ) {p : Addr} (hp : F.pc = some p) {vs' : List V} (r : Rps G H0 ds' vs') : StOk G F H0 (upd H p (.lst vs')) S (some (.lst ds')) σ := by
  have q := I.pc
  rw [hp] at q
  obtain ⟨h1, h2, vs, h3, h4⟩ := q
  refine ⟨fun b u e => by rw [upd_ne (ne_of_none e h1)]; exact I.ex _ _ e, fun b u e => by rw [upd_ne (fun z => by rw [z, h2] at e; cases e)]; exact I.he _ _ e, I.bn, I.len, fun i s e => ?_, I.ds, ?_⟩
  · have q := I.sl i s e
    cases s with
    | no => trivial
    | val d => exact q
    | own zs =>
      obtain ⟨p', us, e1, b1, b2, b3, b4, b5⟩ := q
      exact ⟨p', us, e1, b1, b2, b3, by rw [upd_ne (fun z => b3 (by rw [hp, z]))]; exact b4, b5⟩
    | cst => exact q
  · rw [hp]
    exact ⟨h1, h2, vs', upd_same, r⟩
theorem sim_set {j : Nat} {ti te : TE} {fi fe : DE} (hi : SimE G ti fi) (he : SimE G te fe) : SimS G (tAsg te (gSub (tVar j) ti rSetL)) (dsSet j fi fe) := by
  refine ⟨fun F H0 H S cs σ E I fl S' cs' e q => ?_⟩
  unfold dsSet at e
  split at e
  · rename_i d c1 e1
    split at e
    · rename_i k c2 e2
      split at e
      · rename_i ds e3
        split at e
        · rename_i n e4
          cases e
          refine he.run F H0 H S cs σ _ I _ _ e1 fun w Ha Hb s1 I1 r1 => ?_
          obtain ⟨p, vs, a1, a2, a3, a4, a5, a6⟩ := I1.sl _ _ e3
          refine ⟨.ref p, a1, hi.run F Ha Hb S c1 σ _ I1 _ _ e2 fun z Hc Hd s2 I2 r2 => ?_⟩
          obtain ⟨p', us, b1, b2, b3, b4, b5, b6⟩ := I2.sl _ _ e3
          rw [a1] at b1; cases b1
          have r2' : Rp G Hc (.int k) z := r2
          unfold Rp at r2'
          exact ⟨p, us, k, n, rfl, r2', b5, by rw [b6.len]; exact e4, q _ _ _ (s1.trans s2) (I2.mutOwn e3 a1 (b6.set (Rp.mono s2 _ _ r1) n))⟩
        · cases e
      · rename_i e3
        split at e
        · rename_i ds
          split at e
          · rename_i n e4
            cases e
            refine he.run F H0 H S cs σ _ I _ _ e1 fun w Ha Hb s1 I1 r1 => ?_
            obtain ⟨p, a0, a1⟩ := I1.sl _ _ e3
            refine ⟨.ref p, a1, hi.run F Ha Hb S c1 σ _ I1 _ _ e2 fun z Hc Hd s2 I2 r2 => ?_⟩
            have q2 := I2.pc
            rw [a0] at q2
            obtain ⟨b1, b2, us, b5, b6⟩ := q2
            have r2' : Rp G Hc (.int k) z := r2
            unfold Rp at r2'
            exact ⟨p, us, k, n, rfl, r2', b5, by rw [b6.len]; exact e4, q _ _ _ (s1.trans s2) (I2.mutPc a0 (b6.set (Rp.mono s2 _ _ r1) n))⟩
          · cases e
        · cases e
      · cases e
    · cases e
  · cases e
/-- self.f = e in __init__ -/
def putL {α : Type} (f : Str) (x : α) : List Str → List α → List Str × List α
  | n :: ns, y :: ys => if n = f then (n :: ns, x :: ys) else (n :: (putL f x ns ys).1, y :: (putL f x ns ys).2)
  | _, _ => ([f], [x])
theorem putL_zip {f : Str} {x : V} : ∀ {ns : List Str} {vs : List V}, ns.length = vs.length → putF f x (ns.zip vs) = (putL f x ns vs).1.zip (putL f x ns vs).2
  | [], [], _ => rfl
  | [], _ :: _, h => by cases h
  | _ :: _, [], h => by cases h
  | n :: ns, v :: vs, h => by
    have ih := putL_zip (f := f) (x := x) (ns := ns) (vs := vs) (by simpa using h)
    show (if n = f then (n, x) :: ns.zip vs else (n, v) :: putF f x (ns.zip vs)) = _
    unfold putL
    split
    · rfl
    · rw [ih]; rfl
theorem putL_names {α β : Type} {f : Str} {x : α} {y : β} : ∀ {ns : List Str} {vs : List α} {ws : List β}, vs.length = ws.length → (putL f x ns vs).1 = (putL f y ns ws).1
  | [], _, _, _ => by unfold putL; rfl
  | _ :: _, [], [], _ => by unfold putL; rfl
  | _ :: _, [], _ :: _, h => by cases h
  | _ :: _, _ :: _, [], h => by cases h
  | n :: ns, v :: vs, w :: ws, h => by
    have ih := putL_names (f := f) (x := x) (y := y) (ns := ns) (vs := vs) (ws := ws) (by simpa using h)
    unfold putL
    split
    · rfl
    · show n :: _ = n :: _
      rw [ih]
theorem putL_len {α : Type} {f : Str} {x : α} : ∀ {ns : List Str} {vs : List α}, ns.length = vs.length → (putL f x ns vs).1.length = (putL f x ns vs).2.length
  | [], [], _ => rfl
  | [], _ :: _, h => by cases h
  | _ :: _, [], h => by cases h
  | n :: ns, v :: vs, h => by
    have ih := putL_len (f := f) (x := x) (ns := ns) (vs := vs) (by simpa using h)
    unfold putL
    split
    · simpa using h
    · simp [ih]
theorem putL_rps {H : Hp} {f : Str} {d : D} {v : V} (r : Rp G H d v) : ∀ {ns : List Str} {ds : List D} {vs : List V}, ns.length = ds.length → Rps G H ds vs → Rps G H (putL f d ns ds).2 (putL f v ns vs).2
  | [], [], vs, _, h => by unfold Rps at h; subst h; exact Rps.cons r Rps.nil
  | [], _ :: _, _, h, _ => by cases h
  | _ :: _, [], _, h, _ => by cases h
  | n :: ns, x :: ds, vs, hl, h => by
    unfold Rps at h
    obtain ⟨y, w, rfl, h1, h2⟩ := h
    have ih := putL_rps (f := f) r (ns := ns) (ds := ds) (vs := w) (by simpa using hl) h2
    unfold putL
    split
    · exact Rps.cons r h2
    · exact Rps.cons h1 ih
def dsFld (C : Nat) (fl : Str) (j : Nat) (f : DE) : DS := fun S cs => match f S cs with
  | some (.c d, some (.obj C' ns ds)) => match S[j]? with
    | some .cst => if C' = C ∧ ns.length < 1000 then some (.nx, S, some (.obj C' (putL fl d ns ds).1 (putL fl d ns ds).2)) else none
    | _ => none
  | _ => none
theorem sim_fldS {C : Nat} {fl : Str} {j : Nat} {te : TE} {f : DE} (hC : Cls G.K (G.cA C)) (hn : NoAttr G.K (G.cA C) fl) (h : SimE G te f) : SimS G (sFld G.K (tVar j) te fl) (dsFld C fl j f) := by
  refine ⟨fun F H0 H S cs σ E I fl' S' cs' e q => ?_⟩
  unfold dsFld at e
  split at e
  · rename_i d C' ns ds e1
    split at e
    · rename_i e2
      split at e
      · rename_i hc
        cases e
        obtain ⟨rfl, hl⟩ := hc
        refine h.run F H0 H S cs σ _ I _ _ e1 fun w Ha Hb s1 I1 r1 => ?_
        obtain ⟨p, a0, a1⟩ := I1.sl _ _ e2
        have q1 := I1.pc
        rw [a0] at q1
        obtain ⟨b1, b2, dx, vs, b3, b4, b5, b6, b7, b8⟩ := q1
        have lv : ns.length = vs.length := b7.trans b8.len.symm
        refine ⟨.ref p, a1, p, _, dx, _, rfl, b3, hC, hn, ?_, ?_⟩
        · rw [List.length_zip]; omega
        rw [putL_zip lv]
        have hdx : dx ≠ p := fun z => by rw [z, b3] at b4; cases b4
        have nm : (putL fl w ns vs).1 = (putL fl d ns ds).1 := putL_names b8.len
        have I2 : StOk G F Ha (upd Hb p (.ins (G.cA C') dx ((putL fl w ns vs).1.zip (putL fl w ns vs).2))) S (some (.obj C' (putL fl d ns ds).1 (putL fl d ns ds).2)) σ := by
          refine ⟨fun b u e => by rw [upd_ne (ne_of_none e b1)]; exact I1.ex _ _ e, fun b u e => by rw [upd_ne (fun z => by rw [z, b2] at e; cases e)]; exact I1.he _ _ e, I1.bn, I1.len, fun i s e => ?_, I1.ds, ?_⟩
          · have q := I1.sl i s e
            cases s with
            | no => trivial
            | val d => exact q
            | own zs =>
              obtain ⟨p', us, e1, c1, c2, c3, c4, c5⟩ := q
              exact ⟨p', us, e1, c1, c2, c3, by rw [upd_ne (fun z => c3 (by rw [a0, z]))]; exact c4, c5⟩
            | cst => exact q
          · rw [a0]
            exact ⟨b1, b2, dx, (putL fl w ns vs).2, by rw [upd_same, nm], by rw [upd_ne hdx]; exact b4, b5, b6, putL_len b7, putL_rps r1 b7 b8⟩
        exact q _ _ _ s1 I2
      · cases e
    · cases e
  · cases e
/-- a list is known from now on -/
def dsFreeze (i : Nat) (f : DS) : DS := fun S cs => match S[i]? with
  | some (.own ds) => f (S.set i (.val (.lst ds))) cs
  | _ => none
theorem sim_freeze {i : Nat} {t : TS} {f : DS} (h : SimS G t f) : SimS G t (dsFreeze i f) := by
  refine ⟨fun F H0 H S cs σ E I fl S' cs' e q => ?_⟩
  unfold dsFreeze at e
  split at e
  · rename_i ds e1
    obtain ⟨p, vs, a1, a2, a3, a4, a5, a6⟩ := I.sl _ _ e1
    have hi : i < S.length := (List.getElem?_eq_some_iff.mp e1).1
    have ap : Apart F (S.set i .no) (σ.set i none) p := by
      refine ⟨a4, fun j xs e2 e3 => ?_⟩
      have hj : i ≠ j := fun z => by
        subst z
        rw [List.getElem?_set_self hi] at e2; cases e2
      rw [List.getElem?_set_ne hj] at e2 e3
      exact I.ds i j p ds xs hj e1 e2 a1 e3
    obtain ⟨s1, I1⟩ := (I.setNo i).freezeF a5 a2 a3 ap (fun _ z => nomatch z)
    have r : Rp G (upd H0 p (.lst vs)) (.lst ds) (.ref p) := by
      unfold Rp
      exact ⟨p, vs, rfl, upd_same, a6.mono s1⟩
    have I2 := I1.setVal i r
    rw [List.set_set, List.set_set] at I2
    have hs : σ.set i (some (V.ref p)) = σ := by
      apply List.ext_getElem?
      intro j
      by_cases hj : i = j
      · subst hj; rw [List.getElem?_set_self (by rw [← I.len]; exact hi), a1]
      · rw [List.getElem?_set_ne hj]
    rw [hs] at I2
    exact h.run F _ H _ cs σ E I2 _ _ _ e (q.mono s1)
  · cases e

/-- a name becomes the cell, for what is left of the def -/
def dsCell (i : Nat) (f : DF) (g : DS) : DS := fun S cs => match cs with
  | some _ => none
  | none => match f S none with
    | some (ds, none) => match S[i]? with
      | some .cst => none
      | some _ => match g (S.set i .cst) (some (.lst ds)) with
        | some (.rt d, _, _) => some (.rt d, [], none)
        | some (.rf zs, _, _) => some (.rf zs, [], none)
        | _ => none
      | none => none
    | _ => none
theorem StOk.toCell {F : Fr} {H0 H : Hp} {S : List Sl} {σ : VS} (I : StOk G F H0 H S none σ) (i : Nat) {p : Addr} {vs : List V} {ds : List D} (h0 : H0 p = none) (he : F.He p = none) (ap : Apart F S σ p) (hp : H p = some (.lst vs)) (r : Rps G H0 ds vs) :
    StOk G { F with pc := some p } H0 H (S.set i .cst) (some (.lst ds)) (σ.set i (some (.ref p))) := by
  have hF : F.pc = none := by
    have z := I.pc
    cases e : F.pc with
    | none => rfl
    | some q => rw [e] at z; exact z.elim
  have inb : ∀ {j : Nat} {s : Sl}, i = j → (S.set i .cst)[j]? = some s → i < S.length ∧ s = .cst := fun {j s} z e => by
    subst z
    by_cases hl : i < S.length
    · rw [List.getElem?_set_self hl] at e; cases e; exact ⟨hl, rfl⟩
    · rw [List.getElem?_eq_none (by rw [List.length_set]; omega)] at e; cases e
  refine ⟨I.ex, I.he, I.bn, by rw [List.length_set, List.length_set]; exact I.len, fun j s e => ?_, fun j k q xs ys n e1 e2 e3 e4 => ?_, ⟨h0, he, vs, hp, r⟩⟩
  · by_cases hj : i = j
    · obtain ⟨hl, rfl⟩ := inb hj e
      subst hj
      exact ⟨p, rfl, by rw [List.getElem?_set_self (by rw [← I.len]; exact hl)]⟩
    · rw [List.getElem?_set_ne hj] at e
      have q := I.sl j s e
      cases s with
      | no => trivial
      | val d => obtain ⟨v, e1, r⟩ := q; exact ⟨v, by rw [List.getElem?_set_ne hj]; exact e1, r⟩
      | own zs =>
        obtain ⟨p', vs', e1, b1, b2, b3, b4⟩ := q
        refine ⟨p', vs', by rw [List.getElem?_set_ne hj]; exact e1, b1, b2, fun z => ?_, b4⟩
        have z' : some p = some p' := z
        cases z'
        exact ap.2 j zs e e1
      | cst => obtain ⟨p', e0, _⟩ := q; rw [hF] at e0; cases e0
  · have hj : i ≠ j := fun z => by obtain ⟨_, w⟩ := inb z e1; cases w
    have hk : i ≠ k := fun z => by obtain ⟨_, w⟩ := inb z e2; cases w
    rw [List.getElem?_set_ne hj] at e1 e3
    rw [List.getElem?_set_ne hk] at e2 e4
    exact I.ds j k q xs ys n e1 e2 e3 e4
theorem sim_cell {te : TE} {u : TS} {f : DF} {g : DS} {i : Nat} (h : SimF G te f) (hg : SimS G u g) : SimS G (tSeq (tAsg te (gName i)) u) (dsCell i f g) := by
  refine ⟨fun F H0 H S cs σ E I fl S' cs' e q => ?_⟩
  unfold dsCell at e
  split at e
  · cases e
  split at e
  · rename_i ds e1
    have bare : ∀ {p : Addr} {Hx Hy : Hp} {cz : Option D}, StOk G { F with pc := some p } Hx Hy [] cz [] → StOk G F Hx Hy [] none [] := fun {p Hx Hy cz} J => by
      have hF : F.pc = none := by
        have z := I.pc
        cases e : F.pc with
        | none => rfl
        | some q => rw [e] at z; exact z.elim
      exact ⟨J.ex, J.he, J.bn, rfl, fun i s e => by simp at e, fun i j p xs ys n e => by simp at e, by rw [hF]; trivial⟩
    split at e
    · cases e
    · split at e
      · rename_i d S2 c2 e2
        cases e
        exact h.run F H0 H S _ σ _ I _ _ e1 fun p vs Ha Hb s1 I1 a1 a2 a3 a4 a5 =>
          hg.run _ Ha Hb _ _ _ E (I1.toCell i a1 a2 a3 a4 a5) _ _ _ e2 fun v Hx Hy s2 J r => q v Hx Hy (s1.trans s2) (bare J) r
      · rename_i zs S2 c2 e2
        cases e
        exact h.run F H0 H S _ σ _ I _ _ e1 fun p vs Ha Hb s1 I1 a1 a2 a3 a4 a5 =>
          hg.run _ Ha Hb _ _ _ E (I1.toCell i a1 a2 a3 a4 a5) _ _ _ e2 fun p' us Hx Hy s2 J b1 b2 b3 b4 b5 => q p' us Hx Hy (s1.trans s2) (bare J) b1 b2 (fun z => by
            have hF : F.pc = none := by
              have z := I.pc
              cases e : F.pc with
              | none => rfl
              | some q => rw [e] at z; exact z.elim
            rw [hF] at z; cases z) b4 b5
      · cases e
    · cases e
  · cases e

/-! ### loops -/
def forL (g : DG) (b : DS) : List D → DS
  | [], S, cs => some (.nx, S, cs)
  | d :: r, S, cs => match g d S with
    | some S1 => match b S1 cs with
      | some (.nx, S2, c2) => forL g b r S2 c2
      | some (.ct, S2, c2) => forL g b r S2 c2
      | some (.bk, S2, c2) => some (.nx, S2, c2)
      | some (.rt d, S2, c2) => some (.rt d, S2, c2)
      | some (.rf d, S2, c2) => some (.rf d, S2, c2)
      | none => none
    | none => none
def dsFor (src : DF) (g : DG) (b : DS) : DS := fun S cs => match src S cs with
  | some (ds, c1) => forL g b ds S c1
  | none => none
theorem sim_for {wi : TI} {t : TG} {tb : TS} {src : DF} {g : DG} {ts : List Nat} {b : DS} (hi : SimI G wi src) (hg : SimG G t g ts) (hb : SimS G tb b) : SimS G (tFor wi t tb) (dsFor src g b) := by
  refine ⟨fun F H0 H S cs σ E I fl S' cs' e q => ?_⟩
  unfold dsFor at e
  split at e
  · rename_i ds c1 e1
    refine hi.run F H0 H S cs σ _ I _ _ e1 fun J Ha Hb s1 I1 jok => ?_
    refine ⟨fun i m σc Hc => m = ds.length - i ∧ i ≤ ds.length ∧ ∃ H0c Sc c, Same Ha H0c ∧ StOk G F H0c Hc Sc c σc ∧ forL g b (ds.drop i) Sc c = some (fl, S', cs'),
      ⟨ds.length, by simp, Nat.zero_le _, Ha, S, c1, Same.refl _, I1, e⟩, ?_⟩
    rintro i m σc Hc ⟨rfl, hi, H0c, Sc, c, sa, I2, ef⟩
    by_cases hlt : i < ds.length
    · refine .inr ⟨jok.go i H0c Hc sa I2.ex hlt, fun σn Hn => ∃ H0c Sc c, Same Ha H0c ∧ StOk G F H0c Hn Sc c σn ∧ forL g b (ds.drop (i + 1)) Sc c = some (fl, S', cs'), fun σn Hn hn => ?_, fun x Hx hy => ?_⟩
      · obtain ⟨H0n, Sn, cn, n1, n2, n3⟩ := hn
        exact ⟨ds.length - (i + 1), by omega, rfl, hlt, H0n, Sn, cn, n1, n2, n3⟩
      · obtain ⟨d, H0d, ed, gr, rd⟩ := jok.yld i H0c Hc x Hx sa I2.ex hlt hy
        have I3 := I2.grow gr
        rw [List.drop_eq_getElem_cons hlt, show ds[i] = d from Option.some.inj ((List.getElem?_eq_getElem hlt).symm.trans ed)] at ef
        unfold forL at ef
        split at ef
        · rename_i S1 eg
          refine hg.run F H0d Hx Sc c σc d x _ I3 rd S1 eg fun σ2 I4 _ _ => ?_
          have sd : Same Ha H0d := sa.trans gr.a
          split at ef
          · rename_i S2 c2 eb
            exact hb.run F H0d Hx S1 c σ2 _ I4 _ _ _ eb fun σ' H0' H' s' I' => ⟨H0', S2, c2, sd.trans s', I', ef⟩
          · rename_i S2 c2 eb
            exact hb.run F H0d Hx S1 c σ2 _ I4 _ _ _ eb fun σ' H0' H' s' I' => ⟨H0', S2, c2, sd.trans s', I', ef⟩
          · rename_i S2 c2 eb
            cases ef
            exact hb.run F H0d Hx S1 c σ2 _ I4 _ _ _ eb fun σ' H0' H' s' I' => q σ' H0' H' ((s1.trans sd).trans s') I'
          · rename_i d' S2 c2 eb
            cases ef
            exact hb.run F H0d Hx S1 c σ2 _ I4 _ _ _ eb fun v H0' H' s' I' r' => q v H0' H' ((s1.trans sd).trans s') I' r'
          · rename_i d' S2 c2 eb
            cases ef
            exact hb.run F H0d Hx S1 c σ2 _ I4 _ _ _ eb fun p vs H0' H' s' I' => q p vs H0' H' ((s1.trans sd).trans s') I'
          · cases ef
        · cases ef
    · have hi' : i = ds.length := by omega
      subst hi'
      rw [List.drop_length] at ef
      cases ef
      exact .inl ⟨jok.stop _ H0c Hc sa I2.ex rfl, q σc H0c Hc (s1.trans sa) I2⟩
  · cases e
def whileL (t : DT) (b : DS) : Nat → DS
  | 0, _, _ => none
  | n + 1, S, cs => match t S cs with
    | some (true, c1) => match b S c1 with
      | some (.nx, S2, c2) => whileL t b n S2 c2
      | some (.ct, S2, c2) => whileL t b n S2 c2
      | some (.bk, S2, c2) => some (.nx, S2, c2)
      | some (.rt d, S2, c2) => some (.rt d, S2, c2)
      | some (.rf d, S2, c2) => some (.rf d, S2, c2)
      | none => none
    | some (false, c1) => some (.nx, S, c1)
    | none => none
theorem sim_while {tt : TT} {tb : TS} {t : DT} {b : DS} (n : Nat) (ht : SimT G tt t) (hb : SimS G tb b) : SimS G (tWhile tt tb) (whileL t b n) := by
  refine ⟨fun F H0 H S cs σ E I fl S' cs' e q => ?_⟩
  refine ⟨fun m σc Hc => ∃ H0c Sc c, Same H0 H0c ∧ StOk G F H0c Hc Sc c σc ∧ whileL t b m Sc c = some (fl, S', cs'), ⟨n, H0, S, cs, Same.refl _, I, e⟩, ?_⟩
  rintro m σc Hc ⟨H0c, Sc, c, sa, I2, ef⟩
  cases m with
  | zero => unfold whileL at ef; cases ef
  | succ m =>
    unfold whileL at ef
    split at ef
    · rename_i c1 e1
      refine ht.run F H0c Hc Sc c σc _ I2 _ _ e1 fun H0d Hd s2 I3 => ?_
      rw [if_pos rfl]
      have sd := sa.trans s2
      refine ⟨fun σn Hn => ∃ H0c Sc c, Same H0 H0c ∧ StOk G F H0c Hn Sc c σn ∧ whileL t b m Sc c = some (fl, S', cs'), fun σn Hn hn => ⟨m, Nat.lt_succ_self _, hn⟩, ?_⟩
      split at ef
      · rename_i S2 c2 eb
        exact hb.run F H0d Hd Sc c1 σc _ I3 _ _ _ eb fun σ' H0' H' s' I' => ⟨H0', S2, c2, sd.trans s', I', ef⟩
      · rename_i S2 c2 eb
        exact hb.run F H0d Hd Sc c1 σc _ I3 _ _ _ eb fun σ' H0' H' s' I' => ⟨H0', S2, c2, sd.trans s', I', ef⟩
      · rename_i S2 c2 eb
        cases ef
        exact hb.run F H0d Hd Sc c1 σc _ I3 _ _ _ eb fun σ' H0' H' s' I' => q σ' H0' H' (sd.trans s') I'
      · rename_i d' S2 c2 eb
        cases ef
        exact hb.run F H0d Hd Sc c1 σc _ I3 _ _ _ eb fun v H0' H' s' I' r' => q v H0' H' (sd.trans s') I' r'
      · rename_i d' S2 c2 eb
        cases ef
        exact hb.run F H0d Hd Sc c1 σc _ I3 _ _ _ eb fun p vs H0' H' s' I' => q p vs H0' H' (sd.trans s') I'
      · cases ef
    · rename_i c1 e1
      cases ef
      exact ht.run F H0c Hc _ c σc _ I2 _ _ e1 fun H0d Hd s2 I3 => iteF (q σc H0d Hd (sa.trans s2) I3)
    · cases ef

/-! ### defs -/
/-- a def without the cell: np parameters, n names -/
def runF (np n : Nat) (b : DS) : List D → Option D := fun ds => if ds.length = np then (match b (ds.map Sl.val ++ List.replicate (n - np) Sl.no) none with
  | some (.rt d, _, _) => some d
  | some (.rf ds, _, _) => some (.lst ds)
  | some (.nx, _, _) => some .non
  | _ => none) else none
/-- whose first argument is the cell -/
def runC (np n : Nat) (b : DS) : D → List D → Option (D × D) := fun c ds => if ds.length + 1 = np then (match b (.cst :: (ds.map Sl.val ++ List.replicate (n - np) Sl.no)) (some c) with
  | some (.rt d, _, some c') => some (d, c')
  | some (.rf ds, _, some c') => some (.lst ds, c')
  | some (.nx, _, some c') => some (.non, c')
  | _ => none) else none
/-- that gives a new list -/
def runN (np n : Nat) (b : DS) : List D → Option (List D) := fun ds => if ds.length = np then (match b (ds.map Sl.val ++ List.replicate (n - np) Sl.no) none with
  | some (.rf ds, _, _) => some ds
  | _ => none) else none

theorem slots_ok {F : Fr} {H0 H : Hp} {ds : List D} {vs : List V} (r : Rps G H0 ds vs) (k : Nat) :
    ∀ i s, (ds.map Sl.val ++ List.replicate k Sl.no)[i]? = some s → SlOk G F H0 H (vs.map some ++ List.replicate k none) i s := by
  intro i s e
  by_cases hi : i < ds.length
  · rw [List.getElem?_append_left (by rw [List.length_map]; exact hi), List.getElem?_map] at e
    obtain ⟨v, e1, r1⟩ := r.get (List.getElem?_eq_getElem hi)
    rw [List.getElem?_eq_getElem hi] at e
    cases e
    exact ⟨v, by rw [List.getElem?_append_left (by rw [List.length_map, r.len]; exact hi), List.getElem?_map, e1]; rfl, r1⟩
  · rw [List.getElem?_append_right (by rw [List.length_map]; omega)] at e
    have := List.mem_of_getElem? e
    rw [List.mem_replicate] at this
    rw [this.2]
    trivial
theorem start_ok {F : Fr} {H0 H : Hp} {ds : List D} {vs : List V} {N : List Str} (r : Rps G H0 ds vs) (ex : Same H0 H) (he : Same F.He H) (bn : ∀ a, F.ban a → F.He a ≠ none ∧ H0 a = none) (pc : PcOk G F.He H0 H F.pc none) :
    StOk G F H0 H (ds.map Sl.val ++ List.replicate (N.length - ds.length) Sl.no) none (L2.start N vs) := by
  unfold L2.start
  rw [r.len]
  refine ⟨ex, he, bn, by simp [r.len], slots_ok r _, fun i j p xs ys n e1 => ?_, pc⟩
  rcases List.mem_append.mp (List.mem_of_getElem? e1) with h | h
  · obtain ⟨d, _, e⟩ := List.mem_map.mp h; cases e
  · rw [List.mem_replicate] at h; cases h.2
theorem startC_ok {F : Fr} {H0 H : Hp} {c : D} {ds : List D} {vs : List V} {N : List Str} {p : Addr} (r : Rps G H0 ds vs) (ex : Same H0 H) (he : Same F.He H) (bn : ∀ a, F.ban a → F.He a ≠ none ∧ H0 a = none) (hp : F.pc = some p) (pc : PcOk G F.He H0 H (some p) (some c)) :
    StOk G F H0 H (.cst :: (ds.map Sl.val ++ List.replicate (N.length - (ds.length + 1)) Sl.no)) (some c) (L2.start N (.ref p :: vs)) := by
  unfold L2.start
  rw [List.length_cons, r.len]
  refine ⟨ex, he, bn, by simp [r.len], fun i s e => ?_, fun i j p xs ys n e1 => ?_, by rw [hp]; exact pc⟩
  · cases i with
    | zero => cases e; exact ⟨p, hp, rfl⟩
    | succ i =>
      have e' : (ds.map Sl.val ++ List.replicate (N.length - (ds.length + 1)) Sl.no)[i]? = some s := by simpa using e
      have q := slots_ok (F := F) (H := H) r (N.length - (ds.length + 1)) i s e'
      cases s with
      | no => trivial
      | val d => obtain ⟨v, e1, r1⟩ := q; exact ⟨v, by simpa using e1, r1⟩
      | own zs => obtain ⟨p', vs', e1, r1⟩ := q; exact ⟨p', vs', by simpa using e1, r1⟩
      | cst => obtain ⟨p', e0, e1⟩ := q; exact ⟨p', e0, by simpa using e1⟩
  · rcases List.mem_cons.mp (List.mem_of_getElem? e1) with h | h
    · cases h
    · rcases List.mem_append.mp h with h | h
      · obtain ⟨d, _, e⟩ := List.mem_map.mp h; cases e
      · rw [List.mem_replicate] at h; cases h.2

section
variable {P : Program} {w : World} {K : PySem.W.Frag} {mg : Str → Option Value} {base : Heap} {cA : Nat → Addr} {x qual : Str} {st : Stmt} {f : Addr} {fd : FuncData} {N ps : List Str} {k : Nat} {b : DS}
/-- the context of a def's body -/
abbrev bodyX (P : Program) (w : World) (K : PySem.W.Frag) (mg : Str → Option Value) (base : Heap) (N : List Str) (qual : Str) (st : Stmt) (f : Addr) (cdv : Value) (A : Around) (outer : List Env) (s : Shared) (H : Hp) (E : XK) : Cx :=
  (cxOf CX0 P w K mg base N qual (defScope st) f cdv A outer s H E).nox
theorem fn_F {m : List D → Option D} (Fn : Fun K x qual st f fd) (Sc : FnScope N ps (defScope st))
    (hb : ∀ (cdv : Value) (A : Around) (outer : List Env) (s : Shared) (H : Hp) (E : XK), Room k (A.deeper (envOfC qual (defScope st) s.heap.objs.size f cdv)) → ∃ t, DBlk (bodyX P w K mg base N qual st f cdv A outer s H E) K cA (defBody st) t b) (hm : m = runF ps.length N.length b := by rfl) :
    FnOk P w K mg base CX0 (k + 1) f fd ps (spF ⟨K, cA⟩ m) := by
  subst hm
  refine Fn.ok Sc (fun vs H Q E h => ?_) (fun cdv A outer s H vs Q E hr h => ?_)
  · obtain ⟨H0, ds, d, _, r, e, _⟩ := h
    rw [r.len]
    unfold runF at e
    split at e
    · assumption
    · cases e
  · obtain ⟨H0, ds, d, s1, r, e, q⟩ := h
    obtain ⟨t, B⟩ := hb cdv A outer s H E hr
    refine ⟨t, B.ps, ?_⟩
    unfold runF at e
    split at e
    · rename_i hl
      have I := start_ok (G := ⟨K, cA⟩) (F := ⟨H, fun a => H a ≠ none ∧ H0 a = none, none⟩) (N := N) r s1 (Same.refl _) (fun a h => h) trivial
      rw [hl] at I
      have gr : ∀ {H0' H' : Hp}, Same H0 H0' → StOk ⟨K, cA⟩ ⟨H, fun a => H a ≠ none ∧ H0 a = none, none⟩ H0' H' [] none [] → Gr H0 H H0' H' := fun s' I' => ⟨s', I'.he, I'.ex, fun a h1 h2 => (I'.bn a ⟨h1, h2⟩).2⟩
      have cnone : ∀ {H0' H' : Hp} {S' : List Sl} {cs' : Option D} {σ' : VS}, StOk ⟨K, cA⟩ ⟨H, fun a => H a ≠ none ∧ H0 a = none, none⟩ H0' H' S' cs' σ' → cs' = none := fun {H0' H' S' cs' σ'} I' => by
        have z := I'.pc
        cases cs' with
        | none => rfl
        | some d => cases d <;> exact False.elim z
      split at e
      · rename_i d' S' cs' e1
        cases e
        exact B.sim.run _ H0 H _ none _ _ I _ _ _ e1 fun v H0' H' s' I' rp => by
          have ec := cnone I'
          subst ec
          exact q v H0' H' (gr s' I') rp
      · rename_i ds' S' cs' e1
        cases e
        exact B.sim.run _ H0 H _ none _ _ I _ _ _ e1 fun p vs' H0' H' s' I' h1 h2 h3 h4 h5 => by
          have ec := cnone I'
          subst ec
          obtain ⟨t1, I2⟩ := I'.freezeF h4 h1 h2 ⟨h3, fun i xs e => by simp at e⟩ (fun _ z => nomatch z)
          refine q _ _ _ (gr (s'.trans t1) I2) ?_
          unfold Rp
          exact ⟨p, vs', rfl, upd_same, h5.mono t1⟩
      · rename_i S' cs' e1
        cases e
        exact B.sim.run _ H0 H _ none _ _ I _ _ _ e1 fun σ' H0' H' s' I' => by
          have ec := cnone I'
          subst ec
          exact q .non H0' H' (gr s' I'.bare) rp_non
      · cases e
    · cases e
theorem fn_N {m : List D → Option (List D)} (Fn : Fun K x qual st f fd) (Sc : FnScope N ps (defScope st))
    (hb : ∀ (cdv : Value) (A : Around) (outer : List Env) (s : Shared) (H : Hp) (E : XK), Room k (A.deeper (envOfC qual (defScope st) s.heap.objs.size f cdv)) → ∃ t, DBlk (bodyX P w K mg base N qual st f cdv A outer s H E) K cA (defBody st) t b) (hm : m = runN ps.length N.length b := by rfl) :
    FnOk P w K mg base CX0 (k + 1) f fd ps (spN ⟨K, cA⟩ m) := by
  subst hm
  refine Fn.ok Sc (fun vs H Q E h => ?_) (fun cdv A outer s H vs Q E hr h => ?_)
  · obtain ⟨H0, ds, d, _, r, e, _⟩ := h
    rw [r.len]
    unfold runN at e
    split at e
    · assumption
    · cases e
  · obtain ⟨H0, ds, d, s1, r, e, q⟩ := h
    obtain ⟨t, B⟩ := hb cdv A outer s H E hr
    refine ⟨t, B.ps, ?_⟩
    unfold runN at e
    split at e
    · rename_i hl
      have I := start_ok (G := ⟨K, cA⟩) (F := ⟨H, fun a => H a ≠ none ∧ H0 a = none, none⟩) (N := N) r s1 (Same.refl _) (fun a h => h) trivial
      rw [hl] at I
      split at e
      · rename_i ds' S' cs' e1
        cases e
        exact B.sim.run _ H0 H _ none _ _ I _ _ _ e1 fun p vs' H0' H' s' I' h1 h2 h3 h4 h5 => q p vs' H0' H' ⟨s', I'.he, I'.ex, fun a h1 h2 => (I'.bn a ⟨h1, h2⟩).2⟩ h2 h1 h4 h5
      · cases e
    · cases e
theorem fn_C {m : D → List D → Option (D × D)} (Fn : Fun K x qual st f fd) (Sc : FnScope N ps (defScope st))
    (hb : ∀ (cdv : Value) (A : Around) (outer : List Env) (s : Shared) (H : Hp) (E : XK), Room k (A.deeper (envOfC qual (defScope st) s.heap.objs.size f cdv)) → ∃ t, DBlk (bodyX P w K mg base N qual st f cdv A outer s H E) K cA (defBody st) t b) (hm : m = runC ps.length N.length b := by rfl) :
    FnOk P w K mg base CX0 (k + 1) f fd ps (spC ⟨K, cA⟩ m) := by
  subst hm
  refine Fn.ok Sc (fun vs H Q E h => ?_) (fun cdv A outer s H vs Q E hr h => ?_)
  · obtain ⟨p, us, He, H0, c, ds, d, c', rfl, _, _, _, r, e, _⟩ := h
    rw [List.length_cons, r.len]
    unfold runC at e
    split at e
    · assumption
    · cases e
  · obtain ⟨p, us, He, H0, c, ds, d, c', rfl, s1, s2, hpc, r, e, q⟩ := h
    obtain ⟨t, B⟩ := hb cdv A outer s H E hr
    refine ⟨t, B.ps, ?_⟩
    unfold runC at e
    split at e
    · rename_i hl
      have I := startC_ok (G := ⟨K, cA⟩) (F := ⟨He, fun a => He a ≠ none ∧ H0 a = none, some p⟩) (N := N) r s1 s2 (fun a h => h) rfl hpc
      rw [hl] at I
      split at e
      · rename_i d' S' c2 e1
        cases e
        exact B.sim.run _ H0 H _ _ _ _ I _ _ _ e1 fun v H0' H' s' I' rp => q v H0' H' s' I'.ex I'.he (fun a h1 h2 => (I'.bn a ⟨h1, h2⟩).2) I'.pc rp
      · rename_i ds' S' c2 e1
        cases e
        exact B.sim.run _ H0 H _ _ _ _ I _ _ _ e1 fun p' vs' H0' H' s' I' h1 h2 h3 h4 h5 => by
          obtain ⟨t1, I2⟩ := I'.freezeF h4 h1 h2 ⟨h3, fun i xs e => by simp at e⟩ (fun _ z => nomatch z)
          refine q _ _ _ (s'.trans t1) I2.ex I2.he (fun a h1 h2 => (I2.bn a ⟨h1, h2⟩).2) I2.pc ?_
          unfold Rp
          exact ⟨p', vs', rfl, upd_same, h5.mono t1⟩
      · rename_i S' c2 e1
        cases e
        exact B.sim.run _ H0 H _ _ _ _ I _ _ _ e1 fun σ' H0' H' s' I' => q .non H0' H' s' I'.ex I'.he (fun a h1 h2 => (I'.bn a ⟨h1, h2⟩).2) I'.pc rp_non
      · cases e
    · cases e
/-- a def that is never come to (a recursion's ground) -/
theorem fn_none (Fn : Fun K x qual st f fd) (Sc : FnScope N ps (defScope st)) : FnOk P w K mg base CX0 (k + 1) f fd ps (spF ⟨K, cA⟩ fun _ => none) := by
  refine Fn.ok Sc (fun vs H Q E h => ?_) (fun cdv A outer s H vs Q E hr h => ?_)
  · obtain ⟨H0, ds, d, _, r, e, _⟩ := h; cases e
  · obtain ⟨H0, ds, d, _, r, e, _⟩ := h; cases e
end
end DL

set_option autoImplicit true
set_option relaxedAutoImplicit true
set_option Elab.async false
set_option linter.all false
set_option autoImplicit false
set_option maxRecDepth 100000
set_option maxHeartbeats 4000000
/-! DL, W: the rules that a printed proof is made of. -/
namespace DL
open PySem PySem.Spec PyProof.Rows L2
section
variable {X : Cx} {K : PySem.W.Frag} {cA : Nat → Addr} {a b c e : Expr} {ta tb te : TE} {f g : DE} {pos : Pos}

/-! ### operators -/
theorem dx_bin {op : Operator} {r : R2} {o : D → D → Option D} (ho : OpR X (binaryOp op) r) (hs : OpSim ⟨K, cA⟩ r o) (ha : DExp X K cA a ta f) (hb : DExp X K cA b tb g) : DExp X K cA (.BinOp a op b pos) (tOp r ta tb) (dOp o f g) := by
  exact ⟨pe_op ho ha.pe hb.pe, sim_op hs ha.sim hb.sim⟩
theorem dx_add (ha : DExp X K cA a ta f) (hb : DExp X K cA b tb g) (hK : X.K = K := by rfl) : DExp X K cA (.BinOp a .Add b pos) (tOp (rAddA K) ta tb) (dOp oAdd f g) := by
  subst hK
  exact dx_bin op_addA ops_add ha hb
theorem dx_sub (ha : DExp X K cA a ta f) (hb : DExp X K cA b tb g) : DExp X K cA (.BinOp a .Sub b pos) (tOp (rI0 fun i j => .int (i - j)) ta tb) (dOp oSub f g) := dx_bin op_sub ops_sub ha hb
theorem dx_mul (ha : DExp X K cA a ta f) (hb : DExp X K cA b tb g) : DExp X K cA (.BinOp a .Mult b pos) (tOp rMulA ta tb) (dOp oMul f g) := dx_bin op_mulA ops_mul ha hb
theorem dx_fdiv (ha : DExp X K cA a ta f) (hb : DExp X K cA b tb g) : DExp X K cA (.BinOp a .FloorDiv b pos) (tOp (rI CDivN fun i j => .int (i.fdiv j)) ta tb) (dOp oFdiv f g) := dx_bin op_fdivN ops_fdiv ha hb
theorem dx_mod (ha : DExp X K cA a ta f) (hb : DExp X K cA b tb g) : DExp X K cA (.BinOp a .Mod b pos) (tOp (rI (fun _ j => j ≠ 0) fun i j => .int (i.fmod j)) ta tb) (dOp oMod f g) := dx_bin op_modN ops_mod ha hb
theorem dx_pow (ha : DExp X K cA a ta f) (hb : DExp X K cA b tb g) : DExp X K cA (.BinOp a .Pow b pos) (tOp (rI CPow fun i j => .int (i ^ j.toNat)) ta tb) (dOp oPow f g) := dx_bin op_pow ops_pow ha hb
theorem dx_neg (ha : DExp X K cA a ta f) : DExp X K cA (.UnaryOp .USub a pos) (tUn (rU fun i => .int (-i)) ta) (dNeg f) := ⟨pe_un un_neg ha.pe, sim_neg ha.sim⟩
/-! ### comparisons: values, tests -/
theorem dx_cmp {op : CmpOp} {r : R2} {o : D → D → Option D} (ho : OpR X (compareOp op) r) (hs : OpSim ⟨K, cA⟩ r o) (ha : DExp X K cA a ta f) (hb : DExp X K cA b tb g) (hm : behindInMarks op b = false := by exact nomark _) : DExp X K cA (.Compare a [op] [b] pos) (tOp r ta tb) (dOp o f g) := by
  exact ⟨pe_cmpR ho ha.pe hb.pe hm, sim_op hs ha.sim hb.sim⟩
theorem dt_cmp {op : CmpOp} {r : R2} {o : D → D → Option D} (ho : OpR X (compareOp op) r) (hs : OpSim ⟨K, cA⟩ r o) (ha : DExp X K cA a ta f) (hb : DExp X K cA b tb g) (hm : behindInMarks op b = false := by exact nomark _) : DTst X K cA (.Compare a [op] [b] pos) (tTest (tOp r ta tb)) (dTst (dOp o f g)) := by
  exact ⟨pt_cmpR ho ha.pe hb.pe hm, sim_tst (sim_op hs ha.sim hb.sim)⟩
theorem dt_tru (ha : DExp X K cA a ta f) (he : ∀ whole, isTrue a X.env whole = (do let v ← whole; standAt a.pos; holding [v] (truthy v)) := by intro _; rfl) (hK : X.K = K := by rfl) : DTst X K cA a (fun σ H Q => ta σ H fun x H' => ∃ k, TruV K x H' k ∧ Q k H') (dTru f) := by
  subst hK
  exact ⟨pt_truth ha.pe he, sim_tru ha.sim⟩
theorem dx_lt (ha : DExp X K cA a ta f) (hb : DExp X K cA b tb g) (hm : behindInMarks .Lt b = false := by exact nomark _) : DExp X K cA (.Compare a [.Lt] [b] pos) (tOp (rI0 fun i j => .bl (decide (i < j))) ta tb) (dOp oLt f g) := dx_cmp op_lt ops_lt ha hb hm
theorem dt_lt (ha : DExp X K cA a ta f) (hb : DExp X K cA b tb g) (hm : behindInMarks .Lt b = false := by exact nomark _) : DTst X K cA (.Compare a [.Lt] [b] pos) (tTest (tOp (rI0 fun i j => .bl (decide (i < j))) ta tb)) (dTst (dOp oLt f g)) := dt_cmp op_lt ops_lt ha hb hm
theorem dx_le (ha : DExp X K cA a ta f) (hb : DExp X K cA b tb g) (hm : behindInMarks .LtE b = false := by exact nomark _) : DExp X K cA (.Compare a [.LtE] [b] pos) (tOp (rI0 fun i j => .bl (decide (i ≤ j))) ta tb) (dOp oLe f g) := dx_cmp op_le ops_le ha hb hm
theorem dt_le (ha : DExp X K cA a ta f) (hb : DExp X K cA b tb g) (hm : behindInMarks .LtE b = false := by exact nomark _) : DTst X K cA (.Compare a [.LtE] [b] pos) (tTest (tOp (rI0 fun i j => .bl (decide (i ≤ j))) ta tb)) (dTst (dOp oLe f g)) := dt_cmp op_le ops_le ha hb hm
theorem dx_gt (ha : DExp X K cA a ta f) (hb : DExp X K cA b tb g) (hm : behindInMarks .Gt b = false := by exact nomark _) : DExp X K cA (.Compare a [.Gt] [b] pos) (tOp (rI0 fun i j => .bl (decide (j < i))) ta tb) (dOp oGt f g) := dx_cmp op_gt ops_gt ha hb hm
theorem dt_gt (ha : DExp X K cA a ta f) (hb : DExp X K cA b tb g) (hm : behindInMarks .Gt b = false := by exact nomark _) : DTst X K cA (.Compare a [.Gt] [b] pos) (tTest (tOp (rI0 fun i j => .bl (decide (j < i))) ta tb)) (dTst (dOp oGt f g)) := dt_cmp op_gt ops_gt ha hb hm
theorem dx_ge (ha : DExp X K cA a ta f) (hb : DExp X K cA b tb g) (hm : behindInMarks .GtE b = false := by exact nomark _) : DExp X K cA (.Compare a [.GtE] [b] pos) (tOp (rI0 fun i j => .bl (decide (j ≤ i))) ta tb) (dOp oGe f g) := dx_cmp op_ge ops_ge ha hb hm
theorem dt_ge (ha : DExp X K cA a ta f) (hb : DExp X K cA b tb g) (hm : behindInMarks .GtE b = false := by exact nomark _) : DTst X K cA (.Compare a [.GtE] [b] pos) (tTest (tOp (rI0 fun i j => .bl (decide (j ≤ i))) ta tb)) (dTst (dOp oGe f g)) := dt_cmp op_ge ops_ge ha hb hm
theorem dx_is (ha : DExp X K cA a ta f) (hb : DExp X K cA b tb g) (hm : behindInMarks .Is b = false := by exact nomark _) : DExp X K cA (.Compare a [.Is] [b] pos) (tOp (fun x y H Q => y = .non ∧ Q (.bl (decide (x = .non))) H) ta tb) (dOp oIsN f g) := dx_cmp op_isN ops_isN ha hb hm
theorem dt_is (ha : DExp X K cA a ta f) (hb : DExp X K cA b tb g) (hm : behindInMarks .Is b = false := by exact nomark _) : DTst X K cA (.Compare a [.Is] [b] pos) (tTest (tOp (fun x y H Q => y = .non ∧ Q (.bl (decide (x = .non))) H) ta tb)) (dTst (dOp oIsN f g)) := dt_cmp op_isN ops_isN ha hb hm
theorem dx_isnot (ha : DExp X K cA a ta f) (hb : DExp X K cA b tb g) (hm : behindInMarks .IsNot b = false := by exact nomark _) : DExp X K cA (.Compare a [.IsNot] [b] pos) (tOp (fun x y H Q => y = .non ∧ Q (.bl (!decide (x = .non))) H) ta tb) (dOp oNotN f g) := dx_cmp op_notN ops_notN ha hb hm
theorem dt_isnot (ha : DExp X K cA a ta f) (hb : DExp X K cA b tb g) (hm : behindInMarks .IsNot b = false := by exact nomark _) : DTst X K cA (.Compare a [.IsNot] [b] pos) (tTest (tOp (fun x y H Q => y = .non ∧ Q (.bl (!decide (x = .non))) H) ta tb)) (dTst (dOp oNotN f g)) := dt_cmp op_notN ops_notN ha hb hm
theorem dx_eq (hu : X.A.units + 64 < cLine) (ha : DExp X K cA a ta f) (hb : DExp X K cA b tb g) (hm : behindInMarks .Eq b = false := by exact nomark _) (hK : X.K = K := by rfl) : DExp X K cA (.Compare a [.Eq] [b] pos) (tOp (rEqD K) ta tb) (dOp oEq f g) := by
  subst hK
  exact dx_cmp (op_eqD hu) ops_eq ha hb hm
theorem dt_eq (hu : X.A.units + 64 < cLine) (ha : DExp X K cA a ta f) (hb : DExp X K cA b tb g) (hm : behindInMarks .Eq b = false := by exact nomark _) (hK : X.K = K := by rfl) : DTst X K cA (.Compare a [.Eq] [b] pos) (tTest (tOp (rEqD K) ta tb)) (dTst (dOp oEq f g)) := by
  subst hK
  exact dt_cmp (op_eqD hu) ops_eq ha hb hm
theorem dx_ne (hu : X.A.units + 64 < cLine) (ha : DExp X K cA a ta f) (hb : DExp X K cA b tb g) (hm : behindInMarks .NotEq b = false := by exact nomark _) (hK : X.K = K := by rfl) : DExp X K cA (.Compare a [.NotEq] [b] pos) (tOp (rNeD K) ta tb) (dOp oNe f g) := by
  subst hK
  exact dx_cmp (op_neD hu) ops_ne ha hb hm
theorem dt_ne (hu : X.A.units + 64 < cLine) (ha : DExp X K cA a ta f) (hb : DExp X K cA b tb g) (hm : behindInMarks .NotEq b = false := by exact nomark _) (hK : X.K = K := by rfl) : DTst X K cA (.Compare a [.NotEq] [b] pos) (tTest (tOp (rNeD K) ta tb)) (dTst (dOp oNe f g)) := by
  subst hK
  exact dt_cmp (op_neD hu) ops_ne ha hb hm
variable {tA tB : TT} {p q : DT} {rest : List Expr}
theorem dw_and1 (ha : DTst X K cA a tA p) : DTsw X K cA (.BoolOp .And [a] pos) tA p := ⟨pw_and1 ha.pt, ha.sim⟩
theorem dw_or1 (ha : DTst X K cA a tA p) : DTsw X K cA (.BoolOp .Or [a] pos) tA p := ⟨pw_or1 ha.pt, ha.sim⟩
theorem dw_and (ha : DTst X K cA a tA p) (hb : DTsw X K cA (.BoolOp .And (b :: rest) pos) tB q) : DTsw X K cA (.BoolOp .And (a :: b :: rest) pos) (tAnd tA tB) (dAnd p q) := ⟨pw_and ha.pt hb.pw, sim_and ha.sim hb.sim⟩
theorem dw_or (ha : DTst X K cA a tA p) (hb : DTsw X K cA (.BoolOp .Or (b :: rest) pos) tB q) : DTsw X K cA (.BoolOp .Or (a :: b :: rest) pos) (tOr tA tB) (dOr p q) := ⟨pw_or ha.pt hb.pw, sim_or ha.sim hb.sim⟩
theorem dt_not (ha : DTst X K cA a tA p) : DTst X K cA (.UnaryOp .Not a pos) (tNot tA) (dNot p) := ⟨pt_not ha.pt, sim_not ha.sim⟩
theorem dx_if (hc : DTst X K cA c tA p) (ha : DExp X K cA a ta f) (hb : DExp X K cA b tb g) : DExp X K cA (.IfExp c a b pos) (tIf tA ta tb) (dIf p f g) := ⟨pe_ifExp hc.pt ha.pe hb.pe, sim_if hc.sim ha.sim hb.sim⟩
theorem dx_one {op : BoolOp} (ha : DExp X K cA a ta f) : DExp X K cA (.BoolOp op [a] pos) ta f := ⟨pe_one ha.pe, ha.sim⟩
theorem dx_and (ha : DExp X K cA a ta f) (hb : DExp X K cA (.BoolOp .And (b :: rest) pos) tb g) (hK : X.K = K := by rfl) : DExp X K cA (.BoolOp .And (a :: b :: rest) pos) (tAndT K ta tb) (dAndV f g) := by
  subst hK
  exact ⟨pe_andT ha.pe hb.pe, sim_andV ha.sim hb.sim⟩
theorem dx_or (ha : DExp X K cA a ta f) (hb : DExp X K cA (.BoolOp .Or (b :: rest) pos) tb g) (hK : X.K = K := by rfl) : DExp X K cA (.BoolOp .Or (a :: b :: rest) pos) (tOrT K ta tb) (dOrV f g) := by
  subst hK
  exact ⟨pe_orT ha.pe hb.pe, sim_orV ha.sim hb.sim⟩
theorem dx_not (ha : DExp X K cA a ta f) (hK : X.K = K := by rfl) : DExp X K cA (.UnaryOp .Not a pos) (tNotT K ta) (dNotV f) := by
  subst hK
  exact ⟨pe_notT ha.pe, sim_notV ha.sim⟩
/-! ### arguments, displays, subscripts, slices -/
variable {es : List Expr} {tr : TA} {h : DA}
theorem da_nil : DArg X K cA [] tNil dNil := ⟨pa_nil, sim_nil⟩
theorem da_cons (ha : DExp X K cA a ta f) (hr : DArg X K cA es tr h) (hs : starEach (a :: es) X.env = (false, eval a X.env) :: starEach es X.env := by rfl) : DArg X K cA (a :: es) (tCons ta tr) (dCons f h) := ⟨pa_cons ha.pe hr.pa hs, sim_cons ha.sim hr.sim⟩
theorem dx_tup {x1} (hh : DArg X K cA es tr h) : DExp X K cA (.Tuple es x1 pos) (tTup tr) (dTup h) := ⟨pe_tup hh.pa, sim_tup hh.sim⟩
theorem df_lst (hh : DArg X K cA es tr h) : DFsh X K cA (.List es pos) (tLst tr) (dLst h) := ⟨pe_lst hh.pa, sim_lst hh.sim⟩
theorem dx_ix (ha : DExp X K cA a ta f) (hb : DExp X K cA b tb g) (hs : PlainIx b := by intro _ _; rfl) (hK : X.K = K := by rfl) : DExp X K cA (.Subscript a b pos) (tOp (rIx K) ta tb) (dIx f g) := by
  subst hK
  exact ⟨pe_ix ix_seq ha.pe hb.pe hs, sim_ix ha.sim hb.sim⟩
structure DPar (X : Cx) (K : PySem.W.Frag) (cA : Nat → Addr) (e : Option Expr) (t : TO) (f : DO) : Prop where
  po : PO X e t
  sim : SimO ⟨K, cA⟩ t f
theorem do_none : DPar X K cA none tNoPart dNoPart := ⟨po_none, sim_nopart⟩
theorem do_some (ha : DExp X K cA a ta f) : DPar X K cA (some a) (tPart ta) (dPart f) := ⟨po_some ha.pe, sim_part ha.sim⟩
variable {lo hi : Option Expr} {tl th : TO} {fl fh : DO} {p2 : Pos}
theorem df_sl (ha : DExp X K cA a ta f) (hl : DPar X K cA lo tl fl) (hh : DPar X K cA hi th fh) (hK : X.K = K := by rfl) : DFsh X K cA (.Subscript a (.Slice lo hi none p2) pos) (tSl (rSlL K) ta tl th) (dSlF f fl fh) := by
  subst hK
  exact ⟨pe_slice sl_list ha.pe hl.po hh.po, sim_slF ha.sim hl.sim hh.sim⟩
/-! ### built-ins -/
variable {x : Str} {pp : Pos} {id : String}
theorem dx_cb {r : List V → Hp → VK → Prop} {o : List D → Option D} (hc : CallR X (.builtin id) r) (hs : CallSim ⟨K, cA⟩ r o) (hm : X.mg x = none) (hv : bootBuiltins x = some (.builtin id)) (ha : DArg X K cA (e :: es) tr h) (hg : Gl X x := by rfl) (hn : x ≠ "__name__" := by decide) (hdb : (x == ("__debug__" : Str)) = false := by decide)
    (he : starEach (e :: es) X.env = (false, eval e X.env) :: starEach es X.env := by rfl) (hpl : ((backTo pos (starEach es X.env)).any fun x => x.1) = false := by rfl) : DExp X K cA (.Call (.Name x pp) (e :: es) [] pos) (tCB r tr) (dCB o h) := by
  exact ⟨pe_callB hc hg hm hv ha.pa hn hdb he hpl, sim_cb hs ha.sim⟩
theorem dx_ct {r : List V → Hp → VK → Prop} {o : List D → Option D} (hc : CallR X (.type id) r) (hs : CallSim ⟨K, cA⟩ r o) (hm : X.mg x = none) (hv : bootBuiltins x = some (.type id)) (ha : DArg X K cA (e :: es) tr h) (hg : Gl X x := by rfl) (hn : x ≠ "__name__" := by decide) (hdb : (x == ("__debug__" : Str)) = false := by decide)
    (he : starEach (e :: es) X.env = (false, eval e X.env) :: starEach es X.env := by rfl) (hpl : ((backTo pos (starEach es X.env)).any fun x => x.1) = false := by rfl) : DExp X K cA (.Call (.Name x pp) (e :: es) [] pos) (tCB r tr) (dCB o h) := by
  exact ⟨pe_callTy hc hg hm hv ha.pa hn hdb he hpl, sim_cb hs ha.sim⟩
theorem df_ct {r : List V → Hp → VK → Prop} {o : List D → Option (List D)} (hc : CallR X (.type id) r) (hs : CallSimF ⟨K, cA⟩ r o) (hm : X.mg x = none) (hv : bootBuiltins x = some (.type id)) (ha : DArg X K cA (e :: es) tr h) (hg : Gl X x := by rfl) (hn : x ≠ "__name__" := by decide) (hdb : (x == ("__debug__" : Str)) = false := by decide)
    (he : starEach (e :: es) X.env = (false, eval e X.env) :: starEach es X.env := by rfl) (hpl : ((backTo pos (starEach es X.env)).any fun x => x.1) = false := by rfl) : DFsh X K cA (.Call (.Name x pp) (e :: es) [] pos) (tCB r tr) (dCBF o h) := by
  exact ⟨pe_callTy hc hg hm hv ha.pa hn hdb he hpl, sim_cbF hs ha.sim⟩
/-! ### defs, methods, instances -/
variable {k : Nat} {fa C : Addr} {fd : FuncData} {ps : List Str}
theorem dx_call {m : List D → Option D} (F : FnOk X.prog X.w K X.mg X.base CX0 k fa fd ps (spF ⟨K, cA⟩ m)) (hr : Room k X.A) (hm : X.mg x = some (.ref fa)) (hk : PySem.W.keepIn K (.ref fa) = true) (hb : Binds K fd ps []) (ha : DArg X K cA (e :: es) tr h) (hg : Gl X x := by rfl)
    (hdb : (x == ("__debug__" : Str)) = false := by decide) (he : starEach (e :: es) X.env = (false, eval e X.env) :: starEach es X.env := by rfl) (hpl : ((backTo pos (starEach es X.env)).any fun x => x.1) = false := by rfl) (hK : X.K = K := by rfl) :
    DExp X K cA (.Call (.Name x pp) (e :: es) [] pos) (tCall (spF ⟨K, cA⟩ m) [] E0 tr) (dCall m h) := by
  subst hK
  exact ⟨pe_call F hr hg hm hk hb .nil pass0 ha.pa hdb he hpl, sim_call ha.sim⟩
theorem dx_callC {m : D → List D → Option (D × D)} (F : FnOk X.prog X.w K X.mg X.base CX0 k fa fd ps (spC ⟨K, cA⟩ m)) (hr : Room k X.A) (hm : X.mg x = some (.ref fa)) (hk : PySem.W.keepIn K (.ref fa) = true) (hb : Binds K fd ps []) (ha : DArg X K cA (e :: es) tr h) (hg : Gl X x := by rfl)
    (hdb : (x == ("__debug__" : Str)) = false := by decide) (he : starEach (e :: es) X.env = (false, eval e X.env) :: starEach es X.env := by rfl) (hpl : ((backTo pos (starEach es X.env)).any fun x => x.1) = false := by rfl) (hK : X.K = K := by rfl) :
    DExp X K cA (.Call (.Name x pp) (e :: es) [] pos) (tCall (spC ⟨K, cA⟩ m) [] E0 tr) (dCallC m h) := by
  subst hK
  exact ⟨pe_call F hr hg hm hk hb .nil pass0 ha.pa hdb he hpl, sim_callC ha.sim⟩
theorem df_call {m : List D → Option (List D)} (F : FnOk X.prog X.w K X.mg X.base CX0 k fa fd ps (spN ⟨K, cA⟩ m)) (hr : Room k X.A) (hm : X.mg x = some (.ref fa)) (hk : PySem.W.keepIn K (.ref fa) = true) (hb : Binds K fd ps []) (ha : DArg X K cA (e :: es) tr h) (hg : Gl X x := by rfl)
    (hdb : (x == ("__debug__" : Str)) = false := by decide) (he : starEach (e :: es) X.env = (false, eval e X.env) :: starEach es X.env := by rfl) (hpl : ((backTo pos (starEach es X.env)).any fun x => x.1) = false := by rfl) (hK : X.K = K := by rfl) :
    DFsh X K cA (.Call (.Name x pp) (e :: es) [] pos) (tCall (spN ⟨K, cA⟩ m) [] E0 tr) (dCallN m h) := by
  subst hK
  exact ⟨pe_call F hr hg hm hk hb .nil pass0 ha.pa hdb he hpl, sim_callN ha.sim⟩
theorem dx_fld {Ci : Nat} {fn : Str} (hC : Cls K (cA Ci)) (hn : NoAttr K (cA Ci) fn) (ha : DExp X K cA a ta f) (hb : attributeBase a fn X.env (eval a X.env) = eval a X.env := by rfl) (hK : X.K = K := by rfl) : DExp X K cA (.Attribute a fn pos) (tFld K ta fn) (dFld Ci fn f) := by
  subst hK
  exact ⟨pe_fld ha.pe hb, sim_fld hC hn ha.sim⟩
theorem dx_meth {pl : Sem Bool} {Ci : Nat} {mn : Str} {o : Expr} {to : TE} {fo : DE} {apos : Pos} {m : List D → Option D} (c : Cls K (cA Ci)) (hM : Meth K (cA Ci) mn fa) (F : FnOk X.prog X.w K X.mg X.base CX0 k fa fd ps (spF ⟨K, cA⟩ m)) (hr : Room k X.A) (hb : Binds K fd ps [])
    (ho : DExp X K cA o to fo) (ha : DArg X K cA (e :: es) tr h)
    (hst : starEach (e :: es) X.env = (false, eval e X.env) :: starEach es X.env := by rfl) (hpl : ((backTo pos (starEach es X.env)).any fun x => x.1) = false := by rfl)
    (ht : eval (.Call (.Attribute o mn apos) (e :: es) [] pos) X.env = (do
      let ov ← eval o X.env
      standAt apos.atName
      let (f, first) ← holding [ov] (getMethod ov mn pl)
      callWith pos f first (backTo pos (starEach (e :: es) X.env)) (backToKw pos (keywordEach [] X.env))) := by rfl) (hK : X.K = K := by rfl) :
    DExp X K cA (.Call (.Attribute o mn apos) (e :: es) [] pos) (tMeth (cA Ci) mn (spF ⟨K, cA⟩ m) [] E0 to tr) (dMeth Ci mn m fo h) := by
  subst hK
  exact ⟨pe_meth ho.pe c hM F hr hb .nil pass0 ha.pa hst hpl ht, sim_meth ho.sim ha.sim⟩
theorem dx_meth0 {pl : Sem Bool} {Ci : Nat} {mn : Str} {o : Expr} {to : TE} {fo : DE} {apos : Pos} {m : List D → Option D} (c : Cls K (cA Ci)) (hM : Meth K (cA Ci) mn fa) (F : FnOk X.prog X.w K X.mg X.base CX0 k fa fd ps (spF ⟨K, cA⟩ m)) (hr : Room k X.A) (hb : Binds K fd ps [])
    (ho : DExp X K cA o to fo)
    (ht : eval (.Call (.Attribute o mn apos) [] [] pos) X.env = (do
      let ov ← eval o X.env
      standAt apos.atName
      let (f, first) ← holding [ov] (getMethod ov mn pl)
      callWith pos f first (backTo pos (starEach [] X.env)) (backToKw pos (keywordEach [] X.env))) := by rfl) (hK : X.K = K := by rfl) :
    DExp X K cA (.Call (.Attribute o mn apos) [] [] pos) (tMeth (cA Ci) mn (spF ⟨K, cA⟩ m) [] E0 to tNil) (dMeth Ci mn m fo dNil) := by
  subst hK
  exact ⟨pe_meth0 ho.pe c hM F hr hb .nil pass0 ht, sim_meth ho.sim sim_nil⟩
theorem dx_make {Ci : Nat} {m : D → List D → Option (D × D)} (M : Mk K (cA Ci) fa) (F : FnOk X.prog X.w K X.mg X.base CX0 k fa fd ps (spC ⟨K, cA⟩ m)) (hr : Room (k + 1) X.A) (hm : X.mg x = some (.ref (cA Ci))) (hb : Binds K fd ps []) (ha : DArg X K cA (e :: es) tr h) (hg : Gl X x := by rfl)
    (hdb : (x == ("__debug__" : Str)) = false := by decide) (he : starEach (e :: es) X.env = (false, eval e X.env) :: starEach es X.env := by rfl) (hpl : ((backTo pos (starEach es X.env)).any fun x => x.1) = false := by rfl) (hK : X.K = K := by rfl) :
    DExp X K cA (.Call (.Name x pp) (e :: es) [] pos) (tMake (cA Ci) (spC ⟨K, cA⟩ m) [] E0 tr) (dMake Ci m h) := by
  subst hK
  exact ⟨pe_make M F hr hg hm hb .nil pass0 ha.pa hdb he hpl, sim_make ha.sim⟩
/-! ### comprehensions, walks -/
structure DTss (X : Cx) (K : PySem.W.Frag) (cA : Nat → Addr) (ifs : List Expr) (t : TT) (f : DT) : Prop where
  pt : PTs X ifs t
  sim : SimT ⟨K, cA⟩ t f
theorem dts_nil : DTss X K cA [] tYes dYes := ⟨pts_nil, sim_yes⟩
theorem dts_one (hc : DTst X K cA c tA p) : DTss X K cA [c] tA p := ⟨pts_one hc.pt, hc.sim⟩
theorem df_lc {elt tg iter : Expr} {ifs : List Expr} {scope : Scope} {wi : TI} {gt : TG} {tt : TT} {src : DF} {dg : DG} {ts : List Nat} {dt : DT} (own : List (Str × Nat)) (hc : X.calm = true) (hN : X.N.Nodup) (hi : DIter X K cA tg iter wi src) (ok : BlkOk X.N X.env.scope scope own)
    (hg : ∀ (s : Shared) (H : Hp) (C : Addr) (cl : List (Str × Addr)) (fp : List Addr), DTgt (X.blk s H scope (compEnvC scope cl C X.env) fp) K cA tg gt dg ts) (hsub : ∀ i ∈ ts, i ∈ own.map (·.2))
    (ht : ∀ (s : Shared) (H : Hp) (C : Addr) (cl : List (Str × Addr)) (fp : List Addr), DTss (X.blk s H scope (compEnvC scope cl C X.env) fp) K cA ifs tt dt)
    (he : ∀ (s : Shared) (H : Hp) (C : Addr) (cl : List (Str × Addr)) (fp : List Addr), DExp (X.blk s H scope (compEnvC scope cl C X.env) fp) K cA elt te f) (hs : ∀ x, foldedSetIterable iter X.env x = pure x := by intro _; rfl) :
    DFsh X K cA (.ListComp elt [⟨tg, iter, ifs, 0⟩] scope pos) (tLc wi gt tt te (own.map (·.2))) (dLc src dg dt f (own.map (·.2))) :=
  ⟨pe_lc hc hN hi.pi ok (fun s H C cl fp => (hg s H C cl fp).pg) (fun s H C cl fp => (ht s H C cl fp).pt) (fun s H C cl fp => (he s H C cl fp).pe) hs,
    sim_lc hi.sim (hg X.s_0 X.H_0 0 [] []).sim hsub (ht X.s_0 X.H_0 0 [] []).sim (he X.s_0 X.H_0 0 [] []).sim⟩
theorem di_seq {tg : Expr} (ha : DExp X K cA a ta f) (hK : X.K = K := by rfl) : DIter X K cA tg a (iSeqA K ta) (diSeq f) := by
  subst hK
  exact ⟨pi_seqA ha.pe, sim_iseq ha.sim⟩
theorem di_rng1 {tg : Expr} (hm : X.mg "range" = none) (ha : DArg X K cA [a] tr h) (hg : Gl X "range" := by rfl) (hs : starEach [a] X.env = [(false, eval a X.env)] := by rfl) : DIter X K cA tg (.Call (.Name "range" pp) [a] [] pos) (iRng1 tr) (diRng1 h) := ⟨pi_range1 hg hm ha.pa hs, sim_rng1 ha.sim⟩
theorem di_rng2 {tg : Expr} (hm : X.mg "range" = none) (ha : DArg X K cA [a, b] tr h) (hg : Gl X "range" := by rfl) (hs : starEach [a, b] X.env = [(false, eval a X.env), (false, eval b X.env)] := by rfl) (hs2 : starEach [b] X.env = [(false, eval b X.env)] := by rfl) :
    DIter X K cA tg (.Call (.Name "range" pp) [a, b] [] pos) (iRng2 tr) (diRng2 h) := ⟨pi_range2 hg hm ha.pa hs hs2, sim_rng2 ha.sim⟩
theorem di_rng3 {tg : Expr} (hm : X.mg "range" = none) (ha : DArg X K cA [a, b, c] tr h) (hg : Gl X "range" := by rfl) (hs : starEach [a, b, c] X.env = (false, eval a X.env) :: starEach [b, c] X.env := by rfl) (hpl : ((backTo pos (starEach [b, c] X.env)).any fun x => x.1) = false := by rfl) :
    DIter X K cA tg (.Call (.Name "range" pp) [a, b, c] [] pos) (iRng3 tr) (diRng3 h) := ⟨pi_range3 hg hm ha.pa hs hpl, sim_rng3 ha.sim⟩
theorem di_zip {elts : List Expr} {kk : Nat} {tpos : Pos} (hm : X.mg "zip" = none) (ha : DArg X K cA [a, b] tr h) (hg : Gl X "zip" := by rfl) (hs : starEach [a, b] X.env = (false, eval a X.env) :: starEach [b] X.env := by rfl) (hpl : ((backTo pos (starEach [b] X.env)).any fun x => x.1) = false := by rfl) (hK : X.K = K := by rfl) :
    DIter X K cA (.Tuple elts kk tpos) (.Call (.Name "zip" pp) [a, b] [] pos) (iZip K tr) (diZip h) := by
  subst hK
  exact ⟨pi_zip hg hm ha.pa hs hpl, sim_zip ha.sim⟩
/-! ### statements -/
variable {t u : TS} {d d' : DS} {tg : Expr} {gt : TG} {dg : DG} {ts : List Nat}
theorem ds_set (i : Nat) {y : Str} {pos' : Pos} (hN : X.N.Nodup) (he : DExp X K cA e te f) (hi : X.N[i]? = some y := by rfl) (hx : Loc X.env.scope y := by first | exact .inl rfl | exact .inr rfl) (hs : swapsWith e (some (.Name y pos')) pos.line X.env = pure false := by rfl)
    (hf : X.fn y = true ∨ X.env.scope.names.lookup y = some .local := by first | exact .inl rfl | exact .inr rfl) : DStm X K cA (.Assign [.Name y pos'] e pos) (tAsg te (gName i)) (dsAsg f (gdN i)) := ⟨ps_set hN hi hx he.pe hs hf, sim_asg he.sim sim_gN⟩
theorem ds_own (i : Nat) {y : Str} {pos' : Pos} {ff : DF} (hN : X.N.Nodup) (he : DFsh X K cA e te ff) (hi : X.N[i]? = some y := by rfl) (hx : Loc X.env.scope y := by first | exact .inl rfl | exact .inr rfl) (hs : swapsWith e (some (.Name y pos')) pos.line X.env = pure false := by rfl)
    (hf : X.fn y = true ∨ X.env.scope.names.lookup y = some .local := by first | exact .inl rfl | exact .inr rfl) : DStm X K cA (.Assign [.Name y pos'] e pos) (tAsg te (gName i)) (dsOwn i ff) := ⟨ps_set hN hi hx he.pe hs hf, sim_own he.sim⟩
theorem ds_asg (hg : DTgt X K cA tg gt dg ts) (he : DExp X K cA e te f) (hs : swapsWithSole [tg] e pos.line X.env = pure false := by rfl) (hw : swappedStores [tg] e X.env = pure none := by rfl)
    (h1 : (assignEach [tg] X.env).map (·.2) = [assign tg X.env] := by rfl) : DStm X K cA (.Assign [tg] e pos) (tAsg te gt) (dsAsg f dg) := ⟨ps_asg he.pe hg.pg hs hw h1, sim_asg he.sim hg.sim⟩
/-- name = [.. for ..], the name a local -/
theorem ps_lc {i : Nat} {y : Str} {py : Pos} {elt tg iter : Expr} {ifs : List Expr} {scope : Scope} {spos : Pos} {wi : TI} {gt : TG} {tt : TT} {src : DF} {dg : DG} {ts : List Nat} {dt : DT} (own : List (Str × Nat)) (hc : X.calm = true) (hN : X.N.Nodup) (hi : DIter X K cA tg iter wi src) (ok : BlkOk X.N X.env.scope scope own)
    (hg : ∀ (s : Shared) (H : Hp) (C : Addr) (cl : List (Str × Addr)) (fp : List Addr), DTgt (X.blk s H scope (compEnvC scope cl C X.env) fp) K cA tg gt dg ts)
    (ht : ∀ (s : Shared) (H : Hp) (C : Addr) (cl : List (Str × Addr)) (fp : List Addr), DTss (X.blk s H scope (compEnvC scope cl C X.env) fp) K cA ifs tt dt)
    (he : ∀ (s : Shared) (H : Hp) (C : Addr) (cl : List (Str × Addr)) (fp : List Addr), DExp (X.blk s H scope (compEnvC scope cl C X.env) fp) K cA elt te f) (hy : X.N[i]? = some y) (hyl : X.env.scope.names.lookup y = some .local)
    (hsw : swapsWith (.ListComp elt [⟨tg, iter, ifs, 0⟩] scope pos) (some (.Name y py)) spos.line X.env = pure true) (hs : ∀ x, foldedSetIterable iter X.env x = pure x) :
    PS X (.Assign [.Name y py] (.ListComp elt [⟨tg, iter, ifs, 0⟩] scope pos) spos) (tAsg (tLc wi gt tt te (own.map (·.2))) (gName i)) :=
  ps_setLc hc hN hy hyl hsw hi.pi ok (fun s H C cl fp => (hg s H C cl fp).pg) (fun s H C cl fp => (ht s H C cl fp).pt) (fun s H C cl fp => (he s H C cl fp).pe) hs
theorem ds_lc (i : Nat) {y : Str} {py : Pos} {elt tg iter : Expr} {ifs : List Expr} {scope : Scope} {spos : Pos} {wi : TI} {gt : TG} {tt : TT} {src : DF} {dg : DG} {ts : List Nat} {dt : DT} (own : List (Str × Nat)) (hc : X.calm = true) (hN : X.N.Nodup) (hi : DIter X K cA tg iter wi src) (ok : BlkOk X.N X.env.scope scope own)
    (hg : ∀ (s : Shared) (H : Hp) (C : Addr) (cl : List (Str × Addr)) (fp : List Addr), DTgt (X.blk s H scope (compEnvC scope cl C X.env) fp) K cA tg gt dg ts) (hsub : ∀ i ∈ ts, i ∈ own.map (·.2))
    (ht : ∀ (s : Shared) (H : Hp) (C : Addr) (cl : List (Str × Addr)) (fp : List Addr), DTss (X.blk s H scope (compEnvC scope cl C X.env) fp) K cA ifs tt dt)
    (he : ∀ (s : Shared) (H : Hp) (C : Addr) (cl : List (Str × Addr)) (fp : List Addr), DExp (X.blk s H scope (compEnvC scope cl C X.env) fp) K cA elt te f) (hy : X.N[i]? = some y := by rfl) (hyl : X.env.scope.names.lookup y = some .local := by rfl)
    (hsw : swapsWith (.ListComp elt [⟨tg, iter, ifs, 0⟩] scope pos) (some (.Name y py)) spos.line X.env = pure true := by exact sw_true rfl rfl rfl (by decide +kernel)) (hs : ∀ x, foldedSetIterable iter X.env x = pure x := by intro _; rfl) :
    DStm X K cA (.Assign [.Name y py] (.ListComp elt [⟨tg, iter, ifs, 0⟩] scope pos) spos) (tAsg (tLc wi gt tt te (own.map (·.2))) (gName i)) (dsAsg (dFz (dLc src dg dt f (own.map (·.2)))) (gdN i)) :=
  ⟨ps_lc own hc hN hi ok hg ht he hy hyl hsw hs, sim_asg (sim_lc hi.sim (hg X.s_0 X.H_0 0 [] []).sim hsub (ht X.s_0 X.H_0 0 [] []).sim (he X.s_0 X.H_0 0 [] []).sim).fz sim_gN⟩
theorem ds_lcO (i : Nat) {y : Str} {py : Pos} {elt tg iter : Expr} {ifs : List Expr} {scope : Scope} {spos : Pos} {wi : TI} {gt : TG} {tt : TT} {src : DF} {dg : DG} {ts : List Nat} {dt : DT} (own : List (Str × Nat)) (hc : X.calm = true) (hN : X.N.Nodup) (hi : DIter X K cA tg iter wi src) (ok : BlkOk X.N X.env.scope scope own)
    (hg : ∀ (s : Shared) (H : Hp) (C : Addr) (cl : List (Str × Addr)) (fp : List Addr), DTgt (X.blk s H scope (compEnvC scope cl C X.env) fp) K cA tg gt dg ts) (hsub : ∀ i ∈ ts, i ∈ own.map (·.2))
    (ht : ∀ (s : Shared) (H : Hp) (C : Addr) (cl : List (Str × Addr)) (fp : List Addr), DTss (X.blk s H scope (compEnvC scope cl C X.env) fp) K cA ifs tt dt)
    (he : ∀ (s : Shared) (H : Hp) (C : Addr) (cl : List (Str × Addr)) (fp : List Addr), DExp (X.blk s H scope (compEnvC scope cl C X.env) fp) K cA elt te f) (hy : X.N[i]? = some y := by rfl) (hyl : X.env.scope.names.lookup y = some .local := by rfl)
    (hsw : swapsWith (.ListComp elt [⟨tg, iter, ifs, 0⟩] scope pos) (some (.Name y py)) spos.line X.env = pure true := by exact sw_true rfl rfl rfl (by decide +kernel)) (hs : ∀ x, foldedSetIterable iter X.env x = pure x := by intro _; rfl) :
    DStm X K cA (.Assign [.Name y py] (.ListComp elt [⟨tg, iter, ifs, 0⟩] scope pos) spos) (tAsg (tLc wi gt tt te (own.map (·.2))) (gName i)) (dsOwn i (dLc src dg dt f (own.map (·.2)))) :=
  ⟨ps_lc own hc hN hi ok hg ht he hy hyl hsw hs, sim_own (sim_lc hi.sim (hg X.s_0 X.H_0 0 [] []).sim hsub (ht X.s_0 X.H_0 0 [] []).sim (he X.s_0 X.H_0 0 [] []).sim)⟩
theorem ds_par (i j : Nat) {y z : Str} {px py pt : Pos} {kt k2 pt2} (hc : X.calm = true) (hN : X.N.Nodup) (ha : DArg X K cA [a, b] tr h) (hi : X.N[i]? = some y := by rfl) (hj : X.N[j]? = some z := by rfl) (hij : i ≠ j := by decide) (hx : X.env.scope.names.lookup y = some .local := by rfl) (hy : X.env.scope.names.lookup z = some .local := by rfl)
    (hw : swappedStores [.Tuple [.Name y px, .Name z py] kt pt] (.Tuple [a, b] k2 pt2) X.env = pure (some [y, z]) := by rfl) (hs : swapsWithSole [.Tuple [.Name y px, .Name z py] kt pt] (.Tuple [a, b] k2 pt2) pos.line X.env = pure false := by rfl) :
    DStm X K cA (.Assign [.Tuple [.Name y px, .Name z py] kt pt] (.Tuple [a, b] k2 pt2) pos) (tPar i j tr) (dsPar i j h) := ⟨ps_par hc hN hi hj hij hx hy ha.pa hw hs, sim_par ha.sim⟩
theorem ds_augA (i : Nat) {y : Str} {pos' : Pos} (hN : X.N.Nodup) (he : DExp X K cA e te f) (hi : X.N[i]? = some y := by rfl) (hx : Loc X.env.scope y := by first | exact .inl rfl | exact .inr rfl) (hf : X.fn y = true ∨ X.env.scope.names.lookup y = some .local := by first | exact .inl rfl | exact .inr rfl) :
    DStm X K cA (.AugAssign (.Name y pos') .Add e pos) (tAug i te (ipI fun i j => i + j)) (dsAug i (fun i j => i + j) f) := ⟨ps_aug hN hi hx he.pe ip_add hf, sim_aug he.sim⟩
theorem ds_augS (i : Nat) {y : Str} {pos' : Pos} (hN : X.N.Nodup) (he : DExp X K cA e te f) (hi : X.N[i]? = some y := by rfl) (hx : Loc X.env.scope y := by first | exact .inl rfl | exact .inr rfl) (hf : X.fn y = true ∨ X.env.scope.names.lookup y = some .local := by first | exact .inl rfl | exact .inr rfl) :
    DStm X K cA (.AugAssign (.Name y pos') .Sub e pos) (tAug i te (ipI fun i j => i - j)) (dsAug i (fun i j => i - j) f) := ⟨ps_aug hN hi hx he.pe ip_sub hf, sim_aug he.sim⟩
theorem ds_ret (he : DExp X K cA e te f) : DStm X K cA (.Return (some e) pos) (tRet te) (dsRet f) := ⟨ps_ret he.pe, sim_ret he.sim⟩
theorem ds_retF {ff : DF} (he : DFsh X K cA e te ff) : DStm X K cA (.Return (some e) pos) (tRet te) (dsRetF ff) := ⟨ps_ret he.pe, sim_retF he.sim⟩
theorem ds_retN : DStm X K cA (.Return none pos) tRetN dsRetN := ⟨ps_retN, sim_retN⟩
theorem ds_if {ss rr : List Stmt} (hc : DTst X K cA c tA p) (ha : DBlk X K cA ss t d) (hb : DBlk X K cA rr u d') : DStm X K cA (.If c ss rr pos) (tIfS tA t u) (dsIf p d d') := ⟨ps_if hc.pt ha.ps hb.ps, sim_ifS hc.sim ha.sim hb.sim⟩
theorem ds_for {iter : Expr} {body : List Stmt} {wi : TI} {src : DF} (hp : PassesOwn (model X.prog X.w) X.A X.env X.xe) (hc : X.calm = true) (hi : DIter X K cA tg iter wi src) (hg : DTgt X K cA tg gt dg ts) (hb : DBlk X K cA body t d) (hs : ∀ x, foldedSetIterable iter X.env x = pure x := by intro _; rfl) :
    DStm X K cA (.For tg iter body [] pos) (tFor wi gt t) (dsFor src dg d) := ⟨ps_for hp hc hi.pi hg.pg hb.ps hs, sim_for hi.sim hg.sim hb.sim⟩
theorem ds_while (n : Nat) {body : List Stmt} (hp : PassesOwn (model X.prog X.w) X.A X.env X.xe) (hc : DTst X K cA c tA p) (hb : DBlk X K cA body t d) : DStm X K cA (.While c body [] pos) (tWhile tA t) (whileL p d n) := ⟨ps_while hp hc.pt hb.ps, sim_while n hc.sim hb.sim⟩
theorem ds_break : DStm X K cA (.Break pos) tBreak dsBreak := ⟨ps_break, sim_break⟩
theorem ds_cont : DStm X K cA (.Continue pos) tCont dsCont := ⟨ps_continue, sim_cont⟩
theorem ds_pass : DStm X K cA (.Pass pos) tNext dsNil := ⟨ps_pass, sim_nx⟩
theorem ds_never {st : Stmt} : DStm X K cA st tNever dsNever := ⟨ps_never, sim_never⟩
theorem ds_drop (he : DExp X K cA e te f) (hs : swapsWith e none pos.line X.env = pure false := by rfl) : DStm X K cA (.Expr e pos) (tDrop te) (dsDrop f) := ⟨ps_expr he.pe hs, sim_drop he.sim⟩
theorem ds_doc {y : Str} {j : Nat} {pos' : Pos} : DStm X K cA (.Expr (.Constant (.str y) j pos) pos') tNext dsNil := ⟨ps_doc, sim_nx⟩
theorem ds_app (i : Nat) {y : Str} {pos' apos cpos : Pos} (he : DExp X K cA e te f) (hN : X.N[i]? = some y := by rfl) (hv : Vis X.env.scope y := by first | exact Or.inl rfl | exact Or.inr (Or.inl rfl) | exact Or.inr (Or.inr rfl)) (hd : (y == ("__debug__" : Str)) = false := by decide)
    (hcd : (y == ("__classdict__" : Str)) = false := by decide) (pe : PE X (.Call (.Attribute (.Name y pos') "append" apos) [e] [] cpos) (tBM K "list" rAppend (tVar i) (tCons te tNil)))
    (hs : swapsWith (.Call (.Attribute (.Name y pos') "append" apos) [e] [] cpos) none pos.line X.env = pure false := by rfl) (hK : X.K = K := by rfl) : DStm X K cA (.Expr (.Call (.Attribute (.Name y pos') "append" apos) [e] [] cpos) pos) (tDrop (tBM K "list" rAppend (tVar i) (tCons te tNil))) (dsApp i f) := by
  subst hK
  exact ⟨ps_expr pe hs, sim_app he.sim⟩
theorem ds_setix (j : Nat) {y : Str} {pos' spos : Pos} {ix : Expr} {ti : TE} {fi : DE} (hi : DExp X K cA ix ti fi) (he : DExp X K cA e te f) (hN : X.N[j]? = some y := by rfl) (hv : Vis X.env.scope y := by first | exact Or.inl rfl | exact Or.inr (Or.inl rfl) | exact Or.inr (Or.inr rfl)) (hd : (y == ("__debug__" : Str)) = false := by decide)
    (hcd : (y == ("__classdict__" : Str)) = false := by decide)
    (ha : ∀ v, assign (.Subscript (.Name y pos') ix spos) X.env v = (do
      let ov ← holding [v] (eval (.Name y pos') X.env)
      let iv ← holding [v, ov] (eval ix X.env)
      standAt spos
      holding [v, ov, iv] (setItem ov iv v)
      release [v, ov, iv] []) := by intro _; rfl)
    (hs : swapsWithSole [.Subscript (.Name y pos') ix spos] e pos.line X.env = pure false := by rfl) (hw : swappedStores [.Subscript (.Name y pos') ix spos] e X.env = pure none := by rfl)
    (h1 : (assignEach [.Subscript (.Name y pos') ix spos] X.env).map (·.2) = [assign (.Subscript (.Name y pos') ix spos) X.env] := by rfl) :
    DStm X K cA (.Assign [.Subscript (.Name y pos') ix spos] e pos) (tAsg te (gSub (tVar j) ti rSetL)) (dsSet j fi f) :=
  ⟨ps_asg he.pe (pg_sub (pe_var hN hv hd hcd) hi.pe set_list ha) hs hw h1, sim_set hi.sim he.sim⟩
theorem ds_fld (j : Nat) {Ci : Nat} {y fn : Str} {pos' apos : Pos} (hC : Cls K (cA Ci)) (hn : NoAttr K (cA Ci) fn) (he : DExp X K cA e te f) (hN : X.N[j]? = some y := by rfl) (hv : Vis X.env.scope y := by first | exact Or.inl rfl | exact Or.inr (Or.inl rfl) | exact Or.inr (Or.inr rfl)) (hd : (y == ("__debug__" : Str)) = false := by decide)
    (hcd : (y == ("__classdict__" : Str)) = false := by decide) (hs : swapsWith e (some (.Attribute (.Name y pos') fn apos)) pos.line X.env = pure false := by rfl) (hK : X.K = K := by rfl) : DStm X K cA (.Assign [.Attribute (.Name y pos') fn apos] e pos) (sFld K (tVar j) te fn) (dsFld Ci fn j f) := by
  subst hK
  exact ⟨ps_fld (pe_var hN hv hd hcd) he.pe hs, sim_fldS hC hn he.sim⟩
theorem db_cell (i : Nat) {y : Str} {pos' : Pos} {ff : DF} {ss : List Stmt} (hN : X.N.Nodup) (he : DFsh X K cA e te ff) (hb : DBlk X K cA ss u d) (hi : X.N[i]? = some y := by rfl) (hx : Loc X.env.scope y := by first | exact .inl rfl | exact .inr rfl) (hs : swapsWith e (some (.Name y pos')) pos.line X.env = pure false := by rfl)
    (hf : X.fn y = true ∨ X.env.scope.names.lookup y = some .local := by first | exact .inl rfl | exact .inr rfl) : DBlk X K cA (.Assign [.Name y pos'] e pos :: ss) (tSeq (tAsg te (gName i)) u) (dsCell i ff d) := ⟨pss_cons (ps_set hN hi hx he.pe hs hf) hb.ps, sim_cell he.sim hb.sim⟩
theorem db_freeze (i : Nat) {ss : List Stmt} (hb : DBlk X K cA ss t d) : DBlk X K cA ss t (dsFreeze i d) := ⟨hb.ps, sim_freeze hb.sim⟩
end
end DL

set_option autoImplicit true
set_option relaxedAutoImplicit true
set_option Elab.async false
set_option linter.all false
set_option autoImplicit false
set_option maxRecDepth 100000
set_option maxHeartbeats 4000000
/-! DL, X: sum, max, min of tuples; enumerate of lists and tuples; index. -/
namespace DL
open PySem PySem.Spec PyProof.Rows L2
section
variable {prog : Program} {w : World} {A : Around} {E : Value → Shared → Prop} {s : Shared} {l : Addr} {xs : Array (Int × Tok)} {its : List Value} {ns : List Int} {Q : Value → Shared → Prop}
theorem iter_intT (hl : s.heap.IsTuple l (intItems xs))
    (h : ∀ s2 : Shared, s2 = { s with heap := s.heap.push { cls := .type "tuple_iterator", data := .fields #[.ref l, .int 0 0] } } →
      (s2.heap.IsTupleIter s.heap.objs.size l 0 ∧ s2.heap.IsTuple l (intItems xs)) → (∀ b ∈ [s.heap.objs.size, l], b < s2.heap.objs.size) → l ≠ s.heap.objs.size → Q (.ref s.heap.objs.size) s2) :
    wpAny (model prog w) A (pyIter (.ref l)) Q E s := by
  have hlt : l < s.heap.objs.size := by obtain ⟨_, e, _⟩ := hl; exact Heap.lt_size e
  refine wpAny_pyIter_tuple hl (h _ rfl ⟨⟨_, Heap.get?_push_size _ rfl, rfl, rfl⟩, hl.push _⟩ (fun b hb => ?_) (Nat.ne_of_lt hlt))
  show b < (s.heap.push _).objs.size
  rw [Heap.size_push]
  simp only [List.mem_cons, List.not_mem_nil, or_false] at hb
  rcases hb with hb | hb
  · rw [hb]; exact Nat.lt_succ_self _
  · rw [hb]; exact Nat.lt_succ_of_lt hlt
theorem old_keptT {h' : Heap} (hk : ∀ b o, b ∉ [s.heap.objs.size] → (s.heap.push { cls := .type "tuple_iterator", data := .fields #[.ref l, .int 0 0] }).get? b = some o → h'.get? b = some o) :
    ∀ b o, s.heap.get? b = some o → h'.get? b = some o := fun b o e => hk b o (fun hm => by
      have e1 : b = s.heap.objs.size := by simpa using hm
      have z := Heap.lt_size e
      rw [e1] at z
      exact absurd z (Nat.lt_irrefl _)) (Heap.get?_push_of_some _ e)
theorem sum_rawT (hh : A.handled = none) (hl : s.heap.IsTuple l its.toArray) (hi : IntsAre its ns)
    (h : ∀ h' tk t', (∀ b o, s.heap.get? b = some o → h'.get? b = some o) → Q (.int ns.sum t') { s with heap := h', toks := tk }) : wpAny (model prog w) A (call (.builtin "sum") [.ref l]) Q E s := by
  obtain ⟨xs, e⟩ := hi.allInts.items
  have hn : numsOf (intItems xs).toList = ns := by rw [← e]; exact hi.numsOf
  rw [nums_intItems] at hn
  rw [e] at hl
  refine call_sum_walkG (iter_intT hl fun s2 e2 st hfp hlI => ?_)
  subst e2
  refine ⟨_, _, _, _, _, _, numAt xs, rfl, Walks.tuple (A := A.in1) hh _ l hlI (intItems xs), st, hfp, (fun _ _ => intItems_at), fun h' tk t' hk => ?_⟩
  have := h h' tk t' (old_keptT hk)
  rw [show (intItems xs).size = xs.size by simp [intItems], preSum_eq, List.take_of_length_le (by simp), hn]
  exact this
theorem max_rawT (hh : A.handled = none) (hl : s.heap.IsTuple l its.toArray) (hi : IntsAre its ns) (hne : 0 < ns.length)
    (h : ∀ h' tk M t', (∀ b o, s.heap.get? b = some o → h'.get? b = some o) → M ∈ ns → (∀ a, a ∈ ns → a ≤ M) → Q (.int M t') { s with heap := h', toks := tk }) : wpAny (model prog w) A (call (.builtin "max") [.ref l]) Q E s := by
  obtain ⟨xs, e⟩ := hi.allInts.items
  have hn : numsOf (intItems xs).toList = ns := by rw [← e]; exact hi.numsOf
  rw [nums_intItems] at hn
  subst hn
  rw [e] at hl
  have hsz : 0 < xs.size := by simpa using hne
  have hz : (intItems xs).size = xs.size := by simp [intItems]
  refine call_max_walk (iter_intT hl fun s2 e2 st hfp hlI => ?_)
  subst e2
  refine ⟨_, _, _, _, _, _, _, rfl, Walks.tuple (A := A.in1) hh _ l hlI (intItems xs), st, hfp, by omega, CmpOf.ints_gt (numAt xs) (fun _ _ => intItems_at), fun v h' tk hP hk => ?_⟩
  rw [hz] at hP
  obtain ⟨t, rfl⟩ := intItems_at hP
  obtain ⟨h1, h2⟩ := argBest_gt (numAt xs) (xs.size - 1)
  refine h h' tk _ t (old_keptT hk) ?_ fun a ha => ?_
  · rw [numAt_eq]; exact PySem.getD_mem (by rw [List.length_map, Array.length_toList]; omega)
  · obtain ⟨j, hj, rfl⟩ := mem_getD ha
    rw [List.length_map, Array.length_toList] at hj
    rw [← numAt_eq]; exact h2 j (by omega)
theorem min_rawT (hh : A.handled = none) (hl : s.heap.IsTuple l its.toArray) (hi : IntsAre its ns) (hne : 0 < ns.length)
    (h : ∀ h' tk M t', (∀ b o, s.heap.get? b = some o → h'.get? b = some o) → M ∈ ns → (∀ a, a ∈ ns → M ≤ a) → Q (.int M t') { s with heap := h', toks := tk }) : wpAny (model prog w) A (call (.builtin "min") [.ref l]) Q E s := by
  obtain ⟨xs, e⟩ := hi.allInts.items
  have hn : numsOf (intItems xs).toList = ns := by rw [← e]; exact hi.numsOf
  rw [nums_intItems] at hn
  subst hn
  rw [e] at hl
  have hsz : 0 < xs.size := by simpa using hne
  have hz : (intItems xs).size = xs.size := by simp [intItems]
  refine call_min_walk (iter_intT hl fun s2 e2 st hfp hlI => ?_)
  subst e2
  refine ⟨_, _, _, _, _, _, _, rfl, Walks.tuple (A := A.in1) hh _ l hlI (intItems xs), st, hfp, by omega, CmpOf.ints_lt (numAt xs) (fun _ _ => intItems_at), fun v h' tk hP hk => ?_⟩
  rw [hz] at hP
  obtain ⟨t, rfl⟩ := intItems_at hP
  obtain ⟨h1, h2⟩ := argBest_lt (numAt xs) (xs.size - 1)
  refine h h' tk _ t (old_keptT hk) ?_ fun a ha => ?_
  · rw [numAt_eq]; exact PySem.getD_mem (by rw [List.length_map, Array.length_toList]; omega)
  · obtain ⟨j, hj, rfl⟩ := mem_getD ha
    rw [List.length_map, Array.length_toList] at hj
    rw [← numAt_eq]; exact h2 j (by omega)
end
section
variable {X : Cx}
def rSumT (K : PySem.W.Frag) : List V → Hp → VK → Prop := fun vs H Q => ∃ (a : Addr) (ns : List Int), vs = [V.ref a] ∧ SqT K H a (ns.map V.int) ∧ Q (.int ns.sum) H
def rMaxT (K : PySem.W.Frag) : List V → Hp → VK → Prop := fun vs H Q => ∃ (a : Addr) (ns : List Int), vs = [V.ref a] ∧ SqT K H a (ns.map V.int) ∧ 0 < ns.length ∧ ∀ m, m ∈ ns → (∀ y, y ∈ ns → y ≤ m) → Q (.int m) H
def rMinT (K : PySem.W.Frag) : List V → Hp → VK → Prop := fun vs H Q => ∃ (a : Addr) (ns : List Int), vs = [V.ref a] ∧ SqT K H a (ns.map V.int) ∧ 0 < ns.length ∧ ∀ m, m ∈ ns → (∀ y, y ∈ ns → m ≤ y) → Q (.int m) H
theorem cr_sumT (hc : X.calm = true) : CallR X (.builtin "sum") (rSumT X.K) := by
  intro pins s σ H vs us Q I r h
  obtain ⟨a, ns, rfl, hs, q⟩ := h
  obtain ⟨its, rv, hl, _⟩ := I.tuple hs
  rw [Vals.ref1 r]
  exact sum_rawT (I.ok.hd hc) (show s.heap.IsTuple a its.toArray from hl) rv.ints fun h' tk t' hk => ⟨.int _, H, I.kept hk, ⟨_, rfl⟩, q⟩
theorem cr_maxT (hc : X.calm = true) : CallR X (.builtin "max") (rMaxT X.K) := by
  intro pins s σ H vs us Q I r h
  obtain ⟨a, ns, rfl, hs, hne, q⟩ := h
  obtain ⟨its, rv, hl, _⟩ := I.tuple hs
  rw [Vals.ref1 r]
  exact max_rawT (I.ok.hd hc) (show s.heap.IsTuple a its.toArray from hl) rv.ints hne fun h' tk m t' hk h1 h2 => ⟨.int _, H, I.kept hk, ⟨_, rfl⟩, q m h1 h2⟩
theorem cr_minT (hc : X.calm = true) : CallR X (.builtin "min") (rMinT X.K) := by
  intro pins s σ H vs us Q I r h
  obtain ⟨a, ns, rfl, hs, hne, q⟩ := h
  obtain ⟨its, rv, hl, _⟩ := I.tuple hs
  rw [Vals.ref1 r]
  exact min_rawT (I.ok.hd hc) (show s.heap.IsTuple a its.toArray from hl) rv.ints hne fun h' tk m t' hk h1 h2 => ⟨.int _, H, I.kept hk, ⟨_, rfl⟩, q m h1 h2⟩
end
variable {G : Gm}
def oSumT : List D → Option D
  | [.tup ds] => match intsD ds with
    | some ns => some (.int ns.sum)
    | none => none
  | _ => none
def oMaxT : List D → Option D
  | [.tup ds] => match intsD ds with
    | some ns => if ns = [] then none else some (.int (maxI ns))
    | none => none
  | _ => none
def oMinT : List D → Option D
  | [.tup ds] => match intsD ds with
    | some ns => if ns = [] then none else some (.int (minI ns))
    | none => none
  | _ => none
theorem cs_sumT : CallSim G (rSumT G.K) oSumT := by
  intro F H0 H S cs σ Q xs z vs I rb e q
  unfold oSumT at e
  split at e
  · split at e
    · rename_i ds ns e1
      cases e
      obtain ⟨v, rfl, h⟩ := rb.one
      unfold RB Rp at h
      obtain ⟨a, ws, rfl, h2, h3⟩ := h
      refine ⟨a, ns, rfl, ?_, q.here I rp_int⟩
      rw [← rps_intsD h3 e1]; exact sqt_same I.ex h2
    · cases e
  · cases e
theorem cs_maxT : CallSim G (rMaxT G.K) oMaxT := by
  intro F H0 H S cs σ Q xs z vs I rb e q
  unfold oMaxT at e
  split at e
  · split at e
    · rename_i ds ns e1
      split at e
      · cases e
      · rename_i hn
        cases e
        obtain ⟨v, rfl, h⟩ := rb.one
        unfold RB Rp at h
        obtain ⟨a, ws, rfl, h2, h3⟩ := h
        refine ⟨a, ns, rfl, ?_, pos_of_ne hn, fun m hm hle => ?_⟩
        · rw [← rps_intsD h3 e1]; exact sqt_same I.ex h2
        have : m = maxI ns := Int.le_antisymm (maxI_ge hm) (hle _ (maxI_mem hn))
        subst this
        exact q.here I rp_int
    · cases e
  · cases e
theorem cs_minT : CallSim G (rMinT G.K) oMinT := by
  intro F H0 H S cs σ Q xs z vs I rb e q
  unfold oMinT at e
  split at e
  · split at e
    · rename_i ds ns e1
      split at e
      · cases e
      · rename_i hn
        cases e
        obtain ⟨v, rfl, h⟩ := rb.one
        unfold RB Rp at h
        obtain ⟨a, ws, rfl, h2, h3⟩ := h
        refine ⟨a, ns, rfl, ?_, pos_of_ne hn, fun m hm hle => ?_⟩
        · rw [← rps_intsD h3 e1]; exact sqt_same I.ex h2
        have : m = minI ns := Int.le_antisymm (hle _ (minI_mem hn)) (minI_le hm)
        subst this
        exact q.here I rp_int
    · cases e
  · cases e
def orC (o o' : List D → Option D) (xs : List D) : Option D := match o xs with
  | some z => some z
  | none => o' xs
theorem CallSim.or {r r' : List V → Hp → VK → Prop} {o o' : List D → Option D} (h : CallSim G r o) (h' : CallSim G r' o') : CallSim G (fun xs H Q => r xs H Q ∨ r' xs H Q) (orC o o') := by
  intro F H0 H S cs σ Q xs z vs I rb e q
  unfold orC at e
  split at e
  · rename_i z' e1
    cases e
    exact .inl (h F H0 H S cs σ Q xs _ vs I rb e1 q)
  · exact .inr (h' F H0 H S cs σ Q xs _ vs I rb e q)
def oSum : List D → Option D := orC oSumL oSumT
def oMax : List D → Option D := orC oMax2 (orC oMaxL oMaxT)
def oMin : List D → Option D := orC oMin2 (orC oMinL oMinT)
def rSumA (K : PySem.W.Frag) : List V → Hp → VK → Prop := fun xs H Q => rSum K xs H Q ∨ rSumT K xs H Q
def rMaxA (K : PySem.W.Frag) : List V → Hp → VK → Prop := fun xs H Q => (∃ i j, xs = [.int i, .int j] ∧ Q (.int (if j > i then j else i)) H) ∨ (rMax K xs H Q ∨ rMaxT K xs H Q)
def rMinA (K : PySem.W.Frag) : List V → Hp → VK → Prop := fun xs H Q => (∃ i j, xs = [.int i, .int j] ∧ Q (.int (if j < i then j else i)) H) ∨ (rMin K xs H Q ∨ rMinT K xs H Q)
theorem cs_sum : CallSim G (rSumA G.K) oSum := CallSim.or cs_sumL cs_sumT
theorem cs_max : CallSim G (rMaxA G.K) oMax := CallSim.or cs_max2 (CallSim.or cs_maxL cs_maxT)
theorem cs_min : CallSim G (rMinA G.K) oMin := CallSim.or cs_min2 (CallSim.or cs_minL cs_minT)
theorem cr_sumA {X : Cx} (hc : X.calm = true) : CallR X (.builtin "sum") (rSumA X.K) := CallR.or (cr_sum hc) (cr_sumT hc)
theorem cr_maxA {X : Cx} (hc : X.calm = true) : CallR X (.builtin "max") (rMaxA X.K) := CallR.or (call_max2 hc) (CallR.or (cr_max hc) (cr_maxT hc))
theorem cr_minA {X : Cx} (hc : X.calm = true) : CallR X (.builtin "min") (rMinA X.K) := CallR.or (call_min2 hc) (CallR.or (cr_min hc) (cr_minT hc))

/-! ### enumerate -/
section
variable {prog : Program} {w : World} {A : Around} {E : Value → Shared → Prop} {s : Shared}
set_option maxHeartbeats 1000000 in
theorem meets_enumT (l : Addr) (items : Array Value) :
    Meets (Builtin.«enumerate.__new__» ⟨[.type "enumerate", .ref l], []⟩) (fun _ R s => s.heap.IsTuple l items ∧
      R (.ok (.ret (.ref (s.heap.push { cls := .type "tuple_iterator", data := .fields #[.ref l, .int 0 0] }).objs.size)))
        { s with heap := (s.heap.push { cls := .type "tuple_iterator", data := .fields #[.ref l, .int 0 0] }).push { cls := .type "enumerate", data := .fields #[.none, .bool false, .ref s.heap.objs.size, rawInt 0, .none, .none] } }) :=
  .of_wp fun prog w A R s h => by
    obtain ⟨hp, g, d, tk, os⟩ := s
    obtain ⟨hl, hr⟩ := h
    have hsub := sub_enumerate
    have ht : Heap.IsTuple (Shared.heap ⟨hp, g, d, tk, os⟩) l items := hl
    wp_walk using wpAny_pyIter_tuple ht
    refine wpAny_stack_any fun st => wpAny_pure ?_
    split
    · rename_i c _ _ _ _ _
      cases (c == Value.type "enumerate") <;> (wp_walk using wpAny_pyIter_tuple ht; exact ⟨_, rfl, hr⟩)
    · wp_walk using wpAny_pyIter_tuple ht
      exact ⟨_, rfl, hr⟩
theorem call_enumT {l : Addr} {items : Array Value} {Q : Value → Shared → Prop} (hL : s.heap.IsTuple l items)
    (h : ∀ h', IsEnum h' (s.heap.objs.size + 1) s.heap.objs.size 0 .none → h'.IsTupleIter s.heap.objs.size l 0 → (∀ b o, s.heap.get? b = some o → h'.get? b = some o) → Q (.ref (s.heap.objs.size + 1)) { s with heap := h' }) :
    wpAny (model prog w) A (call (.type "enumerate") [.ref l]) Q E s := by
  refine callType_new F.called_enumerate (by decide) (F.typeCall_enumerate_1 _) (F.newCall_enumerate_1 _) (fun obj => F.args_object_init_2 obj _) F.entry_enumerate_new (meets_enumT l items) ⟨hL, ?_⟩
  have hz : (s.heap.push { cls := .type "tuple_iterator", data := .fields #[.ref l, .int 0 0] }).objs.size = s.heap.objs.size + 1 := Heap.size_push ..
  show _ ∧ _
  rw [hz]
  have he : IsEnum ((s.heap.push { cls := .type "tuple_iterator", data := .fields #[.ref l, .int 0 0] }).push { cls := .type "enumerate", data := .fields #[.none, .bool false, .ref s.heap.objs.size, rawInt 0, .none, .none] }) (s.heap.objs.size + 1) s.heap.objs.size 0 .none := by
    have z := Heap.get?_push_size (s.heap.push { cls := .type "tuple_iterator", data := .fields #[.ref l, .int 0 0] }) (o := { cls := .type "enumerate", data := .fields #[.none, .bool false, .ref s.heap.objs.size, rawInt 0, .none, .none] }) rfl
    rw [hz] at z; exact z
  exact ⟨⟨_, he, rfl⟩, h _ he ⟨_, Heap.get?_push_of_some _ (Heap.get?_push_size _ rfl), rfl, rfl⟩ fun b o x => Heap.get?_push_of_some _ (Heap.get?_push_of_some _ x)⟩
end
/-- the tuple at a, each item in a new pair -/
def IteT (K : PySem.W.Frag) (a : Addr) : It :=
  ⟨fun i H => ∃ (xs : List V) (x : V), SqT K H a xs ∧ xs[i]? = some x, fun i H v H' => ∃ T x, v = .ref T ∧ H T = none ∧ H' = upd H T (.tup [.int (i : Nat), x]) ∧ ∀ xs, SqT K H a xs → xs[i]? = some x, fun i H => ∃ xs : List V, SqT K H a xs ∧ i = xs.length⟩
theorem tup_ne_iter {h : Heap} {a it : Addr} {i : Nat} {items : Array Value} (h1 : h.IsTuple a items) (h2 : h.IsTupleIter it a i) : a ≠ it := by
  intro e
  obtain ⟨o, ho, hc, _⟩ := h1
  obtain ⟨o', ho', hc', _⟩ := h2
  rw [e, ho'] at ho
  cases ho
  rw [hc'] at hc
  exact absurd hc (by decide)
theorem turn_enumT {P : Program} {w : World} {K : PySem.W.Frag} {elts : List Expr} {kk : Nat} {tpos : Pos} (a e it : Addr) (hae : a ≠ e) :
    Turn P w K (.Tuple elts kk tpos) (IteT K a) [e, it] e (fun i h => (∃ old, IsEnum h e it ((i : Nat) : Int) old) ∧ h.IsTupleIter it a i ∧ e ≠ it) where
  mem := by simp
  obj := fun i h st b hb => by
    obtain ⟨⟨old, he⟩, ⟨o, ho, hc, hd⟩, _⟩ := st
    have e' : b = e ∨ b = it := by simpa using hb
    rcases e' with z | z
    · rw [z]; exact ⟨_, he, fun v q => nomatch q⟩
    · rw [z]; exact ⟨o, ho, fun v q => by rw [hd] at q; cases q⟩
  keep := fun i h h' st k => let ⟨⟨old, he⟩, hi, hne⟩ := st; ⟨⟨old, k e (by simp) _ he⟩, hi.at fun o q => k it (by simp) o q, hne⟩
  item := by
    intro X hP hw hK hc i pins s σ H E I hf st hg
    subst hP hw hK
    obtain ⟨⟨old, he⟩, hit, hne⟩ := st
    obtain ⟨xs, x, hq, hx⟩ := hg
    obtain ⟨its, rv, p, hz⟩ := I.tuple hq
    have pt : s.heap.IsTuple a its.toArray := p
    obtain ⟨u, hu, ru⟩ := rv.get hx
    have hel : e < s.heap.objs.size := Heap.lt_size he
    have hil : it < s.heap.objs.size := by obtain ⟨_, q, _⟩ := hit; exact Heap.lt_size q
    have hai := tup_ne_iter pt hit
    have hlt : i < its.toArray.size := by
      have := (List.getElem?_eq_some_iff.mp hu).1
      simpa using this
    refine wpAny_pyNext_enum_itemD (Draws.tuple (A := X.A.in1) (I.ok.hd hc) it a hai its.toArray) he ⟨hit, pt⟩ hlt hne (fun hm => ?_) fun v h' tk hv ho hst hT hsz hk => ?_
    · have e' : e = it ∨ e = a := by simpa using hm
      rcases e' with z | z
      · exact hne z
      · exact hae z.symm
    have hvu : v = u := by
      have : its[i]? = some v := by simpa using hv
      rw [hu] at this; exact (Option.some.inj this).symm
    subst hvu
    refine ⟨_, rfl, wpAny_letOwnedTupleGo_enum (s := { s with heap := h', toks := tk + 1 }) ho fun h'' he' sb => ?_⟩
    have hT2 : h''.get? s.heap.objs.size = some { cls := .type "tuple", data := .seq #[.int i tk, v] } := (sb.2 _ (Nat.ne_of_gt hel)).trans hT
    have new : ObjOk X.prog X.w (upd H s.heap.objs.size (.tup [.int (i : Nat), x])) h'' s.heap.objs.size (.tup [.int (i : Nat), x]) :=
      ⟨by show 2 ≤ sizeLine; decide, [.int i tk, v], .cons ⟨_, rfl⟩ (.cons ru .nil), ⟨_, hT2, rfl, _, rfl⟩⟩
    have I1 : Inv X pins σ (upd H s.heap.objs.size (.tup [.int (i : Nat), x])) { s with heap := h'', toks := tk + 1 } :=
      I.turnedNew (ch := [e, it]) (fun b ob hb q => (sb.2 b (fun z => hb (by simp [z]))).trans (hk b ob (fun z => hb (by simp [z])) (fun z => hb (by simp [z])) q)) hf (Nat.le_refl _) new
    refine ⟨.ref s.heap.objs.size, _, I1, rfl, ⟨_, x, rfl, I.hok.fresh (Nat.le_refl _), rfl, fun ys hy => by rw [I.tuple_inj hy hq]; exact hx⟩, ⟨⟨v, ?_⟩, hst.1.at fun o q => (sb.2 it (Ne.symm hne)).trans q, hne⟩, fun b hb => ?_⟩
    · have e1 : ((i + 1 : Nat) : Int) = (i : Int) + 1 := by omega
      rw [e1]; exact he'
    · have hb' : b < s.heap.objs.size := by
        have e' : b = e ∨ b = it := by simpa using hb
        rcases e' with z | z <;> (rw [z]; assumption)
      rw [upd_ne (Nat.ne_of_lt hb')]
      exact (hf b hb).1
  done := by
    intro X hP hw hK hc i pins s σ H E I hf st hg
    subst hP hw hK
    obtain ⟨⟨old, he⟩, hit, hne⟩ := st
    obtain ⟨xs, hq, hx⟩ := hg
    obtain ⟨its, rv, p, hz⟩ := I.tuple hq
    have pt : s.heap.IsTuple a its.toArray := p
    obtain ⟨f0, f1, f2, f3, f4, f5⟩ := hf it (by simp)
    have hl := rv.length
    have hai := tup_ne_iter pt hit
    have hi : i = its.toArray.size := by rw [List.size_toArray, ← hl]; exact hx
    exact wpAny_pyNext_enum_endD (Draws.tuple (A := X.A.in1) (I.ok.hd hc) it a hai its.toArray) he ⟨by rw [← hi]; exact hit, pt⟩ fun h' eb => ⟨rfl, I.turned (t' := s.toks) (fun b o hb q => eb b o hb q) f0 f1 f3 f4 f5⟩
  self := fun A i s Q E st h => let ⟨⟨_, he⟩, _⟩ := st; wpAny_pyIter_enum he h
def iEnumT (K : PySem.W.Frag) (ta : TA) : TI := fun σ H R => ta σ H fun vs H1 => ∃ a xs, vs = [.ref a] ∧ SqT K H1 a xs ∧ R (IteT K a) H1
theorem pi_enumT {X : Cx} {e : Expr} {ta : TA} {p pos tpos : Pos} {elts : List Expr} {kk : Nat} (hg : Gl X "enumerate") (hm : X.mg "enumerate" = none) (ha : PA X [e] ta) (hs : starEach [e] X.env = [(false, eval e X.env)] := by rfl) :
    PI X (.Tuple elts kk tpos) (.Call (.Name "enumerate" p) [e] [] pos) (iEnumT X.K ta) := by
  refine ⟨fun pins s σ H R I h => ?_⟩
  refine Call_ (ld_blt I hg hm boot_enumerate (PyProof.Rows.callWith_type1 (thn (ha.run pos pins s σ H _ I h) fun us s1 ⟨vs, H1, I1, r1, q1⟩ => ?_) hs rfl))
  obtain ⟨a, xs, ex, hq, q⟩ := q1
  subst ex
  cases r1 with
  | cons r rr =>
    cases rr
    cases r
    obtain ⟨its, rv, p', hz⟩ := I1.tuple hq
    have pt : s1.heap.IsTuple a its.toArray := p'
    have hal : a < s1.heap.objs.size := by obtain ⟨_, q, _⟩ := pt; exact Heap.lt_size q
    refine call_enumT pt fun h' he hit hk => wpAny_pyIter_enum he ?_
    have I2 : Inv X pins σ H1 { s1 with heap := h' } := I1.kept (t' := s1.toks) hk
    refine ⟨s1.heap.objs.size + 1, [s1.heap.objs.size + 1, s1.heap.objs.size], _, _, H1, rfl, I2, turn_enumT a (s1.heap.objs.size + 1) s1.heap.objs.size (Nat.ne_of_lt (Nat.lt_succ_of_lt hal)), ⟨⟨.none, he⟩, hit, Nat.succ_ne_self _⟩, fun b hb => ?_, q⟩
    have e' : b = s1.heap.objs.size + 1 ∨ b = s1.heap.objs.size := by simpa using hb
    have hle : s1.heap.objs.size ≤ b := by rcases e' with z | z <;> (rw [z]; omega)
    exact I1.fpOk hle (I1.hok.fresh hle)
/-- lists and tuples, with their places -/
def enumD (i : Nat) : List D → List D
  | [] => []
  | d :: r => .tup [.int (i : Int), d] :: enumD (i + 1) r
theorem enumD_len : ∀ (i : Nat) (ds : List D), (enumD i ds).length = ds.length
  | _, [] => rfl
  | i, d :: r => by unfold enumD; rw [List.length_cons, List.length_cons, enumD_len]
theorem enumD_get : ∀ {i j : Nat} {ds : List D} {d : D}, ds[j]? = some d → (enumD i ds)[j]? = some (.tup [.int ((i + j : Nat) : Int), d])
  | _, _, [], _, h => by simp at h
  | i, 0, d :: r, x, h => by simp at h; subst h; rfl
  | i, j + 1, d :: r, x, h => by
    have h' : r[j]? = some x := by simpa using h
    have := enumD_get (i := i + 1) h'
    show (enumD (i + 1) r)[j]? = _
    rw [this, show i + 1 + j = i + (j + 1) by omega]
def diEnum (f : DA) : DF := fun S cs => match f S cs with
  | some ([.c (.lst xs)], c1) => some (enumD 0 xs, c1)
  | some ([.c (.tup xs)], c1) => some (enumD 0 xs, c1)
  | _ => none
def iEnumA (K : PySem.W.Frag) (ta : TA) : TI := fun σ H R => iEnum K ta σ H R ∨ iEnumT K ta σ H R
theorem jok_enum {H : Hp} {a : Addr} {vs : List V} {ds : List D} (h : H a = some (.lst vs)) (r : Rps G H ds vs) : JOk G (Ite G.K a) (enumD 0 ds) H := by
  have hl := enumD_len 0 ds
  have l1 := r.len
  refine ⟨fun i H0 H1 s1 s2 hi => ?_, fun i H0 H1 s1 s2 hi => ?_, fun i H0 H1 x H' s1 s2 hi y => ?_⟩
  · have e1 : i < ds.length := by omega
    obtain ⟨v, q1, _⟩ := r.get (List.getElem?_eq_getElem e1)
    exact ⟨vs, v, .inl (.inl (s2 _ _ (s1 _ _ h))), q1⟩
  · exact ⟨vs, .inl (.inl (s2 _ _ (s1 _ _ h))), by omega⟩
  · obtain ⟨T, x1, rfl, nT, rfl, f1⟩ := y
    have e1 : i < ds.length := by omega
    obtain ⟨v, q1, p1⟩ := r.get (List.getElem?_eq_getElem e1)
    have z1 := f1 vs (.inl (.inl (s2 _ _ (s1 _ _ h))))
    rw [q1] at z1; cases z1
    refine ⟨_, _, enumD_get (List.getElem?_eq_getElem e1), Gr.new s2 _ nT, ?_⟩
    have sn := same_new s2 (.tup [.int (i : Nat), x1]) nT
    rw [Nat.zero_add]
    unfold Rp
    exact ⟨T, [.int (i : Nat), x1], rfl, .inl (.inl upd_same), Rps.cons rp_int (Rps.cons (Rp.mono (s1.trans sn) _ _ p1) Rps.nil)⟩
theorem jok_enumT {H : Hp} {a : Addr} {vs : List V} {ds : List D} (h : SqT G.K H a vs) (r : Rps G H ds vs) : JOk G (IteT G.K a) (enumD 0 ds) H := by
  have hl := enumD_len 0 ds
  have l1 := r.len
  refine ⟨fun i H0 H1 s1 s2 hi => ?_, fun i H0 H1 s1 s2 hi => ?_, fun i H0 H1 x H' s1 s2 hi y => ?_⟩
  · have e1 : i < ds.length := by omega
    obtain ⟨v, q1, _⟩ := r.get (List.getElem?_eq_getElem e1)
    exact ⟨vs, v, sqt_same (s1.trans s2) h, q1⟩
  · exact ⟨vs, sqt_same (s1.trans s2) h, by omega⟩
  · obtain ⟨T, x1, rfl, nT, rfl, f1⟩ := y
    have e1 : i < ds.length := by omega
    obtain ⟨v, q1, p1⟩ := r.get (List.getElem?_eq_getElem e1)
    have z1 := f1 vs (sqt_same (s1.trans s2) h)
    rw [q1] at z1; cases z1
    refine ⟨_, _, enumD_get (List.getElem?_eq_getElem e1), Gr.new s2 _ nT, ?_⟩
    have sn := same_new s2 (.tup [.int (i : Nat), x1]) nT
    rw [Nat.zero_add]
    unfold Rp
    exact ⟨T, [.int (i : Nat), x1], rfl, .inl (.inl upd_same), Rps.cons rp_int (Rps.cons (Rp.mono (s1.trans sn) _ _ p1) Rps.nil)⟩
theorem sim_enum {t : TA} {f : DA} (h : SimA G t f) : SimI G (iEnumA G.K t) (diEnum f) := by
  refine ⟨fun F H0 H S cs σ R I ds cs' e q => ?_⟩
  unfold diEnum at e
  split at e
  · rename_i xs c1 e1
    cases e
    refine .inl (h.run F H0 H S cs σ _ I _ _ e1 fun vs Ha Hb s1 I1 r1 => ?_)
    obtain ⟨v, w, rfl, h1, rfl⟩ := r1
    have h1' : Rp G Ha (.lst xs) v := h1
    unfold Rp at h1'
    obtain ⟨a, us, rfl, a2, a3⟩ := h1'
    exact ⟨a, us, rfl, .inl (.inl (I1.ex _ _ a2)), q _ _ _ s1 I1 (jok_enum a2 a3)⟩
  · rename_i xs c1 e1
    cases e
    refine .inr (h.run F H0 H S cs σ _ I _ _ e1 fun vs Ha Hb s1 I1 r1 => ?_)
    obtain ⟨v, w, rfl, h1, rfl⟩ := r1
    have h1' : Rp G Ha (.tup xs) v := h1
    unfold Rp at h1'
    obtain ⟨a, us, rfl, a2, a3⟩ := h1'
    exact ⟨a, us, rfl, sqt_same I1.ex a2, q _ _ _ s1 I1 (jok_enumT a2 a3)⟩
  · cases e
theorem pi_enumA {X : Cx} {e : Expr} {ta : TA} {p pos tpos : Pos} {elts : List Expr} {kk : Nat} (hg : Gl X "enumerate") (hm : X.mg "enumerate" = none) (ha : PA X [e] ta) (hs : starEach [e] X.env = [(false, eval e X.env)] := by rfl) :
    PI X (.Tuple elts kk tpos) (.Call (.Name "enumerate" p) [e] [] pos) (iEnumA X.K ta) := by
  refine ⟨fun pins s σ H R I h => ?_⟩
  rcases h with h | h
  · exact (pi_enum hg hm ha hs).run pins s σ H R I h
  · exact (pi_enumT hg hm ha hs).run pins s σ H R I h
theorem di_enum {X : Cx} {K : PySem.W.Frag} {cA : Nat → Addr} {a : Expr} {tr : TA} {h : DA} {pp pos tpos : Pos} {elts : List Expr} {kk : Nat} (hm : X.mg "enumerate" = none) (ha : DArg X K cA [a] tr h) (hg : Gl X "enumerate" := by rfl) (hs : starEach [a] X.env = [(false, eval a X.env)] := by rfl) (hK : X.K = K := by rfl) :
    DIter X K cA (.Tuple elts kk tpos) (.Call (.Name "enumerate" pp) [a] [] pos) (iEnumA K tr) (diEnum h) := by
  subst hK
  exact ⟨pi_enumA hg hm ha.pa hs, sim_enum ha.sim⟩
/-! ### xs.index(y), flat items -/
def toV : D → Option V
  | .non => some .non
  | .bl b => some (.bl b)
  | .int i => some (.int i)
  | .str x => some (.str x)
  | _ => none
def toVs : List D → Option (List V)
  | [] => some []
  | d :: r => match toV d with
    | some v => match toVs r with
      | some vs => some (v :: vs)
      | none => none
    | none => none
theorem toV_rp {H : Hp} {d : D} {v u : V} (e : toV d = some v) (h : Rp G H d u) : u = v ∧ flatV v = true := by
  cases d <;> first | (cases e; done) | (cases e; unfold Rp at h; exact ⟨h, rfl⟩)
theorem toVs_rps {H : Hp} : ∀ {ds : List D} {vs us : List V}, toVs ds = some vs → Rps G H ds us → us = vs ∧ vs.all flatV = true
  | [], vs, us, e, h => by cases e; unfold Rps at h; exact ⟨h, rfl⟩
  | d :: r, vs, us, e, h => by
    unfold Rps at h
    obtain ⟨v, w, rfl, h1, h2⟩ := h
    unfold toVs at e
    split at e
    · rename_i v' e1
      split at e
      · rename_i vs' e2
        cases e
        obtain ⟨rfl, f1⟩ := toV_rp e1 h1
        obtain ⟨rfl, f2⟩ := toVs_rps e2 h2
        exact ⟨rfl, by simp [f1, f2]⟩
      · cases e
    · cases e
def idxV (y : V) : List V → Option Nat
  | [] => none
  | z :: r => if eqV z y = true then some 0 else (match idxV y r with
    | some j => some (j + 1)
    | none => none)
theorem idxV_ok {y : V} : ∀ {vs : List V} {j : Nat}, idxV y vs = some j → ∃ z, vs[j]? = some z ∧ eqV z y = true ∧ ∀ (m : Nat) (z' : V), m < j → vs[m]? = some z' → eqV z' y = false
  | [], _, e => by cases e
  | z :: r, j, e => by
    unfold idxV at e
    split at e
    · rename_i h
      cases e
      exact ⟨z, rfl, h, fun m z' hm => absurd hm (Nat.not_lt_zero _)⟩
    · rename_i h
      split at e
      · rename_i j' e1
        cases e
        obtain ⟨w, h1, h2, h3⟩ := idxV_ok e1
        refine ⟨w, by simpa using h1, h2, fun m z' hm ez => ?_⟩
        cases m with
        | zero => simp at ez; subst ez; simpa using h
        | succ m => exact h3 m z' (by omega) (by simpa using ez)
      · cases e
def dIdx (f g : DE) : DE := fun S cs => match f S cs with
  | some (.c (.lst ds), c1) => match g S c1 with
    | some (.c y, c2) => match toVs ds with
      | some vs => match toV y with
        | some yv => match idxV yv vs with
          | some j => some (.c (.int (j : Int)), c2)
          | none => none
        | none => none
      | none => none
    | _ => none
  | _ => none
theorem sim_idx {to te : TE} {f g : DE} (ha : SimE G to f) (hb : SimE G te g) : SimE G (tBM G.K "list" (rIndex G.K) to (tCons te tNil)) (dIdx f g) := by
  refine ⟨fun F H0 H S cs σ Q I r cs' e q => ?_⟩
  unfold dIdx at e
  split at e
  · rename_i ds c1 e1
    split at e
    · rename_i y c2 e2
      split at e
      · rename_i vs e4
        split at e
        · rename_i yv e5
          split at e
          · rename_i j e6
            cases e
            refine ha.run F H0 H S cs σ _ I _ _ e1 fun v Ha Hb s1 I1 q1 => ?_
            have q1' : Rp G Ha (.lst ds) v := q1
            unfold Rp at q1'
            obtain ⟨p, us, rfl, h2, h3⟩ := q1'
            refine ⟨.inl ⟨rfl, us, .inl (.inl (I1.ex _ _ h2))⟩, hb.run F Ha Hb S c1 σ _ I1 _ _ e2 fun w Hc Hd s2 I2 q2 => ?_⟩
            obtain ⟨rfl, f1⟩ := toVs_rps e4 h3
            obtain ⟨rfl, f2⟩ := toV_rp e5 q2
            obtain ⟨z, z1, z2, z3⟩ := idxV_ok e6
            exact ⟨p, us, w, j, z, rfl, rfl, .inl (.inl (I2.ex _ _ (s2 _ _ h2))), f2, f1, z1, z2, z3, (q.mono (s1.trans s2)).here I2 rp_int⟩
          · cases e
        · cases e
      · cases e
    · cases e
  · cases e
theorem dx_idx {X : Cx} {K : PySem.W.Frag} {cA : Nat → Addr} {o e : Expr} {to te : TE} {f g : DE} {apos cpos : Pos} (ho : DExp X K cA o to f) (he : DExp X K cA e te g)
    (hbase : attributeBase o "index" X.env (eval o X.env) = eval o X.env := by rfl)
    (hfew : ((backTo cpos (starEach (e :: []) X.env)).all (fun x => !x.1) && (backToKw cpos (keywordEach [] X.env)).all (fun x => x.1.isSome)
      && decide ((e :: ([] : List Expr)).length + ([] : List Keyword).length + (if ([] : List Keyword).isEmpty then 0 else 1) < 30)) = true := by rfl)
    (hline : (apos.endLine == cpos.line) = true := by rfl) (hs : starEach (e :: []) X.env = (false, eval e X.env) :: starEach [] X.env := by rfl) (hplain : (backTo cpos (starEach [] X.env)).any (·.1) = false := by rfl) (hK : X.K = K := by rfl) :
    DExp X K cA (.Call (.Attribute o "index" apos) [e] [] cpos) (tBM K "list" (rIndex K) to (tCons te tNil)) (dIdx f g) := by
  subst hK
  exact ⟨pe_bm PySem.F.plainAttrs_list PySem.F.slot_list_index PySem.F.type_list_index mt_index ho.pe (pa_cons he.pe pa_nil hs) hbase hfew hline hs hplain, sim_idx ho.sim he.sim⟩
theorem ds_append {X : Cx} {K : PySem.W.Frag} {cA : Nat → Addr} {e : Expr} {te : TE} {f : DE} {pos : Pos} (i : Nat) {y : Str} {pos' apos cpos : Pos} (he : DExp X K cA e te f) (hN : X.N[i]? = some y := by rfl) (hv : Vis X.env.scope y := by first | exact Or.inl rfl | exact Or.inr (Or.inl rfl) | exact Or.inr (Or.inr rfl)) (hd : (y == ("__debug__" : Str)) = false := by decide)
    (hcd : (y == ("__classdict__" : Str)) = false := by decide)
    (hbase : attributeBase (.Name y pos') "append" X.env (eval (.Name y pos') X.env) = eval (.Name y pos') X.env := by rfl)
    (hfew : ((backTo cpos (starEach (e :: []) X.env)).all (fun x => !x.1) && (backToKw cpos (keywordEach [] X.env)).all (fun x => x.1.isSome)
      && decide ((e :: ([] : List Expr)).length + ([] : List Keyword).length + (if ([] : List Keyword).isEmpty then 0 else 1) < 30)) = true := by rfl)
    (hline : (apos.endLine == cpos.line) = true := by rfl) (hs : starEach (e :: []) X.env = (false, eval e X.env) :: starEach [] X.env := by rfl) (hplain : (backTo cpos (starEach [] X.env)).any (·.1) = false := by rfl)
    (hsw : swapsWith (.Call (.Attribute (.Name y pos') "append" apos) [e] [] cpos) none pos.line X.env = pure false := by rfl) (hK : X.K = K := by rfl) : DStm X K cA (.Expr (.Call (.Attribute (.Name y pos') "append" apos) [e] [] cpos) pos) (tDrop (tBM K "list" rAppend (tVar i) (tCons te tNil))) (dsApp i f) := by
  subst hK
  exact ds_app i he hN hv hd hcd (pe_bm PySem.F.plainAttrs_list PySem.F.slot_list_append PySem.F.type_list_append mt_append (pe_var hN hv hd hcd) (pa_cons he.pe pa_nil hs) hbase hfew hline hs hplain) hsw
/-! ### the built-ins, by name -/
section
variable {X : Cx} {K : PySem.W.Frag} {cA : Nat → Addr} {e : Expr} {es : List Expr} {tr : TA} {h : DA} {pp pos : Pos}
theorem bb_len : bootBuiltins "len" = some (.builtin "len") := by decide +kernel
theorem dx_len (hm : X.mg "len" = none) (ha : DArg X K cA (e :: es) tr h) (hg : Gl X "len" := by rfl) (he : starEach (e :: es) X.env = (false, eval e X.env) :: starEach es X.env := by rfl) (hpl : ((backTo pos (starEach es X.env)).any fun x => x.1) = false := by rfl) (hK : X.K = K := by rfl) : DExp X K cA (.Call (.Name "len" pp) (e :: es) [] pos) (tCB (rLenA K) tr) (dCB oLen h) := by
  subst hK
  exact dx_cb call_len cs_len hm bb_len ha hg (by decide) (by decide) he hpl
theorem bb_abs : bootBuiltins "abs" = some (.builtin "abs") := by decide +kernel
theorem dx_abs (hm : X.mg "abs" = none) (ha : DArg X K cA (e :: es) tr h) (hg : Gl X "abs" := by rfl) (he : starEach (e :: es) X.env = (false, eval e X.env) :: starEach es X.env := by rfl) (hpl : ((backTo pos (starEach es X.env)).any fun x => x.1) = false := by rfl) : DExp X K cA (.Call (.Name "abs" pp) (e :: es) [] pos) (tCB (fun xs H Q => ∃ i, xs = [.int i] ∧ Q (.int (if i < 0 then -i else i)) H) tr) (dCB oAbs h) := dx_cb call_abs cs_abs hm bb_abs ha hg (by decide) (by decide) he hpl
theorem bb_all : bootBuiltins "all" = some (.builtin "all") := by decide +kernel
theorem dx_all (hc : X.calm = true) (hm : X.mg "all" = none) (ha : DArg X K cA (e :: es) tr h) (hg : Gl X "all" := by rfl) (he : starEach (e :: es) X.env = (false, eval e X.env) :: starEach es X.env := by rfl) (hpl : ((backTo pos (starEach es X.env)).any fun x => x.1) = false := by rfl) (hK : X.K = K := by rfl) : DExp X K cA (.Call (.Name "all" pp) (e :: es) [] pos) (tCB (rAll K) tr) (dCB oAll h) := by
  subst hK
  exact dx_cb (cr_all hc) cs_all hm bb_all ha hg (by decide) (by decide) he hpl
theorem bb_any : bootBuiltins "any" = some (.builtin "any") := by decide +kernel
theorem dx_any (hc : X.calm = true) (hm : X.mg "any" = none) (ha : DArg X K cA (e :: es) tr h) (hg : Gl X "any" := by rfl) (he : starEach (e :: es) X.env = (false, eval e X.env) :: starEach es X.env := by rfl) (hpl : ((backTo pos (starEach es X.env)).any fun x => x.1) = false := by rfl) (hK : X.K = K := by rfl) : DExp X K cA (.Call (.Name "any" pp) (e :: es) [] pos) (tCB (rAny K) tr) (dCB oAny h) := by
  subst hK
  exact dx_cb (cr_any hc) cs_any hm bb_any ha hg (by decide) (by decide) he hpl
theorem bb_sum : bootBuiltins "sum" = some (.builtin "sum") := by decide +kernel
theorem dx_sum (hc : X.calm = true) (hm : X.mg "sum" = none) (ha : DArg X K cA (e :: es) tr h) (hg : Gl X "sum" := by rfl) (he : starEach (e :: es) X.env = (false, eval e X.env) :: starEach es X.env := by rfl) (hpl : ((backTo pos (starEach es X.env)).any fun x => x.1) = false := by rfl) (hK : X.K = K := by rfl) : DExp X K cA (.Call (.Name "sum" pp) (e :: es) [] pos) (tCB (rSumA K) tr) (dCB oSum h) := by
  subst hK
  exact dx_cb (cr_sumA hc) cs_sum hm bb_sum ha hg (by decide) (by decide) he hpl
theorem bb_max : bootBuiltins "max" = some (.builtin "max") := by decide +kernel
theorem dx_max (hc : X.calm = true) (hm : X.mg "max" = none) (ha : DArg X K cA (e :: es) tr h) (hg : Gl X "max" := by rfl) (he : starEach (e :: es) X.env = (false, eval e X.env) :: starEach es X.env := by rfl) (hpl : ((backTo pos (starEach es X.env)).any fun x => x.1) = false := by rfl) (hK : X.K = K := by rfl) : DExp X K cA (.Call (.Name "max" pp) (e :: es) [] pos) (tCB (rMaxA K) tr) (dCB oMax h) := by
  subst hK
  exact dx_cb (cr_maxA hc) cs_max hm bb_max ha hg (by decide) (by decide) he hpl
theorem bb_min : bootBuiltins "min" = some (.builtin "min") := by decide +kernel
theorem dx_min (hc : X.calm = true) (hm : X.mg "min" = none) (ha : DArg X K cA (e :: es) tr h) (hg : Gl X "min" := by rfl) (he : starEach (e :: es) X.env = (false, eval e X.env) :: starEach es X.env := by rfl) (hpl : ((backTo pos (starEach es X.env)).any fun x => x.1) = false := by rfl) (hK : X.K = K := by rfl) : DExp X K cA (.Call (.Name "min" pp) (e :: es) [] pos) (tCB (rMinA K) tr) (dCB oMin h) := by
  subst hK
  exact dx_cb (cr_minA hc) cs_min hm bb_min ha hg (by decide) (by decide) he hpl
theorem bb_int : bootBuiltins "int" = some (.type "int") := by decide +kernel
theorem dx_toint (hm : X.mg "int" = none) (ha : DArg X K cA (e :: es) tr h) (hg : Gl X "int" := by rfl) (he : starEach (e :: es) X.env = (false, eval e X.env) :: starEach es X.env := by rfl) (hpl : ((backTo pos (starEach es X.env)).any fun x => x.1) = false := by rfl) : DExp X K cA (.Call (.Name "int" pp) (e :: es) [] pos) (tCB (fun xs H Q => (∃ i, xs = [.int i] ∧ Q (.int i) H) ∨ ∃ k, xs = [.bl k] ∧ Q (.int (if k then 1 else 0)) H) tr) (dCB oToInt h) := dx_ct call_int1 cs_int hm bb_int ha hg (by decide) (by decide) he hpl
theorem bb_tuple : bootBuiltins "tuple" = some (.type "tuple") := by decide +kernel
theorem dx_totup (hm : X.mg "tuple" = none) (ha : DArg X K cA (e :: es) tr h) (hg : Gl X "tuple" := by rfl) (he : starEach (e :: es) X.env = (false, eval e X.env) :: starEach es X.env := by rfl) (hpl : ((backTo pos (starEach es X.env)).any fun x => x.1) = false := by rfl) (hK : X.K = K := by rfl) : DExp X K cA (.Call (.Name "tuple" pp) (e :: es) [] pos) (tCB (rTupleA K) tr) (dCB oTuple h) := by
  subst hK
  exact dx_ct call_tuple_of cs_tuple hm bb_tuple ha hg (by decide) (by decide) he hpl
theorem bb_list : bootBuiltins "list" = some (.type "list") := by decide +kernel
theorem df_list (hm : X.mg "list" = none) (ha : DArg X K cA (e :: es) tr h) (hg : Gl X "list" := by rfl) (he : starEach (e :: es) X.env = (false, eval e X.env) :: starEach es X.env := by rfl) (hpl : ((backTo pos (starEach es X.env)).any fun x => x.1) = false := by rfl) (hK : X.K = K := by rfl) : DFsh X K cA (.Call (.Name "list" pp) (e :: es) [] pos) (tCB (rListA K) tr) (dCBF oList h) := by
  subst hK
  exact df_ct call_list_of cs_list hm bb_list ha hg (by decide) (by decide) he hpl
theorem bb_bool : bootBuiltins "bool" = some (.type "bool") := by decide +kernel
theorem bb_str : bootBuiltins "str" = some (.type "str") := by decide +kernel
end
end DL

set_option autoImplicit true
set_option relaxedAutoImplicit true
set_option Elab.async false
set_option linter.all false
set_option autoImplicit false
set_option maxRecDepth 100000
set_option maxHeartbeats 4000000
/-! DL, Y: chained comparisons, membership, tuples' parts, texts. -/
namespace DL
open PySem PySem.Spec PyProof.Rows L2
variable {G : Gm}
/-- a op b op' c, b asked once -/
def dChain (op op' : D → D → Option D) (f g h : DE) : DE := fun S cs => match f S cs with
  | some (.c x, c1) => match g S c1 with
    | some (.c y, c2) => match op x y with
      | some (.bl true) => match h S c2 with
        | some (.c w, c3) => match op' y w with
          | some z => some (.c z, c3)
          | none => none
        | _ => none
      | some (.bl false) => some (.c (.bl false), c2)
      | _ => none
    | _ => none
  | _ => none
theorem sim_chain {r r' : R2} {op op' : D → D → Option D} {ta tb tc : TE} {f g h : DE} (ho : OpSim G r op) (ho' : OpSim G r' op') (ha : SimE G ta f) (hb : SimE G tb g) (hc : SimE G tc h) : SimE G (tChain r r' ta tb tc) (dChain op op' f g h) := by
  refine ⟨fun F H0 H S cs σ Q I r cs' e q => ?_⟩
  unfold dChain at e
  split at e
  · rename_i x c1 e1
    split at e
    · rename_i y c2 e2
      refine ha.run F H0 H S cs σ _ I _ _ e1 fun v Ha Hb s1 I1 r1 => ?_
      refine hb.run F Ha Hb S c1 σ _ I1 _ _ e2 fun w Hc Hd s2 I2 r2 => ?_
      split at e
      · rename_i e3
        refine ho F Hc Hd S c2 σ _ x y _ v w I2 (Rp.mono s2 _ _ r1) r2 e3 fun u He Hf s3 I3 r3 => ?_
        have r3' : Rp G He (.bl true) u := r3
        unfold Rp at r3'
        refine ⟨true, r3', ?_⟩
        rw [if_pos rfl]
        split at e
        · rename_i w' c3 e4
          split at e
          · rename_i z e5
            cases e
            refine hc.run F He Hf S c2 σ _ I3 _ _ e4 fun t Hg Hh s4 I4 r4 => ?_
            exact ho' F Hg Hh S _ σ Q y w' z w t I4 (Rp.mono (s3.trans s4) _ _ r2) r4 e5 (q.mono (((s1.trans s2).trans s3).trans s4))
          · cases e
        · cases e
      · rename_i e3
        cases e
        refine ho F Hc Hd S _ σ _ x y _ v w I2 (Rp.mono s2 _ _ r1) r2 e3 fun u He Hf s3 I3 r3 => ?_
        have r3' : Rp G He (.bl false) u := r3
        unfold Rp at r3'
        refine ⟨false, r3', ?_⟩
        rw [if_neg Bool.false_ne_true]
        exact (q.mono ((s1.trans s2).trans s3)).here I3 rp_bl
      · cases e
    · cases e
  · cases e
section
variable {X : Cx} {K : PySem.W.Frag} {cA : Nat → Addr} {a b c : Expr} {ta tb tc : TE} {f g h : DE} {pos : Pos}
/-- one comparison's rule -/
structure DOp (X : Cx) (K : PySem.W.Frag) (cA : Nat → Addr) (op : CmpOp) (r : R2) (o : D → D → Option D) : Prop where
  ho : OpR X (compareOp op) r
  sim : OpSim ⟨K, cA⟩ r o
theorem do_lt : DOp X K cA .Lt (rI0 fun i j => .bl (decide (i < j))) oLt := ⟨op_lt, ops_lt⟩
theorem do_le : DOp X K cA .LtE (rI0 fun i j => .bl (decide (i ≤ j))) oLe := ⟨op_le, ops_le⟩
theorem do_gt : DOp X K cA .Gt (rI0 fun i j => .bl (decide (j < i))) oGt := ⟨op_gt, ops_gt⟩
theorem do_ge : DOp X K cA .GtE (rI0 fun i j => .bl (decide (j ≤ i))) oGe := ⟨op_ge, ops_ge⟩
theorem do_eq (hu : X.A.units + 64 < cLine) (hK : X.K = K := by rfl) : DOp X K cA .Eq (rEqD K) oEq := by
  subst hK
  exact ⟨op_eqD hu, ops_eq⟩
theorem do_ne (hu : X.A.units + 64 < cLine) (hK : X.K = K := by rfl) : DOp X K cA .NotEq (rNeD K) oNe := by
  subst hK
  exact ⟨op_neD hu, ops_ne⟩
theorem dx_chain {op op' : CmpOp} {r r' : R2} {o o' : D → D → Option D} (h1 : DOp X K cA op r o) (h2 : DOp X K cA op' r' o') (ha : DExp X K cA a ta f) (hb : DExp X K cA b tb g) (hc : DExp X K cA c tc h)
    (hm : lastMarks [op, op'] [b, c] = false := by with_unfolding_all rfl) : DExp X K cA (.Compare a [op, op'] [b, c] pos) (tChain r r' ta tb tc) (dChain o o' f g h) := ⟨pe_chain h1.ho h2.ho ha.pe hb.pe hc.pe hm, sim_chain h1.sim h2.sim ha.sim hb.sim hc.sim⟩
theorem dt_chain {op op' : CmpOp} {r r' : R2} {o o' : D → D → Option D} (h1 : DOp X K cA op r o) (h2 : DOp X K cA op' r' o') (ha : DExp X K cA a ta f) (hb : DExp X K cA b tb g) (hc : DExp X K cA c tc h)
    (hm : lastMarks [op, op'] [b, c] = false := by with_unfolding_all rfl) : DTst X K cA (.Compare a [op, op'] [b, c] pos) (tTest (tChain r r' ta tb tc)) (dTst (dChain o o' f g h)) := ⟨pt_chain h1.ho h2.ho ha.pe hb.pe hc.pe hm, sim_tst (sim_chain h1.sim h2.sim ha.sim hb.sim hc.sim)⟩
end
/-! ### x in c, x not in c -/
def rInA (K : PySem.W.Frag) : R2 := fun x y H Q => ∃ d ds, Dp K H x d ∧ (Dp K H y (.list ds) ∨ Dp K H y (.tuple ds)) ∧ SeqAt.shaped d = true ∧ SeqAt.shaped (.list ds) = true ∧ Q (.bl (ds.any fun z => PyData.eqv z d)) H
def rNiA (K : PySem.W.Frag) : R2 := fun x y H Q => ∃ d ds, Dp K H x d ∧ (Dp K H y (.list ds) ∨ Dp K H y (.tuple ds)) ∧ SeqAt.shaped d = true ∧ SeqAt.shaped (.list ds) = true ∧ Q (.bl (!ds.any fun z => PyData.eqv z d)) H
theorem op_inA {X : Cx} (hu : X.A.units + 65 < cLine) : OpR X (compareOp .In) (rInA X.K) := by
  intro pins s σ H x y v u Q I rx ry h
  obtain ⟨d, ds, hd, he, sd, se, q⟩ := h
  obtain ⟨as, r1⟩ := Dp.reads I d x v hd rx
  rcases he with he | he
  · obtain ⟨bs, r2⟩ := Dp.reads I (.list ds) y u he ry
    exact SeqAt.in_list_reads r2 r1 (SeqAt.canLay_of_shaped se) (SeqAt.canLay_of_shaped sd) (room_in_shaped sd hu) ⟨.bl _, H, I, rfl, q⟩
  · obtain ⟨bs, r2⟩ := Dp.reads I (.tuple ds) y u he ry
    exact SeqAt.in_tuple_reads r2 r1 (SeqAt.canLay_of_shaped se) (SeqAt.canLay_of_shaped sd) (room_in_shaped sd hu) ⟨.bl _, H, I, rfl, q⟩
theorem op_niA {X : Cx} (hu : X.A.units + 65 < cLine) : OpR X (compareOp .NotIn) (rNiA X.K) := by
  intro pins s σ H x y v u Q I rx ry h
  obtain ⟨d, ds, hd, he, sd, se, q⟩ := h
  obtain ⟨as, r1⟩ := Dp.reads I d x v hd rx
  rcases he with he | he
  · obtain ⟨bs, r2⟩ := Dp.reads I (.list ds) y u he ry
    exact SeqAt.notIn_list_reads r2 r1 (SeqAt.canLay_of_shaped se) (SeqAt.canLay_of_shaped sd) (room_in_shaped sd hu) ⟨.bl _, H, I, rfl, q⟩
  · obtain ⟨bs, r2⟩ := Dp.reads I (.tuple ds) y u he ry
    exact SeqAt.notIn_tuple_reads r2 r1 (SeqAt.canLay_of_shaped se) (SeqAt.canLay_of_shaped sd) (room_in_shaped sd hu) ⟨.bl _, H, I, rfl, q⟩
def hasD (ds : List D) (x : D) : Bool := ds.any fun z => eqD z x
def oIn : D → D → Option D := fun x y => match itemsD y with
  | some ds => if okD x = true ∧ okD (.lst ds) = true then some (.bl (hasD ds x)) else none
  | none => none
def oNi : D → D → Option D := fun x y => match itemsD y with
  | some ds => if okD x = true ∧ okD (.lst ds) = true then some (.bl (!hasD ds x)) else none
  | none => none
theorem hasD_toPy {x : D} : ∀ ds : List D, ((toPys ds).any fun z => PyData.eqv z (toPy x)) = hasD ds x
  | [] => by unfold toPys hasD; rfl
  | d :: ds => by
    have := hasD_toPy (x := x) ds
    rw [toPys, hasD, List.any_cons, List.any_cons, this]
    rfl
theorem items_dp {H0 H : Hp} (ex : Same H0 H) {y : D} {w : V} {ds : List D} (ry : Rp G H0 y w) (e : itemsD y = some ds) (hp : plain (.lst ds) = true) : Dp G.K H w (.list (toPys ds)) ∨ Dp G.K H w (.tuple (toPys ds)) := by
  cases y with
  | lst xs => cases e; exact .inl (by have := Rp.dp ex _ w ry hp; unfold toPy at this; exact this)
  | tup xs => cases e; exact .inr (by have := Rp.dp ex _ w ry (show plain (.tup _) = true by unfold plain at hp ⊢; exact hp); unfold toPy at this; exact this)
  | _ => cases e
theorem ops_in : OpSim G (rInA G.K) oIn := by
  intro F H0 H S cs σ Q x y z v w I rx ry e q
  unfold oIn at e
  split at e
  · rename_i ds e1
    split at e
    · rename_i hk
      cases e
      have h1 := Bool.and_eq_true_iff.mp hk.1
      have h2 := Bool.and_eq_true_iff.mp hk.2
      have h3 : SeqAt.shaped (.list (toPys ds)) = true := by have := h2.2; unfold toPy at this; exact this
      exact ⟨_, _, Rp.dp I.ex x v rx h1.1, items_dp I.ex ry e1 h2.1, h1.2, h3, by rw [hasD_toPy]; exact q.here I rp_bl⟩
    · cases e
  · cases e
theorem ops_ni : OpSim G (rNiA G.K) oNi := by
  intro F H0 H S cs σ Q x y z v w I rx ry e q
  unfold oNi at e
  split at e
  · rename_i ds e1
    split at e
    · rename_i hk
      cases e
      have h1 := Bool.and_eq_true_iff.mp hk.1
      have h2 := Bool.and_eq_true_iff.mp hk.2
      have h3 : SeqAt.shaped (.list (toPys ds)) = true := by have := h2.2; unfold toPy at this; exact this
      exact ⟨_, _, Rp.dp I.ex x v rx h1.1, items_dp I.ex ry e1 h2.1, h1.2, h3, by rw [hasD_toPy]; exact q.here I rp_bl⟩
    · cases e
  · cases e
end DL

set_option autoImplicit true
set_option relaxedAutoImplicit true
set_option Elab.async false
set_option linter.all false
set_option autoImplicit false
set_option maxRecDepth 100000
set_option maxHeartbeats 4000000
/-! DL, Z: membership, slices of all kinds, order of tuples, deep index, repr, a module's tuple, a def out of a list. -/
namespace DL
open PySem PySem.Spec PyProof.Rows L2
variable {G : Gm}
section
variable {X : Cx} {K : PySem.W.Frag} {cA : Nat → Addr} {a b c e : Expr} {ta tb te : TE} {f g : DE} {pos : Pos} {es : List Expr} {tr : TA} {h : DA} {pp : Pos}
theorem units65 {k : Nat} {A : Around} (r : Room k A) : A.units + 65 < cLine := by have := r.un; omega
theorem dx_in (hu : X.A.units + 65 < cLine) (ha : DExp X K cA a ta f) (hb : DExp X K cA b tb g) (hm : behindInMarks .In b = false := by with_unfolding_all rfl) (hK : X.K = K := by rfl) : DExp X K cA (.Compare a [.In] [b] pos) (tOp (rInA K) ta tb) (dOp oIn f g) := by
  subst hK
  exact dx_cmp (op_inA hu) ops_in ha hb hm
theorem dt_in (hu : X.A.units + 65 < cLine) (ha : DExp X K cA a ta f) (hb : DExp X K cA b tb g) (hm : behindInMarks .In b = false := by with_unfolding_all rfl) (hK : X.K = K := by rfl) : DTst X K cA (.Compare a [.In] [b] pos) (tTest (tOp (rInA K) ta tb)) (dTst (dOp oIn f g)) := by
  subst hK
  exact dt_cmp (op_inA hu) ops_in ha hb hm
theorem dx_nin (hu : X.A.units + 65 < cLine) (ha : DExp X K cA a ta f) (hb : DExp X K cA b tb g) (hm : behindInMarks .NotIn b = false := by with_unfolding_all rfl) (hK : X.K = K := by rfl) : DExp X K cA (.Compare a [.NotIn] [b] pos) (tOp (rNiA K) ta tb) (dOp oNi f g) := by
  subst hK
  exact dx_cmp (op_niA hu) ops_ni ha hb hm
theorem dt_nin (hu : X.A.units + 65 < cLine) (ha : DExp X K cA a ta f) (hb : DExp X K cA b tb g) (hm : behindInMarks .NotIn b = false := by with_unfolding_all rfl) (hK : X.K = K := by rfl) : DTst X K cA (.Compare a [.NotIn] [b] pos) (tTest (tOp (rNiA K) ta tb)) (dTst (dOp oNi f g)) := by
  subst hK
  exact dt_cmp (op_niA hu) ops_ni ha hb hm
end
/-! ### a < b: ints, tuples of ints -/
def oLtT : D → D → Option D
  | .tup xs, .tup ys => match intsD xs, intsD ys with
    | some ns, some ms => some (.bl (HT.lexLt ns ms))
    | _, _ => none
  | _, _ => none
theorem ops_ltT : OpSim G (rLtT G.K) oLtT := by
  intro F H0 H S cs σ Q x y z v w I rx ry e q
  unfold oLtT at e
  split at e
  · split at e
    · rename_i xs ys ns ms e1 e2
      cases e
      unfold Rp at rx ry
      obtain ⟨p, vs, rfl, h1, h2⟩ := rx
      obtain ⟨p2, ws, rfl, h3, h4⟩ := ry
      refine ⟨p, p2, ns, ms, rfl, rfl, ?_, ?_, q.here I rp_bl⟩
      · rw [← rps_intsD h2 e1]; exact sqt_same I.ex h1
      · rw [← rps_intsD h4 e2]; exact sqt_same I.ex h3
    · cases e
  · cases e
def oLtA : D → D → Option D := orD oLt oLtT
def rLtA (K : PySem.W.Frag) : R2 := fun x y H Q => rI0 (fun i j => .bl (decide (i < j))) x y H Q ∨ rLtT K x y H Q
theorem ops_ltA : OpSim G (rLtA G.K) oLtA := OpSim.or ops_lt ops_ltT
section
variable {X : Cx} {K : PySem.W.Frag} {cA : Nat → Addr} {a b : Expr} {ta tb : TE} {f g : DE} {pos : Pos}
theorem dx_ltA (hu : X.A.units < cLine) (ha : DExp X K cA a ta f) (hb : DExp X K cA b tb g) (hm : behindInMarks .Lt b = false := by exact nomark _) (hK : X.K = K := by rfl) : DExp X K cA (.Compare a [.Lt] [b] pos) (tOp (rLtA K) ta tb) (dOp oLtA f g) := by
  subst hK
  exact dx_cmp (op_lt.or (op_ltT hu)) ops_ltA ha hb hm
theorem dt_ltA (hu : X.A.units < cLine) (ha : DExp X K cA a ta f) (hb : DExp X K cA b tb g) (hm : behindInMarks .Lt b = false := by exact nomark _) (hK : X.K = K := by rfl) : DTst X K cA (.Compare a [.Lt] [b] pos) (tTest (tOp (rLtA K) ta tb)) (dTst (dOp oLtA f g)) := by
  subst hK
  exact dt_cmp (op_lt.or (op_ltT hu)) ops_ltA ha hb hm
end
/-! ### slices of lists, tuples, texts, the script -/
def slD : D → Option Int → Option Int → Option D
  | .lst ds, lo, hi => some (.lst (cutD ds lo hi))
  | .tup ds, lo, hi => some (.tup (cutD ds lo hi))
  | .scr ns, lo, hi => some (.lst (cutD (ns.map D.int) lo hi))
  | .str x, lo, hi => if x.length ≤ sizeLine then some (.str (cutS x lo hi)) else none
  | _, _, _ => none
def dSl (f : DE) (lo hi : DO) : DE := fun S cs => match f S cs with
  | some (r, c1) => match lo S c1 with
    | some (x, c2) => match hi S c2 with
      | some (y, c3) => match rd S c3 r with
        | some d => match slD d x y with
          | some z => some (.c z, c3)
          | none => none
        | none => none
      | none => none
    | none => none
  | none => none
def rSlX (K : PySem.W.Frag) : V → Option Int → Option Int → Hp → VK → Prop := fun x lo hi H Q => rSlL K x lo hi H Q ∨ (rSlA K x lo hi H Q ∨ rSlS x lo hi H Q)
theorem sl_any {X : Cx} : SlR X (rSlX X.K) := by
  intro pins s σ H x v vl vu lo hi sl Q I rx hs pl pu q
  rcases q with q | q | q
  · exact sl_list pins s σ H x v vl vu lo hi sl Q I rx hs pl pu q
  · exact sl_tupA pins s σ H x v vl vu lo hi sl Q I rx hs pl pu q
  · exact sl_str pins s σ H x v vl vu lo hi sl Q I rx hs pl pu q
theorem cutV_whole {vs : List V} {lo hi : Option Int} (h : HT.sIx vs.length 0 lo = 0 ∧ HT.sIx vs.length vs.length hi = vs.length) : cutV vs lo hi = vs := by
  unfold cutV
  rw [h.1, h.2, List.drop_zero, Nat.sub_zero, List.take_length]
theorem sim_sl {ta : TE} {tl th : TO} {f : DE} {lo hi : DO} (ha : SimE G ta f) (hl : SimO G tl lo) (hh : SimO G th hi) : SimE G (tSl (rSlX G.K) ta tl th) (dSl f lo hi) := by
  refine ⟨fun F H0 H S cs σ Q I r cs' e q => ?_⟩
  unfold dSl at e
  split at e
  rotate_left
  · cases e
  rename_i r1 c1 e1
  split at e
  rotate_left
  · cases e
  rename_i x c2 e2
  split at e
  rotate_left
  · cases e
  rename_i y c3 e3
  split at e
  rotate_left
  · cases e
  rename_i d e4
  split at e
  rotate_left
  · cases e
  rename_i z e5
  cases e
  refine ha.run F H0 H S cs σ _ I _ _ e1 fun v Ha Hb s1 I1 q1 => ?_
  refine hl.run F Ha Hb S c1 σ _ I1 _ _ e2 fun Hc Hd s2 I2 => ?_
  refine hh.run F Hc Hd S c2 σ _ I2 _ _ e3 fun He Hf s3 I3 => ?_
  have rb := rd_ok I3 (q1.mono (s2.trans s3)) e4
  have q' := q.mono ((s1.trans s2).trans s3)
  unfold slD at e5
  split at e5
  · cases e5
    unfold RB at rb
    obtain ⟨p, vs, rfl, h2, h3⟩ := rb
    refine .inl ⟨p, vs, rfl, .inl (.inl h2), fun p' hp => q' _ _ _ (same_new I3.ex _ hp) (I3.new _ hp) ?_⟩
    show Rp G _ (.lst _) _
    unfold Rp
    exact ⟨p', _, rfl, upd_same, (h3.cut x y).mono (same_new I3.ex _ hp)⟩
  · cases e5
    unfold RB Rp at rb
    obtain ⟨p, vs, rfl, h2, h3⟩ := rb
    refine .inr (.inl ⟨p, vs, rfl, sqt_same I3.ex h2, fun hw => q'.here I3 ?_, fun _ p' hp => q' _ _ _ (same_new I3.ex _ hp) (I3.new _ hp) ?_⟩)
    · unfold Rp
      refine ⟨p, vs, rfl, h2, ?_⟩
      have := h3.cut x y
      rwa [cutV_whole hw] at this
    · show Rp G _ (.tup _) _
      unfold Rp
      exact ⟨p', _, rfl, .inl (.inl upd_same), (h3.cut x y).mono (same_new I3.ex _ hp)⟩
  · cases e5
    unfold RB Rp at rb
    obtain ⟨p, rfl, h2⟩ := rb
    refine .inl ⟨p, _, rfl, I3.ex.seq h2, fun p' hp => q' _ _ _ (same_new I3.ex _ hp) (I3.new _ hp) ?_⟩
    show Rp G _ (.lst _) _
    unfold Rp
    exact ⟨p', _, rfl, upd_same, ((rps_ints _).cut x y).mono (same_new I3.ex _ hp)⟩
  · split at e5
    · rename_i hl
      cases e5
      unfold RB Rp at rb
      subst rb
      exact .inr (.inr ⟨_, rfl, hl, q'.here I3 rp_str⟩)
    · cases e5
  · cases e5
section
variable {X : Cx} {K : PySem.W.Frag} {cA : Nat → Addr} {a : Expr} {ta : TE} {f : DE} {pos : Pos} {lo hi : Option Expr} {tl th : TO} {fl fh : DO} {p2 : Pos}
theorem dx_sl (ha : DExp X K cA a ta f) (hl : DPar X K cA lo tl fl) (hh : DPar X K cA hi th fh) (hK : X.K = K := by rfl) : DExp X K cA (.Subscript a (.Slice lo hi none p2) pos) (tSl (rSlX K) ta tl th) (dSl f fl fh) := by
  subst hK
  exact ⟨pe_slice sl_any ha.pe hl.po hh.po, sim_sl ha.sim hl.sim hh.sim⟩
end
/-! ### where a value stands in a list -/
def idxD (x : D) : List D → Option Nat
  | [] => none
  | z :: r => if eqD z x = true then some 0 else (match idxD x r with
    | some j => some (j + 1)
    | none => none)
theorem toPys_get : ∀ {ds : List D} {m : Nat} {z : PyData}, (toPys ds)[m]? = some z → ∃ d, ds[m]? = some d ∧ z = toPy d
  | [], m, z, h => by unfold toPys at h; simp at h
  | d :: ds, 0, z, h => by unfold toPys at h; simp at h; exact ⟨d, rfl, h.symm⟩
  | d :: ds, m + 1, z, h => by
    unfold toPys at h
    obtain ⟨w, h1, h2⟩ := toPys_get (ds := ds) (m := m) (z := z) (by simpa using h)
    exact ⟨w, by simpa using h1, h2⟩
theorem toPys_at : ∀ {ds : List D} {m : Nat} {d : D}, ds[m]? = some d → (toPys ds)[m]? = some (toPy d)
  | [], m, d, h => by simp at h
  | x :: ds, 0, d, h => by simp at h; subst h; unfold toPys; rfl
  | x :: ds, m + 1, d, h => by
    unfold toPys
    have := toPys_at (ds := ds) (m := m) (d := d) (by simpa using h)
    simpa using this
theorem idxD_ok {x : D} : ∀ {ds : List D} {j : Nat}, idxD x ds = some j → ∃ z, ds[j]? = some z ∧ eqD z x = true ∧ ∀ (m : Nat) (z' : D), m < j → ds[m]? = some z' → eqD z' x = false
  | [], _, e => by cases e
  | z :: r, j, e => by
    unfold idxD at e
    split at e
    · rename_i h
      cases e
      exact ⟨z, rfl, h, fun m z' hm => absurd hm (Nat.not_lt_zero _)⟩
    · rename_i h
      split at e
      · rename_i j' e1
        cases e
        obtain ⟨w, h1, h2, h3⟩ := idxD_ok e1
        refine ⟨w, by simpa using h1, h2, fun m z' hm ez => ?_⟩
        cases m with
        | zero => simp at ez; subst ez; simpa using h
        | succ m => exact h3 m z' (by omega) (by simpa using ez)
      · cases e
def dIdxD (f g : DE) : DE := fun S cs => match f S cs with
  | some (r, c1) => match rd S c1 r with
    | some (.lst _) => match g S c1 with
      | some (.c y, c2) => match rd S c2 r with
        | some (.lst ds) => if okD (.lst ds) = true ∧ okD y = true then (match idxD y ds with
          | some j => some (.c (.int (j : Int)), c2)
          | none => none) else none
        | _ => none
      | _ => none
    | _ => none
  | none => none
theorem sim_idxD {to te : TE} {f g : DE} (ha : SimE G to f) (hb : SimE G te g) : SimE G (tBM G.K "list" (rIndexD G.K) to (tCons te tNil)) (dIdxD f g) := by
  refine ⟨fun F H0 H S cs σ Q I r cs' e q => ?_⟩
  unfold dIdxD at e
  split at e
  rotate_left
  · cases e
  rename_i r1 c1 e1
  split at e
  rotate_left
  · cases e
  rename_i d0 e2
  split at e
  rotate_left
  · cases e
  rename_i y c2 e3
  split at e
  rotate_left
  · cases e
  rename_i ds e4
  split at e
  rotate_left
  · cases e
  rename_i hk
  split at e
  rotate_left
  · cases e
  rename_i j e5
  cases e
  refine ha.run F H0 H S cs σ _ I _ _ e1 fun v Ha Hb s1 I1 q1 => ?_
  have rb0 := rd_ok I1 q1 e2
  unfold RB at rb0
  obtain ⟨p0, us0, rfl, h02, _⟩ := rb0
  refine ⟨.inl ⟨rfl, us0, .inl (.inl h02)⟩, hb.run F Ha Hb S c1 σ _ I1 _ _ e3 fun w Hc Hd s2 I2 q2 => ?_⟩
  have rb := rd_ok I2 (q1.mono s2) e4
  unfold RB at rb
  obtain ⟨p, us, ep, h2, h3⟩ := rb
  cases ep
  have k1 := Bool.and_eq_true_iff.mp hk.1
  have k2 := Bool.and_eq_true_iff.mp hk.2
  have k1a : plains ds = true := by have := k1.1; unfold plain at this; exact this
  have k1b : SeqAt.shaped (.list (toPys ds)) = true := by have := k1.2; unfold toPy at this; exact this
  obtain ⟨z, z1, z2, z3⟩ := idxD_ok e5
  refine ⟨p0, w, toPy y, toPys ds, j, toPy z, rfl, rfl, .lst (.inl (.inl h2)) (Rps.dp I2.ex ds us h3 k1a), Rp.dp I2.ex y w q2 k2.1, k1b, k2.2, toPys_at z1, z2, fun m z' hm ez => ?_, (q.mono (s1.trans s2)).here I2 rp_int⟩
  obtain ⟨d', f1, rfl⟩ := toPys_get ez
  exact z3 m d' hm f1
theorem dx_idxD {X : Cx} {K : PySem.W.Frag} {cA : Nat → Addr} {o e : Expr} {to te : TE} {f g : DE} {apos cpos : Pos} (hu : X.A.units + 65 < cLine) (ho : DExp X K cA o to f) (he : DExp X K cA e te g)
    (hbase : attributeBase o "index" X.env (eval o X.env) = eval o X.env := by rfl)
    (hfew : ((backTo cpos (starEach (e :: []) X.env)).all (fun x => !x.1) && (backToKw cpos (keywordEach [] X.env)).all (fun x => x.1.isSome)
      && decide ((e :: ([] : List Expr)).length + ([] : List Keyword).length + (if ([] : List Keyword).isEmpty then 0 else 1) < 30)) = true := by rfl)
    (hline : (apos.endLine == cpos.line) = true := by rfl) (hs : starEach (e :: []) X.env = (false, eval e X.env) :: starEach [] X.env := by rfl) (hplain : (backTo cpos (starEach [] X.env)).any (·.1) = false := by rfl) (hK : X.K = K := by rfl) :
    DExp X K cA (.Call (.Attribute o "index" apos) [e] [] cpos) (tBM K "list" (rIndexD K) to (tCons te tNil)) (dIdxD f g) := by
  subst hK
  exact ⟨pe_bm PySem.F.plainAttrs_list PySem.F.slot_list_index PySem.F.type_list_index (mt_indexD hu) ho.pe (pa_cons he.pe pa_nil hs) hbase hfew hline hs hplain, sim_idxD ho.sim he.sim⟩
/-! ### repr of an int; a module's object -/
def oRepr : List D → Option D
  | [.int i] => if i.natAbs.log2 < 1920 then some (.str (toString i)) else none
  | _ => none
theorem cs_repr : CallSim G (fun xs H Q => ∃ i, xs = [.int i] ∧ i.natAbs.log2 < 1920 ∧ Q (.str (toString i)) H) oRepr := by
  intro F H0 H S cs σ Q xs z vs I rb e q
  unfold oRepr at e
  split at e
  · split at e
    · rename_i i hl
      cases e
      obtain ⟨v, rfl, h⟩ := rb.one
      unfold RB Rp at h
      subst h
      exact ⟨i, rfl, hl, q.here I rp_str⟩
    · cases e
  · cases e
section
variable {X : Cx} {K : PySem.W.Frag} {cA : Nat → Addr} {e : Expr} {es : List Expr} {tr : TA} {h : DA} {pp pos : Pos}
theorem bb_repr : bootBuiltins "repr" = some (.builtin "repr") := by decide +kernel
theorem dx_repr (hm : X.mg "repr" = none) (ha : DArg X K cA (e :: es) tr h) (hg : Gl X "repr" := by rfl) (he : starEach (e :: es) X.env = (false, eval e X.env) :: starEach es X.env := by rfl) (hpl : ((backTo pos (starEach es X.env)).any fun x => x.1) = false := by rfl) : DExp X K cA (.Call (.Name "repr" pp) (e :: es) [] pos) (tCB (fun xs H Q => ∃ i, xs = [.int i] ∧ i.natAbs.log2 < 1920 ∧ Q (.str (toString i)) H) tr) (dCB oRepr h) := dx_cb SkE.call_repr_int cs_repr hm bb_repr ha hg (by decide) (by decide) he hpl
/-- a module's object that stands still: a tuple, a text -/
def GObj (K : PySem.W.Frag) (cA : Nat → Addr) (d : D) (a : Addr) : Prop := ∀ H : Hp, Rp ⟨K, cA⟩ H d (.ref a)
theorem dx_gobj {x : Str} {a : Addr} {d : D} (hm : X.mg x = some (.ref a)) (ho : GObj K cA d a) (hg : Gl X x := by rfl) (hd : (x == ("__debug__" : Str)) = false := by decide) : DExp X K cA (.Name x pp) (tC (.ref a)) (dC d) :=
  ⟨pe_glob hg hm rfl hd, sim_c fun H => ho H⟩
end
/-- what a module's tuple holds -/
def GVal (K : PySem.W.Frag) (cA : Nat → Addr) (d : D) (u : Value) : Prop := ∃ v, RelV v u ∧ ∀ H : Hp, Rp ⟨K, cA⟩ H d v
def GVals (K : PySem.W.Frag) (cA : Nat → Addr) : List D → List Value → Prop
  | [], us => us = []
  | d :: ds, us => ∃ u w, us = u :: w ∧ GVal K cA d u ∧ GVals K cA ds w
theorem GVals.rps {K : PySem.W.Frag} {cA : Nat → Addr} : ∀ {ds : List D} {us : List Value}, GVals K cA ds us → ∃ vs, Vals vs us ∧ ∀ H : Hp, Rps ⟨K, cA⟩ H ds vs
  | [], us, h => ⟨[], (show us = [] from h) ▸ .nil, fun H => Rps.nil⟩
  | d :: ds, us, h => by
    obtain ⟨u, w, rfl, ⟨v, h1, h2⟩, h3⟩ := h
    obtain ⟨vs, h4, h5⟩ := GVals.rps h3
    exact ⟨v :: vs, .cons h1 h4, fun H => Rps.cons (h2 H) (h5 H)⟩
theorem gtup {K : PySem.W.Frag} {cA : Nat → Addr} {a : Addr} {dx : Option Addr} {its : Array Value} {n : Nat} {sl : Array (Option Value)} {ds : List D} (h : K.lookup a = some ⟨.type "tuple", dx, .seq its n, sl⟩) (hv : GVals K cA ds its.toList) (hz : Nat.ble its.size 1000 = true) : GObj K cA (.tup ds) a := by
  obtain ⟨vs, h1, h2⟩ := hv.rps
  intro H
  unfold Rp
  exact ⟨a, vs, rfl, .inr ⟨_, its, n, h, rfl, rfl, Nat.le_trans (Nat.le_of_ble_eq_true hz) (by decide), h1⟩, h2 H⟩
theorem gv_int {K : PySem.W.Frag} {cA : Nat → Addr} {i : Int} {t : Tok} : GVal K cA (.int i) (.int i t) := ⟨.int i, ⟨t, rfl⟩, fun _ => rp_int⟩
theorem gv_str {K : PySem.W.Frag} {cA : Nat → Addr} {x : Str} {t : Tok} : GVal K cA (.str x) (.str x t) := ⟨.str x, ⟨t, rfl⟩, fun _ => rp_str⟩
theorem gv_ref {K : PySem.W.Frag} {cA : Nat → Addr} {a : Addr} {d : D} (h : GObj K cA d a) : GVal K cA d (.ref a) := ⟨.ref a, rfl, h⟩
theorem gvs_nil {K : PySem.W.Frag} {cA : Nat → Addr} : GVals K cA [] [] := rfl
theorem gvs_cons {K : PySem.W.Frag} {cA : Nat → Addr} {d : D} {u : Value} {ds : List D} {us : List Value} (h : GVal K cA d u) (t : GVals K cA ds us) : GVals K cA (d :: ds) (u :: us) := ⟨u, us, rfl, h, t⟩
/-! ### one def out of a list of defs -/
def dSel (ms : List (D → List D → Option (D × D))) (fi : DE) (f : DA) : DE := fun S cs => match fi S cs with
  | some (.c (.int k), c1) => match ixN ms.length k with
    | some j => match ms[j]? with
      | some m => dCallC m f S c1
      | none => none
    | none => none
  | _ => none
def tRefs : List Addr → TA
  | [] => tNil
  | f :: r => tCons (tC (.ref f)) (tRefs r)
theorem tRefs_eq : ∀ (fs : List Addr) (σ : VS) (H : Hp) (Q : List V → Hp → Prop), Q (fs.map V.ref) H → tRefs fs σ H Q
  | [], σ, H, Q, h => h
  | f :: r, σ, H, Q, h => tRefs_eq r σ H (fun xs H2 => Q (.ref f :: xs) H2) h
def tSel (fs : List (Addr × Sp)) (tf : TE) (t : TA) : TE := fun σ H Q => tf σ H fun y H1 => ∃ (j : Nat) (f : Addr) (sp : Sp), fs[j]? = some (f, sp) ∧ y = V.ref f ∧ t σ H1 fun vs H2 => sp vs H2 Q E0
theorem pe_sel {X : Cx} {fs : List (Addr × Sp)} {fe e : Expr} {es : List Expr} {tf : TE} {t : TA} {k : Nat} {pos : Pos} (hf : PE X fe tf) (F : ∀ p ∈ fs, FnR X.prog X.w X.K X.mg X.base CX0 k p.1 p.2 ∧ PySem.W.keepIn X.K (.ref p.1) = true) (hr : Room k X.A) (hx : Passes CX0 X E0) (ha : PA X (e :: es) t)
    (ht : eval (.Call fe (e :: es) [] pos) X.env = (do callWith pos (← eval fe X.env) [] (backTo pos (starEach (e :: es) X.env)) (backToKw pos (keywordEach [] X.env))) := by rfl)
    (he : starEach (e :: es) X.env = (false, eval e X.env) :: starEach es X.env := by rfl) (hpl : (backTo pos (starEach es X.env)).any (·.1) = false := by rfl) : PE X (.Call fe (e :: es) [] pos) (tSel fs tf t) := by
  refine ⟨fun pins s σ H Q I h => ?_⟩
  refine Call_ (thn (hf.run pins s σ H _ I h) fun u s1 ⟨y, H1, I1, ry, j, f, sp, ef, ey, q⟩ => ?_) ht
  subst ey
  obtain rfl : u = Value.ref f := ry
  obtain ⟨Ff, hk⟩ := F _ (List.mem_of_getElem? ef)
  refine PySem.W.callWith_K (h₀ := X.base) I1.ok.mod.kin hk (thn (ha.run pos pins s1 σ H1 _ I1 q) fun us s2 ⟨vs, H2, I2, r, q2⟩ => ⟨I2.kIn, ?_⟩) he hpl
  exact wpAny_call (run_fnR Ff hr hx I2 r q2)
theorem sim_sel {fs : List (Addr × Sp)} {ms : List (D → List D → Option (D × D))} {ti : TE} {t : TA} {fi : DE} {f : DA} (hl : fs.length = ms.length) (hz : fs.length ≤ sizeLine) (hm : ∀ (j : Nat) (m : D → List D → Option (D × D)), ms[j]? = some m → ∃ a, fs[j]? = some (a, fun vs H Q E => spC G m (vs ++ []) H Q E))
    (hi : SimE G ti fi) (ha : SimA G t f) : SimE G (tSel fs (tOp (rIxL G.K) (tLst (tRefs (fs.map (·.1)))) ti) t) (dSel ms fi f) := by
  refine ⟨fun F H0 H S cs σ Q I r cs' e q => ?_⟩
  unfold dSel at e
  split at e
  rotate_left
  · cases e
  rename_i k c1 e1
  split at e
  rotate_left
  · cases e
  rename_i j e2
  split at e
  rotate_left
  · cases e
  rename_i m e3
  obtain ⟨fa, e4⟩ := hm j m e3
  have hlen : ((fs.map (·.1)).map V.ref).length = fs.length := by simp
  refine tRefs_eq _ σ H _ ⟨by rw [hlen]; exact hz, fun p hp => ?_⟩
  have ap : Apart F S σ p := I.apart hp
  have h0 : H0 p = none := I.ex.free hp
  have he : F.He p = none := I.he.free hp
  have hb : ∀ a, F.ban a → F.He a ≠ none := fun a h => (I.bn a h).1
  have I1 := (I.off (.lst ((fs.map (·.1)).map V.ref)) hp).kept upd_same h0 ap (fun _ z => nomatch z)
  refine hi.run (F.keep p _) H0 _ S cs σ _ I1 _ _ e1 fun v Ha Hb s1 I2 r1 => ?_
  obtain ⟨I3, hp3, _⟩ := I2.unkept he hb
  have r1' : Rp G Ha (.int k) v := r1
  unfold Rp at r1'
  subst r1'
  refine ⟨p, (fs.map (·.1)).map V.ref, k, V.ref fa, rfl, rfl, .inl (.inl hp3), ?_, j, fa, _, e4, rfl, ?_⟩
  · unfold atI
    rw [hlen, hl, e2]
    show ((fs.map (·.1)).map V.ref)[j]? = _
    rw [List.getElem?_map, List.getElem?_map, e4] <;> rfl
  · exact (sim_callC (E := E0) ha).run F Ha Hb S c1 σ Q I3 _ _ e (q.mono s1)
end DL

set_option autoImplicit true
set_option relaxedAutoImplicit true
set_option Elab.async false
set_option linter.all false
set_option autoImplicit false
set_option maxRecDepth 100000
set_option maxHeartbeats 4000000
/-! DL, U: comprehensions with two fors. -/
namespace DL
open PySem PySem.Spec PyProof.Rows L2
variable {G : Gm}
/-- the outer walk: each item's inner walk gives a list -/
def lcO (g : DG) (tt : DT) (inn : DF) : List D → List Sl → Option D → Option (List D × Option D)
  | [], _, cs => some ([], cs)
  | d :: r, S, cs => match g d S with
    | some S1 => match tt S1 cs with
      | some (true, c1) => match inn S1 c1 with
        | some (xs, c2) => match lcO g tt inn r S c2 with
          | some (ys, c3) => some (xs ++ ys, c3)
          | none => none
        | none => none
      | some (false, c1) => lcO g tt inn r S c1
      | none => none
    | none => none
/-- the inner walk -/
def lcIn (src : DF) (g : DG) (tt : DT) (f : DE) (vs : List Nat) : DF := fun S cs => match noOwn S vs with
  | true => match src S cs with
    | some (ds, c1) => lcL g tt f ds (wipeD S vs) c1
    | none => none
  | false => none
def dLc2 (src : DF) (g : DG) (tt : DT) (src1 : DF) (g1 : DG) (tt1 : DT) (f : DE) (vs vs1 : List Nat) : DF := fun S cs => match noOwn S vs with
  | true => match src S cs with
    | some (ds, c1) => match lcO g tt (lcIn src1 g1 tt1 f vs1) ds (wipeD S vs) c1 with
      | some (ys, c2) => if ys.length ≤ sizeLine then some (ys, c2) else none
      | none => none
    | none => none
  | false => none
/-- the inner loop: from a list at p that is kept apart -/
theorem inner_loop {g : TG} {tt : TT} {te : TE} {vs : List Nat} {dg : DG} {ts : List Nat} {dt : DT} {de : DE} (hg : SimG G g dg ts) (hsub : ∀ i ∈ ts, i ∈ vs) (ht : SimT G tt dt) (he : SimE G te de)
    {F : Fr} {Ha Hb : Hp} {S : List Sl} {σ : VS} {c1 cs' : Option D} {J : It} {ds : List D} {Dl : Addr} {acc0 : List D} {accV0 : List V} {ys : List D} {Nx : Hp → Prop} (I1 : StOk G F Ha Hb S c1 σ) (hno : noOwn S vs = true) (jok : JOk G J ds Ha)
    (heD : F.He Dl = none) (apD : Apart F S σ Dl) (hDl : Hb Dl = some (.lst accV0)) (h0Dl : Ha Dl = none) (racc : Rps G Ha acc0 accV0) (hz : acc0.length + ys.length ≤ sizeLine)
    (el : lcL dg dt de ds (wipeD S vs) c1 = some (ys, cs'))
    (q : ∀ H0' H' accV, Same Ha H0' → StOk G F H0' H' S cs' σ → H' Dl = some (.lst accV) → H0' Dl = none → Rps G H0' (acc0 ++ ys) accV → Nx H') :
    ∃ W1 : Nat → Nat → Hp → Prop, (∃ m, W1 0 m Hb) ∧ ∀ j k H, W1 j k H →
      (J.stop j H ∧ Nx H) ∨ (J.go j H ∧ ∃ Nx1 : Hp → Prop, (∀ H', Nx1 H' → ∃ k', k' < k ∧ W1 (j + 1) k' H') ∧ ∀ x H', J.yld j H x H' → g x (wipe σ vs) H' fun σ3 H5 => wipe σ3 vs = wipe σ vs ∧ tt σ3 H5 fun b H6 =>
        if b = true then te σ3 H6 fun y H7 => ∃ acc, H7 Dl = some (.lst acc) ∧ acc.length < sizeLine ∧ Nx1 (upd H7 Dl (.lst (acc ++ [y]))) else Nx1 H6) := by
  have hb : ∀ a, F.ban a → F.He a ≠ none := fun a h => (I1.bn a h).1
  have apW := apD.wiped vs
  refine ⟨fun i m Hc => m = ds.length - i ∧ i ≤ ds.length ∧ ∃ H0c acc accV zs c, Same Ha H0c ∧ StOk G F H0c Hc (wipeD S vs) c (wipe σ vs) ∧ Hc Dl = some (.lst accV) ∧ H0c Dl = none ∧ Rps G H0c acc accV ∧
    lcL dg dt de (ds.drop i) (wipeD S vs) c = some (zs, cs') ∧ acc ++ zs = acc0 ++ ys, ⟨ds.length, by simp, Nat.zero_le _, Ha, acc0, accV0, ys, c1, Same.refl _, I1.wiped vs, hDl, h0Dl, racc, el, rfl⟩, ?_⟩
  rintro i m Hc ⟨rfl, hi, H0c, acc, accV, zs, c, sa, I2, hDl, h0Dl, racc, el, eys⟩
  by_cases hlt : i < ds.length
  · refine .inr ⟨jok.go i H0c Hc sa I2.ex hlt, fun Hn => ∃ H0c acc' accV' zs' c', Same Ha H0c ∧ StOk G F H0c Hn (wipeD S vs) c' (wipe σ vs) ∧ Hn Dl = some (.lst accV') ∧ H0c Dl = none ∧ Rps G H0c acc' accV' ∧
      lcL dg dt de (ds.drop (i + 1)) (wipeD S vs) c' = some (zs', cs') ∧ acc' ++ zs' = acc0 ++ ys, fun Hn hn => ?_, fun x Hx hy => ?_⟩
    · obtain ⟨H0n, acc', accV', zs', c', n1, n2, n3, n4, n5, n7, n8⟩ := hn
      exact ⟨ds.length - (i + 1), by omega, rfl, hlt, H0n, acc', accV', zs', c', n1, n2, n3, n4, n5, n7, n8⟩
    · obtain ⟨d, H0d, ed, gr, rd⟩ := jok.yld i H0c Hc x Hx sa I2.ex hlt hy
      have I3 := I2.grow gr
      rw [List.drop_eq_getElem_cons hlt, show ds[i] = d from Option.some.inj ((List.getElem?_eq_getElem hlt).symm.trans ed)] at el
      have hDx : Hx Dl = some (.lst accV) := gr.b _ _ hDl
      have h0x : H0d Dl = none := gr.d Dl (ne_none hDl) h0Dl
      unfold lcL at el
      split at el
      rotate_left
      · cases el
      rename_i S1 eg
      refine hg.run F H0d Hx (wipeD S vs) c (wipe σ vs) d x _ I3 rd S1 eg fun σ2 I4 ap2 w2 => ?_
      have wv : wipe σ2 vs = wipe σ vs := (w2 vs hsub).trans wipeV_wipe
      have wd : wipeD S1 vs = wipeD S vs := (hg.wD _ _ _ eg vs hsub).trans wipeD_wipe
      refine ⟨wv, ?_⟩
      have apS1 := ap2 Dl apW
      have I5 := I4.kept hDx h0x apS1 (fun _ z => nomatch z)
      split at el
      · rename_i c2 et
        split at el
        · rename_i y c3 ee
          split at el
          · rename_i ys' c4 er
            cases el
            refine ht.run (F.keep Dl (.lst accV)) H0d Hx S1 c σ2 _ I5 _ _ et fun H0e He s5 I6 => ?_
            rw [if_pos rfl]
            refine he.run (F.keep Dl (.lst accV)) H0e He S1 c2 σ2 _ I6 _ _ ee fun v H0f Hf s6 I7 r7 => ?_
            obtain ⟨I8, hDf, h0f⟩ := I7.unkept heD hb
            have I9 : StOk G F H0f (upd Hf Dl (.lst (accV ++ [v]))) S1 c3 σ2 := I8.mutOff h0f heD apS1 (fun z w => by rw [hDf] at w; cases w)
            have I10 := I9.wiped vs
            rw [wv, wd] at I10
            have hl : acc.length + (ys'.length + 1) = acc0.length + ys.length := by
              have := congrArg List.length eys
              simpa using this
            refine ⟨accV, hDf, by rw [racc.len]; omega, H0f, acc ++ [y], accV ++ [v], ys', c3, (sa.trans gr.a).trans (s5.trans s6), I10, upd_same, h0f, ?_, er, by rw [List.append_assoc]; exact eys⟩
            exact (racc.mono (gr.a.trans (s5.trans s6))).append (Rps.cons r7 Rps.nil)
          · cases el
        · cases el
      · rename_i c2 et
        refine ht.run (F.keep Dl (.lst accV)) H0d Hx S1 c σ2 _ I5 _ _ et fun H0e He s5 I6 => ?_
        refine iteF ?_
        obtain ⟨I8, hDf, h0f⟩ := I6.unkept heD hb
        have I10 := I8.wiped vs
        rw [wv, wd] at I10
        exact ⟨H0e, acc, accV, zs, c2, (sa.trans gr.a).trans s5, I10, hDf, h0f, racc.mono (gr.a.trans s5), el, eys⟩
      · cases el
  · have hi' : i = ds.length := by omega
    subst hi'
    rw [List.drop_length] at el
    cases el
    refine .inl ⟨jok.stop _ H0c Hc sa I2.ex rfl, ?_⟩
    rw [List.append_nil] at eys
    exact q H0c Hc accV sa (I1.unwiped hno sa I2) hDl h0Dl (eys ▸ racc)
theorem sim_lc2 {wi wi1 : TI} {g g1 : TG} {tt tt1 : TT} {te : TE} {vs vs1 : List Nat} {src src1 : DF} {dg dg1 : DG} {ts ts1 : List Nat} {dt dt1 : DT} {de : DE} (hi : SimI G wi src) (hg : SimG G g dg ts) (hsub : ∀ i ∈ ts, i ∈ vs) (ht : SimT G tt dt)
    (hi1 : SimI G wi1 src1) (hg1 : SimG G g1 dg1 ts1) (hsub1 : ∀ i ∈ ts1, i ∈ vs1) (ht1 : SimT G tt1 dt1) (he : SimE G te de) :
    SimF G (tLc2 wi g tt wi1 g1 tt1 te vs vs1) (dLc2 src dg dt src1 dg1 dt1 de vs vs1) := by
  refine ⟨fun F H0 H S cs σ Q I ys cs' e q => ?_⟩
  unfold dLc2 at e
  split at e
  rotate_left
  · cases e
  rename_i hno
  split at e
  rotate_left
  · cases e
  rename_i ds c1 e1
  split at e
  rotate_left
  · cases e
  rename_i ys0 c9 ee
  split at e
  rotate_left
  · cases e
  rename_i hlen
  cases e
  refine hi.run F H0 H S cs σ _ I _ _ e1 fun J Ha Hb s1 I1 jok => ?_
  intro Dl hD
  have apD : Apart F S σ Dl := I1.apart hD
  have heD : F.He Dl = none := I1.he.free hD
  have h0D : Ha Dl = none := I1.ex.free hD
  have hb : ∀ a, F.ban a → F.He a ≠ none := fun a h => (I1.bn a h).1
  have apW := apD.wiped vs
  refine ⟨fun i m Hc => m = ds.length - i ∧ i ≤ ds.length ∧ ∃ H0c acc accV zs c, Same Ha H0c ∧ StOk G F H0c Hc (wipeD S vs) c (wipe σ vs) ∧ Hc Dl = some (.lst accV) ∧ H0c Dl = none ∧ Rps G H0c acc accV ∧
    lcO dg dt (lcIn src1 dg1 dt1 de vs1) (ds.drop i) (wipeD S vs) c = some (zs, cs') ∧ acc ++ zs = ys, ⟨ds.length, by simp, Nat.zero_le _, Ha, [], [], ys, c1, Same.refl _, (I1.off _ hD).wiped vs, upd_same, h0D, Rps.nil, ee, rfl⟩, ?_⟩
  rintro i m Hc ⟨rfl, hi, H0c, acc, accV, zs, c, sa, I2, hDl, h0Dl, racc, el, rfl⟩
  by_cases hlt : i < ds.length
  · refine .inr ⟨jok.go i H0c Hc sa I2.ex hlt, fun Hn => ∃ H0c acc' accV' zs' c', Same Ha H0c ∧ StOk G F H0c Hn (wipeD S vs) c' (wipe σ vs) ∧ Hn Dl = some (.lst accV') ∧ H0c Dl = none ∧ Rps G H0c acc' accV' ∧
      lcO dg dt (lcIn src1 dg1 dt1 de vs1) (ds.drop (i + 1)) (wipeD S vs) c' = some (zs', cs') ∧ acc' ++ zs' = acc ++ zs, fun Hn hn => ?_, fun x Hx hy => ?_⟩
    · obtain ⟨H0n, acc', accV', zs', c', n1, n2, n3, n4, n5, n7, n8⟩ := hn
      exact ⟨ds.length - (i + 1), by omega, rfl, hlt, H0n, acc', accV', zs', c', n1, n2, n3, n4, n5, n7, n8⟩
    · obtain ⟨d, H0d, ed, gr, rd⟩ := jok.yld i H0c Hc x Hx sa I2.ex hlt hy
      have I3 := I2.grow gr
      rw [List.drop_eq_getElem_cons hlt, show ds[i] = d from Option.some.inj ((List.getElem?_eq_getElem hlt).symm.trans ed)] at el
      have hDx : Hx Dl = some (.lst accV) := gr.b _ _ hDl
      have h0x : H0d Dl = none := gr.d Dl (ne_none hDl) h0Dl
      unfold lcO at el
      split at el
      rotate_left
      · cases el
      rename_i S1 eg
      refine hg.run F H0d Hx (wipeD S vs) c (wipe σ vs) d x _ I3 rd S1 eg fun σ2 I4 ap2 w2 => ?_
      have wv : wipe σ2 vs = wipe σ vs := (w2 vs hsub).trans wipeV_wipe
      have wd : wipeD S1 vs = wipeD S vs := (hg.wD _ _ _ eg vs hsub).trans wipeD_wipe
      refine ⟨wv, ?_⟩
      have apS1 := ap2 Dl apW
      have I5 := I4.kept hDx h0x apS1 (fun _ z => nomatch z)
      split at el
      · rename_i c2 et
        split at el
        · rename_i xs c3 ei
          split at el
          · rename_i ys' c4 er
            cases el
            refine ht.run (F.keep Dl (.lst accV)) H0d Hx S1 c σ2 _ I5 _ _ et fun H0e He s5 I6 => ?_
            rw [if_pos rfl]
            unfold lcIn at ei
            split at ei
            rotate_left
            · cases ei
            rename_i hno1
            split at ei
            rotate_left
            · cases ei
            rename_i es c5 e5
            refine hi1.run (F.keep Dl (.lst accV)) H0e He S1 c2 σ2 _ I6 _ _ e5 fun J1 H0f Hf s6 I7 jok1 => ?_
            obtain ⟨I8, hDf, h0f⟩ := I7.unkept heD hb
            refine inner_loop hg1 hsub1 ht1 he I8 hno1 jok1 heD apS1 hDf h0f (racc.mono (gr.a.trans (s5.trans s6))) ?_ ei fun H0g Hg accV' s7 I9 hDg h0g racc' => ?_
            · have : (acc ++ (xs ++ ys')).length ≤ sizeLine := hlen
              simp at this
              omega
            · have I10 := I9.wiped vs
              rw [wv, wd] at I10
              exact ⟨H0g, acc ++ xs, accV', ys', c3, (sa.trans gr.a).trans ((s5.trans s6).trans s7), I10, hDg, h0g, racc', er, by rw [List.append_assoc]⟩
          · cases el
        · cases el
      · rename_i c2 et
        refine ht.run (F.keep Dl (.lst accV)) H0d Hx S1 c σ2 _ I5 _ _ et fun H0e He s5 I6 => ?_
        refine iteF ?_
        obtain ⟨I8, hDf, h0f⟩ := I6.unkept heD hb
        have I10 := I8.wiped vs
        rw [wv, wd] at I10
        exact ⟨H0e, acc, accV, zs, c2, (sa.trans gr.a).trans s5, I10, hDf, h0f, racc.mono (gr.a.trans s5), el, rfl⟩
      · cases el
  · have hi' : i = ds.length := by omega
    subst hi'
    rw [List.drop_length] at el
    cases el
    refine .inl ⟨jok.stop _ H0c Hc sa I2.ex rfl, ?_⟩
    exact q Dl accV H0c Hc (s1.trans sa) (I.unwiped hno (s1.trans sa) I2) h0Dl heD apD hDl (by rw [List.append_nil]; exact racc)
section
variable {X : Cx} {K : PySem.W.Frag} {cA : Nat → Addr} {te : TE} {f : DE} {elt tg iter tg1 iter1 : Expr} {ifs ifs1 : List Expr} {scope : Scope} {pos spos py : Pos} {wi wi1 : TI} {gt gt1 : TG} {tt tt1 : TT} {src src1 : DF} {dg dg1 : DG} {ts ts1 : List Nat} {dt dt1 : DT}
theorem df_lc2 (own : List (Str × Nat)) (vs1 : List Nat) (hc : X.calm = true) (hN : X.N.Nodup) (hi : DIter X K cA tg iter wi src) (ok : BlkOk X.N X.env.scope scope own)
    (hg : ∀ (s : Shared) (H : Hp) (C : Addr) (cl : List (Str × Addr)) (fp : List Addr), DTgt (X.blk s H scope (compEnvC scope cl C X.env) fp) K cA tg gt dg ts) (hsub : ∀ i ∈ ts, i ∈ own.map (·.2))
    (ht : ∀ (s : Shared) (H : Hp) (C : Addr) (cl : List (Str × Addr)) (fp : List Addr), DTss (X.blk s H scope (compEnvC scope cl C X.env) fp) K cA ifs tt dt)
    (hi1 : ∀ (s : Shared) (H : Hp) (C : Addr) (cl : List (Str × Addr)) (fp : List Addr), DIter (X.blk s H scope (compEnvC scope cl C X.env) fp) K cA tg1 iter1 wi1 src1)
    (hg1 : ∀ (s : Shared) (H : Hp) (C : Addr) (cl : List (Str × Addr)) (fp : List Addr), DTgt (X.blk s H scope (compEnvC scope cl C X.env) fp) K cA tg1 gt1 dg1 ts1) (hsub1 : ∀ i ∈ ts1, i ∈ vs1)
    (ht1 : ∀ (s : Shared) (H : Hp) (C : Addr) (cl : List (Str × Addr)) (fp : List Addr), DTss (X.blk s H scope (compEnvC scope cl C X.env) fp) K cA ifs1 tt1 dt1)
    (he : ∀ (s : Shared) (H : Hp) (C : Addr) (cl : List (Str × Addr)) (fp : List Addr), DExp (X.blk s H scope (compEnvC scope cl C X.env) fp) K cA elt te f) (hv : ∀ i ∈ vs1, i ∈ own.map (·.2) := by decide)
    (hs : ∀ x, foldedSetIterable iter X.env x = pure x := by intro _; rfl) (hs1 : ∀ env x, foldedSetIterable iter1 env x = pure x := by intro _ _; rfl) :
    DFsh X K cA (.ListComp elt [⟨tg, iter, ifs, 0⟩, ⟨tg1, iter1, ifs1, 0⟩] scope pos) (tLc2 wi gt tt wi1 gt1 tt1 te (own.map (·.2)) vs1) (dLc2 src dg dt src1 dg1 dt1 f (own.map (·.2)) vs1) :=
  ⟨pe_lc2 hc hN hi.pi ok hv (fun s H C cl fp => (hg s H C cl fp).pg) (fun s H C cl fp => (ht s H C cl fp).pt) (fun s H C cl fp => (hi1 s H C cl fp).pi) (fun s H C cl fp => (hg1 s H C cl fp).pg) (fun s H C cl fp => (ht1 s H C cl fp).pt) (fun s H C cl fp => (he s H C cl fp).pe) hs hs1,
    sim_lc2 hi.sim (hg X.s_0 X.H_0 0 [] []).sim hsub (ht X.s_0 X.H_0 0 [] []).sim (hi1 X.s_0 X.H_0 0 [] []).sim (hg1 X.s_0 X.H_0 0 [] []).sim hsub1 (ht1 X.s_0 X.H_0 0 [] []).sim (he X.s_0 X.H_0 0 [] []).sim⟩
theorem ps_lc2 {i : Nat} {y : Str} (own : List (Str × Nat)) (vs1 : List Nat) (hc : X.calm = true) (hN : X.N.Nodup) (hi : DIter X K cA tg iter wi src) (ok : BlkOk X.N X.env.scope scope own)
    (hg : ∀ (s : Shared) (H : Hp) (C : Addr) (cl : List (Str × Addr)) (fp : List Addr), DTgt (X.blk s H scope (compEnvC scope cl C X.env) fp) K cA tg gt dg ts)
    (ht : ∀ (s : Shared) (H : Hp) (C : Addr) (cl : List (Str × Addr)) (fp : List Addr), DTss (X.blk s H scope (compEnvC scope cl C X.env) fp) K cA ifs tt dt)
    (hi1 : ∀ (s : Shared) (H : Hp) (C : Addr) (cl : List (Str × Addr)) (fp : List Addr), DIter (X.blk s H scope (compEnvC scope cl C X.env) fp) K cA tg1 iter1 wi1 src1)
    (hg1 : ∀ (s : Shared) (H : Hp) (C : Addr) (cl : List (Str × Addr)) (fp : List Addr), DTgt (X.blk s H scope (compEnvC scope cl C X.env) fp) K cA tg1 gt1 dg1 ts1)
    (ht1 : ∀ (s : Shared) (H : Hp) (C : Addr) (cl : List (Str × Addr)) (fp : List Addr), DTss (X.blk s H scope (compEnvC scope cl C X.env) fp) K cA ifs1 tt1 dt1)
    (he : ∀ (s : Shared) (H : Hp) (C : Addr) (cl : List (Str × Addr)) (fp : List Addr), DExp (X.blk s H scope (compEnvC scope cl C X.env) fp) K cA elt te f) (hv : ∀ i ∈ vs1, i ∈ own.map (·.2)) (hy : X.N[i]? = some y) (hyl : X.env.scope.names.lookup y = some .local)
    (hsw : swapsWith (.ListComp elt [⟨tg, iter, ifs, 0⟩, ⟨tg1, iter1, ifs1, 0⟩] scope pos) (some (.Name y py)) spos.line X.env = pure true) (hs : ∀ x, foldedSetIterable iter X.env x = pure x) (hs1 : ∀ env x, foldedSetIterable iter1 env x = pure x) :
    PS X (.Assign [.Name y py] (.ListComp elt [⟨tg, iter, ifs, 0⟩, ⟨tg1, iter1, ifs1, 0⟩] scope pos) spos) (tAsg (tLc2 wi gt tt wi1 gt1 tt1 te (own.map (·.2)) vs1) (gName i)) :=
  ps_setLc2 hc hN hy hyl hsw hi.pi ok hv (fun s H C cl fp => (hg s H C cl fp).pg) (fun s H C cl fp => (ht s H C cl fp).pt) (fun s H C cl fp => (hi1 s H C cl fp).pi) (fun s H C cl fp => (hg1 s H C cl fp).pg) (fun s H C cl fp => (ht1 s H C cl fp).pt) (fun s H C cl fp => (he s H C cl fp).pe) hs hs1
theorem ds_lc2 (i : Nat) {y : Str} (own : List (Str × Nat)) (vs1 : List Nat) (hc : X.calm = true) (hN : X.N.Nodup) (hi : DIter X K cA tg iter wi src) (ok : BlkOk X.N X.env.scope scope own)
    (hg : ∀ (s : Shared) (H : Hp) (C : Addr) (cl : List (Str × Addr)) (fp : List Addr), DTgt (X.blk s H scope (compEnvC scope cl C X.env) fp) K cA tg gt dg ts) (hsub : ∀ i ∈ ts, i ∈ own.map (·.2))
    (ht : ∀ (s : Shared) (H : Hp) (C : Addr) (cl : List (Str × Addr)) (fp : List Addr), DTss (X.blk s H scope (compEnvC scope cl C X.env) fp) K cA ifs tt dt)
    (hi1 : ∀ (s : Shared) (H : Hp) (C : Addr) (cl : List (Str × Addr)) (fp : List Addr), DIter (X.blk s H scope (compEnvC scope cl C X.env) fp) K cA tg1 iter1 wi1 src1)
    (hg1 : ∀ (s : Shared) (H : Hp) (C : Addr) (cl : List (Str × Addr)) (fp : List Addr), DTgt (X.blk s H scope (compEnvC scope cl C X.env) fp) K cA tg1 gt1 dg1 ts1) (hsub1 : ∀ i ∈ ts1, i ∈ vs1)
    (ht1 : ∀ (s : Shared) (H : Hp) (C : Addr) (cl : List (Str × Addr)) (fp : List Addr), DTss (X.blk s H scope (compEnvC scope cl C X.env) fp) K cA ifs1 tt1 dt1)
    (he : ∀ (s : Shared) (H : Hp) (C : Addr) (cl : List (Str × Addr)) (fp : List Addr), DExp (X.blk s H scope (compEnvC scope cl C X.env) fp) K cA elt te f) (hv : ∀ i ∈ vs1, i ∈ own.map (·.2) := by decide) (hy : X.N[i]? = some y := by rfl) (hyl : X.env.scope.names.lookup y = some .local := by rfl)
    (hsw : swapsWith (.ListComp elt [⟨tg, iter, ifs, 0⟩, ⟨tg1, iter1, ifs1, 0⟩] scope pos) (some (.Name y py)) spos.line X.env = pure true := by exact sw_true rfl rfl rfl (by decide +kernel))
    (hs : ∀ x, foldedSetIterable iter X.env x = pure x := by intro _; rfl) (hs1 : ∀ env x, foldedSetIterable iter1 env x = pure x := by intro _ _; rfl) :
    DStm X K cA (.Assign [.Name y py] (.ListComp elt [⟨tg, iter, ifs, 0⟩, ⟨tg1, iter1, ifs1, 0⟩] scope pos) spos) (tAsg (tLc2 wi gt tt wi1 gt1 tt1 te (own.map (·.2)) vs1) (gName i)) (dsAsg (dFz (dLc2 src dg dt src1 dg1 dt1 f (own.map (·.2)) vs1)) (gdN i)) :=
  ⟨ps_lc2 own vs1 hc hN hi ok hg ht hi1 hg1 ht1 he hv hy hyl hsw hs hs1, sim_asg (sim_lc2 hi.sim (hg X.s_0 X.H_0 0 [] []).sim hsub (ht X.s_0 X.H_0 0 [] []).sim (hi1 X.s_0 X.H_0 0 [] []).sim (hg1 X.s_0 X.H_0 0 [] []).sim hsub1 (ht1 X.s_0 X.H_0 0 [] []).sim (he X.s_0 X.H_0 0 [] []).sim).fz sim_gN⟩
theorem ds_lcO2 (i : Nat) {y : Str} (own : List (Str × Nat)) (vs1 : List Nat) (hc : X.calm = true) (hN : X.N.Nodup) (hi : DIter X K cA tg iter wi src) (ok : BlkOk X.N X.env.scope scope own)
    (hg : ∀ (s : Shared) (H : Hp) (C : Addr) (cl : List (Str × Addr)) (fp : List Addr), DTgt (X.blk s H scope (compEnvC scope cl C X.env) fp) K cA tg gt dg ts) (hsub : ∀ i ∈ ts, i ∈ own.map (·.2))
    (ht : ∀ (s : Shared) (H : Hp) (C : Addr) (cl : List (Str × Addr)) (fp : List Addr), DTss (X.blk s H scope (compEnvC scope cl C X.env) fp) K cA ifs tt dt)
    (hi1 : ∀ (s : Shared) (H : Hp) (C : Addr) (cl : List (Str × Addr)) (fp : List Addr), DIter (X.blk s H scope (compEnvC scope cl C X.env) fp) K cA tg1 iter1 wi1 src1)
    (hg1 : ∀ (s : Shared) (H : Hp) (C : Addr) (cl : List (Str × Addr)) (fp : List Addr), DTgt (X.blk s H scope (compEnvC scope cl C X.env) fp) K cA tg1 gt1 dg1 ts1) (hsub1 : ∀ i ∈ ts1, i ∈ vs1)
    (ht1 : ∀ (s : Shared) (H : Hp) (C : Addr) (cl : List (Str × Addr)) (fp : List Addr), DTss (X.blk s H scope (compEnvC scope cl C X.env) fp) K cA ifs1 tt1 dt1)
    (he : ∀ (s : Shared) (H : Hp) (C : Addr) (cl : List (Str × Addr)) (fp : List Addr), DExp (X.blk s H scope (compEnvC scope cl C X.env) fp) K cA elt te f) (hv : ∀ i ∈ vs1, i ∈ own.map (·.2) := by decide) (hy : X.N[i]? = some y := by rfl) (hyl : X.env.scope.names.lookup y = some .local := by rfl)
    (hsw : swapsWith (.ListComp elt [⟨tg, iter, ifs, 0⟩, ⟨tg1, iter1, ifs1, 0⟩] scope pos) (some (.Name y py)) spos.line X.env = pure true := by exact sw_true rfl rfl rfl (by decide +kernel))
    (hs : ∀ x, foldedSetIterable iter X.env x = pure x := by intro _; rfl) (hs1 : ∀ env x, foldedSetIterable iter1 env x = pure x := by intro _ _; rfl) :
    DStm X K cA (.Assign [.Name y py] (.ListComp elt [⟨tg, iter, ifs, 0⟩, ⟨tg1, iter1, ifs1, 0⟩] scope pos) spos) (tAsg (tLc2 wi gt tt wi1 gt1 tt1 te (own.map (·.2)) vs1) (gName i)) (dsOwn i (dLc2 src dg dt src1 dg1 dt1 f (own.map (·.2)) vs1)) :=
  ⟨ps_lc2 own vs1 hc hN hi ok hg ht hi1 hg1 ht1 he hv hy hyl hsw hs hs1, sim_own (sim_lc2 hi.sim (hg X.s_0 X.H_0 0 [] []).sim hsub (ht X.s_0 X.H_0 0 [] []).sim (hi1 X.s_0 X.H_0 0 [] []).sim (hg1 X.s_0 X.H_0 0 [] []).sim hsub1 (ht1 X.s_0 X.H_0 0 [] []).sim (he X.s_0 X.H_0 0 [] []).sim)⟩
end
end DL

set_option autoImplicit true
set_option relaxedAutoImplicit true
set_option Elab.async false
set_option linter.all false
set_option autoImplicit false
set_option maxRecDepth 100000
set_option maxHeartbeats 8000000
/-! DL, T: sorted(set(a list of ints)). -/
namespace DL
open PySem PySem.Spec PyProof.Rows L2
section
variable {P : Program} {w : World} {A : Around} {E : Value → Shared → Prop} {s : Shared}
/-- an empty set's object -/
abbrev eSet (w : World) : Obj := { cls := .type "set", dict := none, data := .set #[] 0 (.fresh 0 0 (!w.params.followText "set-order")) }
theorem set_of_ints {l : Addr} {its : Array Value} (ns : List Int) {Q : Value → Shared → Prop} (calm : A.handled = none) (isl : s.heap.IsList l its) (itsI : IntsAre its.toList ns) (few : ns.length + 1 < scanBound)
    (goal : ∀ (h2 : Heap) (tk c : Nat), SetR w h2 s.heap.objs.size (fun j => decide (j ∈ ns)) c → c ≤ ns.length → (∀ b o, s.heap.get? b = some o → h2.get? b = some o) → Q (.ref s.heap.objs.size) { s with heap := h2, toks := tk }) :
    wpAny (model P w) A (call (.type "set") [.ref l]) Q E s := by
  have size_eq : its.size = ns.length := by have z := IntsAre.length itsI; rwa [Array.length_toList] at z
  obtain ⟨first, more, order⟩ := F.called_set.mro
  have isMade := F.called_set.made; have isSub := F.called_set.sub
  refine wpAny_call (codeAny_of_tree ?_); show wpAny _ _ (callAny (.type "set") _) _ _ _
  refine wpAny_pure ⟨Code.quiet_builtin _ (by decide +kernel), codeAny_builtin F.entry_type_call ?_⟩; rw [Around.under_plain (weight_type_call_type "set" [.ref l] []) rfl]
  have nt := F.called_set.notType; have cc := F.called_set.canCreate; have tcl := F.typeCall_set_1 (.ref l)
  repeat (any_goals (first | assumption | wp_step))
  refine codeAny_mono (code_set_led1 (.ref l) (E := E) (Q₁ := fun ob s1 => ob = .ref s.heap.objs.size ∧ s1 = { s with heap := s.heap.push (eSet w) }) ⟨rfl, rfl⟩) fun r s1 hr => ?_
  cases r with
  | error e => exact hr
  | ok fl =>
    cases fl with
    | ret ob =>
      obtain ⟨rfl, rfl⟩ := hr
      have atS : (s.heap.push (eSet w)).get? s.heap.objs.size = some (eSet w) := Heap.get?_push_size _ rfl
      have tyS : Shared.TypeIs { s with heap := s.heap.push (eSet w) } (.ref s.heap.objs.size) "set" := ⟨_, atS, rfl⟩
      have ilk := F.called_set.init.lookup; have ibd := F.called_set.init.bind (.ref s.heap.objs.size)
      repeat (any_goals (first | assumption | wp_step))
      refine codeAny_mono (codeAny_call_builtin (R := wants (fun r s2 => r = .none ∧ ∃ h2 tk c, s2 = { s with heap := h2, toks := tk } ∧ SetR w h2 s.heap.objs.size (fun j => decide (j ∈ ns)) c ∧ c ≤ ns.length ∧
          (∀ b o, s.heap.get? b = some o → h2.get? b = some o)) E) F.called_set.init.plain F.entry_set_init (check_set_init_1 tyS ?_)) fun r2 s2 hr2 => ?_
      · obtain ⟨ol, at_l, cl_l, n_l, da_l⟩ := isl
        obtain ⟨oc, odx, oda, osl⟩ := ol
        simp only at cl_l da_l; subst cl_l; subst da_l
        have at_l2 : (s.heap.push (eSet w)).get? l = some { cls := .type "list", dict := odx, data := .seq its n_l, slots := osl } := Heap.get?_push_of_some _ at_l
        have sub1 := F.sub_list_set; have sub2 := F.sub_list_frozenset
        have ne1 : (Value.type "list" == Value.type "dict") = false := by decide
        have isl2 : (s.heap.push (eSet w)).IsList l its := ⟨_, at_l2, rfl, n_l, rfl⟩
        unfold Builtin.«set.__init__» noKeywords Builtin.Frozenset.updateFrom; generalize hPI : pyIter = PI
        wp_walk
        subst hPI
        refine wpAny_pyIter_list isl2 ?_
        refine wpAny_bind (wpAny_runValue ?_)
        have ltl : l < s.heap.objs.size := Heap.lt_size at_l
        have calm3 : A.in1.in1.in1.handled = none := by simp [calm]
        have szp : (s.heap.push (eSet w)).objs.size = s.heap.objs.size + 1 := Heap.size_push ..
        have ne2 : l ≠ (s.heap.push (eSet w)).objs.size := by rw [szp]; exact Nat.ne_of_lt (Nat.lt_succ_of_lt ltl)
        have out : s.heap.objs.size ∉ [(s.heap.push (eSet w)).objs.size, l] := by
          rw [szp]; simp only [List.mem_cons, List.not_mem_nil, or_false, not_or]
          exact ⟨Nat.ne_of_lt (Nat.lt_succ_self _), Nat.ne_of_gt ltl⟩
        have vals : ∀ (i : Nat) (v : Value), its[i]? = some v → ∃ k t, ns[i]? = some k ∧ v = .int k t := fun i v hv => by
          have lt_i : i < ns.length := by rw [← size_eq]; exact (Array.getElem?_eq_some_iff.mp hv).1
          obtain ⟨t, ev⟩ := IntsAre.int_at itsI i v (by rw [Array.getElem?_toList]; exact hv)
          exact ⟨ns[i], t, List.getElem?_eq_getElem lt_i, by rw [ev, List.getD_eq_getElem?_getD, List.getElem?_eq_getElem lt_i] <;> rfl⟩
        refine set_update_ints ((Walks.list calm3 _ l ne2 its).toS) s.heap.objs.size out ns size_eq few vals (its.size - 0) 0 _ (by omega) (Nat.zero_le _) ⟨⟨_, Heap.get?_push_size _ rfl, rfl, rfl⟩, (isl2.push _)⟩ ?start ?fin
        case start => exact ⟨0, Nat.le_refl 0, setR_new_at (Heap.get?_push_of_some _ atS)⟩
        case fin =>
          intro s3 c3 mv hc3 hS3
          obtain ⟨h3, g3, d3, t3, o3⟩ := s3
          have q1 : g3 = s.gens := mv.gens; have q2 : d3 = s.drawn := mv.drawn; have q3 : o3 = s.os := mv.os
          subst q1; subst q2; subst q3
          show wpAny _ _ _ _ _ _; refine wpAny_pure ?_; show wpAny _ _ (ret Value.none) _ _ _
          rw [size_eq] at hc3
          refine wpAny_pure ⟨rfl, h3, t3, c3, rfl, hS3, hc3, fun b o e => ?_⟩
          have lt_b : b < s.heap.objs.size := Heap.lt_size e
          have nb1 : b ≠ s.heap.objs.size := Nat.ne_of_lt lt_b
          have nb2 : b ≠ (s.heap.push (eSet w)).objs.size := by rw [szp]; exact Nat.ne_of_lt (Nat.lt_succ_of_lt lt_b)
          exact mv.heap b o (by simp only [List.mem_cons, List.not_mem_nil, or_false, not_or]; exact ⟨nb1, nb2⟩) (Heap.get?_push_of_some _ (Heap.get?_push_of_some _ e))
      · cases r2 with
        | error e => exact hr2
        | ok fl2 =>
          cases fl2 with
          | ret r =>
            obtain ⟨rfl, h2, tk, c2, rfl, a1, a2, a3⟩ := hr2
            repeat (any_goals (first | assumption | wp_step))
            exact goal _ _ _ a1 a2 a3
          | _ => exact hr2.elim
    | _ => exact hr.elim
end
/-- sorted(set(e)), e a list of ints -/
def tSortSet (K : PySem.W.Frag) (ta : TE) : TE := fun σ H Q => ta σ H fun x H1 => ∃ (l : Addr) (ns : List Int), x = .ref l ∧ SqL K H1 l (ns.map V.int) ∧ ns.length < 64 ∧
  ∀ (ms : List Int) (p : Addr), ms.Pairwise (· < ·) → (∀ k : Int, k ∈ ms ↔ k ∈ ns) → H1 p = none → Q (.ref p) (upd H1 p (.lst (ms.map V.int)))
theorem pe_sortSet {X : Cx} {a : Expr} {ta : TE} {p p2 q pos : Pos} (hm : X.mg "sorted" = none) (hm2 : X.mg "set" = none) (ha : PE X a ta) (hc : X.calm = true) (hg : Gl X "sorted" := by rfl) (hg2 : Gl X "set" := by rfl)
    (na : starEach [a] X.env = (false, eval a X.env) :: starEach [] X.env := by rfl) : PE X (.Call (.Name "sorted" p) [.Call (.Name "set" p2) [a] [] q] [] pos) (tSortSet X.K ta) := by
  refine ⟨fun pins s σ H Q I h => ?_⟩
  refine Call_ (ld_blt I hg hm (by decide +kernel : bootBuiltins "sorted" = some (.builtin "sorted")) ?_)
  refine PyProof.Rows.callWith_builtin1 (PyProof.Rows.args_cons ?_ rfl) rfl rfl
  refine Call_ (ld_blt I hg2 hm2 (by decide +kernel : bootBuiltins "set" = some (.type "set")) ?_)
  refine PyProof.Rows.callWith_type1 (PyProof.Rows.args_cons (thn (ha.run pins s σ H _ I h) fun v s1 ⟨x, H1, I1, r1, q1⟩ => PyProof.Rows.args_nil ?_) na) na rfl
  obtain ⟨l, ns, rfl, hq, h64, q1⟩ := q1
  cases r1
  obtain ⟨its, r, pl, hz⟩ := I1.list hq
  refine set_of_ints ns (I1.ok.hd hc) pl.isList (by simpa using RZ.intsAre_vals r) (by unfold scanBound; omega) fun h2 tk c R hc2 hk => PyProof.Rows.args_nil ?_
  have I2 : Inv X pins σ H1 { s1 with heap := h2, toks := tk } := I1.kept hk
  refine sorted_set (P := X.prog) (s := { s1 with heap := h2, toks := tk }) R (I2.ok.hd hc) (by omega) fun s' p out c2 ms k g o hp hg3 hi hs hm3 hl => ?_
  have hlen : (ms.map V.int).length ≤ sizeLine := by rw [List.length_map, hl, sizeLine_eq]; omega
  have hn : H1 p = none := I2.hok.fresh hp
  have J : Inv X pins σ (upd H1 p (.lst (ms.map V.int))) { ({ s1 with heap := h2, toks := tk } : Shared) with heap := s'.heap, gens := s'.gens, drawn := s'.drawn, toks := s'.toks } :=
    I2.call (ch := []) (Un.laid k hp hn) (I2.hok.laid k hp ⟨hlen, out.toList, c2, vals_of_ints hi, hg3⟩) (by rw [g]; exact I2.bare) (fun _ z => nomatch z)
  have e : s' = { ({ s1 with heap := h2, toks := tk } : Shared) with heap := s'.heap, gens := s'.gens, drawn := s'.drawn, toks := s'.toks } := by
    cases s'
    cases s1
    cases o
    rfl
  rw [e]
  exact ⟨.ref p, _, J, rfl, q1 ms p hs (fun k => by rw [hm3 k]; simp) hn⟩
variable {G : Gm}
/-- in a strictly rising row -/
def insI (x : Int) : List Int → List Int
  | [] => [x]
  | y :: r => if x < y then x :: y :: r else if x = y then y :: r else y :: insI x r
def setI : List Int → List Int
  | [] => []
  | x :: r => insI x (setI r)
theorem insI_mem {x k : Int} : ∀ {l : List Int}, k ∈ insI x l ↔ k = x ∨ k ∈ l
  | [] => by simp [insI]
  | y :: r => by
    unfold insI
    split
    · simp
    · split
      · rename_i h; subst h; simp
      · simp [insI_mem (l := r)]
        constructor
        · rintro (h | h | h) <;> simp [h]
        · rintro (h | h | h) <;> simp [h]
theorem setI_mem {k : Int} : ∀ {l : List Int}, k ∈ setI l ↔ k ∈ l
  | [] => by simp [setI]
  | x :: r => by simp [setI, insI_mem, setI_mem (l := r)]
theorem insI_lt {x : Int} : ∀ {l : List Int}, l.Pairwise (· < ·) → (insI x l).Pairwise (· < ·)
  | [], _ => by simp [insI]
  | y :: r, h => by
    unfold insI
    rw [List.pairwise_cons] at h
    split
    · rename_i hx
      rw [List.pairwise_cons]
      refine ⟨fun z hz => ?_, List.pairwise_cons.mpr h⟩
      rcases List.mem_cons.mp hz with e | e
      · omega
      · have := h.1 z e; omega
    · split
      · exact List.pairwise_cons.mpr h
      · rw [List.pairwise_cons]
        refine ⟨fun z hz => ?_, insI_lt h.2⟩
        rcases insI_mem.mp hz with e | e
        · omega
        · exact h.1 z e
theorem setI_lt : ∀ {l : List Int}, (setI l).Pairwise (· < ·)
  | [] => by simp [setI]
  | x :: r => insI_lt setI_lt
theorem rising_eq : ∀ {l m : List Int}, l.Pairwise (· < ·) → m.Pairwise (· < ·) → (∀ k, k ∈ l ↔ k ∈ m) → l = m
  | [], [], _, _, _ => rfl
  | [], y :: m, _, _, h => by have := (h y).mpr List.mem_cons_self; cases this
  | x :: l, [], _, _, h => by have := (h x).mp List.mem_cons_self; cases this
  | x :: l, y :: m, h1, h2, h => by
    rw [List.pairwise_cons] at h1 h2
    have exy : x = y := by
      have a := (h x).mp List.mem_cons_self
      have b := (h y).mpr List.mem_cons_self
      rcases List.mem_cons.mp a with a | a
      · exact a
      · rcases List.mem_cons.mp b with b | b
        · exact b.symm
        · have := h2.1 _ a; have := h1.1 _ b; omega
    subst exy
    refine congrArg (x :: ·) (rising_eq h1.2 h2.2 fun k => ⟨fun hk => ?_, fun hk => ?_⟩)
    · rcases List.mem_cons.mp ((h k).mp (List.mem_cons_of_mem _ hk)) with e | e
      · have := h1.1 _ hk; omega
      · exact e
    · rcases List.mem_cons.mp ((h k).mpr (List.mem_cons_of_mem _ hk)) with e | e
      · have := h2.1 _ hk; omega
      · exact e
def dSortSet (f : DE) : DF := fun S cs => match f S cs with
  | some (r, c1) => match rd S c1 r with
    | some (.lst ds) => match intsD ds with
      | some ns => if ns.length < 64 then some ((setI ns).map D.int, c1) else none
      | none => none
    | _ => none
  | none => none
theorem sim_sortSet {ta : TE} {f : DE} (ha : SimE G ta f) : SimF G (tSortSet G.K ta) (dSortSet f) := by
  refine ⟨fun F H0 H S cs σ Q I ds cs' e q => ?_⟩
  unfold dSortSet at e
  split at e
  rotate_left
  · cases e
  rename_i r c1 e1
  split at e
  rotate_left
  · cases e
  rename_i xs e2
  split at e
  rotate_left
  · cases e
  rename_i ns e3
  split at e
  rotate_left
  · cases e
  rename_i h64
  cases e
  refine ha.run F H0 H S cs σ _ I _ _ e1 fun v Ha Hb s1 I1 q1 => ?_
  have rb := rd_ok I1 q1 e2
  unfold RB at rb
  obtain ⟨p0, vs, rfl, h2, h3⟩ := rb
  refine ⟨p0, ns, rfl, .inl (.inl (by rw [← rps_intsD h3 e3]; exact h2)), h64, fun ms p up mem hp => ?_⟩
  have e4 : ms = setI ns := rising_eq up setI_lt fun k => by rw [mem, setI_mem]
  subst e4
  exact (q.mono s1).laid I1 (rps_ints _) hp
theorem df_sortSet {X : Cx} {K : PySem.W.Frag} {cA : Nat → Addr} {a : Expr} {ta : TE} {f : DE} {p p2 q pos : Pos} (hc : X.calm = true) (hm : X.mg "sorted" = none) (hm2 : X.mg "set" = none) (ha : DExp X K cA a ta f) (hg : Gl X "sorted" := by rfl) (hg2 : Gl X "set" := by rfl)
    (na : starEach [a] X.env = (false, eval a X.env) :: starEach [] X.env := by rfl) (hK : X.K = K := by rfl) : DFsh X K cA (.Call (.Name "sorted" p) [.Call (.Name "set" p2) [a] [] q] [] pos) (tSortSet K ta) (dSortSet f) := by
  subst hK
  exact ⟨pe_sortSet hm hm2 ha.pe hc hg hg2 na, sim_sortSet ha.sim⟩
end DL

set_option autoImplicit true
set_option relaxedAutoImplicit true
set_option Elab.async false
set_option linter.all false
set_option autoImplicit false
set_option maxRecDepth 100000
set_option maxHeartbeats 4000000
/-! DL, V: a def out of a list of defs, called. -/
namespace DL
open PySem PySem.Spec PyProof.Rows L2
structure DSelL (X : Cx) (K : PySem.W.Frag) (cA : Nat → Addr) (k : Nat) (es : List Expr) (fs : List (Addr × Sp)) (ms : List (D → List D → Option (D × D))) : Prop where
  pa : PA X es (tRefs (fs.map (·.1)))
  ok : ∀ p ∈ fs, FnR X.prog X.w X.K X.mg X.base CX0 k p.1 p.2 ∧ PySem.W.keepIn X.K (.ref p.1) = true
  len : fs.length = ms.length
  at_ : ∀ (j : Nat) (m : D → List D → Option (D × D)), ms[j]? = some m → ∃ a, fs[j]? = some (a, fun vs H Q E => spC ⟨K, cA⟩ m (vs ++ []) H Q E)
section
variable {X : Cx} {K : PySem.W.Frag} {cA : Nat → Addr} {k j : Nat} {es : List Expr} {fs : List (Addr × Sp)} {ms : List (D → List D → Option (D × D))} {m : D → List D → Option (D × D)} {fa : Addr} {fd : FuncData} {ps : List Str} {x : Str} {pp : Pos}
theorem sel_nil : DSelL X K cA k [] [] [] := ⟨pa_nil, fun _ h => (nomatch h), rfl, fun j m h => by simp at h⟩
theorem sel_cons (F : FnOk X.prog X.w K X.mg X.base CX0 j fa fd ps (spC ⟨K, cA⟩ m)) (hj : j ≤ k) (hm : X.mg x = some (.ref fa)) (hk : PySem.W.keepIn K (.ref fa) = true) (hb : Binds K fd ps []) (r : DSelL X K cA k es fs ms) (hg : Gl X x := by rfl) (hdb : (x == ("__debug__" : Str)) = false := by decide)
    (hs : starEach (.Name x pp :: es) X.env = (false, eval (.Name x pp) X.env) :: starEach es X.env := by rfl) (hK : X.K = K := by rfl) : DSelL X K cA k (.Name x pp :: es) ((fa, fun vs H Q E => spC ⟨K, cA⟩ m (vs ++ []) H Q E) :: fs) (m :: ms) := by
  subst hK
  refine ⟨pa_cons (pe_glob hg hm rfl hdb) r.pa hs, fun p hp => ?_, by rw [List.length_cons, List.length_cons, r.len], fun i m' h => ?_⟩
  · rcases List.mem_cons.mp hp with e | e
    · subst e
      exact ⟨(F.mono hj).raw hb .nil, hk⟩
    · exact r.ok p e
  · cases i with
    | zero => cases h; exact ⟨fa, rfl⟩
    | succ i => exact r.at_ i m' (by simpa using h)
theorem dx_sel {ix e : Expr} {es2 : List Expr} {ti : TE} {fi : DE} {tr : TA} {h : DA} {lp sp pos : Pos} (L : DSelL X K cA k es fs ms) (hr : Room k X.A) (hi : DExp X K cA ix ti fi) (ha : DArg X K cA (e :: es2) tr h) (hz : Nat.ble fs.length 64 = true := by rfl) (hs : PlainIx ix := by intro _ _; rfl)
    (ht : eval (.Call (.Subscript (.List es lp) ix sp) (e :: es2) [] pos) X.env = (do callWith pos (← eval (.Subscript (.List es lp) ix sp) X.env) [] (backTo pos (starEach (e :: es2) X.env)) (backToKw pos (keywordEach [] X.env))) := by rfl)
    (he : starEach (e :: es2) X.env = (false, eval e X.env) :: starEach es2 X.env := by rfl) (hpl : (backTo pos (starEach es2 X.env)).any (·.1) = false := by rfl) (hK : X.K = K := by rfl) :
    DExp X K cA (.Call (.Subscript (.List es lp) ix sp) (e :: es2) [] pos) (tSel fs (tOp (rIxL K) (tLst (tRefs (fs.map (·.1)))) ti) tr) (dSel ms fi h) := by
  subst hK
  exact ⟨pe_sel (pe_ix ix_list (pe_lst L.pa) hi.pe hs) L.ok hr pass0 ha.pa ht he hpl, sim_sel L.len (Nat.le_trans (Nat.le_of_ble_eq_true hz) (by decide)) L.at_ hi.sim ha.sim⟩
end
/-- a, b = [..], e: the first one is a list of its own -/
def dsParO (i j : Nat) (f : DF) (g : DE) : DS := fun S cs => match f S cs with
  | some (ds, c1) => match g S c1 with
    | some (.c y, c2) => match S[i]? with
      | some .cst => none
      | some _ => match gdN j y (S.set i (.own ds)) with
        | some S2 => some (.nx, S2, c2)
        | none => none
      | none => none
    | _ => none
  | none => none
theorem sim_parO {G : Gm} {i j : Nat} {te tb : TE} {f : DF} {g : DE} (h : SimF G te f) (hg : SimE G tb g) : SimS G (tPar i j (tCons te (tCons tb tNil))) (dsParO i j f g) := by
  refine ⟨fun F H0 H S cs σ E I fl S' cs' e q => ?_⟩
  unfold dsParO at e
  split at e
  rotate_left
  · cases e
  rename_i ds c1 e1
  split at e
  rotate_left
  · cases e
  rename_i y c2 e2
  have go : ∀ {S2 : List Sl}, gdN j y (S.set i (.own ds)) = some S2 → fl = .nx → S' = S2 → cs' = c2 → tPar i j (tCons te (tCons tb tNil)) E σ H := by
    rintro S2 e3 rfl rfl rfl
    refine h.run F H0 H S cs σ _ I _ _ e1 fun p vs Ha Hb s1 I1 h0 he ap hp rs => ?_
    have hb : ∀ a, F.ban a → F.He a ≠ none := fun a h => (I1.bn a h).1
    have I2 := I1.kept hp h0 ap (fun _ z => nomatch z)
    refine hg.run (F.keep p _) Ha Hb S c1 σ _ I2 _ _ e2 fun w Hc Hd s2 I3 r3 => ?_
    obtain ⟨I4, hp4, h04⟩ := I3.unkept he hb
    refine ⟨_, w, rfl, ?_⟩
    have I5 := I4.setOwn i h04 he ap hp4 (rs.mono s2)
    unfold gdN at e3
    split at e3
    · cases e3
    · cases e3
      exact q _ _ _ (s1.trans s2) (I5.setVal j r3)
    · cases e3
  split at e
  · cases e
  · split at e
    · rename_i e3
      cases e
      exact go e3 rfl rfl rfl
    · cases e
  · cases e
theorem ds_parO {X : Cx} {K : PySem.W.Frag} {cA : Nat → Addr} {a b : Expr} {ta tb : TE} {f : DF} {g : DE} {pos : Pos} (i j : Nat) {y z : Str} {px py pt : Pos} {kt k2 pt2} (hc : X.calm = true) (hN : X.N.Nodup) (ha : DFsh X K cA a ta f) (hb : DExp X K cA b tb g) (hi : X.N[i]? = some y := by rfl) (hj : X.N[j]? = some z := by rfl) (hij : i ≠ j := by decide) (hx : X.env.scope.names.lookup y = some .local := by rfl) (hy : X.env.scope.names.lookup z = some .local := by rfl)
    (hw : swappedStores [.Tuple [.Name y px, .Name z py] kt pt] (.Tuple [a, b] k2 pt2) X.env = pure (some [y, z]) := by rfl) (hs : swapsWithSole [.Tuple [.Name y px, .Name z py] kt pt] (.Tuple [a, b] k2 pt2) pos.line X.env = pure false := by rfl)
    (h1 : starEach [a, b] X.env = (false, eval a X.env) :: starEach [b] X.env := by rfl) (h2 : starEach [b] X.env = (false, eval b X.env) :: starEach [] X.env := by rfl) :
    DStm X K cA (.Assign [.Tuple [.Name y px, .Name z py] kt pt] (.Tuple [a, b] k2 pt2) pos) (tPar i j (tCons ta (tCons tb tNil))) (dsParO i j f g) := ⟨ps_par hc hN hi hj hij hx hy (pa_cons ha.pe (pa_cons hb.pe pa_nil h2) h1) hw hs, sim_parO ha.sim hb.sim⟩
/-! ### is, is not: None, truth values -/
variable {G : Gm}
def oIsB : D → D → Option D
  | .bl a, .bl b => some (.bl (decide (a = b)))
  | _, _ => none
def oNotB : D → D → Option D
  | .bl a, .bl b => some (.bl (!decide (a = b)))
  | _, _ => none
theorem ops_isB : OpSim G rIsB oIsB := by
  intro F H0 H S cs σ Q x y z v w I rx ry e q
  unfold oIsB at e
  split at e
  · cases e
    unfold Rp at rx ry
    exact ⟨_, _, rx, ry, q.here I rp_bl⟩
  · cases e
theorem ops_notB : OpSim G rNotB oNotB := by
  intro F H0 H S cs σ Q x y z v w I rx ry e q
  unfold oNotB at e
  split at e
  · cases e
    unfold Rp at rx ry
    exact ⟨_, _, rx, ry, q.here I rp_bl⟩
  · cases e
def oIsA : D → D → Option D := orD oIsN oIsB
def oNotA : D → D → Option D := orD oNotN oNotB
def rIsX : R2 := fun x y H Q => (y = .non ∧ Q (.bl (decide (x = .non))) H) ∨ rIsB x y H Q
def rNotX : R2 := fun x y H Q => (y = .non ∧ Q (.bl (!decide (x = .non))) H) ∨ rNotB x y H Q
theorem ops_isA : OpSim G rIsX oIsA := OpSim.or ops_isN ops_isB
theorem ops_notA : OpSim G rNotX oNotA := OpSim.or ops_notN ops_notB
section
variable {X : Cx} {K : PySem.W.Frag} {cA : Nat → Addr} {a b : Expr} {ta tb : TE} {f g : DE} {pos : Pos}
theorem dx_isA (ha : DExp X K cA a ta f) (hb : DExp X K cA b tb g) (hm : behindInMarks .Is b = false := by exact nomark _) : DExp X K cA (.Compare a [.Is] [b] pos) (tOp rIsX ta tb) (dOp oIsA f g) := dx_cmp (op_isN.or op_isBl) ops_isA ha hb hm
theorem dt_isA (ha : DExp X K cA a ta f) (hb : DExp X K cA b tb g) (hm : behindInMarks .Is b = false := by exact nomark _) : DTst X K cA (.Compare a [.Is] [b] pos) (tTest (tOp rIsX ta tb)) (dTst (dOp oIsA f g)) := dt_cmp (op_isN.or op_isBl) ops_isA ha hb hm
theorem dx_isnotA (ha : DExp X K cA a ta f) (hb : DExp X K cA b tb g) (hm : behindInMarks .IsNot b = false := by exact nomark _) : DExp X K cA (.Compare a [.IsNot] [b] pos) (tOp rNotX ta tb) (dOp oNotA f g) := dx_cmp (op_notN.or op_notBl) ops_notA ha hb hm
theorem dt_isnotA (ha : DExp X K cA a ta f) (hb : DExp X K cA b tb g) (hm : behindInMarks .IsNot b = false := by exact nomark _) : DTst X K cA (.Compare a [.IsNot] [b] pos) (tTest (tOp rNotX ta tb)) (dTst (dOp oNotA f g)) := dt_cmp (op_notN.or op_notBl) ops_notA ha hb hm
end
/-! ### (a, b) = ([..], e), by a tuple -/
theorem sim_asgO {i j : Nat} {te tb : TE} {f : DF} {g : DE} (h : SimF G te f) (hg : SimE G tb g) : SimS G (tAsg (tTup (tCons te (tCons tb tNil))) (gSeqA G.K 2 (gCons (gName i) (gCons (gName j) gNil)))) (dsParO i j f g) := by
  refine ⟨fun F H0 H S cs σ E I fl S' cs' e q => ?_⟩
  unfold dsParO at e
  split at e
  rotate_left
  · cases e
  rename_i ds c1 e1
  split at e
  rotate_left
  · cases e
  rename_i y c2 e2
  have go : ∀ {S2 : List Sl}, gdN j y (S.set i (.own ds)) = some S2 → fl = .nx → S' = S2 → cs' = c2 → tAsg (tTup (tCons te (tCons tb tNil))) (gSeqA G.K 2 (gCons (gName i) (gCons (gName j) gNil))) E σ H := by
    rintro S2 e3 rfl rfl rfl
    refine h.run F H0 H S cs σ _ I _ _ e1 fun p vs Ha Hb s1 I1 h0 he ap hp rs => ?_
    have hb : ∀ a, F.ban a → F.He a ≠ none := fun a h => (I1.bn a h).1
    have I2 := I1.kept hp h0 ap (fun _ z => nomatch z)
    refine hg.run (F.keep p _) Ha Hb S c1 σ _ I2 _ _ e2 fun w Hc Hd s2 I3 r3 => ?_
    obtain ⟨I4, hp4, h04⟩ := I3.unkept he hb
    refine ⟨by show 2 ≤ sizeLine; decide, fun t ht => ?_⟩
    have I5 := I4.off (.tup [.ref p, w]) ht
    have hpt : p ≠ t := fun z => by rw [z, ht] at hp4; cases hp4
    have hp5 : upd Hd t (.tup [.ref p, w]) p = some (.lst vs) := by rw [upd_ne hpt]; exact hp4
    have I6 := I5.setOwn i h04 he ap hp5 (rs.mono s2)
    refine .inl ⟨t, [.ref p, w], rfl, .inl (.inl upd_same), rfl, ?_⟩
    unfold gdN at e3
    split at e3
    · cases e3
    · cases e3
      exact ⟨_, _, rfl, _, _, rfl, rfl, q _ _ _ (s1.trans s2) (I6.setVal j r3)⟩
    · cases e3
  split at e
  · cases e
  · split at e
    · rename_i e3
      cases e
      exact go e3 rfl rfl rfl
    · cases e
  · cases e
theorem ds_asgO {X : Cx} {K : PySem.W.Frag} {cA : Nat → Addr} {a b tg : Expr} {ta tb : TE} {f : DF} {g : DE} {dg : DG} {ts : List Nat} {pos pt2 : Pos} {k2} (i j : Nat) (hg : DTgt X K cA tg (gSeqA K 2 (gCons (gName i) (gCons (gName j) gNil))) dg ts) (ha : DFsh X K cA a ta f) (hb : DExp X K cA b tb g)
    (hs : swapsWithSole [tg] (.Tuple [a, b] k2 pt2) pos.line X.env = pure false := by rfl) (hw : swappedStores [tg] (.Tuple [a, b] k2 pt2) X.env = pure none := by rfl)
    (h1 : (assignEach [tg] X.env).map (·.2) = [assign tg X.env] := by rfl)
    (n1 : starEach [a, b] X.env = (false, eval a X.env) :: starEach [b] X.env := by rfl) (n2 : starEach [b] X.env = (false, eval b X.env) :: starEach [] X.env := by rfl) :
    DStm X K cA (.Assign [tg] (.Tuple [a, b] k2 pt2) pos) (tAsg (tTup (tCons ta (tCons tb tNil))) (gSeqA K 2 (gCons (gName i) (gCons (gName j) gNil)))) (dsParO i j f g) := ⟨ps_asg (pe_tup (pa_cons ha.pe (pa_cons hb.pe pa_nil n2) n1)) hg.pg hs hw h1, sim_asgO ha.sim hb.sim⟩
end DL

set_option autoImplicit true
set_option relaxedAutoImplicit true
set_option Elab.async false
set_option linter.all false
set_option maxRecDepth 100000
set_option maxHeartbeats 4000000
/-! the program of k62 over deep data; printed by gen.py -/
namespace K62
open PySem L2 DL
/-- common_divisor; slots: 0 first, 1 second -/
def b_common_divisor : DS :=
  (dsSeq (dsPar 0 1 (dCons (dCB oAbs (dCons (dVar 0) dNil)) (dCons (dCB oAbs (dCons (dVar 1) dNil)) dNil)))
  (dsSeq (whileL (dTst (dOp oNe (dVar 1) (dC (.int 0)))) (dsPar 0 1 (dCons (dVar 1) (dCons (dOp oMod (dVar 0) (dVar 1)) dNil))) 20000)
  (dsRet (dVar 0))))
def m_common_divisor : List D → Option D := runF 2 2 b_common_divisor
/-- ratio; slots: 0 above, 1 below, 2 both -/
def b_ratio : DS :=
  (dsSeq (dsIf (dTst (dOp oLtA (dVar 1) (dC (.int 0)))) (dsPar 0 1 (dCons (dNeg (dVar 0)) (dCons (dNeg (dVar 1)) dNil))) dsNil)
  (dsSeq (dsIf (dTst (dOp oNe (dVar 1) (dC (.int 1)))) (dsSeq (dsAsg (dCall m_common_divisor (dCons (dVar 0) (dCons (dVar 1) dNil))) (gdN 2))
  (dsPar 0 1 (dCons (dOp oFdiv (dVar 0) (dVar 2)) (dCons (dOp oFdiv (dVar 1) (dVar 2)) dNil)))) dsNil)
  (dsRet (dTup (dCons (dVar 0) (dCons (dVar 1) dNil))))))
def m_ratio : List D → Option D := runF 2 3 b_ratio
/-- plus; slots: 0 first, 1 second -/
def b_plus : DS :=
  (dsSeq (dsIf (dTst (dChain oEq oEq (dIx (dVar 0) (dC (.int 1))) (dIx (dVar 1) (dC (.int 1))) (dC (.int 1)))) (dsRet (dTup (dCons (dOp oAdd (dIx (dVar 0) (dC (.int 0))) (dIx (dVar 1) (dC (.int 0)))) (dCons (dC (.int 1)) dNil)))) dsNil)
  (dsRet (dCall m_ratio (dCons (dOp oAdd (dOp oMul (dIx (dVar 0) (dC (.int 0))) (dIx (dVar 1) (dC (.int 1)))) (dOp oMul (dIx (dVar 1) (dC (.int 0))) (dIx (dVar 0) (dC (.int 1))))) (dCons (dOp oMul (dIx (dVar 0) (dC (.int 1))) (dIx (dVar 1) (dC (.int 1)))) dNil)))))
def m_plus : List D → Option D := runF 2 2 b_plus
/-- times; slots: 0 first, 1 second -/
def b_times : DS :=
  (dsRet (dCall m_ratio (dCons (dOp oMul (dIx (dVar 0) (dC (.int 0))) (dIx (dVar 1) (dC (.int 0)))) (dCons (dOp oMul (dIx (dVar 0) (dC (.int 1))) (dIx (dVar 1) (dC (.int 1)))) dNil))))
def m_times : List D → Option D := runF 2 2 b_times
/-- negative; slots: 0 one -/
def b_negative : DS :=
  (dsRet (dTup (dCons (dNeg (dIx (dVar 0) (dC (.int 0)))) (dCons (dIx (dVar 0) (dC (.int 1))) dNil))))
def m_negative : List D → Option D := runF 1 1 b_negative
/-- minus; slots: 0 first, 1 second -/
def b_minus : DS :=
  (dsRet (dCall m_plus (dCons (dVar 0) (dCons (dCall m_negative (dCons (dVar 1) dNil)) dNil))))
def m_minus : List D → Option D := runF 2 2 b_minus
/-- is_less; slots: 0 first, 1 second -/
def b_is_less : DS :=
  (dsRet (dOp oLtA (dOp oMul (dIx (dVar 0) (dC (.int 0))) (dIx (dVar 1) (dC (.int 1)))) (dOp oMul (dIx (dVar 1) (dC (.int 0))) (dIx (dVar 0) (dC (.int 1))))))
def m_is_less : List D → Option D := runF 2 2 b_is_less
/-- at_most; slots: 0 first, 1 second -/
def b_at_most : DS :=
  (dsRet (dOp oLe (dOp oMul (dIx (dVar 0) (dC (.int 0))) (dIx (dVar 1) (dC (.int 1)))) (dOp oMul (dIx (dVar 1) (dC (.int 0))) (dIx (dVar 0) (dC (.int 1))))))
def m_at_most : List D → Option D := runF 2 2 b_at_most
/-- is_integer; slots: 0 value -/
def b_is_integer : DS :=
  (dsRet (dAndV (dIsi "int" (dVar 0)) (dNotV (dIsi "bool" (dVar 0)))))
def m_is_integer : List D → Option D := runF 1 1 b_is_integer
/-- is_ratio; slots: 0 value -/
def b_is_ratio : DS :=
  (dsSeq (dsIf (dOr (dNot (dTru (dIsi "tuple" (dVar 0)))) (dOr (dTst (dOp oNe (dCB oLen (dCons (dVar 0) dNil)) (dC (.int 2)))) (dOr (dNot (dTru (dCall m_is_integer (dCons (dIx (dVar 0) (dC (.int 0))) dNil)))) (dNot (dTru (dCall m_is_integer (dCons (dIx (dVar 0) (dC (.int 1))) dNil))))))) (dsRet (dC (.bl false))) dsNil)
  (dsRet (dAndV (dOp oGt (dIx (dVar 0) (dC (.int 1))) (dC (.int 0))) (dOp oEq (dCall m_common_divisor (dCons (dIx (dVar 0) (dC (.int 0))) (dCons (dIx (dVar 0) (dC (.int 1))) dNil))) (dC (.int 1))))))
def m_is_ratio : List D → Option D := runF 1 1 b_is_ratio
/-- floor_of; slots: 0 x -/
def b_floor_of : DS :=
  (dsRet (dOp oFdiv (dIx (dVar 0) (dC (.int 0))) (dIx (dVar 0) (dC (.int 1)))))
def m_floor_of : List D → Option D := runF 1 1 b_floor_of
/-- absolute; slots: 0 x -/
def b_absolute : DS :=
  (dsRet (dTup (dCons (dCB oAbs (dCons (dIx (dVar 0) (dC (.int 0))) dNil)) (dCons (dIx (dVar 0) (dC (.int 1))) dNil))))
def m_absolute : List D → Option D := runF 1 1 b_absolute
/-- nearest_whole; slots: 0 x, 1 k -/
def b_nearest_whole : DS :=
  (dsSeq (dsAsg (dCall m_floor_of (dCons (dVar 0) dNil)) (gdN 1))
  (dsRet (dIf (dTru (dCall m_at_most (dCons (dCall m_minus (dCons (dVar 0) (dCons (dTup (dCons (dVar 1) (dCons (dC (.int 1)) dNil))) dNil))) (dCons (dCall m_minus (dCons (dTup (dCons (dOp oAdd (dVar 1) (dC (.int 1))) (dCons (dC (.int 1)) dNil))) (dCons (dVar 0) dNil))) dNil)))) (dVar 1) (dOp oAdd (dVar 1) (dC (.int 1))))))
def m_nearest_whole : List D → Option D := runF 1 2 b_nearest_whole
/-- away; slots: 0 x -/
def b_away : DS :=
  (dsRet (dCall m_absolute (dCons (dCall m_minus (dCons (dVar 0) (dCons (dTup (dCons (dCall m_nearest_whole (dCons (dVar 0) dNil)) (dCons (dC (.int 1)) dNil))) dNil))) dNil)))
def m_away : List D → Option D := runF 1 1 b_away
/-- below_by; slots: 0 a, 1 low -/
def b_below_by : DS :=
  (dsRet (dCall m_minus (dCons (dCall m_times (dCons (dVar 0) (dCons (dTup (dCons (dIx (dVar 1) (dC (.int 1))) (dCons (dC (.int 1)) dNil))) dNil))) (dCons (dTup (dCons (dIx (dVar 1) (dC (.int 0))) (dCons (dC (.int 1)) dNil))) dNil))))
def m_below_by : List D → Option D := runF 2 2 b_below_by
/-- above_by; slots: 0 a, 1 high -/
def b_above_by : DS :=
  (dsRet (dCall m_minus (dCons (dTup (dCons (dIx (dVar 1) (dC (.int 0))) (dCons (dC (.int 1)) dNil))) (dCons (dCall m_times (dCons (dVar 0) (dCons (dTup (dCons (dIx (dVar 1) (dC (.int 1))) (dCons (dC (.int 1)) dNil))) dNil))) dNil))))
def m_above_by : List D → Option D := runF 2 2 b_above_by
/-- steps_within; slots: 0 gap, 1 step, 2 most -/
def b_steps_within : DS :=
  (dsSeq (dsIf (dTst (dOp oEq (dIx (dVar 1) (dC (.int 0))) (dC (.int 0)))) (dsRet (dVar 2)) dsNil)
  (dsRet (dCB oMin (dCons (dVar 2) (dCons (dCall m_floor_of (dCons (dCall m_ratio (dCons (dOp oMul (dIx (dVar 0) (dC (.int 0))) (dIx (dVar 1) (dC (.int 1)))) (dCons (dOp oMul (dIx (dVar 0) (dC (.int 1))) (dIx (dVar 1) (dC (.int 0)))) dNil))) dNil)) dNil)))))
def m_steps_within : List D → Option D := runF 3 3 b_steps_within
/-- steps_above; slots: 0 gap, 1 step, 2 most, 3 one -/
def b_steps_above : DS :=
  (dsSeq (dsIf (dTst (dOp oEq (dIx (dVar 1) (dC (.int 0))) (dC (.int 0)))) (dsRet (dVar 2)) dsNil)
  (dsSeq (dsAsg (dCall m_ratio (dCons (dOp oMul (dIx (dVar 0) (dC (.int 0))) (dIx (dVar 1) (dC (.int 1)))) (dCons (dOp oMul (dIx (dVar 0) (dC (.int 1))) (dIx (dVar 1) (dC (.int 0)))) dNil))) (gdN 3))
  (dsRet (dCB oMin (dCons (dVar 2) (dCons (dOp oSub (dCall m_floor_of (dCons (dVar 3) dNil)) (dCB oToInt (dCons (dOp oEq (dIx (dVar 3) (dC (.int 1))) (dC (.int 1))) dNil))) dNil))))))
def m_steps_above : List D → Option D := runF 3 4 b_steps_above
/-- neighbours; slots: 0 a, 1 n, 2 low, 3 high, 4 below, 5 above, 6 k -/
def b_neighbours : DS :=
  (dsSeq (dsPar 2 3 (dCons (dTup (dCons (dCall m_floor_of (dCons (dVar 0) dNil)) (dCons (dC (.int 1)) dNil))) (dCons (dTup (dCons (dC (.int 1)) (dCons (dC (.int 0)) dNil))) dNil)))
  (dsSeq (whileL (dTst (dOp oLe (dOp oAdd (dIx (dVar 2) (dC (.int 1))) (dIx (dVar 3) (dC (.int 1)))) (dVar 1))) (dsSeq (dsPar 4 5 (dCons (dCall m_below_by (dCons (dVar 0) (dCons (dVar 2) dNil))) (dCons (dCall m_above_by (dCons (dVar 0) (dCons (dVar 3) dNil))) dNil)))
  (dsSeq (dsAsg (dCall m_steps_above (dCons (dVar 5) (dCons (dVar 4) (dCons (dOp oFdiv (dOp oSub (dVar 1) (dIx (dVar 3) (dC (.int 1)))) (dIx (dVar 2) (dC (.int 1)))) dNil)))) (gdN 6))
  (dsIf (dTst (dOp oGt (dVar 6) (dC (.int 0)))) (dsAsg (dTup (dCons (dOp oAdd (dIx (dVar 3) (dC (.int 0))) (dOp oMul (dVar 6) (dIx (dVar 2) (dC (.int 0))))) (dCons (dOp oAdd (dIx (dVar 3) (dC (.int 1))) (dOp oMul (dVar 6) (dIx (dVar 2) (dC (.int 1))))) dNil))) (gdN 3)) (dsSeq (dsAsg (dCall m_steps_within (dCons (dVar 4) (dCons (dVar 5) (dCons (dOp oFdiv (dOp oSub (dVar 1) (dIx (dVar 2) (dC (.int 1)))) (dIx (dVar 3) (dC (.int 1)))) dNil)))) (gdN 6))
  (dsAsg (dTup (dCons (dOp oAdd (dIx (dVar 2) (dC (.int 0))) (dOp oMul (dVar 6) (dIx (dVar 3) (dC (.int 0))))) (dCons (dOp oAdd (dIx (dVar 2) (dC (.int 1))) (dOp oMul (dVar 6) (dIx (dVar 3) (dC (.int 1))))) dNil))) (gdN 2)))))) 20000)
  (dsRet (dTup (dCons (dVar 2) (dCons (dVar 3) dNil))))))
def m_neighbours : List D → Option D := runF 2 7 b_neighbours
/-- steps_to; slots: 0 gap, 1 step, 2 e, 3 more -/
def b_steps_to : DS :=
  (dsSeq (dsAsg (dCall m_minus (dCons (dVar 0) (dCons (dVar 2) dNil))) (gdN 3))
  (dsRet (dCB oMax (dCons (dC (.int 1)) (dCons (dOp oSub (dC (.int 0)) (dOp oFdiv (dOp oSub (dC (.int 0)) (dOp oMul (dIx (dVar 3) (dC (.int 0))) (dIx (dVar 1) (dC (.int 1))))) (dOp oMul (dIx (dVar 3) (dC (.int 1))) (dIx (dVar 1) (dC (.int 0)))))) dNil)))))
def m_steps_to : List D → Option D := runF 3 4 b_steps_to
/-- added; slots: 0 pair, 1 other, 2 k -/
def b_added : DS :=
  (dsRet (dTup (dCons (dOp oAdd (dIx (dVar 0) (dC (.int 0))) (dOp oMul (dVar 2) (dIx (dVar 1) (dC (.int 0))))) (dCons (dOp oAdd (dIx (dVar 0) (dC (.int 1))) (dOp oMul (dVar 2) (dIx (dVar 1) (dC (.int 1))))) dNil))))
def m_added : List D → Option D := runF 3 3 b_added
/-- near_paper; slots: 0 a, 1 e, 2 low, 3 high, 4 below, 5 above, 6 k, 7 both, 8 gap -/
def b_near_paper : DS :=
  (dsSeq (dsIf (dTru (dCall m_at_most (dCons (dCall m_away (dCons (dVar 0) dNil)) (dCons (dVar 1) dNil)))) (dsRet (dTup (dCons (dC (.int 1)) (dCons (dCall m_nearest_whole (dCons (dVar 0) dNil)) (dCons (dC .non) (dCons (dC .non) dNil)))))) dsNil)
  (dsSeq (dsPar 2 3 (dCons (dTup (dCons (dCall m_floor_of (dCons (dVar 0) dNil)) (dCons (dC (.int 1)) dNil))) (dCons (dTup (dCons (dC (.int 1)) (dCons (dC (.int 0)) dNil))) dNil)))
  (whileL (dTru (dC (.bl true))) (dsSeq (dsPar 4 5 (dCons (dCall m_below_by (dCons (dVar 0) (dCons (dVar 2) dNil))) (dCons (dCall m_above_by (dCons (dVar 0) (dCons (dVar 3) dNil))) dNil)))
  (dsSeq (dsIf (dTru (dCall m_is_less (dCons (dVar 4) (dCons (dVar 5) dNil)))) (dsSeq (dsAsg (dCall m_steps_to (dCons (dVar 5) (dCons (dVar 4) (dCons (dVar 1) dNil)))) (gdN 6))
  (dsAsg (dCall m_added (dCons (dVar 3) (dCons (dVar 2) (dCons (dOp oSub (dVar 6) (dC (.int 1))) dNil)))) (gdN 3))) (dsSeq (dsAsg (dCall m_steps_to (dCons (dVar 4) (dCons (dVar 5) (dCons (dVar 1) dNil)))) (gdN 6))
  (dsAsg (dCall m_added (dCons (dVar 2) (dCons (dVar 3) (dCons (dOp oSub (dVar 6) (dC (.int 1))) dNil)))) (gdN 2))))
  (dsSeq (dsAsg (dCall m_added (dCons (dVar 2) (dCons (dVar 3) (dCons (dC (.int 1)) dNil)))) (gdN 7))
  (dsSeq (dsAsg (dCall m_minus (dCons (dCall m_times (dCons (dVar 0) (dCons (dTup (dCons (dIx (dVar 7) (dC (.int 1))) (dCons (dC (.int 1)) dNil))) dNil))) (dCons (dTup (dCons (dIx (dVar 7) (dC (.int 0))) (dCons (dC (.int 1)) dNil))) dNil))) (gdN 8))
  (dsSeq (dsIf (dTru (dCall m_at_most (dCons (dCall m_absolute (dCons (dVar 8) dNil)) (dCons (dVar 1) dNil)))) (dsRet (dTup (dCons (dIx (dVar 7) (dC (.int 1))) (dCons (dIx (dVar 7) (dC (.int 0))) (dCons (dVar 2) (dCons (dVar 3) dNil)))))) dsNil)
  (dsIf (dTst (dOp oLtA (dIx (dVar 8) (dC (.int 0))) (dC (.int 0)))) (dsAsg (dVar 7) (gdN 3)) (dsAsg (dVar 7) (gdN 2)))))))) 20000)))
def m_near_paper : List D → Option D := runF 2 9 b_near_paper
/-- is_pair; slots: 0 value -/
def b_is_pair : DS :=
  (dsRet (dAndV (dIsi "tuple" (dVar 0)) (dAndV (dOp oEq (dCB oLen (dCons (dVar 0) dNil)) (dC (.int 2))) (dAndV (dCall m_is_integer (dCons (dIx (dVar 0) (dC (.int 0))) dNil)) (dCall m_is_integer (dCons (dIx (dVar 0) (dC (.int 1))) dNil))))))
def m_is_pair : List D → Option D := runF 1 1 b_is_pair
/-- are_neighbours; slots: 0 a, 1 low, 2 high -/
def b_are_neighbours : DS :=
  (dsSeq (dsIf (dOr (dNot (dTru (dCall m_is_pair (dCons (dVar 1) dNil)))) (dOr (dNot (dTru (dCall m_is_pair (dCons (dVar 2) dNil)))) (dOr (dTst (dOp oLtA (dIx (dVar 1) (dC (.int 1))) (dC (.int 1)))) (dTst (dOp oLtA (dIx (dVar 2) (dC (.int 1))) (dC (.int 0))))))) (dsRet (dC (.bl false))) dsNil)
  (dsSeq (dsIf (dTst (dOp oNe (dOp oSub (dOp oMul (dIx (dVar 2) (dC (.int 0))) (dIx (dVar 1) (dC (.int 1)))) (dOp oMul (dIx (dVar 1) (dC (.int 0))) (dIx (dVar 2) (dC (.int 1))))) (dC (.int 1)))) (dsRet (dC (.bl false))) dsNil)
  (dsRet (dAndV (dOp oGe (dIx (dCall m_below_by (dCons (dVar 0) (dCons (dVar 1) dNil))) (dC (.int 0))) (dC (.int 0))) (dOp oGt (dIx (dCall m_above_by (dCons (dVar 0) (dCons (dVar 2) dNil))) (dC (.int 0))) (dC (.int 0)))))))
def m_are_neighbours : List D → Option D := runF 3 3 b_are_neighbours
/-- judge_near; slots: 0 a, 1 e, 2 value, 3 m, 4 k, 5 low, 6 high -/
def b_judge_near : DS :=
  (dsSeq (dsIf (dOr (dNot (dTru (dIsi "tuple" (dVar 2)))) (dOr (dTst (dOp oNe (dCB oLen (dCons (dVar 2) dNil)) (dC (.int 4)))) (dOr (dNot (dTru (dCall m_is_integer (dCons (dIx (dVar 2) (dC (.int 0))) dNil)))) (dNot (dTru (dCall m_is_integer (dCons (dIx (dVar 2) (dC (.int 1))) dNil))))))) (dsRet (dC (.bl false))) dsNil)
  (dsSeq (dsAsg (dVar 2) (gdT 4 (gdCons (gdN 3) (gdCons (gdN 4) (gdCons (gdN 5) (gdCons (gdN 6) gdNil))))))
  (dsSeq (dsIf (dOr (dTst (dOp oLtA (dVar 3) (dC (.int 1)))) (dNot (dTru (dCall m_at_most (dCons (dCall m_absolute (dCons (dCall m_minus (dCons (dCall m_times (dCons (dVar 0) (dCons (dTup (dCons (dVar 3) (dCons (dC (.int 1)) dNil))) dNil))) (dCons (dTup (dCons (dVar 4) (dCons (dC (.int 1)) dNil))) dNil))) dNil)) (dCons (dVar 1) dNil)))))) (dsRet (dC (.bl false))) dsNil)
  (dsSeq (dsIf (dTst (dOp oEq (dVar 3) (dC (.int 1)))) (dsRet (dAndV (dOp oIsA (dVar 5) (dC .non)) (dOp oIsA (dVar 6) (dC .non)))) dsNil)
  (dsSeq (dsIf (dOr (dNot (dTru (dCall m_are_neighbours (dCons (dVar 0) (dCons (dVar 5) (dCons (dVar 6) dNil)))))) (dTst (dOp oLtA (dOp oAdd (dIx (dVar 5) (dC (.int 1))) (dIx (dVar 6) (dC (.int 1)))) (dVar 3)))) (dsRet (dC (.bl false))) dsNil)
  (dsRet (dAndV (dCall m_is_less (dCons (dVar 1) (dCons (dCall m_below_by (dCons (dVar 0) (dCons (dVar 5) dNil))) dNil))) (dCall m_is_less (dCons (dVar 1) (dCons (dCall m_above_by (dCons (dVar 0) (dCons (dVar 6) dNil))) dNil))))))))))
def m_judge_near : List D → Option D := runF 3 7 b_judge_near
/-- nearer; slots: 0 a, 1 low, 2 high, 3 below, 4 above -/
def b_nearer : DS :=
  (dsSeq (dsIf (dTst (dOp oEq (dIx (dVar 2) (dC (.int 1))) (dC (.int 0)))) (dsRet (dVar 1)) dsNil)
  (dsSeq (dsAsg (dCall m_minus (dCons (dVar 0) (dCons (dCall m_ratio (dCons (dIx (dVar 1) (dC (.int 0))) (dCons (dIx (dVar 1) (dC (.int 1))) dNil))) dNil))) (gdN 3))
  (dsSeq (dsAsg (dCall m_minus (dCons (dCall m_ratio (dCons (dIx (dVar 2) (dC (.int 0))) (dCons (dIx (dVar 2) (dC (.int 1))) dNil))) (dCons (dVar 0) dNil))) (gdN 4))
  (dsSeq (dsIf (dTru (dCall m_is_less (dCons (dVar 3) (dCons (dVar 4) dNil)))) (dsRet (dVar 1)) dsNil)
  (dsSeq (dsIf (dTru (dCall m_is_less (dCons (dVar 4) (dCons (dVar 3) dNil)))) (dsRet (dVar 2)) dsNil)
  (dsRet (dIf (dTst (dOp oLtA (dIx (dVar 2) (dC (.int 1))) (dIx (dVar 1) (dC (.int 1))))) (dVar 2) (dVar 1))))))))
def m_nearer : List D → Option D := runF 3 5 b_nearer
/-- best_paper; slots: 0 a, 1 n, 2 low, 3 high -/
def b_best_paper : DS :=
  (dsSeq (dsAsg (dCall m_neighbours (dCons (dVar 0) (dCons (dVar 1) dNil))) (gdT 2 (gdCons (gdN 2) (gdCons (gdN 3) gdNil))))
  (dsRet (dOp oAdd (dCall m_nearer (dCons (dVar 0) (dCons (dVar 2) (dCons (dVar 3) dNil)))) (dTup (dCons (dVar 2) (dCons (dVar 3) dNil))))))
def m_best_paper : List D → Option D := runF 2 4 b_best_paper
/-- judge_best_fraction; slots: 0 a, 1 n, 2 value, 3 low, 4 high -/
def b_judge_best_fraction : DS :=
  (dsSeq (dsIf (dOr (dNot (dTru (dIsi "tuple" (dVar 2)))) (dOr (dTst (dOp oNe (dCB oLen (dCons (dVar 2) dNil)) (dC (.int 4)))) (dNot (dTru (dCall m_is_pair (dCons (dSl (dVar 2) dNoPart (dPart (dC (.int 2)))) dNil)))))) (dsRet (dC (.bl false))) dsNil)
  (dsSeq (dsAsg (dSl (dVar 2) (dPart (dC (.int 2))) dNoPart) (gdT 2 (gdCons (gdN 3) (gdCons (gdN 4) gdNil))))
  (dsSeq (dsIf (dOr (dNot (dTru (dCall m_are_neighbours (dCons (dVar 0) (dCons (dVar 3) (dCons (dVar 4) dNil)))))) (dOr (dTst (dOp oGt (dIx (dVar 3) (dC (.int 1))) (dVar 1))) (dOr (dTst (dOp oGt (dIx (dVar 4) (dC (.int 1))) (dVar 1))) (dTst (dOp oLe (dOp oAdd (dIx (dVar 3) (dC (.int 1))) (dIx (dVar 4) (dC (.int 1)))) (dVar 1)))))) (dsRet (dC (.bl false))) dsNil)
  (dsRet (dOp oEq (dSl (dVar 2) dNoPart (dPart (dC (.int 2)))) (dCall m_nearer (dCons (dVar 0) (dCons (dVar 3) (dCons (dVar 4) dNil)))))))))
def m_judge_best_fraction : List D → Option D := runF 3 5 b_judge_best_fraction
/-- holding; slots: 0 readings, 1 moment, 2 one -/
def b_holding : DS :=
  (dsRet (dCB oLen (dCons (dFz (dLc (diSeq (dVar 0)) (gdN 2) (dAnd (dTru (dCall m_at_most (dCons (dIx (dVar 2) (dC (.int 0))) (dCons (dVar 1) dNil)))) (dTru (dCall m_at_most (dCons (dVar 1) (dCons (dIx (dVar 2) (dC (.int 1))) dNil))))) (dVar 2) [2])) dNil)))
def m_holding : List D → Option D := runF 2 3 b_holding
/-- agree_paper; slots: 0 readings, 1 f, 2 enough, 3 low, 4 high, 5 most, 6 one, 7 moment -/
def b_agree_paper : DS :=
  (dsSeq (dsAsg (dOp oSub (dCB oLen (dCons (dVar 0) dNil)) (dVar 1)) (gdN 2))
  (dsSeq (dsAsg (dC .non) (gdN 3))
  (dsSeq (dsAsg (dC .non) (gdN 4))
  (dsSeq (dsAsg (dC (.int 0)) (gdN 5))
  (dsSeq (dsFor (diSeq (dVar 0)) (gdN 6) (dsFor (diSeq (dVar 6)) (gdN 7) (dsSeq (dsAsg (dCB oMax (dCons (dVar 5) (dCons (dCall m_holding (dCons (dVar 0) (dCons (dVar 7) dNil))) dNil))) (gdN 5))
  (dsIf (dTst (dOp oGe (dCall m_holding (dCons (dVar 0) (dCons (dVar 7) dNil))) (dVar 2))) (dsSeq (dsAsg (dIf (dOr (dTst (dOp oIsA (dVar 3) (dC .non))) (dTru (dCall m_is_less (dCons (dVar 7) (dCons (dVar 3) dNil))))) (dVar 7) (dVar 3)) (gdN 3))
  (dsAsg (dIf (dOr (dTst (dOp oIsA (dVar 4) (dC .non))) (dTru (dCall m_is_less (dCons (dVar 4) (dCons (dVar 7) dNil))))) (dVar 7) (dVar 4)) (gdN 4))) dsNil))))
  (dsRet (dIf (dTst (dOp oIsA (dVar 3) (dC .non))) (dTup (dCons (dC (.str "none")) (dCons (dVar 5) dNil))) (dTup (dCons (dC (.str "agree")) (dCons (dVar 3) (dCons (dVar 4) dNil)))))))))))
def m_agree_paper : List D → Option D := runF 2 8 b_agree_paper
/-- judge_agree; slots: 0 readings, 1 f, 2 value, 3 enough, 4 ends, 5 moment, 6 one -/
def b_judge_agree : DS :=
  (dsSeq (dsAsg (dOp oSub (dCB oLen (dCons (dVar 0) dNil)) (dVar 1)) (gdN 3))
  (dsSeq (dsIf (dOr (dNot (dTru (dIsi "tuple" (dVar 2)))) (dOr (dTst (dOp oNi (dCB oLen (dCons (dVar 2) dNil)) (dTup (dCons (dC (.int 2)) (dCons (dC (.int 3)) dNil))))) (dNot (dTru (dIsi "str" (dIx (dVar 2) (dC (.int 0)))))))) (dsRet (dC (.bl false))) dsNil)
  (dsSeq (dsAsg (dFz (dLc2 (diSeq (dVar 0)) (gdN 6) dYes (diSeq (dVar 6)) (gdN 5) dYes (dVar 5) [6, 5] [5])) (gdN 4))
  (dsSeq (dsIf (dTst (dOp oEq (dIx (dVar 2) (dC (.int 0))) (dC (.str "none")))) (dsSeq (dsIf (dOr (dTst (dOp oNe (dCB oLen (dCons (dVar 2) dNil)) (dC (.int 2)))) (dNot (dTru (dCall m_is_integer (dCons (dIx (dVar 2) (dC (.int 1))) dNil))))) (dsRet (dC (.bl false))) dsNil)
  (dsRet (dAndV (dOp oLtA (dIx (dVar 2) (dC (.int 1))) (dVar 3)) (dOp oEq (dCB oMax (dCons (dFz (dLc (diSeq (dVar 4)) (gdN 5) dYes (dCall m_holding (dCons (dVar 0) (dCons (dVar 5) dNil))) [5])) dNil)) (dIx (dVar 2) (dC (.int 1))))))) dsNil)
  (dsSeq (dsIf (dOr (dTst (dOp oNe (dIx (dVar 2) (dC (.int 0))) (dC (.str "agree")))) (dOr (dTst (dOp oNe (dCB oLen (dCons (dVar 2) dNil)) (dC (.int 3)))) (dOr (dNot (dTru (dCall m_is_ratio (dCons (dIx (dVar 2) (dC (.int 1))) dNil)))) (dNot (dTru (dCall m_is_ratio (dCons (dIx (dVar 2) (dC (.int 2))) dNil))))))) (dsRet (dC (.bl false))) dsNil)
  (dsSeq (dsIf (dOr (dTst (dOp oLtA (dCall m_holding (dCons (dVar 0) (dCons (dIx (dVar 2) (dC (.int 1))) dNil))) (dVar 3))) (dTst (dOp oLtA (dCall m_holding (dCons (dVar 0) (dCons (dIx (dVar 2) (dC (.int 2))) dNil))) (dVar 3)))) (dsRet (dC (.bl false))) dsNil)
  (dsSeq (dsFor (diSeq (dVar 4)) (gdN 5) (dsIf (dAnd (dTst (dOp oGe (dCall m_holding (dCons (dVar 0) (dCons (dVar 5) dNil))) (dVar 3))) (dOr (dTru (dCall m_is_less (dCons (dVar 5) (dCons (dIx (dVar 2) (dC (.int 1))) dNil)))) (dTru (dCall m_is_less (dCons (dIx (dVar 2) (dC (.int 2))) (dCons (dVar 5) dNil)))))) (dsRet (dC (.bl false))) dsNil))
  (dsRet (dAndV (dOp oIn (dIx (dVar 2) (dC (.int 1))) (dVar 4)) (dOp oIn (dIx (dVar 2) (dC (.int 2))) (dVar 4)))))))))))
def m_judge_agree : List D → Option D := runF 3 7 b_judge_agree
/-- leaps_before; slots: 0 rule, 1 y, 2 m, 3 b, 4 c -/
def b_leaps_before : DS :=
  (dsSeq (dsAsg (dVar 0) (gdT 3 (gdCons (gdN 2) (gdCons (gdN 3) (gdCons (gdN 4) gdNil)))))
  (dsRet (dOp oFdiv (dOp oAdd (dOp oMul (dVar 3) (dVar 1)) (dVar 4)) (dVar 2))))
def m_leaps_before : List D → Option D := runF 2 5 b_leaps_before
/-- is_leap; slots: 0 rule, 1 y, 2 m, 3 b, 4 c -/
def b_is_leap : DS :=
  (dsSeq (dsAsg (dVar 0) (gdT 3 (gdCons (gdN 2) (gdCons (gdN 3) (gdCons (gdN 4) gdNil)))))
  (dsRet (dOp oGe (dOp oMod (dOp oAdd (dOp oMul (dVar 3) (dVar 1)) (dVar 4)) (dVar 2)) (dOp oSub (dVar 2) (dVar 3)))))
def m_is_leap : List D → Option D := runF 2 5 b_is_leap
/-- drift; slots: 0 rule, 1 f, 2 y -/
def b_drift : DS :=
  (dsRet (dCall m_minus (dCons (dCall m_times (dCons (dVar 1) (dCons (dTup (dCons (dVar 2) (dCons (dC (.int 1)) dNil))) dNil))) (dCons (dTup (dCons (dCall m_leaps_before (dCons (dVar 0) (dCons (dVar 2) dNil))) (dCons (dC (.int 1)) dNil))) dNil))))
def m_drift : List D → Option D := runF 3 3 b_drift
/-- extremes; slots: 0 rule, 1 f, 2 low, 3 high, 4 first, 5 last, 6 y, 7 one -/
def b_extremes : DS :=
  (dsSeq (dsPar 2 3 (dCons (dCall m_drift (dCons (dVar 0) (dCons (dVar 1) (dCons (dC (.int 0)) dNil)))) (dCons (dCall m_drift (dCons (dVar 0) (dCons (dVar 1) (dCons (dC (.int 0)) dNil)))) dNil)))
  (dsSeq (dsAsg (dTup (dCons (dC (.int 0)) (dCons (dC (.int 0)) dNil))) (gdT 2 (gdCons (gdN 4) (gdCons (gdN 5) gdNil))))
  (dsSeq (dsFor (diRng2 (dCons (dC (.int 1)) (dCons (dIx (dVar 0) (dC (.int 0))) dNil))) (gdN 6) (dsSeq (dsAsg (dCall m_drift (dCons (dVar 0) (dCons (dVar 1) (dCons (dVar 6) dNil)))) (gdN 7))
  (dsSeq (dsIf (dTru (dCall m_is_less (dCons (dVar 7) (dCons (dVar 2) dNil)))) (dsPar 2 4 (dCons (dVar 7) (dCons (dVar 6) dNil))) dsNil)
  (dsIf (dTru (dCall m_is_less (dCons (dVar 3) (dCons (dVar 7) dNil)))) (dsPar 3 5 (dCons (dVar 7) (dCons (dVar 6) dNil))) dsNil))))
  (dsRet (dTup (dCons (dVar 2) (dCons (dVar 3) (dCons (dVar 4) (dCons (dVar 5) dNil)))))))))
def m_extremes : List D → Option D := runF 2 8 b_extremes
/-- first_far; slots: 0 rule, 1 f, 2 most, 3 y -/
def b_first_far : DS :=
  (dsSeq (dsFor (diRng1 (dCons (dOp oAdd (dVar 2) (dC (.int 1))) dNil)) (gdN 3) (dsIf (dTru (dCall m_is_less (dCons (dC (.tup [(.int 1), (.int 1)])) (dCons (dCall m_absolute (dCons (dCall m_drift (dCons (dVar 0) (dCons (dVar 1) (dCons (dVar 3) dNil)))) dNil)) dNil)))) (dsRet (dVar 3)) dsNil))
  (dsRet (dC .non)))
def m_first_far : List D → Option D := runF 3 4 b_first_far
/-- drift_paper; slots: 0 rule, 1 f, 2 y -/
def b_drift_paper : DS :=
  (dsSeq (dsIf (dTst (dOp oEq (dVar 1) (dCall m_ratio (dCons (dIx (dVar 0) (dC (.int 1))) (dCons (dIx (dVar 0) (dC (.int 0))) dNil))))) (dsRet (dOp oAdd (dTup (dCons (dC (.str "bounded")) dNil)) (dCall m_extremes (dCons (dVar 0) (dCons (dVar 1) dNil))))) dsNil)
  (dsSeq (dsAsg (dCall m_first_far (dCons (dVar 0) (dCons (dVar 1) (dCons (dC (.int 100000)) dNil)))) (gdN 2))
  (dsSeq (dsIf (dTst (dOp oIsA (dVar 2) (dC .non))) dsNever dsNil)
  (dsRet (dTup (dCons (dC (.str "unbounded")) (dCons (dVar 2) dNil)))))))
def m_drift_paper : List D → Option D := runF 2 3 b_drift_paper
/-- judge_drift; slots: 0 rule, 1 f, 2 value, 3 is_even -/
def b_judge_drift : DS :=
  (dsSeq (dsIf (dOr (dNot (dTru (dIsi "tuple" (dVar 2)))) (dOr (dTst (dOp oNi (dCB oLen (dCons (dVar 2) dNil)) (dTup (dCons (dC (.int 2)) (dCons (dC (.int 5)) dNil))))) (dNot (dTru (dIsi "str" (dIx (dVar 2) (dC (.int 0)))))))) (dsRet (dC (.bl false))) dsNil)
  (dsSeq (dsAsg (dOp oEq (dVar 1) (dCall m_ratio (dCons (dIx (dVar 0) (dC (.int 1))) (dCons (dIx (dVar 0) (dC (.int 0))) dNil)))) (gdN 3))
  (dsSeq (dsIf (dTst (dOp oEq (dIx (dVar 2) (dC (.int 0))) (dC (.str "bounded")))) (dsSeq (dsIf (dOr (dTst (dOp oNe (dCB oLen (dCons (dVar 2) dNil)) (dC (.int 5)))) (dOr (dNot (dTru (dVar 3))) (dOr (dNot (dTru (dCall m_is_ratio (dCons (dIx (dVar 2) (dC (.int 1))) dNil)))) (dNot (dTru (dCall m_is_ratio (dCons (dIx (dVar 2) (dC (.int 2))) dNil))))))) (dsRet (dC (.bl false))) dsNil)
  (dsSeq (dsIf (dOr (dNot (dTru (dCall m_is_integer (dCons (dIx (dVar 2) (dC (.int 3))) dNil)))) (dNot (dTru (dCall m_is_integer (dCons (dIx (dVar 2) (dC (.int 4))) dNil))))) (dsRet (dC (.bl false))) dsNil)
  (dsRet (dOp oEq (dSl (dVar 2) (dPart (dC (.int 1))) dNoPart) (dCall m_extremes (dCons (dVar 0) (dCons (dVar 1) dNil))))))) dsNil)
  (dsSeq (dsIf (dOr (dTst (dOp oNe (dIx (dVar 2) (dC (.int 0))) (dC (.str "unbounded")))) (dOr (dTst (dOp oNe (dCB oLen (dCons (dVar 2) dNil)) (dC (.int 2)))) (dOr (dTru (dVar 3)) (dNot (dTru (dCall m_is_integer (dCons (dIx (dVar 2) (dC (.int 1))) dNil))))))) (dsRet (dC (.bl false))) dsNil)
  (dsRet (dAndV (dChain oLe oLe (dC (.int 0)) (dIx (dVar 2) (dC (.int 1))) (dC (.int 100000))) (dOp oEq (dCall m_first_far (dCons (dVar 0) (dCons (dVar 1) (dCons (dIx (dVar 2) (dC (.int 1))) dNil)))) (dIx (dVar 2) (dC (.int 1))))))))))
def m_judge_drift : List D → Option D := runF 3 4 b_judge_drift
/-- month_length; slots: 0 calendar, 1 y, 2 month, 3 rule, 4 lengths, 5 extra -/
def b_month_length : DS :=
  (dsSeq (dsAsg (dVar 0) (gdT 3 (gdCons (gdN 3) (gdCons (gdN 4) (gdCons (gdN 5) gdNil)))))
  (dsRet (dOp oAdd (dIx (dVar 4) (dVar 2)) (dCB oToInt (dCons (dAndV (dOp oEq (dVar 2) (dVar 5)) (dCall m_is_leap (dCons (dVar 3) (dCons (dVar 1) dNil)))) dNil)))))
def m_month_length : List D → Option D := runF 3 6 b_month_length
/-- is_date; slots: 0 calendar, 1 value, 2 one -/
def b_is_date : DS :=
  (dsSeq (dsIf (dOr (dNot (dTru (dIsi "tuple" (dVar 1)))) (dOr (dTst (dOp oNe (dCB oLen (dCons (dVar 1) dNil)) (dC (.int 3)))) (dNot (dTru (dCB oAll (dCons (dFz (dLc (diSeq (dVar 1)) (gdN 2) dYes (dAndV (dCall m_is_integer (dCons (dVar 2) dNil)) (dOp oGe (dVar 2) (dC (.int 0)))) [2])) dNil)))))) (dsRet (dC (.bl false))) dsNil)
  (dsSeq (dsIf (dTst (dOp oGe (dIx (dVar 1) (dC (.int 1))) (dCB oLen (dCons (dIx (dVar 0) (dC (.int 1))) dNil)))) (dsRet (dC (.bl false))) dsNil)
  (dsRet (dOp oLtA (dIx (dVar 1) (dC (.int 2))) (dCall m_month_length (dCons (dVar 0) (dCons (dIx (dVar 1) (dC (.int 0))) (dCons (dIx (dVar 1) (dC (.int 1))) dNil))))))))
def m_is_date : List D → Option D := runF 2 3 b_is_date
/-- year_begin; slots: 0 calendar, 1 y -/
def b_year_begin : DS :=
  (dsRet (dOp oAdd (dOp oMul (dCB oSum (dCons (dIx (dVar 0) (dC (.int 1))) dNil)) (dVar 1)) (dCall m_leaps_before (dCons (dIx (dVar 0) (dC (.int 0))) (dCons (dVar 1) dNil)))))
def m_year_begin : List D → Option D := runF 2 2 b_year_begin
/-- day_of; slots: 0 calendar, 1 date, 2 y, 3 month, 4 day, 5 found, 6 k -/
def b_day_of : DS :=
  (dsSeq (dsAsg (dVar 1) (gdT 3 (gdCons (gdN 2) (gdCons (gdN 3) (gdCons (gdN 4) gdNil)))))
  (dsSeq (dsAsg (dOp oSub (dCall m_year_begin (dCons (dVar 0) (dCons (dVar 2) dNil))) (dCall m_year_begin (dCons (dVar 0) (dCons (dC (.int 0)) dNil)))) (gdN 5))
  (dsRet (dOp oAdd (dOp oAdd (dVar 5) (dCB oSum (dCons (dFz (dLc (diRng1 (dCons (dVar 3) dNil)) (gdN 6) dYes (dCall m_month_length (dCons (dVar 0) (dCons (dVar 2) (dCons (dVar 6) dNil)))) [6])) dNil))) (dVar 4)))))
def m_day_of : List D → Option D := runF 2 7 b_day_of
/-- date_of; slots: 0 calendar, 1 n, 2 m, 3 b, 4 c, 5 y, 6 left, 7 month -/
def b_date_of : DS :=
  (dsSeq (dsAsg (dIx (dVar 0) (dC (.int 0))) (gdT 3 (gdCons (gdN 2) (gdCons (gdN 3) (gdCons (gdN 4) gdNil)))))
  (dsSeq (dsAsg (dOp oAdd (dOp oFdiv (dOp oMul (dVar 1) (dVar 2)) (dOp oAdd (dOp oMul (dCB oSum (dCons (dIx (dVar 0) (dC (.int 1))) dNil)) (dVar 2)) (dVar 3))) (dC (.int 1))) (gdN 5))
  (dsSeq (whileL (dTst (dOp oGt (dCall m_day_of (dCons (dVar 0) (dCons (dTup (dCons (dVar 5) (dCons (dC (.int 0)) (dCons (dC (.int 0)) dNil)))) dNil))) (dVar 1))) (dsAug 5 (fun i j => i - j) (dC (.int 1))) 20000)
  (dsSeq (whileL (dTst (dOp oLe (dCall m_day_of (dCons (dVar 0) (dCons (dTup (dCons (dOp oAdd (dVar 5) (dC (.int 1))) (dCons (dC (.int 0)) (dCons (dC (.int 0)) dNil)))) dNil))) (dVar 1))) (dsAug 5 (fun i j => i + j) (dC (.int 1))) 20000)
  (dsSeq (dsAsg (dOp oSub (dVar 1) (dCall m_day_of (dCons (dVar 0) (dCons (dTup (dCons (dVar 5) (dCons (dC (.int 0)) (dCons (dC (.int 0)) dNil)))) dNil)))) (gdN 6))
  (dsSeq (dsAsg (dC (.int 0)) (gdN 7))
  (dsSeq (whileL (dTst (dOp oGe (dVar 6) (dCall m_month_length (dCons (dVar 0) (dCons (dVar 5) (dCons (dVar 7) dNil)))))) (dsSeq (dsAug 6 (fun i j => i - j) (dCall m_month_length (dCons (dVar 0) (dCons (dVar 5) (dCons (dVar 7) dNil)))))
  (dsAug 7 (fun i j => i + j) (dC (.int 1)))) 20000)
  (dsRet (dTup (dCons (dVar 5) (dCons (dVar 7) (dCons (dVar 6) dNil))))))))))))
def m_date_of : List D → Option D := runF 2 8 b_date_of
/-- falls_on; slots: 0 calendar, 1 date, 2 w, 3 d -/
def b_falls_on : DS :=
  (dsRet (dAndV (dCall m_is_date (dCons (dVar 0) (dCons (dVar 1) dNil))) (dOp oEq (dOp oMod (dCall m_day_of (dCons (dVar 0) (dCons (dVar 1) dNil))) (dVar 2)) (dVar 3))))
def m_falls_on : List D → Option D := runF 4 4 b_falls_on
/-- week_paper; slots: 0 calendar, 1 month, 2 day, 3 w, 4 d, 5 cycle, 6 y -/
def b_week_paper : DS :=
  (dsSeq (dsAsg (dOp oMul (dIx (dIx (dVar 0) (dC (.int 0))) (dC (.int 0))) (dVar 3)) (gdN 5))
  (dsSeq (dsFor (diRng1 (dCons (dVar 5) dNil)) (gdN 6) (dsIf (dTru (dCall m_falls_on (dCons (dVar 0) (dCons (dTup (dCons (dVar 6) (dCons (dVar 1) (dCons (dVar 2) dNil)))) (dCons (dVar 3) (dCons (dVar 4) dNil)))))) (dsRet (dTup (dCons (dC (.str "year")) (dCons (dVar 6) dNil)))) dsNil))
  (dsRet (dTup (dCons (dC (.str "never")) (dCons (dVar 5) dNil))))))
def m_week_paper : List D → Option D := runF 5 7 b_week_paper
/-- judge_week; slots: 0 calendar, 1 month, 2 day, 3 w, 4 d, 5 value, 6 cycle, 7 y -/
def b_judge_week : DS :=
  (dsSeq (dsIf (dOr (dNot (dTru (dIsi "tuple" (dVar 5)))) (dOr (dTst (dOp oNe (dCB oLen (dCons (dVar 5) dNil)) (dC (.int 2)))) (dOr (dNot (dTru (dIsi "str" (dIx (dVar 5) (dC (.int 0)))))) (dNot (dTru (dCall m_is_integer (dCons (dIx (dVar 5) (dC (.int 1))) dNil))))))) (dsRet (dC (.bl false))) dsNil)
  (dsSeq (dsIf (dTst (dOp oEq (dIx (dVar 5) (dC (.int 0))) (dC (.str "year")))) (dsSeq (dsIf (dOr (dNot (dTst (dChain oLe oLt (dC (.int 0)) (dIx (dVar 5) (dC (.int 1))) (dC (.int 20000))))) (dNot (dTru (dCall m_falls_on (dCons (dVar 0) (dCons (dTup (dCons (dIx (dVar 5) (dC (.int 1))) (dCons (dVar 1) (dCons (dVar 2) dNil)))) (dCons (dVar 3) (dCons (dVar 4) dNil)))))))) (dsRet (dC (.bl false))) dsNil)
  (dsRet (dNotV (dCB oAny (dCons (dFz (dLc (diRng1 (dCons (dIx (dVar 5) (dC (.int 1))) dNil)) (gdN 7) dYes (dCall m_falls_on (dCons (dVar 0) (dCons (dTup (dCons (dVar 7) (dCons (dVar 1) (dCons (dVar 2) dNil)))) (dCons (dVar 3) (dCons (dVar 4) dNil))))) [7])) dNil))))) dsNil)
  (dsSeq (dsAsg (dIx (dVar 5) (dC (.int 1))) (gdN 6))
  (dsSeq (dsIf (dOr (dTst (dOp oNe (dIx (dVar 5) (dC (.int 0))) (dC (.str "never")))) (dOr (dNot (dTst (dChain oLe oLe (dC (.int 1)) (dVar 6) (dC (.int 20000))))) (dTst (dOp oNe (dOp oMod (dVar 6) (dIx (dIx (dVar 0) (dC (.int 0))) (dC (.int 0)))) (dC (.int 0)))))) (dsRet (dC (.bl false))) dsNil)
  (dsSeq (dsIf (dTst (dOp oNe (dOp oMod (dCall m_day_of (dCons (dVar 0) (dCons (dTup (dCons (dVar 6) (dCons (dC (.int 0)) (dCons (dC (.int 0)) dNil)))) dNil))) (dVar 3)) (dC (.int 0)))) (dsRet (dC (.bl false))) dsNil)
  (dsRet (dNotV (dCB oAny (dCons (dFz (dLc (diRng1 (dCons (dVar 6) dNil)) (gdN 7) dYes (dCall m_falls_on (dCons (dVar 0) (dCons (dTup (dCons (dVar 7) (dCons (dVar 1) (dCons (dVar 2) dNil)))) (dCons (dVar 3) (dCons (dVar 4) dNil))))) [7])) dNil)))))))))
def m_judge_week : List D → Option D := runF 6 8 b_judge_week
/-- _law_start; slots: 0 script, 1 cell -/
def b__law_start : DS :=
  (dsRetF (dLst (dCons (dFz (dLc (diSeq (dSl (dVar 0) dNoPart (dPart (dC (.int 63))))) (gdN 1) dYes (dCB oToInt (dCons (dVar 1) dNil)) [1])) (dCons (dC (.int 0)) (dCons (dC (.int 0)) (dCons (dC (.int 0)) (dCons (dC (.int 20)) dNil)))))))
def m__law_start : List D → Option (List D) := runN 1 2 b__law_start
/-- _law_fill; slots: 0 c, 1 number -/
def b__law_fill : DS :=
  (dsSeq (dsSet 0 (dC (.int 3)) (dOp oAdd (dIx (dVar 0) (dC (.int 3))) (dC (.int 1))))
  (dsSeq (dsAsg (dOp oAdd (dOp oMul (dIx (dVar 0) (dC (.int 3))) (dC (.int 69621))) (dC (.int 12345))) (gdN 1))
  (dsSeq (dsIf (dTst (dOp oLtA (dIx (dVar 0) (dC (.int 1))) (dCB oLen (dCons (dIx (dVar 0) (dC (.int 0))) dNil)))) (dsSeq (dsAsg (dCB oMax (dCons (dIx (dIx (dVar 0) (dC (.int 0))) (dIx (dVar 0) (dC (.int 1)))) (dCons (dOp oSub (dOp oSub (dC (.int 0)) (dC (.int 1))) (dIx (dIx (dVar 0) (dC (.int 0))) (dIx (dVar 0) (dC (.int 1))))) dNil))) (gdN 1))
  (dsSeq (dsSet 0 (dC (.int 1)) (dOp oAdd (dIx (dVar 0) (dC (.int 1))) (dC (.int 1))))
  (dsIf (dTst (dOp oGe (dVar 1) (dOp oPow (dC (.int 10)) (dC (.int 18))))) (dsRet (dVar 1)) dsNil))) dsNil)
  (dsSeq (dsIf (dAnd (dTru (dIx (dVar 0) (dC (.int 0)))) (dTst (dOp oGe (dIx (dVar 0) (dC (.int 1))) (dCB oLen (dCons (dIx (dVar 0) (dC (.int 0))) dNil))))) (dsAsg (dOp oAdd (dVar 1) (dOp oMod (dCB oToInt (dCons (dIx (dIx (dVar 0) (dC (.int 0))) (dNeg (dC (.int 1)))) dNil)) (dC (.int 1000003)))) (gdN 1)) dsNil)
  (dsSeq (dsAsg (dOp oMod (dCB oToInt (dCons (dOp oAdd (dOp oMul (dVar 1) (dC (.int 48271))) (dOp oMul (dIx (dVar 0) (dC (.int 3))) (dC (.int 69621)))) dNil)) (dC (.int 2147483647))) (gdN 1))
  (dsRet (dOp oAdd (dOp oFdiv (dCB oToInt (dCons (dOp oAdd (dOp oAdd (dOp oMul (dVar 1) (dVar 1)) (dOp oMul (dIx (dVar 0) (dC (.int 3))) (dC (.int 7919)))) (dC (.int 11))) dNil)) (dC (.int 64))) (dC (.int 36028797018963968)))))))))
def m__law_fill : D → List D → Option (D × D) := runC 1 2 b__law_fill
/-- _law_take; slots: 0 c, 1 many, 2 digit -/
def b__law_take : DS :=
  (dsSeq (dsIf (dTst (dOp oLtA (dIx (dVar 0) (dC (.int 2))) (dVar 1))) (dsSet 0 (dC (.int 2)) (dCallC m__law_fill (dCons (dVar 0) dNil))) dsNil)
  (dsSeq (dsAsg (dOp oMod (dCB oToInt (dCons (dIx (dVar 0) (dC (.int 2))) dNil)) (dVar 1)) (gdN 2))
  (dsSeq (dsSet 0 (dC (.int 2)) (dOp oFdiv (dIx (dVar 0) (dC (.int 2))) (dVar 1)))
  (dsRet (dVar 2)))))
def m__law_take : D → List D → Option (D × D) := runC 2 3 b__law_take
/-- _law_divisor; slots: 0 a, 1 b, 2 turn -/
def b__law_divisor : DS :=
  (dsSeq (dsFor (diRng1 (dCons (dC (.int 20000)) dNil)) (gdN 2) (dsSeq (dsIf (dTst (dOp oEq (dVar 1) (dC (.int 0)))) (dsRet (dCB oAbs (dCons (dVar 0) dNil))) dsNil)
  (dsPar 0 1 (dCons (dVar 1) (dCons (dOp oMod (dVar 0) (dVar 1)) dNil)))))
  (dsRet (dC (.int 1))))
def m__law_divisor : List D → Option D := runF 2 3 b__law_divisor
/-- _law_fraction; slots: 0 n, 1 d, 2 many -/
def b__law_fraction : DS :=
  (dsSeq (dsAsg (dCall m__law_divisor (dCons (dVar 0) (dCons (dVar 1) dNil))) (gdN 2))
  (dsSeq (dsAsg (dIf (dTst (dOp oGt (dVar 1) (dC (.int 0)))) (dVar 2) (dOp oSub (dC (.int 0)) (dVar 2))) (gdN 2))
  (dsRet (dTup (dCons (dOp oFdiv (dVar 0) (dVar 2)) (dCons (dOp oFdiv (dVar 1) (dVar 2)) dNil))))))
def m__law_fraction : List D → Option D := runF 2 3 b__law_fraction
/-- _law_plus; slots: 0 a, 1 b -/
def b__law_plus : DS :=
  (dsRet (dCall m__law_fraction (dCons (dOp oAdd (dOp oMul (dIx (dVar 0) (dC (.int 0))) (dIx (dVar 1) (dC (.int 1)))) (dOp oMul (dIx (dVar 1) (dC (.int 0))) (dIx (dVar 0) (dC (.int 1))))) (dCons (dOp oMul (dIx (dVar 0) (dC (.int 1))) (dIx (dVar 1) (dC (.int 1)))) dNil))))
def m__law_plus : List D → Option D := runF 2 2 b__law_plus
/-- _law_times; slots: 0 a, 1 b -/
def b__law_times : DS :=
  (dsRet (dCall m__law_fraction (dCons (dOp oMul (dIx (dVar 0) (dC (.int 0))) (dIx (dVar 1) (dC (.int 0)))) (dCons (dOp oMul (dIx (dVar 0) (dC (.int 1))) (dIx (dVar 1) (dC (.int 1)))) dNil))))
def m__law_times : List D → Option D := runF 2 2 b__law_times
/-- _law_said; slots: 0 said, 1 due -/
def b__law_said : DS :=
  (dsRet (dAndV (dIsi "bool" (dVar 0)) (dOp oEq (dVar 0) (dVar 1))))
def m__law_said : List D → Option D := runF 2 2 b__law_said
/-- _law_less; slots: 0 a, 1 b -/
def b__law_less : DS :=
  (dsRet (dOp oLtA (dOp oMul (dIx (dVar 0) (dC (.int 0))) (dIx (dVar 1) (dC (.int 1)))) (dOp oMul (dIx (dVar 1) (dC (.int 0))) (dIx (dVar 0) (dC (.int 1))))))
def m__law_less : List D → Option D := runF 2 2 b__law_less
/-- _law_minus; slots: 0 a, 1 b -/
def b__law_minus : DS :=
  (dsRet (dCall m__law_plus (dCons (dVar 0) (dCons (dTup (dCons (dOp oSub (dC (.int 0)) (dIx (dVar 1) (dC (.int 0)))) (dCons (dIx (dVar 1) (dC (.int 1))) dNil))) dNil))))
def m__law_minus : List D → Option D := runF 2 2 b__law_minus
/-- _law_away; slots: 0 x, 1 rest -/
def b__law_away : DS :=
  (dsSeq (dsAsg (dOp oMod (dIx (dVar 0) (dC (.int 0))) (dIx (dVar 0) (dC (.int 1)))) (gdN 1))
  (dsRet (dCall m__law_fraction (dCons (dCB oMin (dCons (dVar 1) (dCons (dOp oSub (dIx (dVar 0) (dC (.int 1))) (dVar 1)) dNil))) (dCons (dIx (dVar 0) (dC (.int 1))) dNil)))))
def m__law_away : List D → Option D := runF 1 2 b__law_away
/-- _law_far; slots: 0 a, 1 b, 2 less -/
def b__law_far : DS :=
  (dsSeq (dsAsg (dCall m__law_minus (dCons (dVar 0) (dCons (dVar 1) dNil))) (gdN 2))
  (dsRet (dTup (dCons (dCB oAbs (dCons (dIx (dVar 2) (dC (.int 0))) dNil)) (dCons (dIx (dVar 2) (dC (.int 1))) dNil)))))
def m__law_far : List D → Option D := runF 2 3 b__law_far
/-- _law_around; slots: 0 a, 1 n, 2 low, 3 high, 4 q, 5 p -/
def b__law_around : DS :=
  (dsSeq (dsPar 2 3 (dCons (dTup (dCons (dOp oFdiv (dIx (dVar 0) (dC (.int 0))) (dIx (dVar 0) (dC (.int 1)))) (dCons (dC (.int 1)) dNil))) (dCons (dTup (dCons (dC (.int 1)) (dCons (dC (.int 0)) dNil))) dNil)))
  (dsSeq (dsFor (diRng2 (dCons (dC (.int 1)) (dCons (dOp oAdd (dVar 1) (dC (.int 1))) dNil))) (gdN 4) (dsSeq (dsAsg (dOp oFdiv (dOp oMul (dIx (dVar 0) (dC (.int 0))) (dVar 4)) (dIx (dVar 0) (dC (.int 1)))) (gdN 5))
  (dsSeq (dsIf (dTst (dOp oGt (dOp oMul (dVar 5) (dIx (dVar 2) (dC (.int 1)))) (dOp oMul (dIx (dVar 2) (dC (.int 0))) (dVar 4)))) (dsAsg (dTup (dCons (dVar 5) (dCons (dVar 4) dNil))) (gdN 2)) dsNil)
  (dsIf (dOr (dTst (dOp oLtA (dOp oMul (dOp oAdd (dVar 5) (dC (.int 1))) (dIx (dVar 3) (dC (.int 1)))) (dOp oMul (dIx (dVar 3) (dC (.int 0))) (dVar 4)))) (dTst (dOp oEq (dIx (dVar 3) (dC (.int 1))) (dC (.int 0))))) (dsAsg (dTup (dCons (dOp oAdd (dVar 5) (dC (.int 1))) (dCons (dVar 4) dNil))) (gdN 3)) dsNil))))
  (dsRetF (dLst (dCons (dCall m__law_fraction (dCons (dIx (dVar 2) (dC (.int 0))) (dCons (dIx (dVar 2) (dC (.int 1))) dNil))) (dCons (dCall m__law_fraction (dCons (dIx (dVar 3) (dC (.int 0))) (dCons (dIx (dVar 3) (dC (.int 1))) dNil))) dNil))))))
def m__law_around : List D → Option D := runF 2 6 b__law_around
/-- _law_near_right; slots: 0 c, 1 a, 2 e, 3 m, 4 told, 5 x, 6 bent, 7 right, 8 n, 9 p, 10 q, 11 r, 12 s, 13 low, 14 high, 15 best, 16 b, 17 top, 18 one, 19 far, 20 paper -/
def b__law_near_right : DS :=
  (dsSeq (dsAsg (dTup (dCons (dCall m__law_fraction (dCons (dCallC m__law_take (dCons (dVar 0) (dCons (dC (.int 60)) dNil))) (dCons (dOp oAdd (dC (.int 1)) (dCallC m__law_take (dCons (dVar 0) (dCons (dC (.int 30)) dNil)))) dNil))) (dCons (dCall m__law_fraction (dCons (dCallC m__law_take (dCons (dVar 0) (dCons (dC (.int 6)) dNil))) (dCons (dOp oAdd (dC (.int 1)) (dCallC m__law_take (dCons (dVar 0) (dCons (dC (.int 40)) dNil)))) dNil))) dNil))) (gdT 2 (gdCons (gdN 1) (gdCons (gdN 2) gdNil))))
  (dsSeq (dsAsg (dIx (dFz (dLc (diRng2 (dCons (dC (.int 1)) (dCons (dC (.int 40)) dNil))) (gdN 3) (dNot (dTru (dCall m__law_less (dCons (dVar 2) (dCons (dCall m__law_away (dCons (dCall m__law_times (dCons (dVar 1) (dCons (dTup (dCons (dVar 3) (dCons (dC (.int 1)) dNil))) dNil))) dNil)) dNil))))) (dVar 3) [3])) (dC (.int 0))) (gdN 3))
  (dsSeq (dsAsg (dCall m_near_paper (dCons (dVar 1) (dCons (dVar 2) dNil))) (gdN 4))
  (dsSeq (dsAsg (dCall m__law_fraction (dCons (dOp oSub (dCallC m__law_take (dCons (dVar 0) (dCons (dC (.int 81)) dNil))) (dC (.int 40))) (dCons (dOp oAdd (dC (.int 1)) (dCallC m__law_take (dCons (dVar 0) (dCons (dC (.int 9)) dNil)))) dNil))) (gdN 5))
  (dsSeq (dsIf (dOr (dTst (dOp oNe (dCall m_away (dCons (dVar 5) dNil)) (dCall m__law_away (dCons (dVar 5) dNil)))) (dOr (dTst (dOp oNe (dIx (dVar 4) (dC (.int 0))) (dVar 3))) (dOr (dTst (dOp oNotA (dCall m_judge_near (dCons (dVar 1) (dCons (dVar 2) (dCons (dVar 4) dNil)))) (dC (.bl true)))) (dTru (dCall m__law_less (dCons (dVar 2) (dCons (dCall m__law_far (dCons (dCall m__law_times (dCons (dVar 1) (dCons (dTup (dCons (dVar 3) (dCons (dC (.int 1)) dNil))) dNil))) (dCons (dTup (dCons (dIx (dVar 4) (dC (.int 1))) (dCons (dC (.int 1)) dNil))) dNil))) dNil))))))) (dsRet (dC (.bl false))) dsNil)
  (dsSeq (dsAsg (dIx (dFz (dLst (dCons (dOp oAdd (dTup (dCons (dOp oAdd (dIx (dVar 4) (dC (.int 0))) (dC (.int 1))) dNil)) (dSl (dVar 4) (dPart (dC (.int 1))) dNoPart)) (dCons (dOp oAdd (dTup (dCons (dIx (dVar 4) (dC (.int 0))) (dCons (dOp oAdd (dIx (dVar 4) (dC (.int 1))) (dC (.int 1))) dNil))) (dSl (dVar 4) (dPart (dC (.int 2))) dNoPart)) (dCons (dSl (dVar 4) dNoPart (dPart (dC (.int 3)))) (dCons (dC .non) (dCons (dOp oAdd (dTup (dCons (dOp oMul (dIx (dVar 4) (dC (.int 0))) (dC (.int 2))) dNil)) (dSl (dVar 4) (dPart (dC (.int 1))) dNoPart)) dNil))))))) (dCallC m__law_take (dCons (dVar 0) (dCons (dC (.int 5)) dNil)))) (gdN 6))
  (dsSeq (dsAsg (dC (.bl false)) (gdN 7))
  (dsSeq (dsIf (dAnd (dTst (dOp oNotA (dVar 6) (dC .non))) (dAnd (dTst (dOp oEq (dCB oLen (dCons (dVar 6) dNil)) (dC (.int 4)))) (dTst (dOp oEq (dIx (dVar 6) (dC (.int 0))) (dVar 3))))) (dsAsg (dNotV (dCall m__law_less (dCons (dVar 2) (dCons (dCall m__law_far (dCons (dCall m__law_times (dCons (dVar 1) (dCons (dTup (dCons (dVar 3) (dCons (dC (.int 1)) dNil))) dNil))) (dCons (dTup (dCons (dIx (dVar 6) (dC (.int 1))) (dCons (dC (.int 1)) dNil))) dNil))) dNil)))) (gdN 7)) dsNil)
  (dsSeq (dsIf (dAnd (dNot (dTru (dCall m__law_said (dCons (dCall m_judge_near (dCons (dVar 1) (dCons (dVar 2) (dCons (dVar 6) dNil)))) (dCons (dVar 7) dNil))))) (dAnd (dTst (dOp oNotA (dVar 6) (dC .non))) (dAnd (dTst (dOp oEq (dCB oLen (dCons (dVar 6) dNil)) (dC (.int 4)))) (dTst (dOp oEq (dIx (dVar 6) (dC (.int 0))) (dVar 3)))))) (dsRet (dC (.bl false))) dsNil)
  (dsSeq (dsAsg (dOp oAdd (dC (.int 1)) (dCallC m__law_take (dCons (dVar 0) (dCons (dC (.int 30)) dNil)))) (gdN 8))
  (dsSeq (dsAsg (dCall m_neighbours (dCons (dVar 1) (dCons (dVar 8) dNil))) (gdT 2 (gdCons (gdT 2 (gdCons (gdN 9) (gdCons (gdN 10) gdNil))) (gdCons (gdT 2 (gdCons (gdN 11) (gdCons (gdN 12) gdNil))) gdNil))))
  (dsSeq (dsAsg (dCall m__law_around (dCons (dVar 1) (dCons (dVar 8) dNil))) (gdT 2 (gdCons (gdN 13) (gdCons (gdN 14) gdNil))))
  (dsSeq (dsIf (dOr (dTst (dOp oNe (dOp oSub (dOp oMul (dVar 11) (dVar 10)) (dOp oMul (dVar 9) (dVar 12))) (dC (.int 1)))) (dOr (dTst (dOp oGt (dVar 10) (dVar 8))) (dOr (dTst (dOp oGt (dVar 12) (dVar 8))) (dOr (dTst (dOp oLe (dOp oAdd (dVar 10) (dVar 12)) (dVar 8))) (dOr (dTst (dOp oGt (dOp oMul (dVar 9) (dIx (dVar 1) (dC (.int 1)))) (dOp oMul (dIx (dVar 1) (dC (.int 0))) (dVar 10)))) (dOr (dAnd (dTst (dOp oGt (dVar 12) (dC (.int 0)))) (dTst (dOp oLe (dOp oMul (dVar 11) (dIx (dVar 1) (dC (.int 1)))) (dOp oMul (dIx (dVar 1) (dC (.int 0))) (dVar 12))))) (dOr (dTst (dOp oNe (dTup (dCons (dVar 9) (dCons (dVar 10) dNil))) (dVar 13))) (dAnd (dTst (dOp oGt (dVar 12) (dC (.int 0)))) (dTst (dOp oNe (dTup (dCons (dVar 11) (dCons (dVar 12) dNil))) (dVar 14))))))))))) (dsRet (dC (.bl false))) dsNil)
  (dsSeq (dsAsg (dC .non) (gdN 15))
  (dsSeq (dsFor (diRng2 (dCons (dC (.int 1)) (dCons (dOp oAdd (dVar 8) (dC (.int 1))) dNil))) (gdN 16) (dsFor (diSeq (dFz (dLst (dCons (dOp oFdiv (dOp oMul (dIx (dVar 1) (dC (.int 0))) (dVar 16)) (dIx (dVar 1) (dC (.int 1)))) (dCons (dOp oAdd (dOp oFdiv (dOp oMul (dIx (dVar 1) (dC (.int 0))) (dVar 16)) (dIx (dVar 1) (dC (.int 1)))) (dC (.int 1))) dNil))))) (gdN 17) (dsSeq (dsAsg (dCall m__law_fraction (dCons (dVar 17) (dCons (dVar 16) dNil))) (gdN 18))
  (dsSeq (dsAsg (dCall m__law_far (dCons (dVar 1) (dCons (dVar 18) dNil))) (gdN 19))
  (dsIf (dOr (dTst (dOp oIsA (dVar 15) (dC .non))) (dOr (dTru (dCall m__law_less (dCons (dVar 19) (dCons (dIx (dVar 15) (dC (.int 0))) dNil)))) (dAnd (dTst (dOp oEq (dVar 19) (dIx (dVar 15) (dC (.int 0))))) (dTst (dOp oLtA (dTup (dCons (dIx (dVar 18) (dC (.int 1))) (dCons (dIx (dVar 18) (dC (.int 0))) dNil))) (dTup (dCons (dIx (dIx (dVar 15) (dC (.int 1))) (dC (.int 1))) (dCons (dIx (dIx (dVar 15) (dC (.int 1))) (dC (.int 0))) dNil)))))))) (dsAsg (dTup (dCons (dVar 19) (dCons (dVar 18) dNil))) (gdN 15)) dsNil)))))
  (dsSeq (dsAsg (dCall m_best_paper (dCons (dVar 1) (dCons (dVar 8) dNil))) (gdN 20))
  (dsSeq (dsIf (dOr (dTst (dOp oNe (dSl (dVar 20) dNoPart (dPart (dC (.int 2)))) (dIx (dVar 15) (dC (.int 1))))) (dTst (dOp oNotA (dCall m_judge_best_fraction (dCons (dVar 1) (dCons (dVar 8) (dCons (dVar 20) dNil)))) (dC (.bl true))))) (dsRet (dC (.bl false))) dsNil)
  (dsRet (dAndV (dOp oIsA (dCall m_judge_best_fraction (dCons (dVar 1) (dCons (dVar 8) (dCons (dOp oAdd (dTup (dCons (dOp oAdd (dIx (dVar 20) (dC (.int 0))) (dC (.int 1))) dNil)) (dSl (dVar 20) (dPart (dC (.int 1))) dNoPart)) dNil)))) (dC (.bl false))) (dOp oEq (dSl (dCall m_best_paper (dCons (dVar 1) (dCons (dIx (dVar 1) (dC (.int 1))) dNil))) dNoPart (dPart (dC (.int 2)))) (dVar 1)))))))))))))))))))))
def m__law_near_right : D → List D → Option (D × D) := runC 1 21 b__law_near_right
/-- _law_rule; slots: 0 c, 1 m -/
def b__law_rule : DS :=
  (dsSeq (dsAsg (dOp oAdd (dC (.int 1)) (dCallC m__law_take (dCons (dVar 0) (dCons (dC (.int 12)) dNil)))) (gdN 1))
  (dsRet (dTup (dCons (dVar 1) (dCons (dCallC m__law_take (dCons (dVar 0) (dCons (dOp oAdd (dVar 1) (dC (.int 1))) dNil))) (dCons (dCallC m__law_take (dCons (dVar 0) (dCons (dVar 1) dNil))) dNil))))))
def m__law_rule : D → List D → Option (D × D) := runC 1 2 b__law_rule
/-- _law_leap; slots: 0 rule, 1 y, 2 m, 3 b, 4 first -/
def b__law_leap : DS :=
  (dsSeq (dsAsg (dVar 0) (gdT 3 (gdCons (gdN 2) (gdCons (gdN 3) (gdCons (gdN 4) gdNil)))))
  (dsRet (dOp oGe (dOp oMod (dOp oAdd (dOp oMul (dVar 3) (dVar 1)) (dVar 4)) (dVar 2)) (dOp oSub (dVar 2) (dVar 3)))))
def m__law_leap : List D → Option D := runF 2 5 b__law_leap
/-- _law_drift_right; slots: 0 c, 1 rule, 2 m, 3 b, 4 first, 5 y, 6 count, 7 f, 8 told, 9 drifts, 10 leaps, 11 k, 12 own, 13 low, 14 high, 15 due, 16 other, 17 far, 18 one -/
def b__law_drift_right : DS :=
  (dsSeq (dsAsg (dCallC m__law_rule (dCons (dVar 0) dNil)) (gdN 1))
  (dsSeq (dsAsg (dVar 1) (gdT 3 (gdCons (gdN 2) (gdCons (gdN 3) (gdCons (gdN 4) gdNil)))))
  (dsSeq (dsAsg (dCallC m__law_take (dCons (dVar 0) (dCons (dC (.int 60)) dNil))) (gdN 5))
  (dsSeq (dsAsg (dCB oLen (dCons (dFz (dLc (diRng1 (dCons (dVar 5) dNil)) (gdN 11) (dTru (dCall m__law_leap (dCons (dVar 1) (dCons (dVar 11) dNil)))) (dVar 11) [11])) dNil)) (gdN 6))
  (dsSeq (dsIf (dOr (dNot (dTru (dCall m__law_said (dCons (dCall m_is_leap (dCons (dVar 1) (dCons (dVar 5) dNil))) (dCons (dCall m__law_leap (dCons (dVar 1) (dCons (dVar 5) dNil))) dNil))))) (dTst (dOp oNe (dCB oRepr (dCons (dCall m_leaps_before (dCons (dVar 1) (dCons (dVar 5) dNil))) dNil)) (dCB oRepr (dCons (dVar 6) dNil))))) (dsRet (dC (.bl false))) dsNil)
  (dsSeq (dsAsg (dIf (dTst (dOp oEq (dCallC m__law_take (dCons (dVar 0) (dCons (dC (.int 2)) dNil))) (dC (.int 0)))) (dCall m__law_fraction (dCons (dVar 3) (dCons (dVar 2) dNil))) (dCall m__law_fraction (dCons (dCallC m__law_take (dCons (dVar 0) (dCons (dC (.int 13)) dNil))) (dCons (dC (.int 12)) dNil)))) (gdN 7))
  (dsSeq (dsAsg (dCall m_drift_paper (dCons (dVar 1) (dCons (dVar 7) dNil))) (gdN 8))
  (dsSeq (dsParO 9 10 (dLst dNil) (dC (.int 0)))
  (dsSeq (dsFor (diRng1 (dCons (dC (.int 600)) dNil)) (gdN 11) (dsSeq (dsApp 9 (dTup (dCons (dOp oSub (dOp oMul (dIx (dVar 7) (dC (.int 0))) (dVar 11)) (dOp oMul (dVar 10) (dIx (dVar 7) (dC (.int 1))))) (dCons (dIx (dVar 7) (dC (.int 1))) dNil))))
  (dsAsg (dOp oAdd (dVar 10) (dCB oToInt (dCons (dCall m__law_leap (dCons (dVar 1) (dCons (dVar 11) dNil))) dNil))) (gdN 10))))
  (dsFreeze 9
  (dsSeq (dsIf (dTst (dOp oEq (dOp oMul (dIx (dVar 7) (dC (.int 0))) (dVar 2)) (dOp oMul (dVar 3) (dIx (dVar 7) (dC (.int 1)))))) (dsSeq (dsAsg (dFz (dLc (diSeq (dSl (dVar 9) dNoPart (dPart (dVar 2)))) (gdN 18) dYes (dCall m__law_fraction (dCons (dIx (dVar 18) (dC (.int 0))) (dCons (dIx (dVar 18) (dC (.int 1))) dNil))) [18])) (gdN 12))
  (dsSeq (dsPar 13 14 (dCons (dCB oMin (dCons (dFz (dLc (diSeq (dSl (dVar 9) dNoPart (dPart (dVar 2)))) (gdN 18) dYes (dIx (dVar 18) (dC (.int 0))) [18])) dNil)) (dCons (dCB oMax (dCons (dFz (dLc (diSeq (dSl (dVar 9) dNoPart (dPart (dVar 2)))) (gdN 18) dYes (dIx (dVar 18) (dC (.int 0))) [18])) dNil)) dNil)))
  (dsSeq (dsAsg (dTup (dCons (dC (.str "bounded")) (dCons (dCall m__law_fraction (dCons (dVar 13) (dCons (dIx (dVar 7) (dC (.int 1))) dNil))) (dCons (dCall m__law_fraction (dCons (dVar 14) (dCons (dIx (dVar 7) (dC (.int 1))) dNil))) (dCons (dIdxD (dVar 12) (dCall m__law_fraction (dCons (dVar 13) (dCons (dIx (dVar 7) (dC (.int 1))) dNil)))) (dCons (dIdxD (dVar 12) (dCall m__law_fraction (dCons (dVar 14) (dCons (dIx (dVar 7) (dC (.int 1))) dNil)))) dNil)))))) (gdN 15))
  (dsAsg (dTup (dCons (dC (.str "unbounded")) (dCons (dOp oAdd (dC (.int 1)) (dCallC m__law_take (dCons (dVar 0) (dCons (dC (.int 50)) dNil)))) dNil))) (gdN 16))))) (dsSeq (dsAsg (dFz (dLc (diRng1 (dCons (dC (.int 600)) dNil)) (gdN 11) (dTst (dOp oGt (dCB oAbs (dCons (dIx (dIx (dVar 9) (dVar 11)) (dC (.int 0))) dNil)) (dIx (dVar 7) (dC (.int 1))))) (dVar 11) [11])) (gdN 17))
  (dsSeq (dsIf (dNot (dTru (dVar 17))) (dsRet (dAndV (dOp oEq (dIx (dVar 8) (dC (.int 0))) (dC (.str "unbounded"))) (dOp oIsA (dCall m_judge_drift (dCons (dVar 1) (dCons (dVar 7) (dCons (dVar 8) dNil)))) (dC (.bl true))))) dsNil)
  (dsSeq (dsAsg (dTup (dCons (dC (.str "unbounded")) (dCons (dIx (dVar 17) (dC (.int 0))) dNil))) (gdN 15))
  (dsAsg (dTup (dCons (dC (.str "unbounded")) (dCons (dOp oAdd (dIx (dVar 17) (dC (.int 0))) (dC (.int 1))) dNil))) (gdN 16))))))
  (dsRet (dAndV (dOp oEq (dVar 8) (dVar 15)) (dAndV (dOp oIsA (dCall m_judge_drift (dCons (dVar 1) (dCons (dVar 7) (dCons (dVar 15) dNil)))) (dC (.bl true))) (dAndV (dOp oIsA (dCall m_judge_drift (dCons (dVar 1) (dCons (dVar 7) (dCons (dVar 16) dNil)))) (dC (.bl false))) (dOp oIsA (dCall m_judge_drift (dCons (dVar 1) (dCons (dVar 7) (dCons (dSl (dVar 15) dNoPart (dPart (dOp oSub (dC (.int 0)) (dC (.int 1))))) dNil)))) (dC (.bl false))))))))))))))))))
def m__law_drift_right : D → List D → Option (D × D) := runC 1 19 b__law_drift_right
/-- _law_days; slots: 0 calendar, 1 most, 2 rule, 3 lengths, 4 extra, 5 found, 6 y, 7 turn, 8 k, 9 many, 10 d -/
def b__law_days : DS :=
  (dsSeq (dsAsg (dVar 0) (gdT 3 (gdCons (gdN 2) (gdCons (gdN 3) (gdCons (gdN 4) gdNil)))))
  (dsSeq (dsAsg (dTup (dCons (dFz (dLst dNil)) (dCons (dC (.int 0)) dNil))) (gdT 2 (gdCons (gdN 5) (gdCons (gdN 6) gdNil))))
  (dsSeq (dsFor (diRng1 (dCons (dVar 1) dNil)) (gdN 7) (dsSeq (dsIf (dTst (dOp oGe (dCB oLen (dCons (dVar 5) dNil)) (dVar 1))) dsBreak dsNil)
  (dsSeq (dsFor (diRng1 (dCons (dCB oLen (dCons (dVar 3) dNil)) dNil)) (gdN 8) (dsSeq (dsAsg (dOp oAdd (dIx (dVar 3) (dVar 8)) (dCB oToInt (dCons (dAndV (dOp oEq (dVar 8) (dVar 4)) (dCall m__law_leap (dCons (dVar 2) (dCons (dVar 6) dNil)))) dNil))) (gdN 9))
  (dsAsg (dOp oAdd (dVar 5) (dFz (dLc (diRng1 (dCons (dVar 9) dNil)) (gdN 10) dYes (dTup (dCons (dVar 6) (dCons (dVar 8) (dCons (dVar 10) dNil)))) [10]))) (gdN 5))))
  (dsAsg (dOp oAdd (dVar 6) (dC (.int 1))) (gdN 6)))))
  (dsRet (dVar 5)))))
def m__law_days : List D → Option D := runF 2 11 b__law_days
/-- _law_week_right; slots: 0 c, 1 rule, 2 lengths, 3 calendar, 4 dates, 5 n, 6 k, 7 drawn, 8 bad, 9 w, 10 month, 11 day, 12 d, 13 cycle, 14 whole, 15 years, 16 told, 17 due, 18 y -/
def b__law_week_right : DS :=
  (dsSeq (dsAsg (dCallC m__law_rule (dCons (dVar 0) dNil)) (gdN 1))
  (dsSeq (dsAsg (dCB oTuple (dCons (dFz (dLc (diRng1 (dCons (dOp oAdd (dC (.int 1)) (dCallC m__law_take (dCons (dVar 0) (dCons (dC (.int 4)) dNil)))) dNil)) (gdN 6) dYes (dOp oAdd (dC (.int 1)) (dCallC m__law_take (dCons (dVar 0) (dCons (dC (.int 5)) dNil)))) [6])) dNil)) (gdN 2))
  (dsSeq (dsAsg (dTup (dCons (dVar 1) (dCons (dVar 2) (dCons (dCallC m__law_take (dCons (dVar 0) (dCons (dCB oLen (dCons (dVar 2) dNil)) dNil))) dNil)))) (gdN 3))
  (dsSeq (dsAsg (dCall m__law_days (dCons (dVar 3) (dCons (dC (.int 900)) dNil))) (gdN 4))
  (dsSeq (dsAsg (dCallC m__law_take (dCons (dVar 0) (dCons (dC (.int 900)) dNil))) (gdN 5))
  (dsSeq (dsIf (dOr (dTst (dOp oNe (dCall m_date_of (dCons (dVar 3) (dCons (dVar 5) dNil))) (dIx (dVar 4) (dVar 5)))) (dOr (dTst (dOp oNe (dCB oRepr (dCons (dCall m_day_of (dCons (dVar 3) (dCons (dIx (dVar 4) (dVar 5)) dNil))) dNil)) (dCB oRepr (dCons (dVar 5) dNil)))) (dTst (dOp oNotA (dCall m_is_date (dCons (dVar 3) (dCons (dIx (dVar 4) (dVar 5)) dNil))) (dC (.bl true)))))) (dsRet (dC (.bl false))) dsNil)
  (dsSeq (dsAsg (dCallC m__law_take (dCons (dVar 0) (dCons (dCB oLen (dCons (dVar 2) dNil)) dNil))) (gdN 6))
  (dsSeq (dsAsg (dTup (dCons (dCallC m__law_take (dCons (dVar 0) (dCons (dC (.int 9)) dNil))) (dCons (dVar 6) (dCons (dCallC m__law_take (dCons (dVar 0) (dCons (dC (.int 8)) dNil))) dNil)))) (gdN 7))
  (dsSeq (dsIf (dNot (dTru (dCall m__law_said (dCons (dCall m_is_date (dCons (dVar 3) (dCons (dVar 7) dNil))) (dCons (dOp oIn (dVar 7) (dVar 4)) dNil))))) (dsRet (dC (.bl false))) dsNil)
  (dsSeq (dsAsg (dFz (dLst (dCons (dC .non) (dCons (dSl (dVar 7) dNoPart (dPart (dC (.int 2)))) (dCons (dFz (dCBF oList (dCons (dVar 7) dNil))) (dCons (dTup (dCons (dOp oSub (dC (.int 0)) (dC (.int 1))) (dCons (dC (.int 0)) (dCons (dC (.int 0)) dNil)))) (dCons (dTup (dCons (dC (.int 0)) (dCons (dCB oLen (dCons (dVar 2) dNil)) (dCons (dC (.int 0)) dNil)))) (dCons (dTup (dCons (dC (.int 0)) (dCons (dC (.int 0)) (dCons (dOp oSub (dC (.int 0)) (dC (.int 1))) dNil)))) (dCons (dTup (dCons (dC (.bl true)) (dCons (dC (.int 0)) (dCons (dC (.int 0)) dNil)))) (dCons (dTup (dCons (dC (.int 0)) (dCons (dC (.int 0)) (dCons (dC (.int 0)) (dCons (dC (.int 0)) dNil))))) dNil)))))))))) (gdN 8))
  (dsSeq (dsIf (dTst (dOp oNotA (dCall m_is_date (dCons (dVar 3) (dCons (dIx (dVar 8) (dCallC m__law_take (dCons (dVar 0) (dCons (dC (.int 8)) dNil)))) dNil))) (dC (.bl false)))) (dsRet (dC (.bl false))) dsNil)
  (dsSeq (dsAsg (dOp oAdd (dC (.int 1)) (dCallC m__law_take (dCons (dVar 0) (dCons (dC (.int 7)) dNil)))) (gdN 9))
  (dsSeq (dsAsg (dTup (dCons (dCallC m__law_take (dCons (dVar 0) (dCons (dCB oLen (dCons (dVar 2) dNil)) dNil))) (dCons (dCallC m__law_take (dCons (dVar 0) (dCons (dC (.int 6)) dNil))) (dCons (dCallC m__law_take (dCons (dVar 0) (dCons (dVar 9) dNil))) dNil)))) (gdT 3 (gdCons (gdN 10) (gdCons (gdN 11) (gdCons (gdN 12) gdNil)))))
  (dsSeq (dsAsg (dOp oMul (dIx (dVar 1) (dC (.int 0))) (dVar 9)) (gdN 13))
  (dsSeq (dsAsg (dCall m__law_days (dCons (dVar 3) (dCons (dOp oMul (dOp oAdd (dVar 13) (dC (.int 1))) (dOp oAdd (dCB oSum (dCons (dVar 2) dNil)) (dC (.int 1)))) dNil))) (gdN 14))
  (dsSeq (dsAsg (dFz (dLc (diRng1 (dCons (dCB oLen (dCons (dVar 14) dNil)) dNil)) (gdN 6) (dAnd (dTst (dOp oEq (dSl (dIx (dVar 14) (dVar 6)) (dPart (dC (.int 1))) dNoPart) (dTup (dCons (dVar 10) (dCons (dVar 11) dNil))))) (dAnd (dTst (dOp oEq (dOp oMod (dVar 6) (dVar 9)) (dVar 12))) (dTst (dOp oLtA (dIx (dIx (dVar 14) (dVar 6)) (dC (.int 0))) (dVar 13))))) (dIx (dIx (dVar 14) (dVar 6)) (dC (.int 0))) [6])) (gdN 15))
  (dsSeq (dsAsg (dCall m_week_paper (dCons (dVar 3) (dCons (dVar 10) (dCons (dVar 11) (dCons (dVar 9) (dCons (dVar 12) dNil)))))) (gdN 16))
  (dsSeq (dsAsg (dIf (dTru (dVar 15)) (dTup (dCons (dC (.str "year")) (dCons (dIx (dVar 15) (dC (.int 0))) dNil))) (dTup (dCons (dC (.str "never")) (dCons (dVar 13) dNil)))) (gdN 17))
  (dsSeq (dsIf (dOr (dTst (dOp oNe (dVar 16) (dVar 17))) (dTst (dOp oNotA (dCall m_judge_week (dCons (dVar 3) (dCons (dVar 10) (dCons (dVar 11) (dCons (dVar 9) (dCons (dVar 12) (dCons (dVar 17) dNil))))))) (dC (.bl true))))) (dsRet (dC (.bl false))) dsNil)
  (dsSeq (dsAsg (dCallC m__law_take (dCons (dVar 0) (dCons (dVar 13) dNil))) (gdN 18))
  (dsRet (dAndV (dCall m__law_said (dCons (dCall m_judge_week (dCons (dVar 3) (dCons (dVar 10) (dCons (dVar 11) (dCons (dVar 9) (dCons (dVar 12) (dCons (dTup (dCons (dC (.str "year")) (dCons (dVar 18) dNil))) dNil))))))) (dCons (dAndV (dOp oNe (dVar 15) (dFz (dLst dNil))) (dOp oEq (dVar 18) (dIx (dVar 15) (dC (.int 0))))) dNil))) (dOrV (dOp oEq (dVar 15) (dFz (dLst dNil))) (dOp oIsA (dCall m_judge_week (dCons (dVar 3) (dCons (dVar 10) (dCons (dVar 11) (dCons (dVar 9) (dCons (dVar 12) (dCons (dTup (dCons (dC (.str "never")) (dCons (dVar 13) dNil))) dNil))))))) (dC (.bl false))))))))))))))))))))))))))
def m__law_week_right : D → List D → Option (D × D) := runC 1 19 b__law_week_right
/-- _law_agree_right; slots: 0 c, 1 readings, 2 turn, 3 low, 4 f, 5 part, 6 passed, 7 marks, 8 counts, 9 fits, 10 told, 11 due, 12 other, 13 a, 14 b, 15 mark, 16 k -/
def b__law_agree_right : DS :=
  (dsSeq (dsOwn 1 (dLst dNil))
  (dsSeq (dsFor (diRng1 (dCons (dOp oAdd (dC (.int 1)) (dCallC m__law_take (dCons (dVar 0) (dCons (dC (.int 5)) dNil)))) dNil)) (gdN 2) (dsSeq (dsAsg (dCallC m__law_take (dCons (dVar 0) (dCons (dC (.int 12)) dNil))) (gdN 3))
  (dsApp 1 (dTup (dCons (dVar 3) (dCons (dOp oAdd (dVar 3) (dCallC m__law_take (dCons (dVar 0) (dCons (dC (.int 7)) dNil)))) dNil))))))
  (dsFreeze 1
  (dsSeq (dsAsg (dTup (dCons (dCallC m__law_take (dCons (dVar 0) (dCons (dOp oAdd (dCB oLen (dCons (dVar 1) dNil)) (dC (.int 1))) dNil))) (dCons (dOp oAdd (dC (.int 1)) (dCallC m__law_take (dCons (dVar 0) (dCons (dC (.int 3)) dNil)))) dNil))) (gdT 2 (gdCons (gdN 4) (gdCons (gdN 5) gdNil))))
  (dsSeq (dsAsg (dCB oTuple (dCons (dFz (dLc (diSeq (dVar 1)) (gdT 2 (gdCons (gdN 13) (gdCons (gdN 14) gdNil))) dYes (dTup (dCons (dCall m__law_fraction (dCons (dVar 13) (dCons (dVar 5) dNil))) (dCons (dCall m__law_fraction (dCons (dVar 14) (dCons (dVar 5) dNil))) dNil))) [13, 14])) dNil)) (gdN 6))
  (dsSeq (dsAsg (dFz (dSortSet (dOp oAdd (dFz (dLc (diSeq (dVar 1)) (gdT 2 (gdCons (gdN 13) (gdCons (gdN 14) gdNil))) dYes (dVar 13) [13, 14])) (dFz (dLc (diSeq (dVar 1)) (gdT 2 (gdCons (gdN 13) (gdCons (gdN 14) gdNil))) dYes (dVar 14) [13, 14]))))) (gdN 7))
  (dsSeq (dsAsg (dFz (dLc (diSeq (dVar 7)) (gdN 15) dYes (dCB oLen (dCons (dFz (dLc (diSeq (dVar 1)) (gdT 2 (gdCons (gdN 13) (gdCons (gdN 14) gdNil))) (dTst (dChain oLe oLe (dVar 13) (dVar 15) (dVar 14))) (dC (.int 1)) [13, 14])) dNil)) [15])) (gdN 8))
  (dsSeq (dsAsg (dFz (dLc (diRng1 (dCons (dCB oLen (dCons (dVar 7) dNil)) dNil)) (gdN 16) (dTst (dOp oGe (dIx (dVar 8) (dVar 16)) (dOp oSub (dCB oLen (dCons (dVar 1) dNil)) (dVar 4)))) (dIx (dVar 7) (dVar 16)) [16])) (gdN 9))
  (dsSeq (dsAsg (dCall m_agree_paper (dCons (dVar 6) (dCons (dVar 4) dNil))) (gdN 10))
  (dsSeq (dsIf (dTst (dOp oEq (dVar 4) (dCB oLen (dCons (dVar 1) dNil)))) (dsRet (dOp oIsA (dCall m_judge_agree (dCons (dVar 6) (dCons (dVar 4) (dCons (dVar 10) dNil)))) (dC (.bl true)))) dsNil)
  (dsSeq (dsAsg (dIf (dTru (dVar 9)) (dTup (dCons (dC (.str "agree")) (dCons (dCall m__law_fraction (dCons (dIx (dVar 9) (dC (.int 0))) (dCons (dVar 5) dNil))) (dCons (dCall m__law_fraction (dCons (dIx (dVar 9) (dOp oSub (dCB oLen (dCons (dVar 9) dNil)) (dC (.int 1)))) (dCons (dVar 5) dNil))) dNil)))) (dTup (dCons (dC (.str "none")) (dCons (dCB oMax (dCons (dVar 8) dNil)) dNil)))) (gdN 11))
  (dsSeq (dsIf (dOr (dTst (dOp oNe (dVar 10) (dVar 11))) (dTst (dOp oNotA (dCall m_judge_agree (dCons (dVar 6) (dCons (dVar 4) (dCons (dVar 11) dNil)))) (dC (.bl true))))) (dsRet (dC (.bl false))) dsNil)
  (dsSeq (dsAsg (dIx (dFz (dLst (dCons (dTup (dCons (dC (.str "none")) (dCons (dCallC m__law_take (dCons (dVar 0) (dCons (dC (.int 7)) dNil))) dNil))) (dCons (dTup (dCons (dC (.str "agree")) (dCons (dCall m__law_fraction (dCons (dIx (dVar 7) (dC (.int 0))) (dCons (dVar 5) dNil))) (dCons (dCall m__law_fraction (dCons (dIx (dVar 7) (dOp oSub (dCB oLen (dCons (dVar 7) dNil)) (dC (.int 1)))) (dCons (dVar 5) dNil))) dNil)))) (dCons (dTup (dCons (dC (.str "agree")) (dCons (dIx (dVar 11) (dC (.int 1))) dNil))) (dCons (dC .non) (dCons (dOp oAdd (dVar 11) (dTup (dCons (dC (.int 1)) dNil))) dNil))))))) (dCallC m__law_take (dCons (dVar 0) (dCons (dC (.int 5)) dNil)))) (gdN 12))
  (dsRet (dCall m__law_said (dCons (dCall m_judge_agree (dCons (dVar 6) (dCons (dVar 4) (dCons (dVar 12) dNil)))) (dCons (dOp oEq (dVar 12) (dVar 11)) dNil)))))))))))))))))
def m__law_agree_right : D → List D → Option (D × D) := runC 1 17 b__law_agree_right
/-- law; slots: 0 script, 1 c -/
def b_law : DS :=
  (dsCell 1 (dCallN m__law_start (dCons (dVar 0) dNil))
  (dsRet (dSel [m__law_near_right, m__law_drift_right, m__law_week_right, m__law_agree_right] (dCallC m__law_take (dCons (dVar 1) (dCons (dC (.int 4)) dNil))) (dCons (dVar 1) dNil))))
def m_law : List D → Option D := runF 1 2 b_law
end K62

set_option autoImplicit true
set_option relaxedAutoImplicit true
set_option Elab.async false
set_option linter.all false
set_option maxRecDepth 100000
set_option maxHeartbeats 4000000
/-! WP: what a function over deep data ends in; rules for simp. Nl holds simp off what follows. Printed by mkwp.py -/
namespace DL
open PySem L2
inductive Nl {α : Sort u} (a : α) : Type where
  | mk

@[irreducible] def wE (f : DE) (S : List Sl) (cs : Option D) (Q : R → Option D → Prop) (_ : Nl Q) : Prop := match f S cs with
  | some (r, c) => Q r c
  | none => False
@[irreducible] def wT (f : DT) (S : List Sl) (cs : Option D) (Q : Bool → Option D → Prop) (_ : Nl Q) : Prop := match f S cs with
  | some (r, c) => Q r c
  | none => False
@[irreducible] def wA (f : DA) (S : List Sl) (cs : Option D) (Q : List R → Option D → Prop) (_ : Nl Q) : Prop := match f S cs with
  | some (r, c) => Q r c
  | none => False
@[irreducible] def wF (f : DF) (S : List Sl) (cs : Option D) (Q : List D → Option D → Prop) (_ : Nl Q) : Prop := match f S cs with
  | some (r, c) => Q r c
  | none => False
@[irreducible] def wO (f : DO) (S : List Sl) (cs : Option D) (Q : Option Int → Option D → Prop) (_ : Nl Q) : Prop := match f S cs with
  | some (r, c) => Q r c
  | none => False
@[irreducible] def wS (f : DS) (S : List Sl) (cs : Option D) (Q : Fl → List Sl → Option D → Prop) (_ : Nl Q) : Prop := match f S cs with
  | some (r, S', c) => Q r S' c
  | none => False
@[irreducible] def wG (g : DG) (d : D) (S : List Sl) (Q : List Sl → Prop) (_ : Nl Q) : Prop := match g d S with
  | some S' => Q S'
  | none => False
@[irreducible] def wGs (g : List D → List Sl → Option (List Sl)) (ds : List D) (S : List Sl) (Q : List Sl → Prop) (_ : Nl Q) : Prop := match g ds S with
  | some S' => Q S'
  | none => False
@[irreducible] def bD {α : Type} (o : Option α) (k : α → Prop) (_ : Nl k) : Prop := match o with
  | some z => k z
  | none => False
@[simp ↓] theorem bD_some {α : Type} {z : α} {k t} : bD (some z) k t = k z := by unfold bD; rfl
@[simp ↓] theorem bD_none {α : Type} {k : α → Prop} {t} : bD none k t = False := by unfold bD; rfl
def iP (p x : Prop) (_ : Nl x) : Prop := p ∧ x
@[simp] theorem iP_t {a t} : iP True a t = a := by simp [iP]
theorem iP_of {p a : Prop} {t} (hp : p) (h : a) : iP p a t := ⟨hp, h⟩
def iB (b : Bool) (x y : Prop) (_ : Nl x) (_ : Nl y) : Prop := match b with
  | true => x
  | false => y
@[simp ↓] theorem iB_t {a b t u} : iB true a b t u = a := (rfl)
@[simp ↓] theorem iB_f {a b t u} : iB false a b t u = b := (rfl)
@[simp] theorem iB_d {p : Prop} [h : Decidable p] {a b t u} : iB (decide p) a b t u = ((p → a) ∧ (¬ p → b)) := by
  unfold iB; cases h <;> simp_all
@[simp] theorem iB_n {p : Bool} {a b t u} : iB (!p) a b t u = iB p b a u t := by cases p <;> rfl
def atS : List Sl → Nat → (k : Sl → Prop) → Nl k → Prop
  | [], _, _, _ => False
  | s :: _, 0, k, _ => k s
  | _ :: r, i + 1, k, t => atS r i k t
@[simp ↓] theorem atS_z {s r k t} : atS (s :: r) 0 k t = k s := by rw [atS]
@[simp ↓] theorem atS_s {s r i k t} : atS (s :: r) (i + 1) k t = atS r i k t := by rw [atS]
theorem atS_get {S : List Sl} {i k t} : atS S i k t ↔ ∃ s, S[i]? = some s ∧ k s := by
  induction S generalizing i with
  | nil => simp [atS]
  | cons a r ih => cases i <;> simp [ih, atS]

def onC (x : R) (k : D → Prop) (_ : Nl k) : Prop := match x with
  | .c d => k d
  | _ => False
def onInt (x : D) (k : Int → Prop) (_ : Nl k) : Prop := match x with
  | .int i => k i
  | _ => False
def onBl (x : D) (k : Bool → Prop) (_ : Nl k) : Prop := match x with
  | .bl i => k i
  | _ => False
def onOwn (x : Sl) (k : List D → Prop) (_ : Nl k) : Prop := match x with
  | .own d => k d
  | _ => False
def onK (x : List R) (k : List R → Prop) (_ : Nl k) : Prop := match x with
  | .k :: r => k r
  | _ => False
def onNon (x : D) (k : Prop) (_ : Nl k) : Prop := match x with
  | .non => k
  | _ => False
def onLst (x : D) (k : List D → Prop) (_ : Nl k) : Prop := match x with
  | .lst d => k d
  | _ => False
def isCst (x : Sl) (k : Prop) (_ : Nl k) : Prop := match x with
  | .cst => k
  | _ => False
def onObj (C : Nat) (d : D) (k : List Str → List D → Prop) (_ : Nl k) : Prop := match d with
  | .obj C' ns ds => if C' = C then k ns ds else False
  | _ => False
def notCst (s : Sl) (k : Prop) (_ : Nl k) : Prop := match s with
  | .cst => False
  | _ => k
def onFl (fl : Fl) (a : Prop) (b : Prop) (_ : Nl a) (_ : Nl b) : Prop := match fl with
  | .nx => a
  | _ => b
def onSl (s : Sl) (v : D → Prop) (o : List D → Prop) (k : Prop) (_ : Nl v) (_ : Nl o) (_ : Nl k) : Prop := match s with
  | .val d => v d
  | .own ds => o ds
  | .cst => k
  | .no => False
def onR (r : R) (k : D → Prop) (o : Nat → Prop) (_ : Nl k) (_ : Nl o) : Prop := match r with
  | .c d => k d
  | .o i => o i
  | .k => False
@[simp ↓] theorem onC_c {d k t} : onC (.c d) k t = k d := (rfl)
@[simp ↓] theorem onC_o {i k t} : onC (.o i) k t = False := (rfl)
@[simp ↓] theorem onC_k {k t} : onC .k k t = False := (rfl)
@[simp ↓] theorem onInt_i {i k t} : onInt (.int i) k t = k i := (rfl)
@[simp ↓] theorem onBl_i {i k t} : onBl (.bl i) k t = k i := (rfl)
@[simp ↓] theorem onOwn_o {d k t} : onOwn (.own d) k t = k d := (rfl)
@[simp ↓] theorem onK_k {r k t} : onK (.k :: r) k t = k r := (rfl)
@[simp ↓] theorem onNon_n {k t} : onNon .non k t = k := (rfl)
@[simp ↓] theorem onLst_l {ds k t} : onLst (.lst ds) k t = k ds := (rfl)
@[simp ↓] theorem isCst_c {k t} : isCst .cst k t = k := (rfl)
@[simp ↓] theorem onObj_o {C ns ds k t} : onObj C (.obj C ns ds) k t = k ns ds := by simp [onObj]
@[simp ↓] theorem notCst_v {d k t} : notCst (.val d) k t = k := (rfl)
@[simp ↓] theorem notCst_o {d k t} : notCst (.own d) k t = k := (rfl)
@[simp ↓] theorem notCst_n {k t} : notCst .no k t = k := (rfl)
@[simp ↓] theorem onFl_nx {a b t u} : onFl .nx a b t u = a := (rfl)
@[simp ↓] theorem onFl_bk {a b t u} : onFl .bk a b t u = b := (rfl)
@[simp ↓] theorem onFl_ct {a b t u} : onFl .ct a b t u = b := (rfl)
@[simp ↓] theorem onFl_rt {d a b t u} : onFl (.rt d) a b t u = b := (rfl)
@[simp ↓] theorem onFl_rf {d a b t u} : onFl (.rf d) a b t u = b := (rfl)
@[simp ↓] theorem onSl_v {d v o k t u w} : onSl (.val d) v o k t u w = v d := (rfl)
@[simp ↓] theorem onSl_o {d v o k t u w} : onSl (.own d) v o k t u w = o d := (rfl)
@[simp ↓] theorem onSl_c {v o k t u w} : onSl .cst v o k t u w = k := (rfl)
@[simp ↓] theorem onSl_n {v o k t u w} : onSl .no v o k t u w = False := (rfl)
@[simp ↓] theorem onR_c {d k o t u} : onR (.c d) k o t u = k d := (rfl)
@[simp ↓] theorem onR_o {i k o t u} : onR (.o i) k o t u = o i := (rfl)
def outD (fl : Fl) (k : Fl → Prop) : Prop := match fl with
  | .rt d => k (.rt d)
  | .rf ds => k (.rf ds)
  | _ => False
@[simp] theorem outD_rt {d k} : outD (.rt d) k = k (.rt d) := (rfl)
@[simp] theorem outD_rf {d k} : outD (.rf d) k = k (.rf d) := (rfl)
def lisD : D → Option (List D)
  | .lst ds => some ds
  | .scr ns => some (ns.map D.int)
  | _ => none
def seqD : D → Option (List D)
  | .lst ds => some ds
  | .tup ds => some ds
  | .str x => some (strD x)
  | _ => none
def int1 : List R → Option Int
  | [.c (.int j)] => some j
  | _ => none
def int2 : List R → Option (Int × Int)
  | [.c (.int i), .c (.int j)] => some (i, j)
  | _ => none
def int3 : List R → Option (Int × Int × Int)
  | [.c (.int i), .c (.int j), .c (.int k)] => some (i, j, k)
  | _ => none
def lst2 : List R → Option (List D × List D)
  | [.c (.lst i), .c (.lst j)] => some (i, j)
  | _ => none
def seq1 : List R → Option (List D)
  | [.c (.lst i)] => some i
  | [.c (.tup i)] => some i
  | _ => none
def two : List R → Option (D × D)
  | [.c i, .c j] => some (i, j)
  | _ => none
@[simp] theorem lisD_l {ds} : lisD (.lst ds) = some ds := (rfl)
@[simp] theorem lisD_s {ns} : lisD (.scr ns) = some (ns.map D.int) := (rfl)
@[simp] theorem seqD_l {ds} : seqD (.lst ds) = some ds := (rfl)
@[simp] theorem seqD_t {ds} : seqD (.tup ds) = some ds := (rfl)
@[simp] theorem int1_i {j} : int1 [.c (.int j)] = some j := (rfl)
@[simp] theorem int2_i {i j} : int2 [.c (.int i), .c (.int j)] = some (i, j) := (rfl)
@[simp] theorem int3_i {i j k} : int3 [.c (.int i), .c (.int j), .c (.int k)] = some (i, j, k) := (rfl)
@[simp] theorem lst2_i {i j} : lst2 [.c (.lst i), .c (.lst j)] = some (i, j) := (rfl)
@[simp] theorem seq1_l {i} : seq1 [.c (.lst i)] = some i := (rfl)
@[simp] theorem seq1_t {i} : seq1 [.c (.tup i)] = some i := (rfl)
@[simp] theorem two_i {i j} : two [.c i, .c j] = some (i, j) := (rfl)
@[simp] theorem cleans_nil : cleans [] = some [] := (rfl)
@[simp] theorem cleans_cons {d rs} : cleans (.c d :: rs) = (cleans rs).map (d :: ·) := by
  rw [cleans]
  cases cleans rs <;> rfl
@[simp] theorem rds_nil {S cs} : rds S cs [] = some [] := (rfl)
@[simp] theorem rds_cons {S cs r rs} : rds S cs (r :: rs) = (match rd S cs r with
  | some d => (rds S cs rs).map (d :: ·)
  | none => none) := by
  simp only [rds]
  rcases rd S cs r with _ | d
  · rfl
  · cases rds S cs rs <;> rfl
@[simp] theorem rd_c {S cs d} : rd S cs (.c d) = some d := (rfl)
@[simp] theorem rd_k {S cs} : rd S cs .k = cs := (rfl)
theorem rd_o {S : List Sl} {cs i} : rd S cs (.o i) = (match S[i]? with
  | some (.own ds) => some (.lst ds)
  | _ => none) := (rfl)
@[simp] theorem itemsD_l {ds} : itemsD (.lst ds) = some ds := (rfl)
@[simp] theorem itemsD_t {ds} : itemsD (.tup ds) = some ds := (rfl)
@[simp] theorem oInt_i {C g i j} : oInt C g (.int i) (.int j) = if C i j = true then some (g i j) else none := (rfl)
@[simp] theorem oAdd_i {i j} : oAdd (.int i) (.int j) = some (.int (i + j)) := (rfl)
theorem oMul_i {i j : Int} (h : -(2 ^ 64) < j ∧ j < 2 ^ 64) : oMul (.int i) (.int j) = some (.int (i * j)) := by
  have : bMul i j = true := by unfold bMul; simp only [Bool.or_eq_true, decide_eq_true_eq]; exact .inr h
  unfold oMul orD
  simp only [oInt_i, this, if_true]
theorem oMul_i' {i j : Int} (h : -(2 ^ 64) < i ∧ i < 2 ^ 64) : oMul (.int i) (.int j) = some (.int (i * j)) := by
  have : bMul i j = true := by unfold bMul; simp only [Bool.or_eq_true, decide_eq_true_eq]; exact .inl h
  unfold oMul orD
  simp only [oInt_i, this, if_true]
@[simp] theorem oLen_l {ds} : oLen [.lst ds] = some (.int ds.length) := (rfl)
@[simp] theorem oLen_t {ds} : oLen [.tup ds] = some (.int ds.length) := (rfl)
@[simp] theorem oTuple_l {ds} : oTuple [.lst ds] = some (.tup ds) := (rfl)
@[simp] theorem isNonD_n : isNonD .non = true := (rfl)
@[simp] theorem isNonD_i {i} : isNonD (.int i) = false := (rfl)
@[simp] theorem isNonD_t {i} : isNonD (.tup i) = false := (rfl)
@[simp] theorem oIsN_n {x} : oIsN x .non = some (.bl (isNonD x)) := (rfl)
@[simp] theorem oNotN_n {x} : oNotN x .non = some (.bl (!isNonD x)) := (rfl)
@[simp] theorem truD_bl {b} : truD (.bl b) = some b := (rfl)
@[simp] theorem truD_lst {ds} : truD (.lst ds) = some !ds.isEmpty := (rfl)
theorem ixD_l {ds : List D} {i : Nat} {d : D} (h : ds[i]? = some d) : ixD (.lst ds) (.int i) = some d := atI_nat h
theorem ixD_t {ds : List D} {i : Nat} {d : D} (h : ds[i]? = some d) : ixD (.tup ds) (.int i) = some d := atI_nat h
variable {S : List Sl} {cs : Option D}

@[simp ↓] theorem w_var {i : Nat} {Q t} : wE (dVar i) S cs Q t ↔ (atS S i (fun s => (onSl s (fun d => Q (.c d) cs) (fun _ => Q (.o i) cs) (Q .k cs) .mk .mk .mk)) .mk) := by
  rw [atS_get]
  unfold wE dVar onSl
  rcases S[i]? with _ | s
  · simp
  · cases s <;> simp
@[simp ↓] theorem w_c {d : D} {Q t} : wE (dC d) S cs Q t ↔ Q (.c d) cs := by unfold wE; exact Iff.rfl
@[simp ↓] theorem w_op {op f g Q t} : wE (dOp op f g) S cs Q t ↔ (wE f S cs (fun r c1 => (onC r (fun x => (wE g S c1 (fun r c2 => (onC r (fun y => (bD (op x y) (fun z => Q (.c z) c2) .mk)) .mk)) .mk)) .mk)) .mk) := by
  unfold wE dOp
  rcases f S cs with _ | ⟨r, c1⟩
  · simp
  · cases r with
    | c d =>
      simp only [onC]
      try unfold wE
      rcases g S c1 with _ | ⟨r, c2⟩
      · simp
      · cases r with
        | c y => simp only [onC]; rcases op d y with _ | z <;> simp [bD]
        | _ => simp [onC]
    | _ => simp [onC]
@[simp ↓] theorem w_neg {f Q t} : wE (dNeg f) S cs Q t ↔ (wE f S cs (fun r c1 => (onC r (fun d => (onInt d (fun i => Q (.c (.int (-i))) c1) .mk)) .mk)) .mk) := by
  unfold wE dNeg onC onInt; grind
@[simp ↓] theorem w_ifE {c f g Q t} : wE (dIf c f g) S cs Q t ↔ (wT c S cs (fun b c1 => (iB b (wE f S c1 Q .mk) (wE g S c1 Q .mk) .mk .mk)) .mk) := by
  unfold wE wT dIf iB; grind
@[simp ↓] theorem w_tup {f Q t} : wE (dTup f) S cs Q t ↔ (wA f S cs (fun rs c1 => (bD (cleans rs) (fun ds => (iP (ds.length ≤ sizeLine) (Q (.c (.tup ds)) c1) .mk)) .mk)) .mk) := by
  unfold wE wA dTup bD iP; grind
@[simp ↓] theorem w_lst {f Q t} : wF (dLst f) S cs Q t ↔ (wA f S cs (fun rs c1 => (bD (cleans rs) (fun ds => (iP (ds.length ≤ sizeLine) (Q ds c1) .mk)) .mk)) .mk) := by
  unfold wF wA dLst bD iP; grind
@[simp ↓] theorem w_fz {f Q t} : wE (dFz f) S cs Q t ↔ (wF f S cs (fun ds c1 => Q (.c (.lst ds)) c1) .mk) := by
  unfold wE wF dFz; grind
@[simp ↓] theorem w_nilA {Q t} : wA dNil S cs Q t ↔ Q [] cs := by unfold wA; exact Iff.rfl
@[simp ↓] theorem w_consA {f g Q t} : wA (dCons f g) S cs Q t ↔ (wE f S cs (fun r c1 => (wA g S c1 (fun rs c2 => Q (r :: rs) c2) .mk)) .mk) := by
  unfold wE wA dCons; grind
@[simp ↓] theorem w_ix {f g Q t} : wE (dIx f g) S cs Q t ↔ (wE f S cs (fun r c1 => (wE g S c1 (fun r2 c2 => (onC r2 (fun y => (bD (rd S c2 r) (fun x => (bD (ixD x y) (fun z => Q (.c z) c2) .mk)) .mk)) .mk)) .mk)) .mk) := by
  unfold wE dIx
  rcases f S cs with _ | ⟨r, c1⟩
  · simp
  · dsimp only
    try unfold wE
    rcases g S c1 with _ | ⟨r2, c2⟩
    · simp
    · cases r2 with
      | c y =>
        simp only [onC]
        rcases rd S c2 r with _ | x
        · simp [bD]
        · simp only [bD]
          rcases ixD x y with _ | z <;> simp
      | _ => simp [onC]
@[simp ↓] theorem w_cb {op f Q t} : wE (dCB op f) S cs Q t ↔ (wA f S cs (fun rs c1 => (bD (rds S c1 rs) (fun xs => (bD (op xs) (fun z => Q (.c z) c1) .mk)) .mk)) .mk) := by
  unfold wE wA dCB bD; grind
@[simp ↓] theorem w_cbF {op f Q t} : wF (dCBF op f) S cs Q t ↔ (wA f S cs (fun rs c1 => (bD (rds S c1 rs) (fun xs => (bD (op xs) (fun z => Q z c1) .mk)) .mk)) .mk) := by
  unfold wF wA dCBF bD; grind
@[simp ↓] theorem w_call {m f Q t} : wE (dCall m f) S cs Q t ↔ (wA f S cs (fun rs c1 => (bD (cleans rs) (fun ds => (bD (m ds) (fun z => Q (.c z) c1) .mk)) .mk)) .mk) := by
  unfold wE wA dCall bD; grind
@[simp ↓] theorem w_callC {m f Q t} : wE (dCallC m f) S cs Q t ↔ (wA f S cs (fun rs c1 => (onK rs (fun rs2 => (bD (c1) (fun c => (bD (cleans rs2) (fun ds => (bD (m c ds) (fun z => Q (.c z.1) (some z.2)) .mk)) .mk)) .mk)) .mk)) .mk) := by
  unfold wE wA dCallC
  rcases f S cs with _ | ⟨rs, c1⟩
  · simp
  · rcases rs with _ | ⟨r, rs⟩
    · simp [onK]
    · cases r with
      | k =>
        rcases c1 with _ | c
        · simp [onK, bD]
        · simp only [onK, bD]
          rcases cleans rs with _ | ds
          · simp
          · dsimp only
            rcases h : m c ds with _ | z <;> simp [bD, h]
      | _ => simp [onK]
@[simp ↓] theorem w_callN {m f Q t} : wF (dCallN m f) S cs Q t ↔ (wA f S cs (fun rs c1 => (bD (cleans rs) (fun ds => (bD (m ds) (fun z => Q z c1) .mk)) .mk)) .mk) := by
  unfold wF wA dCallN bD; grind
@[simp ↓] theorem w_fld {C fl f Q t} : wE (dFld C fl f) S cs Q t ↔ (wE f S cs (fun r c1 => (bD (rd S c1 r) (fun d => (onObj C d (fun ns ds => (bD (fldD ns ds fl) (fun z => Q (.c z) c1) .mk)) .mk)) .mk)) .mk) := by
  unfold wE dFld bD onObj; grind
@[simp ↓] theorem w_isi {T f Q t} : wE (dIsi T f) S cs Q t ↔ (wE f S cs (fun r c1 => (bD (rd S c1 r) (fun d => (bD (isiD d T) (fun b => Q (.c (.bl b)) c1) .mk)) .mk)) .mk) := by
  unfold wE dIsi bD; grind
@[simp ↓] theorem w_meth {C mn m fo f Q t} : wE (dMeth C mn m fo f) S cs Q t ↔ (wE fo S cs (fun r c1 => (onC r (fun o => (onObj C o (fun ns ds => (iP (mn ∉ ns) ((wA f S c1 (fun rs c2 => (bD (cleans rs) (fun xs => (bD (m (.obj C ns ds :: xs)) (fun z => Q (.c z) c2) .mk)) .mk)) .mk)) .mk)) .mk)) .mk)) .mk) := by
  unfold wE dMeth
  rcases fo S cs with _ | ⟨r, c1⟩
  · simp
  · cases r with
    | c d =>
      simp only [onC]
      cases d with
      | obj C2 ns ds =>
        simp only [onObj, iP]
        by_cases hC : C2 = C
        · subst hC
          by_cases hn : mn ∈ ns
          · simp [hn]
          · simp only [hn, not_false_eq_true, and_self, if_true, true_and]
            try unfold wA
            rcases f S c1 with _ | ⟨rs, c2⟩
            · simp
            · dsimp only
              rcases cleans rs with _ | xs
              · simp [bD]
              · simp only [bD]
                rcases m (.obj C2 ns ds :: xs) with _ | z <;> simp
        · simp [hC]
      | _ => simp [onObj]
    | _ => simp [onC]
@[simp ↓] theorem w_make {C m f Q t} : wE (dMake C m f) S cs Q t ↔ (wA f S cs (fun rs c1 => (bD (cleans rs) (fun ds => (bD (m (.obj C [] []) ds) (fun z => (onNon (z.1) ((onObj C (z.2) (fun ns es => Q (.c (.obj C ns es)) c1) .mk)) .mk)) .mk)) .mk)) .mk) := by
  unfold wE wA dMake
  rcases f S cs with _ | ⟨rs, c1⟩
  · simp
  · dsimp only
    rcases cleans rs with _ | ds
    · simp [bD]
    · simp only [bD]
      rcases m (.obj C [] []) ds with _ | ⟨a, b⟩
      · simp [bD]
      · simp only [bD]
        cases a with
        | non =>
          cases b with
          | obj C2 ns es => simp only [onNon, onObj]; by_cases h : C2 = C <;> simp [h]
          | _ => simp [onNon, onObj]
        | _ => simp [onNon]
@[simp ↓] theorem w_andV {f g Q t} : wE (dAndV f g) S cs Q t ↔ (wE f S cs (fun r c1 => (onC r (fun d => (bD (truD d) (fun b => (iB b (wE g S c1 Q .mk) (Q r c1) .mk .mk)) .mk)) .mk)) .mk) := by
  unfold wE dAndV bD onC iB; grind
@[simp ↓] theorem w_orV {f g Q t} : wE (dOrV f g) S cs Q t ↔ (wE f S cs (fun r c1 => (onC r (fun d => (bD (truD d) (fun b => (iB b (Q r c1) (wE g S c1 Q .mk) .mk .mk)) .mk)) .mk)) .mk) := by
  unfold wE dOrV bD onC iB; grind
@[simp ↓] theorem w_notV {f Q t} : wE (dNotV f) S cs Q t ↔ (wE f S cs (fun r c1 => (bD (rd S c1 r) (fun d => (bD (truD d) (fun b => Q (.c (.bl !b)) c1) .mk)) .mk)) .mk) := by
  unfold wE dNotV bD; grind
@[simp ↓] theorem w_tru {f Q t} : wT (dTru f) S cs Q t ↔ (wE f S cs (fun r c1 => (bD (rd S c1 r) (fun d => (bD (truD d) (fun b => Q b c1) .mk)) .mk)) .mk) := by
  unfold wE wT dTru bD; grind
@[simp ↓] theorem w_tst {f Q t} : wT (dTst f) S cs Q t ↔ (wE f S cs (fun r c1 => (onC r (fun d => (onBl d (fun b => Q b c1) .mk)) .mk)) .mk) := by
  unfold wE wT dTst onC onBl; grind
@[simp ↓] theorem w_and {f g Q t} : wT (dAnd f g) S cs Q t ↔ (wT f S cs (fun b c1 => (iB b (wT g S c1 Q .mk) (Q false c1) .mk .mk)) .mk) := by
  unfold wT dAnd iB; grind
@[simp ↓] theorem w_or {f g Q t} : wT (dOr f g) S cs Q t ↔ (wT f S cs (fun b c1 => (iB b (Q true c1) (wT g S c1 Q .mk) .mk .mk)) .mk) := by
  unfold wT dOr iB; grind
@[simp ↓] theorem w_not {f Q t} : wT (dNot f) S cs Q t ↔ (wT f S cs (fun b c1 => Q (!b) c1) .mk) := by
  unfold wT dNot; grind
@[simp ↓] theorem w_yes {Q t} : wT (dYes) S cs Q t ↔ Q true cs := by unfold wT; exact Iff.rfl
@[simp ↓] theorem w_nopart {Q t} : wO dNoPart S cs Q t ↔ Q none cs := by unfold wO; exact Iff.rfl
@[simp ↓] theorem w_part {f Q t} : wO (dPart f) S cs Q t ↔ (wE f S cs (fun r c1 => (onC r (fun d => (onInt d (fun i => Q (some i) c1) .mk)) .mk)) .mk) := by
  unfold wO wE dPart onC onInt; grind
@[simp ↓] theorem w_slF {f lo hi Q t} : wF (dSlF f lo hi) S cs Q t ↔ (wE f S cs (fun r c1 => (wO lo S c1 (fun a c2 => (wO hi S c2 (fun b c3 => (bD (rd S c3 r) (fun x => (bD (lisD x) (fun ds => Q (cutD ds a b) c3) .mk)) .mk)) .mk)) .mk)) .mk) := by
  unfold wF wE dSlF
  rcases f S cs with _ | ⟨r, c1⟩
  · simp
  · dsimp only
    try unfold wO
    rcases lo S c1 with _ | ⟨a, c2⟩
    · simp
    · dsimp only
      try unfold wO
      rcases hi S c2 with _ | ⟨b, c3⟩
      · simp
      · dsimp only
        rcases rd S c3 r with _ | x
        · simp [bD]
        · cases x <;> simp [bD, lisD]
@[simp ↓] theorem w_gN {i d Q t} : wG (gdN i) d S Q t ↔ (atS S i (fun s => notCst s (Q (S.set i (.val d))) .mk) .mk) := by
  rw [atS_get]
  unfold wG gdN notCst
  rcases S[i]? with _ | s
  · simp
  · cases s <;> simp
@[simp ↓] theorem w_gT {n g d Q t} : wG (gdT n g) d S Q t ↔ (bD (itemsD d) (fun ds => (iP (ds.length = n) (wGs g ds S Q .mk) .mk)) .mk) := by
  unfold wG wGs gdT bD iP; grind
@[simp ↓] theorem w_gnil {Q t} : wGs gdNil [] S Q t ↔ Q S := by unfold wGs; exact Iff.rfl
@[simp ↓] theorem w_gcons {f g d r Q t} : wGs (gdCons f g) (d :: r) S Q t ↔ (wG f d S (fun S1 => wGs g r S1 Q .mk) .mk) := by
  unfold wG wGs gdCons; grind
@[simp ↓] theorem w_iseq {f Q t} : wF (diSeq f) S cs Q t ↔ (wE f S cs (fun r c1 => (onC r (fun d => (bD (seqD d) (fun ds => Q ds c1) .mk)) .mk)) .mk) := by
  unfold wF wE diSeq onC bD seqD; grind
@[simp ↓] theorem w_rng1 {f Q t} : wF (diRng1 f) S cs Q t ↔ (wA f S cs (fun rs c1 => (bD (int1 rs) (fun j => (iP (-(2 ^ 62) ≤ j ∧ j < 2 ^ 62) (Q (rngD 0 j.toNat) c1) .mk)) .mk)) .mk) := by
  unfold wF wA diRng1 bD iP int1; grind
@[simp ↓] theorem w_rng2 {f Q t} : wF (diRng2 f) S cs Q t ↔ (wA f S cs (fun rs c1 => (bD (int2 rs) (fun z => (iP (-(2 ^ 62) ≤ z.1 ∧ z.1 < 2 ^ 62 ∧ -(2 ^ 62) ≤ z.2 ∧ z.2 < 2 ^ 62) (Q (rngD z.1 (z.2 - z.1).toNat) c1) .mk)) .mk)) .mk) := by
  unfold wF wA diRng2 bD iP int2; grind
@[simp ↓] theorem w_rng3 {f Q t} : wF (diRng3 f) S cs Q t ↔ (wA f S cs (fun rs c1 => (bD (int3 rs) (fun z => (iP (z.2.2 ≠ 0 ∧ z.2.2.natAbs < 1073741824 ∧ Builtin.Range.small z.1 z.2.1 z.2.2 = true ∧ 0 ≤ Builtin.Range.rangeSize z.1 z.2.1 z.2.2) (Q (rngC z.1 z.2.2 (Builtin.Range.rangeSize z.1 z.2.1 z.2.2).toNat) c1) .mk)) .mk)) .mk) := by
  unfold wF wA diRng3 bD iP int3; grind
@[simp ↓] theorem w_zip {f Q t} : wF (diZip f) S cs Q t ↔ (wA f S cs (fun rs c1 => (bD (lst2 rs) (fun z => Q (zipD z.1 z.2) c1) .mk)) .mk) := by
  unfold wF wA diZip bD lst2; grind
@[simp ↓] theorem w_enum {f Q t} : wF (diEnum f) S cs Q t ↔ (wA f S cs (fun rs c1 => (bD (seq1 rs) (fun xs => Q (enumD 0 xs) c1) .mk)) .mk) := by
  unfold wF wA diEnum bD seq1; grind
@[simp ↓] theorem w_lc {src g tt f vs Q t} : wF (dLc src g tt f vs) S cs Q t ↔ (iP (noOwn S vs = true) ((wF src S cs (fun ds c1 => (iP (ds.length < sizeLine) ((bD (lcL g tt f ds (wipeD S vs) c1) (fun z => Q z.1 z.2) .mk)) .mk)) .mk)) .mk) := by
  unfold wF dLc bD iP; grind
@[simp ↓] theorem w_idx {f g Q t} : wE (dIdx f g) S cs Q t ↔ (wE f S cs (fun r c1 => (onC r (fun d => (onLst d (fun ds => (wE g S c1 (fun r2 c2 => (onC r2 (fun y => (bD (toVs ds) (fun vs => (bD (toV y) (fun v => (bD (idxV v vs) (fun j => Q (.c (.int (j : Int))) c2) .mk)) .mk)) .mk)) .mk)) .mk)) .mk)) .mk)) .mk) := by
  unfold wE dIdx
  rcases f S cs with _ | ⟨r, c1⟩
  · simp
  · cases r with
    | c d =>
      cases d with
      | lst ds =>
        simp only [onC, onLst]
        try unfold wE
        rcases g S c1 with _ | ⟨r2, c2⟩
        · simp
        · cases r2 with
          | c y =>
            simp only [onC]
            rcases toVs ds with _ | vs
            · simp [bD]
            · simp only [bD]
              rcases toV y with _ | v
              · simp
              · dsimp only
                rcases h : idxV v vs with _ | j <;> simp [bD, h]
          | _ => simp [onC]
      | _ => simp [onC, onLst]
    | _ => simp [onC]
@[simp ↓] theorem w_seq {f g Q t} : wS (dsSeq f g) S cs Q t ↔ (wS f S cs (fun fl S1 c1 => onFl fl (wS g S1 c1 Q .mk) (Q fl S1 c1) .mk .mk) .mk) := by
  unfold wS dsSeq onFl
  rcases f S cs with _ | ⟨fl, S1, c1⟩
  · simp
  · cases fl <;> simp
@[simp ↓] theorem w_nil {Q t} : wS (dsNil) S cs Q t ↔ Q .nx S cs := by unfold wS; exact Iff.rfl
@[simp ↓] theorem w_brk {Q t} : wS (dsBreak) S cs Q t ↔ Q .bk S cs := by unfold wS; exact Iff.rfl
@[simp ↓] theorem w_if {c f g Q t} : wS (dsIf c f g) S cs Q t ↔ (wT c S cs (fun b c1 => (iB b (wS f S c1 Q .mk) (wS g S c1 Q .mk) .mk .mk)) .mk) := by
  unfold wS wT dsIf iB; grind
@[simp ↓] theorem w_asg {f g Q t} : wS (dsAsg f g) S cs Q t ↔ (wE f S cs (fun r c1 => (onC r (fun d => (wG g d S (fun S1 => Q .nx S1 c1) .mk)) .mk)) .mk) := by
  unfold wS wE wG dsAsg onC; grind
@[simp ↓] theorem w_own {i f Q t} : wS (dsOwn i f) S cs Q t ↔ (wF f S cs (fun ds c1 => (atS S i (fun s => notCst s (Q .nx (S.set i (.own ds)) c1) .mk) .mk)) .mk) := by
  unfold wS wF dsOwn
  rcases f S cs with _ | ⟨ds, c1⟩
  · simp
  · simp only [atS_get, notCst]
    rcases S[i]? with _ | s
    · simp
    · cases s <;> simp
@[simp ↓] theorem w_par {i j f Q t} : wS (dsPar i j f) S cs Q t ↔ (wA f S cs (fun rs c1 => (bD (two rs) (fun z => (wG (gdN i) z.1 S (fun S1 => (wG (gdN j) z.2 S1 (fun S2 => Q .nx S2 c1) .mk)) .mk)) .mk)) .mk) := by
  unfold wS wA wG dsPar bD two; grind
@[simp ↓] theorem w_aug {i op f Q t} : wS (dsAug i op f) S cs Q t ↔ (atS S i (fun s => onSl s (fun d => (onInt d (fun x => (wE f S cs (fun r c1 => (onC r (fun e => (onInt e (fun y => Q .nx (S.set i (.val (.int (op x y)))) c1) .mk)) .mk)) .mk)) .mk)) (fun _ => False) False .mk .mk .mk) .mk) := by
  rw [atS_get]
  unfold wS wE dsAug onSl onInt onC
  rcases S[i]? with _ | s
  · simp
  · cases s with
    | val d =>
      cases d with
      | int x =>
        rcases f S cs with _ | ⟨r, c1⟩
        · simp
        · cases r with
          | c d => cases d <;> simp
          | _ => simp
      | _ => simp
    | _ => simp
@[simp ↓] theorem w_app {i f Q t} : wS (dsApp i f) S cs Q t ↔ (wE f S cs (fun r c1 => (onC r (fun d => (atS S i (fun s => (onOwn s (fun ds => (iP (ds.length < sizeLine) (Q .nx (S.set i (.own (ds ++ [d]))) c1) .mk)) .mk)) .mk)) .mk)) .mk) := by
  unfold wS wE dsApp
  rcases f S cs with _ | ⟨r, c1⟩
  · simp
  · simp only [atS_get, onOwn, onC, iP]
    cases r with
    | c d =>
      rcases S[i]? with _ | s
      · simp
      · cases s with
        | own ds => by_cases h : ds.length < sizeLine <;> simp [h]
        | _ => simp
    | _ => simp
@[simp ↓] theorem w_ret {f Q t} : wS (dsRet f) S cs Q t ↔ (wE f S cs (fun r c1 => onR r (fun d => Q (.rt d) [] c1) (fun i => (atS S i (fun s => (onOwn s (fun ds => Q (.rf ds) [] c1) .mk)) .mk)) .mk .mk) .mk) := by
  unfold wS wE dsRet
  rcases f S cs with _ | ⟨r, c1⟩
  · simp
  · simp only [atS_get, onOwn, onR]
    cases r with
    | o i =>
      dsimp only
      rcases S[i]? with _ | s
      · simp
      · cases s <;> simp
    | _ => simp
@[simp ↓] theorem w_retF {f Q t} : wS (dsRetF f) S cs Q t ↔ (wF f S cs (fun ds c1 => Q (.rf ds) [] c1) .mk) := by
  unfold wS wF dsRetF; grind
@[simp ↓] theorem w_never {Q t} : wS (dsNever) S cs Q t ↔ False := by unfold wS; exact Iff.rfl
@[simp ↓] theorem w_for {src g b Q t} : wS (dsFor src g b) S cs Q t ↔ (wF src S cs (fun ds c1 => wS (forL g b ds) S c1 Q .mk) .mk) := by
  unfold wS wF dsFor; grind
@[simp ↓] theorem w_fldS {C fl j f Q t} : wS (dsFld C fl j f) S cs Q t ↔ (wE f S cs (fun r c1 => (onC r (fun d => (bD (c1) (fun c => (onObj C c (fun ns ds => (atS S j (fun s => (isCst s ((iP (ns.length < 1000) (Q .nx S (some (.obj C (putL fl d ns ds).1 (putL fl d ns ds).2))) .mk)) .mk)) .mk)) .mk)) .mk)) .mk)) .mk) := by
  unfold wS wE dsFld
  rcases f S cs with _ | ⟨r, c1⟩
  · simp
  · cases r with
    | c d =>
      rcases c1 with _ | c
      · simp [onC, bD]
      · cases c with
        | obj C2 ns ds =>
          simp only [onC, bD, onObj, atS_get]
          rcases S[j]? with _ | s
          · simp
          · cases s with
            | cst => by_cases h : C2 = C <;> by_cases h2 : ns.length < 1000 <;> simp [h, h2, isCst, iP]
            | _ => simp [isCst]
        | _ => simp [onC, bD, onObj]
    | _ => simp [onC]
@[simp ↓] theorem w_set {j fi fe Q t} : wS (dsSet j fi fe) S cs Q t ↔ (wE fe S cs (fun r c1 => (onC r (fun d => (wE fi S c1 (fun r2 c2 => (onC r2 (fun e => (onInt e (fun k => (atS S j (fun s => onSl s (fun _ => False) (fun ds => (bD (ixN ds.length k) (fun n => Q .nx (S.set j (.own (ds.set n d))) c2) .mk)) ((bD (c2) (fun c => (onLst c (fun ds => (bD (ixN ds.length k) (fun n => Q .nx S (some (.lst (ds.set n d)))) .mk)) .mk)) .mk)) .mk .mk .mk) .mk)) .mk)) .mk)) .mk)) .mk)) .mk) := by
  unfold wS wE dsSet
  rcases fe S cs with _ | ⟨r, c1⟩
  · simp
  · cases r with
    | c d =>
      simp only [onC]
      try unfold wE
      rcases fi S c1 with _ | ⟨r, c2⟩
      · simp
      · cases r with
        | c y =>
          cases y with
          | int k =>
            simp only [onC, onInt, atS_get]
            rcases S[j]? with _ | s
            · simp
            · cases s with
              | own ds => simp only [onSl]; rcases h : ixN ds.length k with _ | n <;> simp [h, bD, onSl]
              | cst =>
                rcases c2 with _ | c
                · simp [bD, onSl]
                · cases c with
                  | lst ds => rcases h : ixN ds.length k with _ | n <;> simp [h, bD, onLst, onSl]
                  | _ => simp [bD, onLst, onSl]
              | _ => simp [onSl]
          | _ => simp [onC, onInt]
        | _ => simp [onC]
    | _ => simp [onC]
@[simp ↓] theorem w_cell {i f g Q t} : wS (dsCell i f g) S none Q t ↔ (wF f S none (fun ds c1 => c1 = none ∧ (atS S i (fun s => notCst s ((wS g (S.set i .cst) (some (.lst ds)) (fun fl S2 c2 => outD fl fun fl1 => Q fl1 [] none) .mk)) .mk) .mk)) .mk) := by
  unfold wS wF dsCell
  rcases f S none with _ | ⟨ds, c1⟩
  · simp
  · rcases c1 with _ | c
    · simp only [atS_get, true_and]
      rcases S[i]? with _ | s
      · simp
      · cases s with
        | cst => simp [notCst]
        | _ =>
          simp only [notCst]
          try unfold wS
          rcases g (S.set i .cst) (some (.lst ds)) with _ | ⟨fl, S2, c2⟩
          · simp
          · cases fl <;> simp [outD]
    · simp
@[simp ↓] theorem w_chain {op op2 f g h Q t} : wE (dChain op op2 f g h) S cs Q t ↔ (wE f S cs (fun r c1 => (onC r (fun x => (wE g S c1 (fun r2 c2 => (onC r2 (fun y => (bD (op x y) (fun z => (onBl z (fun b => (iB b ((wE h S c2 (fun r3 c3 => (onC r3 (fun w => (bD (op2 y w) (fun z2 => Q (.c z2) c3) .mk)) .mk)) .mk)) (Q (.c (.bl false)) c2) .mk .mk)) .mk)) .mk)) .mk)) .mk)) .mk)) .mk) := by
  unfold wE dChain
  rcases f S cs with _ | ⟨r, c1⟩
  · simp
  · cases r with
    | c x =>
      simp only [onC]
      try unfold wE
      rcases g S c1 with _ | ⟨r2, c2⟩
      · simp
      · cases r2 with
        | c y =>
          simp only [onC]
          rcases op x y with _ | z
          · simp [bD]
          · simp only [bD]
            cases z with
            | bl b =>
              cases b with
              | false => simp [onBl, iB]
              | true =>
                simp only [onBl, iB]
                try unfold wE
                rcases h S c2 with _ | ⟨r3, c3⟩
                · simp
                · cases r3 with
                  | c w => simp only [onC]; rcases op2 y w with _ | z2 <;> simp [bD]
                  | _ => simp [onC]
            | _ => simp [onBl]
        | _ => simp [onC]
    | _ => simp [onC]
@[simp ↓] theorem w_sl {f lo hi Q t} : wE (dSl f lo hi) S cs Q t ↔ (wE f S cs (fun r c1 => (wO lo S c1 (fun a c2 => (wO hi S c2 (fun b c3 => (bD (rd S c3 r) (fun x => (bD (slD x a b) (fun z => Q (.c z) c3) .mk)) .mk)) .mk)) .mk)) .mk) := by
  unfold wE dSl
  rcases f S cs with _ | ⟨r, c1⟩
  · simp
  · dsimp only
    try unfold wO
    rcases lo S c1 with _ | ⟨a, c2⟩
    · simp
    · dsimp only
      try unfold wO
      rcases hi S c2 with _ | ⟨b, c3⟩
      · simp
      · dsimp only
        rcases rd S c3 r with _ | x
        · simp [bD]
        · simp only [bD]
          rcases slD x a b with _ | z <;> simp [bD]
@[simp ↓] theorem w_idxD {f g Q t} : wE (dIdxD f g) S cs Q t ↔ (wE f S cs (fun r c1 => (bD (rd S c1 r) (fun d0 => (onLst d0 (fun _ => (wE g S c1 (fun r2 c2 => (onC r2 (fun y => (bD (rd S c2 r) (fun d => (onLst d (fun ds => (iP (okD (.lst ds) = true ∧ okD y = true) ((bD (idxD y ds) (fun j => Q (.c (.int (j : Int))) c2) .mk)) .mk)) .mk)) .mk)) .mk)) .mk)) .mk)) .mk)) .mk) := by
  unfold wE dIdxD
  rcases f S cs with _ | ⟨r, c1⟩
  · simp
  · dsimp only
    rcases rd S c1 r with _ | d0
    · simp [bD]
    · cases d0 with
      | lst ds0 =>
        simp only [bD, onLst]
        try unfold wE
        rcases g S c1 with _ | ⟨r2, c2⟩
        · simp
        · cases r2 with
          | c y =>
            simp only [onC]
            rcases rd S c2 r with _ | d
            · simp
            · cases d with
              | lst ds =>
                simp only [onLst, iP]
                by_cases hk : okD (.lst ds) = true ∧ okD y = true
                · simp only [hk, and_self, if_true, true_and]
                  rcases h : idxD y ds with _ | j <;> simp [h, hk]
                · simp [hk]
              | _ => simp [onLst]
          | _ => simp [onC]
      | _ => simp [bD, onLst]
@[simp ↓] theorem w_sortSet {f Q t} : wF (dSortSet f) S cs Q t ↔ (wE f S cs (fun r c1 => (bD (rd S c1 r) (fun d => (onLst d (fun ds => (bD (intsD ds) (fun ns => (iP (ns.length < 64) (Q ((setI ns).map D.int) c1) .mk)) .mk)) .mk)) .mk)) .mk) := by
  unfold wF wE dSortSet
  rcases f S cs with _ | ⟨r, c1⟩
  · simp
  · dsimp only
    rcases rd S c1 r with _ | d
    · simp [bD]
    · cases d with
      | lst ds =>
        simp only [bD, onLst]
        rcases intsD ds with _ | ns
        · simp
        · simp only [iP]
          by_cases h : ns.length < 64 <;> simp [h]
      | _ => simp [bD, onLst]
@[simp ↓] theorem w_lc2 {src g tt src1 g1 tt1 f vs vs1 Q t} : wF (dLc2 src g tt src1 g1 tt1 f vs vs1) S cs Q t ↔ (iP (noOwn S vs = true) ((wF src S cs (fun ds c1 => (bD (lcO g tt (lcIn src1 g1 tt1 f vs1) ds (wipeD S vs) c1) (fun z => (iP (z.1.length ≤ sizeLine) (Q z.1 z.2) .mk)) .mk)) .mk)) .mk) := by
  unfold wF dLc2 iP
  rcases noOwn S vs with _ | _
  · simp
  · simp only [true_and]
    try unfold wF
    rcases src S cs with _ | ⟨ds, c1⟩
    · simp
    · dsimp only
      rcases lcO g tt (lcIn src1 g1 tt1 f vs1) ds (wipeD S vs) c1 with _ | ⟨ys, c2⟩
      · simp [bD]
      · simp only [bD, iP]
        by_cases h : ys.length ≤ sizeLine <;> simp [h]
@[simp ↓] theorem w_freeze {i f Q t} : wS (dsFreeze i f) S cs Q t ↔ (atS S i (fun s => (onOwn s (fun ds => wS f (S.set i (.val (.lst ds))) cs Q .mk) .mk)) .mk) := by
  rw [atS_get]
  unfold wS dsFreeze onOwn
  rcases S[i]? with _ | s
  · simp
  · cases s <;> simp
@[simp ↓] theorem w_parO {i j f g Q t} : wS (dsParO i j f g) S cs Q t ↔ (wF f S cs (fun ds c1 => (wE g S c1 (fun r c2 => (onC r (fun y => (atS S i (fun s => (notCst s ((wG (gdN j) y (S.set i (.own ds)) (fun S2 => Q .nx S2 c2) .mk)) .mk)) .mk)) .mk)) .mk)) .mk) := by
  unfold wS wF dsParO
  rcases f S cs with _ | ⟨ds, c1⟩
  · simp
  · dsimp only
    try unfold wE
    rcases g S c1 with _ | ⟨r, c2⟩
    · simp
    · cases r with
      | c y =>
        simp only [onC, atS_get, notCst, wG]
        rcases S[i]? with _ | s
        · simp
        · cases s <;> (simp; try (rcases gdN j y (S.set i (.own ds)) with _ | S2 <;> simp))
      | _ => simp [onC]
@[simp ↓] theorem w_cont {Q t} : wS (dsCont) S cs Q t ↔ Q .ct S cs := by unfold wS; exact Iff.rfl
@[simp ↓] theorem w_retN {Q t} : wS (dsRetN) S cs Q t ↔ Q (.rt .non) [] cs := by unfold wS; exact Iff.rfl
@[simp ↓] theorem w_drop {f Q t} : wS (dsDrop f) S cs Q t ↔ (wE f S cs (fun r c1 => Q .nx S c1) .mk) := by
  unfold wS wE dsDrop; grind
@[simp ↓] theorem w_selC {ms fi f Q t} : wE (dSel ms fi f) S cs Q t ↔ (wE fi S cs (fun r c1 => (onC r (fun d => (onInt d (fun k => (bD (ixN ms.length k) (fun j => (bD (ms[j]?) (fun m => wE (dCallC m f) S c1 Q .mk) .mk)) .mk)) .mk)) .mk)) .mk) := by
  unfold wE dSel
  rcases fi S cs with _ | ⟨r, c1⟩
  · simp
  · cases r with
    | c d =>
      cases d with
      | int k =>
        simp only [onC, onInt]
        rcases h : ixN ms.length k with _ | j
        · simp [bD]
        · simp only [bD]
          rcases h2 : ms[j]? with _ | m
          · simp
          · simp [bD]
      | _ => simp [onC, onInt]
    | _ => simp [onC]
-- what is, and what is asked
theorem wE_ex {f : DE} {Q} : wE f S cs Q .mk ↔ ∃ r c, f S cs = some (r, c) ∧ Q r c := by unfold wE; grind
theorem wT_ex {f : DT} {Q} : wT f S cs Q .mk ↔ ∃ r c, f S cs = some (r, c) ∧ Q r c := by unfold wT; grind
theorem wA_ex {f : DA} {Q} : wA f S cs Q .mk ↔ ∃ r c, f S cs = some (r, c) ∧ Q r c := by unfold wA; grind
theorem wF_ex {f : DF} {Q} : wF f S cs Q .mk ↔ ∃ r c, f S cs = some (r, c) ∧ Q r c := by unfold wF; grind
theorem wS_ex {f : DS} {Q} : wS f S cs Q .mk ↔ ∃ r S' c, f S cs = some (r, S', c) ∧ Q r S' c := by unfold wS; grind
theorem wG_ex {g : DG} {d Q} : wG g d S Q .mk ↔ ∃ S', g d S = some S' ∧ Q S' := by unfold wG; grind
theorem wS_mono {f : DS} {Q Q' : Fl → List Sl → Option D → Prop} (h : wS f S cs Q .mk) (q : ∀ fl S' c, Q fl S' c → Q' fl S' c) : wS f S cs Q' .mk := by
  rw [wS_ex] at h ⊢
  obtain ⟨a, b, c, e, z⟩ := h
  exact ⟨a, b, c, e, q _ _ _ z⟩
theorem wE_mono {f : DE} {Q Q' : R → Option D → Prop} (h : wE f S cs Q .mk) (q : ∀ r c, Q r c → Q' r c) : wE f S cs Q' .mk := by
  rw [wE_ex] at h ⊢
  obtain ⟨b, c, e, z⟩ := h
  exact ⟨b, c, e, q _ _ z⟩
theorem wF_mono {f : DF} {Q Q' : List D → Option D → Prop} (h : wF f S cs Q .mk) (q : ∀ r c, Q r c → Q' r c) : wF f S cs Q' .mk := by
  rw [wF_ex] at h ⊢
  obtain ⟨b, c, e, z⟩ := h
  exact ⟨b, c, e, q _ _ z⟩
/-- what a def gives -/
def flD : Fl → Option D
  | .rt d => some d
  | .rf ds => some (.lst ds)
  | .nx => some .non
  | _ => none
theorem of_runF {np n : Nat} {b : DS} {ds : List D} {d : D} (hl : ds.length = np) (h : wS b (ds.map Sl.val ++ List.replicate (n - np) Sl.no) none (fun fl _ _ => flD fl = some d) .mk) : runF np n b ds = some d := by
  rw [wS_ex] at h
  obtain ⟨fl, S', c, e, q⟩ := h
  unfold runF
  rw [if_pos hl, e]
  cases fl with
  | nx => exact q
  | rt d => exact q
  | rf ds => exact q
  | bk => cases q
  | ct => cases q
theorem of_runN {np n : Nat} {b : DS} {ds zs : List D} (hl : ds.length = np) (h : wS b (ds.map Sl.val ++ List.replicate (n - np) Sl.no) none (fun fl _ _ => fl = .rf zs) .mk) : runN np n b ds = some zs := by
  rw [wS_ex] at h
  obtain ⟨fl, S', c, e, q⟩ := h
  unfold runN
  rw [if_pos hl, e, q]
theorem of_runC {np n : Nat} {b : DS} {ds : List D} {c c' d : D} (hl : ds.length + 1 = np) (h : wS b (.cst :: (ds.map Sl.val ++ List.replicate (n - np) Sl.no)) (some c) (fun fl _ c1 => flD fl = some d ∧ c1 = some c') .mk) : runC np n b c ds = some (d, c') := by
  rw [wS_ex] at h
  obtain ⟨fl, S', c1, e, q, q'⟩ := h
  subst q'
  unfold runC
  rw [if_pos hl, e]
  cases fl with
  | nx => cases q; rfl
  | rt d => cases q; rfl
  | rf ds => cases q; rfl
  | bk => cases q
  | ct => cases q
-- loops over a list
def onLp (fl : Fl) (a b c : Prop) (_ : Nl a) (_ : Nl b) (_ : Nl c) : Prop := match fl with
  | .nx => a
  | .ct => a
  | .bk => b
  | _ => c
@[simp ↓] theorem onLp_nx {a b c t u w} : onLp .nx a b c t u w = a := (rfl)
@[simp ↓] theorem onLp_ct {a b c t u w} : onLp .ct a b c t u w = a := (rfl)
@[simp ↓] theorem onLp_bk {a b c t u w} : onLp .bk a b c t u w = b := (rfl)
@[simp ↓] theorem onLp_rt {d a b c t u w} : onLp (.rt d) a b c t u w = c := (rfl)
@[simp ↓] theorem onLp_rf {d a b c t u w} : onLp (.rf d) a b c t u w = c := (rfl)
/-- no way out before the end -/
theorem for_all {g : DG} {b : DS} (P : Nat → List Sl → Option D → Prop) {Q : Fl → List Sl → Option D → Prop} :
    ∀ (ds : List D) (k : Nat) {S : List Sl} {cs : Option D}, P k S cs →
      (∀ i d S cs, ds[i]? = some d → P (k + i) S cs → wG g d S (fun S1 => wS b S1 cs (fun fl S2 c2 => onLp fl (P (k + i + 1) S2 c2) (Q .nx S2 c2) (Q fl S2 c2) .mk .mk .mk) .mk) .mk) →
      (∀ S cs, P (k + ds.length) S cs → Q .nx S cs) → wS (forL g b ds) S cs Q .mk
  | [], k, S, cs, h, _, e => wS_ex.mpr ⟨_, _, _, rfl, e _ _ h⟩
  | d :: r, k, S, cs, h, st, e => by
    obtain ⟨S1, e1, q⟩ := wG_ex.mp (st 0 d S cs rfl h)
    obtain ⟨fl, S2, c2, e2, q⟩ := wS_ex.mp q
    have go : P (k + 1) S2 c2 → wS (forL g b r) S2 c2 Q .mk := fun h' => for_all P r (k + 1) h' (fun i d S cs ed hp => by
      have := st (i + 1) d S cs (by simpa using ed) (by rw [show k + (i + 1) = k + 1 + i by omega]; exact hp)
      rw [show k + (i + 1) + 1 = k + 1 + i + 1 by omega] at this
      exact this) (fun S cs hp => e S cs (by rw [show k + (d :: r).length = k + 1 + r.length by simp; omega]; exact hp))
    rw [wS_ex]
    unfold forL
    cases fl with
    | nx => obtain ⟨a, b', c, e3, q3⟩ := wS_ex.mp (go q); exact ⟨a, b', c, by simp [e1, e2, e3], q3⟩
    | ct => obtain ⟨a, b', c, e3, q3⟩ := wS_ex.mp (go q); exact ⟨a, b', c, by simp [e1, e2, e3], q3⟩
    | bk => exact ⟨_, _, _, by simp [e1, e2], q⟩
    | rt d => exact ⟨_, _, _, by simp [e1, e2], q⟩
    | rf ds => exact ⟨_, _, _, by simp [e1, e2], q⟩
theorem while_all {t : DT} {b : DS} (P : Nat → List Sl → Option D → Prop) {Q : Fl → List Sl → Option D → Prop} :
    ∀ (n : Nat) {S : List Sl} {cs : Option D}, P n S cs →
      (∀ m S cs, P m S cs → 0 < m ∧ wT t S cs (fun k c1 => iB k (wS b S c1 (fun fl S2 c2 => onLp fl (P (m - 1) S2 c2) (Q .nx S2 c2) (Q fl S2 c2) .mk .mk .mk) .mk) (Q .nx S c1) .mk .mk) .mk) → wS (whileL t b n) S cs Q .mk
  | 0, S, cs, h, st => absurd (st 0 S cs h).1 (Nat.lt_irrefl 0)
  | n + 1, S, cs, h, st => by
    obtain ⟨_, z⟩ := st (n + 1) S cs h
    obtain ⟨k, c1, e1, q1⟩ := wT_ex.mp z
    rw [wS_ex]
    unfold whileL
    cases k with
    | false => exact ⟨_, _, _, by simp [e1], q1⟩
    | true =>
      obtain ⟨fl, S2, c2, e2, q⟩ := wS_ex.mp q1
      cases fl with
      | nx => obtain ⟨a, b', c, e3, q3⟩ := wS_ex.mp (while_all P n q st); exact ⟨a, b', c, by simp [e1, e2, e3], q3⟩
      | ct => obtain ⟨a, b', c, e3, q3⟩ := wS_ex.mp (while_all P n q st); exact ⟨a, b', c, by simp [e1, e2, e3], q3⟩
      | bk => exact ⟨_, _, _, by simp [e1, e2], q⟩
      | rt d => exact ⟨_, _, _, by simp [e1, e2], q⟩
      | rf ds => exact ⟨_, _, _, by simp [e1, e2], q⟩
-- comprehensions
/-- each thing gives one thing, the cell stands -/
theorem lc_map {g : DG} {f : DE} (φ : Nat → D) (P : List Sl → Prop) : ∀ (ds : List D) (k : Nat) {S : List Sl} {cs : Option D},
    (∀ i d, ds[i]? = some d → ∃ S1, g d S = some S1 ∧ f S1 cs = some (.c (φ (k + i)), cs)) → lcL g dYes f ds S cs = some ((List.range ds.length).map fun i => φ (k + i), cs)
  | [], k, S, cs, _ => rfl
  | d :: r, k, S, cs, h => by
    obtain ⟨S1, e1, e2⟩ := h 0 d rfl
    have ih := lc_map (g := g) (f := f) φ P r (k + 1) (S := S) (cs := cs) fun i d' e => by
      obtain ⟨S2, e3, e4⟩ := h (i + 1) d' (by simpa using e)
      exact ⟨S2, e3, by rw [e4, show k + 1 + i = k + (i + 1) by omega]⟩
    unfold lcL
    simp [e1, dYes, e2, ih, List.range_succ_eq_map]
    intro i _
    rw [show k + 1 + i = k + (i + 1) by omega]
theorem rngD_get {lo : Int} {n i : Nat} {d : D} (h : (rngD lo n)[i]? = some d) : i < n ∧ d = .int (lo + (i : Int)) := by
  unfold rngD at h
  rw [List.getElem?_map] at h
  by_cases hi : i < n
  · rw [List.getElem?_range hi] at h
    cases h
    exact ⟨hi, rfl⟩
  · rw [List.getElem?_eq_none (by rw [List.length_range]; omega)] at h
    cases h
theorem rngD_len {lo : Int} {n : Nat} : (rngD lo n).length = n := by unfold rngD; rw [List.length_map, List.length_range]
theorem for_rng {g : DG} {b : DS} {S : List Sl} {cs : Option D} {lo : Int} {n : Nat} {Q : Fl → List Sl → Option D → Prop} (P : Nat → List Sl → Option D → Prop) (h0 : P 0 S cs)
    (st : ∀ i S cs, i < n → P i S cs → wG g (.int (lo + (i : Int))) S (fun S1 => wS b S1 cs (fun fl S2 c2 => onLp fl (P (i + 1) S2 c2) (Q .nx S2 c2) (Q fl S2 c2) .mk .mk .mk) .mk) .mk)
    (e : ∀ S cs, P n S cs → Q .nx S cs) : wS (forL g b (rngD lo n)) S cs Q .mk :=
  for_all P (rngD lo n) 0 h0 (fun i d S cs ed hp => by
    obtain ⟨hi, rfl⟩ := rngD_get ed
    rw [Nat.zero_add] at hp ⊢
    exact st i S cs hi hp) fun S cs hp => e S cs (by rw [rngD_len, Nat.zero_add] at hp; exact hp)
theorem lc_all {g : DG} {f : DE} {S : List Sl} {cs : Option D} {ds : List D} (φ : Nat → D)
    (h : ∀ i d, ds[i]? = some d → wG g d S (fun S1 => wE f S1 cs (fun r c => r = .c (φ i) ∧ c = cs) .mk) .mk) : lcL g dYes f ds S cs = some ((List.range ds.length).map φ, cs) := by
  have := lc_map (g := g) (f := f) φ (fun _ => True) ds 0 (S := S) (cs := cs) fun i d e => by
    obtain ⟨S1, e1, q⟩ := wG_ex.mp (h i d e)
    obtain ⟨r, c, e2, rfl, rfl⟩ := wE_ex.mp q
    exact ⟨S1, e1, by rw [Nat.zero_add]; exact e2⟩
  simpa using this
theorem lc_rng {g : DG} {f : DE} {S : List Sl} {cs : Option D} {lo : Int} {n : Nat} (φ : Nat → D)
    (h : ∀ i, i < n → wG g (.int (lo + (i : Int))) S (fun S1 => wE f S1 cs (fun r c => r = .c (φ i) ∧ c = cs) .mk) .mk) : lcL g dYes f (rngD lo n) S cs = some ((List.range n).map φ, cs) := by
  rw [lc_all (g := g) φ fun i d e => ?_, rngD_len]
  obtain ⟨hi, rfl⟩ := rngD_get e
  exact h i hi
theorem notCst_of {s : Sl} {k : Prop} {t} (h : s ≠ .cst) : notCst s k t = k := by cases s <;> first | rfl | exact absurd rfl h
theorem bls_map {n : Nat} {φ : Nat → Bool} : blsD ((List.range n).map fun i => D.bl (φ i)) = some ((List.range n).map φ) := by
  generalize List.range n = l
  induction l with
  | nil => rfl
  | cons a r ih => simp [blsD, ih]
theorem ints_map {α : Type} {l : List α} {φ : α → Int} : intsD (l.map fun i => D.int (φ i)) = some (l.map φ) := by
  induction l with
  | nil => rfl
  | cons a r ih => simp [intsD, ih]
theorem intsD_ints {l : List Int} : intsD (l.map D.int) = some l := by
  induction l with
  | nil => rfl
  | cons a r ih => simp [intsD, ih]
theorem oAll_map {n : Nat} {φ : Nat → Bool} : oAll [.lst ((List.range n).map fun i => D.bl (φ i))] = some (.bl ((List.range n).all φ)) := by
  simp [oAll, bls_map]
theorem oAny_map {n : Nat} {φ : Nat → Bool} : oAny [.lst ((List.range n).map fun i => D.bl (φ i))] = some (.bl ((List.range n).any φ)) := by
  simp [oAny, bls_map]
theorem okD_i {i : Int} : okD (.int i) = true := by
  simp [okD, plain, toPy, SeqAt.shaped, PyData.canLay0, PyData.depth]
theorem eqD_i {i j : Int} : eqD (.int i) (.int j) = decide (i = j) := by
  simp [eqD, toPy, PyData.eqv]
  rfl
@[simp] theorem oEq_i {i j : Int} : oEq (.int i) (.int j) = some (.bl (decide (i = j))) := by
  simp [oEq, okD_i, eqD_i]
@[simp] theorem oNe_i {i j : Int} : oNe (.int i) (.int j) = some (.bl (!decide (i = j))) := by
  simp [oNe, okD_i, eqD_i]
theorem iP_dis {p x : Prop} {t} (h : p) : iP p x t = x := by simp [iP, h]
theorem sizeLine_v : sizeLine = 16777216 := (rfl)
theorem ixD_l' {ds : List D} {i : Int} {d : D} (h0 : 0 ≤ i) (h : ds[i.toNat]? = some d) : ixD (.lst ds) (.int i) = some d := by
  have := ixD_l h
  rwa [show ((i.toNat : Nat) : Int) = i by omega] at this
theorem ixD_t' {ds : List D} {i : Int} {d : D} (h0 : 0 ≤ i) (h : ds[i.toNat]? = some d) : ixD (.tup ds) (.int i) = some d := ixD_l' h0 h
def okSl : Sl → Bool
  | .own _ => false
  | .cst => false
  | _ => true
def okOwn : List Sl → Nat → Bool
  | s :: _, 0 => okSl s
  | _ :: r, i + 1 => okOwn r i
  | [], _ => true
@[simp] theorem okSl_n : okSl .no = true := (rfl)
@[simp] theorem okSl_v {d} : okSl (.val d) = true := (rfl)
@[simp] theorem okOwn_z {s r} : okOwn (s :: r) 0 = okSl s := by rw [okOwn]
@[simp] theorem okOwn_s {s r i} : okOwn (s :: r) (i + 1) = okOwn r i := by rw [okOwn]
theorem okOwn_get (S : List Sl) (i : Nat) : okOwn S i = (match S[i]? with
  | some (.own _) => false
  | some .cst => false
  | _ => true) := by
  induction S generalizing i with
  | nil => simp [okOwn]
  | cons a r ih => cases i with
    | zero => cases a <;> simp [okSl]
    | succ i => simp [ih]
@[simp] theorem noOwn_nil {S} : noOwn S [] = true := (rfl)
@[simp] theorem noOwn_cons {S v vs} : noOwn S (v :: vs) = (okOwn S v && noOwn S vs) := by
  rw [okOwn_get]
  rfl
@[simp] theorem wipeD_nil {S} : wipeD S [] = S := (rfl)
@[simp] theorem wipeD_cons {S v vs} : wipeD S (v :: vs) = (wipeD S vs).set v .no := (rfl)
theorem iB_b {b : Bool} {x y : Prop} {t u} : iB b x y t u = ((b = true → x) ∧ (b = false → y)) := by cases b <;> simp [iB]
/-- an int of a list -/
def gI (vs : List Int) (k : Nat) : Int := vs.getD k 0
theorem gI_get {vs : List Int} {i : Nat} (h : i < vs.length) : (vs.map D.int)[i]? = some (.int (gI vs i)) := by
  simp [List.getElem?_eq_getElem h, List.getD, gI]
theorem gI_l {vs : List Int} {i : Int} (h0 : 0 ≤ i) (h : i < vs.length) : ixD (.lst (vs.map D.int)) (.int i) = some (.int (gI vs i.toNat)) := ixD_l' h0 (gI_get (by omega))
theorem gI_t {vs : List Int} {i : Int} (h0 : 0 ≤ i) (h : i < vs.length) : ixD (.tup (vs.map D.int)) (.int i) = some (.int (gI vs i.toNat)) := ixD_t' h0 (gI_get (by omega))
theorem allR {n : Nat} {φ : Nat → Bool} : ((List.range n).all φ = true) ↔ ∀ k, k < n → φ k = true := by
  simp [List.all_eq_true]
theorem anyR {n : Nat} {φ : Nat → Bool} : ((List.range n).any φ = true) ↔ ∃ k, k < n ∧ φ k = true := by
  simp [List.any_eq_true]
@[simp] theorem toNat_mod {a b : Nat} : ((a : Int) % (b : Int)).toNat = a % b := by
  rw [← Int.natCast_emod, Int.toNat_natCast]
@[simp] theorem toNat_div {a b : Nat} : ((a : Int) / (b : Int)).toNat = a / b := by
  rw [← Int.natCast_ediv, Int.toNat_natCast]
@[simp] theorem toNat_add {a b : Nat} : ((a : Int) + (b : Int)).toNat = a + b := by omega
theorem seq_mid {f g : DS} {S : List Sl} {cs : Option D} {Q : Fl → List Sl → Option D → Prop} (Mid : List Sl → Option D → Prop) (h : wS f S cs (fun fl S1 c1 => fl = .nx ∧ Mid S1 c1) .mk) (k : ∀ S1 c1, Mid S1 c1 → wS g S1 c1 Q .mk) : wS (dsSeq f g) S cs Q .mk := by
  rw [w_seq]
  refine wS_mono h ?_
  rintro fl S1 c1 ⟨rfl, m⟩
  simp
  exact k S1 c1 m
theorem of_runF_ex {np n : Nat} {b : DS} {ds : List D} (Φ : D → Prop) (hl : ds.length = np) (h : wS b (ds.map Sl.val ++ List.replicate (n - np) Sl.no) none (fun fl _ _ => ∃ d, flD fl = some d ∧ Φ d) .mk) : ∃ d, runF np n b ds = some d ∧ Φ d := by
  rw [wS_ex] at h
  obtain ⟨fl, S', c, e, d, q, w⟩ := h
  exact ⟨d, of_runF hl (wS_ex.mpr ⟨fl, S', c, e, q⟩), w⟩
theorem riD {n : Nat} {G : Nat → Int} : (List.range n).map (fun k => D.int (G k)) = ((List.range n).map G).map D.int := by simp [Function.comp_def]
theorem gI_r {n k : Nat} {G : Nat → Int} (h : k < n) : gI ((List.range n).map G) k = G k := by
  simp [gI, List.getD, List.getElem?_range h]
theorem cut_from {α : Type} {xs : List α} {k : Nat} : cutD xs (some (k : Int)) none = xs.drop k := by
  unfold cutD
  rw [HT.sIx_nat, HT.sIx_none]
  by_cases h : k ≤ xs.length
  · rw [Nat.min_eq_left h, List.take_of_length_le (by simp)]
  · rw [Nat.min_eq_right (by omega), List.drop_length, List.drop_eq_nil_of_le (by omega)]
    simp
theorem cut_to {α : Type} {xs : List α} {k : Nat} : cutD xs none (some (k : Int)) = xs.take k := by
  unfold cutD
  rw [HT.sIx_nat, HT.sIx_none, List.drop_zero, Nat.sub_zero]
  by_cases h : k ≤ xs.length
  · rw [Nat.min_eq_left h]
  · rw [Nat.min_eq_right (by omega), List.take_of_length_le (Nat.le_refl _), List.take_of_length_le (by omega)]
theorem zipD_inv : ∀ {xs ys : List D} {i : Nat} {d : D}, (zipD xs ys)[i]? = some d → ∃ x y, xs[i]? = some x ∧ ys[i]? = some y ∧ d = .tup [x, y]
  | [], _, _, _, h => by simp [zipD] at h
  | _ :: _, [], _, _, h => by simp [zipD] at h
  | x :: xs, y :: ys, 0, d, h => by simp [zipD] at h; exact ⟨x, y, rfl, rfl, h.symm⟩
  | x :: xs, y :: ys, i + 1, d, h => by
    obtain ⟨a, b, h1, h2, h3⟩ := zipD_inv (xs := xs) (ys := ys) (i := i) (d := d) (by simpa [zipD] using h)
    exact ⟨a, b, by simpa using h1, by simpa using h2, h3⟩
theorem map_inv {α : Type} {f : α → D} {xs : List α} {i : Nat} {d : D} (h : (xs.map f)[i]? = some d) : ∃ x, xs[i]? = some x ∧ d = f x := by
  rw [List.getElem?_map] at h
  cases e : xs[i]? with
  | none => rw [e] at h; cases h
  | some x => rw [e] at h; cases h; exact ⟨x, rfl, rfl⟩
theorem range_inv {n i k : Nat} (h : (List.range n)[i]? = some k) : i < n ∧ k = i := by
  have hi : i < n := by
    by_cases hi : i < n
    · exact hi
    · rw [List.getElem?_eq_none (by rw [List.length_range]; omega)] at h; cases h
  rw [List.getElem?_range hi] at h
  cases h
  exact ⟨hi, rfl⟩
theorem ints_inv {vs : List Int} {i : Nat} {d : D} (h : (vs.map D.int)[i]? = some d) : i < vs.length ∧ d = .int (gI vs i) := by
  obtain ⟨x, h1, rfl⟩ := map_inv h
  exact ⟨(List.getElem?_eq_some_iff.mp h1).1, by simp [gI, List.getD, h1]⟩
@[simp] theorem oMax_2 {i j : Int} : oMax [.int i, .int j] = some (.int (if j > i then j else i)) := (rfl)
@[simp] theorem oMin_2 {i j : Int} : oMin [.int i, .int j] = some (.int (if j < i then j else i)) := (rfl)
theorem oMax_l {vs : List Int} (h : vs ≠ []) : oMax [.lst (vs.map D.int)] = some (.int (maxI vs)) := by
  show orC oMax2 (orC oMaxL oMaxT) _ = _
  simp [orC, oMax2, oMaxL, intsD_ints, h]
theorem oMin_l {vs : List Int} (h : vs ≠ []) : oMin [.lst (vs.map D.int)] = some (.int (minI vs)) := by
  show orC oMin2 (orC oMinL oMinT) _ = _
  simp [orC, oMin2, oMinL, intsD_ints, h]
@[simp] theorem oMin_t2 {i j : Int} : oMin [.tup [.int i, .int j]] = some (.int (if j < i then j else i)) := (rfl)
@[simp] theorem oMax_t2 {i j : Int} : oMax [.tup [.int i, .int j]] = some (.int (if j > i then j else i)) := (rfl)
@[simp] theorem oSum_t2 {i j : Int} : oSum [.tup [.int i, .int j]] = some (.int (i + j)) := by
  show some (D.int (i + (j + 0))) = _
  rw [Int.add_zero]
theorem oAbs_n {n : Nat} : oAbs [.int n] = some (.int n) := by
  show some (D.int (if (n : Int) < 0 then -(n : Int) else n)) = _
  rw [if_neg (by omega)]
@[simp] theorem oToInt_i {i : Int} : oToInt [.int i] = some (.int i) := (rfl)
@[simp] theorem rd_oz {ds r cs} : rd (.own ds :: r) cs (.o 0) = some (.lst ds) := (rfl)
@[simp] theorem rd_os {s r cs i} : rd (s :: r) cs (.o (i + 1)) = rd r cs (.o i) := (rfl)
end DL

set_option autoImplicit true
set_option relaxedAutoImplicit true
set_option Elab.async false
set_option linter.all false
set_option maxRecDepth 100000
set_option maxHeartbeats 4000000
/-! WQ: data that may be compared; when two are equal; fractions. -/
namespace DL
open PySem L2
/-- may be compared, k deep -/
def Ok (k : Nat) (d : D) : Prop := DL.plain d = true ∧ (toPy d).canLay0 = true ∧ (toPy d).depth ≤ k
def Oks (k : Nat) (ds : List D) : Prop := plains ds = true ∧ PyData.canLayAll0 (toPys ds) = true ∧ PyData.depthAll (toPys ds) ≤ k
theorem Ok.okD {d : D} (h : Ok 64 d) : okD d = true := by
  obtain ⟨h1, h2, h3⟩ := h
  simp [DL.okD, SeqAt.shaped, h1, h2, h3]
theorem Ok.mono {k m : Nat} {d : D} (h : Ok k d) (hm : k ≤ m) : Ok m d := ⟨h.1, h.2.1, Nat.le_trans h.2.2 hm⟩
theorem Ok.int {k : Nat} {i : Int} : Ok k (.int i) := by simp [Ok, DL.plain, toPy, PyData.canLay0, PyData.depth]
theorem Ok.bl {k : Nat} {i : Bool} : Ok k (.bl i) := by simp [Ok, DL.plain, toPy, PyData.canLay0, PyData.depth]
theorem Ok.non {k : Nat} : Ok k .non := by simp [Ok, DL.plain, toPy, PyData.canLay0, PyData.depth]
theorem Ok.str {k : Nat} {s : Str} (h : PyData.strOk s = true) : Ok k (.str s) := by simp [Ok, DL.plain, toPy, PyData.canLay0, PyData.depth, h]
theorem Oks.nil {k : Nat} : Oks k [] := by simp [Oks, plains, toPys, PyData.canLayAll0, PyData.depthAll]
theorem Oks.cons {k : Nat} {d : D} {ds : List D} (h : Ok k d) (t : Oks k ds) : Oks k (d :: ds) := by
  obtain ⟨h1, h2, h3⟩ := h
  obtain ⟨t1, t2, t3⟩ := t
  simp [Oks, plains, toPys, PyData.canLayAll0, PyData.depthAll, h1, h2, h3, t1, t2, t3]
  omega
theorem Oks.of {k : Nat} : ∀ {ds : List D}, (∀ d ∈ ds, Ok k d) → Oks k ds
  | [], _ => Oks.nil
  | d :: ds, h => Oks.cons (h d List.mem_cons_self) (Oks.of fun x hx => h x (List.mem_cons_of_mem _ hx))
theorem Ok.tups {k : Nat} {ds : List D} (t : Oks k ds) : Ok (k + 1) (.tup ds) := by
  obtain ⟨t1, t2, t3⟩ := t
  simp [Ok, DL.plain, toPy, PyData.canLay0, PyData.depth, t1, t2, t3]
theorem Ok.lsts {k : Nat} {ds : List D} (t : Oks k ds) : Ok (k + 1) (.lst ds) := by
  obtain ⟨t1, t2, t3⟩ := t
  simp [Ok, DL.plain, toPy, PyData.canLay0, PyData.depth, t1, t2, t3]
theorem Ok.tup {k : Nat} {ds : List D} (h : ∀ d ∈ ds, Ok k d) : Ok (k + 1) (.tup ds) := Ok.tups (Oks.of h)
theorem Ok.lst {k : Nat} {ds : List D} (h : ∀ d ∈ ds, Ok k d) : Ok (k + 1) (.lst ds) := Ok.lsts (Oks.of h)
/-- no truth values, no instances -/
def nob : D → Bool
  | .bl _ => false
  | .obj _ _ _ => false
  | .scr _ => false
  | .tup ds => nobs ds
  | .lst ds => nobs ds
  | _ => true
where nobs : List D → Bool
  | [] => true
  | d :: ds => nob d && nobs ds
@[simp] theorem nob_bl {b} : nob (.bl b) = false := by simp [nob]
@[simp] theorem nob_int {b} : nob (.int b) = true := by simp [nob]
@[simp] theorem nob_str {b} : nob (.str b) = true := by simp [nob]
@[simp] theorem nob_non : nob .non = true := by simp [nob]
@[simp] theorem nob_tup {ds} : nob (.tup ds) = nob.nobs ds := by simp [nob]
@[simp] theorem nob_lst {ds} : nob (.lst ds) = nob.nobs ds := by simp [nob]
@[simp] theorem nobs_nil : nob.nobs [] = true := by simp [nob.nobs]
@[simp] theorem nobs_cons {d ds} : nob.nobs (d :: ds) = (nob d && nob.nobs ds) := by simp [nob.nobs]
theorem nobs_of : ∀ {ds : List D}, (∀ d ∈ ds, nob d = true) → nob.nobs ds = true
  | [], _ => by simp
  | d :: ds, h => by simp [h d List.mem_cons_self, nobs_of fun x hx => h x (List.mem_cons_of_mem _ hx)]
mutual
theorem eqv_iff : ∀ (x y : D), nob x = true → nob y = true → (PyData.eqv (toPy x) (toPy y) = true ↔ x = y)
  | .non, y, _, h => by cases y <;> simp_all [toPy, PyData.eqv, nob]
  | .bl b, y, h, _ => by simp at h
  | .int b, y, _, h => by cases y <;> simp_all [toPy, PyData.eqv, nob]
  | .str b, y, _, h => by cases y <;> simp_all [toPy, PyData.eqv, nob]
  | .tup xs, y, h1, h2 => by
    cases y with
    | tup ys =>
      have := eqvs_iff xs ys (by simpa using h1) (by simpa using h2)
      simp [toPy, PyData.eqv, this]
    | obj _ _ _ => simp [nob] at h2
    | scr _ => simp [nob] at h2
    | _ => simp [toPy, PyData.eqv]
  | .lst xs, y, h1, h2 => by
    cases y with
    | lst ys =>
      have := eqvs_iff xs ys (by simpa using h1) (by simpa using h2)
      simp [toPy, PyData.eqv, this]
    | obj _ _ _ => simp [nob] at h2
    | scr _ => simp [nob] at h2
    | _ => simp [toPy, PyData.eqv]
  | .obj _ _ _, y, h, _ => by simp [nob] at h
  | .scr _, y, h, _ => by simp [nob] at h
theorem eqvs_iff : ∀ (xs ys : List D), nob.nobs xs = true → nob.nobs ys = true → (PyData.eqvAll (toPys xs) (toPys ys) = true ↔ xs = ys)
  | [], [], _, _ => by simp [toPys, PyData.eqvAll]
  | [], y :: ys, _, _ => by simp [toPys, PyData.eqvAll]
  | x :: xs, [], _, _ => by simp [toPys, PyData.eqvAll]
  | x :: xs, y :: ys, h1, h2 => by
    simp at h1 h2
    have a := eqv_iff x y h1.1 h2.1
    have b := eqvs_iff xs ys h1.2 h2.2
    simp [toPys, PyData.eqvAll, a, b]
end
theorem eqD_iff {x y : D} (h1 : nob x = true) (h2 : nob y = true) : eqD x y = true ↔ x = y := eqv_iff x y h1 h2
theorem oEq_iff {x y : D} {b : Bool} (o1 : Ok 64 x) (o2 : Ok 64 y) (h1 : nob x = true) (h2 : nob y = true) (h : b = true ↔ x = y) : oEq x y = some (.bl b) := by
  have : eqD x y = b := by rw [Bool.eq_iff_iff, eqD_iff h1 h2, h]
  simp [oEq, o1.okD, o2.okD, this]
theorem oNe_iff {x y : D} {b : Bool} (o1 : Ok 64 x) (o2 : Ok 64 y) (h1 : nob x = true) (h2 : nob y = true) (h : b = true ↔ x ≠ y) : oNe x y = some (.bl b) := by
  have : eqD x y = !b := by
    rw [Bool.eq_iff_iff, eqD_iff h1 h2]
    cases b <;> simp_all
  simp [oNe, o1.okD, o2.okD, this]
mutual
theorem eqv_refl : ∀ x : D, DL.plain x = true → PyData.eqv (toPy x) (toPy x) = true
  | .non, _ => rfl
  | .bl b, _ => by simp [toPy, PyData.eqv]
  | .int b, _ => by simp [toPy, PyData.eqv]
  | .str b, _ => by simp [toPy, PyData.eqv]
  | .tup xs, h => by simp only [toPy, PyData.eqv]; exact eqvs_refl xs (by simpa [DL.plain] using h)
  | .lst xs, h => by simp only [toPy, PyData.eqv]; exact eqvs_refl xs (by simpa [DL.plain] using h)
  | .obj _ _ _, h => by simp [DL.plain] at h
  | .scr _, h => by simp [DL.plain] at h
theorem eqvs_refl : ∀ xs : List D, plains xs = true → PyData.eqvAll (toPys xs) (toPys xs) = true
  | [], _ => rfl
  | x :: xs, h => by
    simp [plains] at h
    simp only [toPys, PyData.eqvAll, eqv_refl x h.1, eqvs_refl xs h.2, Bool.and_self]
end
theorem ne_same {d : D} (h : Ok 64 d) : oNe d d = some (.bl false) := by simp [oNe, h.okD, eqD, eqv_refl d h.1]
theorem eq_same {d : D} (h : Ok 64 d) : oEq d d = some (.bl true) := by simp [oEq, h.okD, eqD, eqv_refl d h.1]
/-- membership -/
theorem oIn_iff {x y : D} {ds : List D} {b : Bool} (hy : itemsD y = some ds) (o1 : Ok 64 x) (o2 : Ok 64 (.lst ds)) (h1 : nob x = true) (h2 : nob.nobs ds = true) (h : b = true ↔ x ∈ ds) : oIn x y = some (.bl b) := by
  have : hasD ds x = b := by
    rw [Bool.eq_iff_iff, h]
    unfold hasD
    rw [List.any_eq_true]
    have hn : ∀ z ∈ ds, nob z = true := by
      clear h hy o2
      induction ds with
      | nil => intro z hz; cases hz
      | cons a r ih =>
        simp at h2
        intro z hz
        rcases List.mem_cons.mp hz with e | e
        · subst e; exact h2.1
        · exact ih h2.2 z e
    constructor
    · rintro ⟨z, hz, e⟩
      rw [eqD_iff (hn z hz) h1] at e
      exact e ▸ hz
    · intro hx
      exact ⟨x, hx, by rw [eqD_iff h1 h1]⟩
  simp [oIn, hy, o1.okD, o2.okD, this]
theorem oNi_of {x y : D} {b : Bool} (h : oIn x y = some (.bl b)) : oNi x y = some (.bl (!b)) := by
  unfold oIn at h
  unfold oNi
  cases e : itemsD y with
  | none => rw [e] at h; cases h
  | some ds =>
    rw [e] at h
    dsimp only at h ⊢
    split at h
    · rename_i hk
      rw [if_pos hk]
      cases h
      rfl
    · cases h
/-! ### short walks -/
theorem for_nil {g : DG} {b : DS} {S : List Sl} {cs : Option D} {Q : Fl → List Sl → Option D → Prop} : wS (forL g b []) S cs Q .mk ↔ Q .nx S cs := by
  unfold wS forL; exact Iff.rfl
theorem for_cons {g : DG} {b : DS} {d : D} {r : List D} {S : List Sl} {cs : Option D} {Q : Fl → List Sl → Option D → Prop} : wS (forL g b (d :: r)) S cs Q .mk ↔ wG g d S (fun S1 => wS b S1 cs (fun fl S2 c2 => onLp fl (wS (forL g b r) S2 c2 Q .mk) (Q .nx S2 c2) (Q fl S2 c2) .mk .mk .mk) .mk) .mk := by
  unfold wS wG
  conv => lhs; unfold forL
  rcases g d S with _ | S1
  · simp
  · dsimp only
    rcases b S1 cs with _ | ⟨fl, S2, c2⟩
    · simp
    · cases fl <;> simp [onLp] <;> rfl
/-! ### fractions -/
def qD (x : Rat) : D := .tup [.int x.num, .int x.den]
theorem qD_inj {x y : Rat} : qD x = qD y ↔ x = y := by
  constructor
  · intro h
    simp [qD] at h
    exact Rat.ext h.1 (by omega)
  · rintro rfl; rfl
theorem ok_q {k : Nat} {x : Rat} : Ok (k + 1) (qD x) := Ok.tup fun d hd => by
  simp at hd
  rcases hd with rfl | rfl <;> exact Ok.int
@[simp] theorem nob_q {x : Rat} : nob (qD x) = true := by simp [qD]
@[simp] theorem q_0 {x : Rat} : ixD (qD x) (.int 0) = some (.int x.num) := (rfl)
@[simp] theorem q_1 {x : Rat} : ixD (qD x) (.int 1) = some (.int x.den) := (rfl)
@[simp] theorem oEq_q {x y : Rat} : oEq (qD x) (qD y) = some (.bl (decide (x = y))) := oEq_iff ok_q ok_q nob_q nob_q (by simp [qD_inj])
@[simp] theorem oNe_q {x y : Rat} : oNe (qD x) (qD y) = some (.bl (decide (x ≠ y))) := oNe_iff ok_q ok_q nob_q nob_q (by simp [qD_inj])
@[simp] theorem oIsA_n {x} : oIsA x .non = some (.bl (isNonD x)) := (rfl)
@[simp] theorem oNotA_n {x} : oNotA x .non = some (.bl (!isNonD x)) := (rfl)
@[simp] theorem oIsA_b {a b} : oIsA (.bl a) (.bl b) = some (.bl (decide (a = b))) := (rfl)
@[simp] theorem oNotA_b {a b} : oNotA (.bl a) (.bl b) = some (.bl (!decide (a = b))) := (rfl)
@[simp] theorem isNonD_q {x} : isNonD (qD x) = false := (rfl)
@[simp] theorem slD_l {ds a b} : slD (.lst ds) a b = some (.lst (cutD ds a b)) := (rfl)
@[simp] theorem slD_t {ds a b} : slD (.tup ds) a b = some (.tup (cutD ds a b)) := (rfl)
@[simp] theorem slD_s {ns a b} : slD (.scr ns) a b = some (.lst (cutD (ns.map D.int) a b)) := (rfl)
@[simp] theorem oLtA_i {i j : Int} : oLtA (.int i) (.int j) = some (.bl (decide (i < j))) := (rfl)
end DL

set_option autoImplicit true
set_option relaxedAutoImplicit true
set_option Elab.async false
set_option linter.all false
set_option maxRecDepth 100000
set_option maxHeartbeats 4000000
/-! RA: the program's fractions are Rat -/
namespace K62
open PySem L2 DL
theorem fmod_nat {a b : Nat} : ((a : Int)).fmod b = ((a % b : Nat) : Int) := by
  rw [Int.fmod_eq_emod_of_nonneg _ (by omega)]; simp
theorem gcd_loop : ∀ (k a b fuel : Nat) {cs : Option D}, b < 2 ^ k → 2 * k + 1 ≤ fuel → ∀ {Q : Fl → List Sl → Option D → Prop}, (∀ z : Int, Q .nx [.val (.int (Nat.gcd a b : Nat)), .val (.int z)] cs) →
    wS (whileL (dTst (dOp oNe (dVar 1) (dC (.int 0)))) (dsPar 0 1 (dCons (dVar 1) (dCons (dOp oMod (dVar 0) (dVar 1)) dNil))) fuel) [.val (.int a), .val (.int b)] cs Q .mk := by
  intro k
  have step : ∀ (a b fuel : Nat) {cs : Option D} {Q : Fl → List Sl → Option D → Prop}, (b = 0 → Q .nx [.val (.int a), .val (.int b)] cs) → (b ≠ 0 → wS (whileL (dTst (dOp oNe (dVar 1) (dC (.int 0)))) (dsPar 0 1 (dCons (dVar 1) (dCons (dOp oMod (dVar 0) (dVar 1)) dNil))) fuel) [.val (.int b), .val (.int (a % b : Nat))] cs Q .mk) →
      wS (whileL (dTst (dOp oNe (dVar 1) (dC (.int 0)))) (dsPar 0 1 (dCons (dVar 1) (dCons (dOp oMod (dVar 0) (dVar 1)) dNil))) (fuel + 1)) [.val (.int a), .val (.int b)] cs Q .mk := by
    intro a b fuel cs Q h0 h1
    by_cases hb : b = 0
    · rw [wS_ex]
      refine ⟨.nx, _, cs, ?_, h0 hb⟩
      subst hb
      unfold whileL
      rfl
    · obtain ⟨fl, S, c, e, q⟩ := wS_ex.mp (h1 hb)
      rw [wS_ex]
      refine ⟨fl, S, c, ?_, q⟩
      unfold whileL
      have e1 : dTst (dOp oNe (dVar 1) (dC (.int 0))) [.val (.int a), .val (.int b)] cs = some (true, cs) := by
        have := @w_tst [.val (.int a), .val (.int b)] cs (dOp oNe (dVar 1) (dC (.int 0))) (fun b c => b = true ∧ c = cs) .mk
        have h2 : wT (dTst (dOp oNe (dVar 1) (dC (.int 0)))) [.val (.int a), .val (.int b)] cs (fun b c => b = true ∧ c = cs) .mk := by
          simp
          omega
        obtain ⟨r, c, e, rfl, rfl⟩ := wT_ex.mp h2
        exact e
      have e2 : dsPar 0 1 (dCons (dVar 1) (dCons (dOp oMod (dVar 0) (dVar 1)) dNil)) [.val (.int a), .val (.int b)] cs = some (.nx, [.val (.int b), .val (.int (a % b : Nat))], cs) := by
        have h2 : wS (dsPar 0 1 (dCons (dVar 1) (dCons (dOp oMod (dVar 0) (dVar 1)) dNil))) [.val (.int a), .val (.int b)] cs (fun fl S c => fl = .nx ∧ S = [.val (.int b), .val (.int (a % b : Nat))] ∧ c = cs) .mk := by
          simp
          rw [if_neg (by omega)]
          simp [fmod_nat]
        obtain ⟨r, S', c, e, rfl, rfl, rfl⟩ := wS_ex.mp h2
        exact e
      simp only [e1, e2, e]
  induction k with
  | zero =>
    intro a b fuel cs hb hf Q q
    have hb0 : b = 0 := by omega
    subst hb0
    obtain ⟨f, rfl⟩ : ∃ f, fuel = f + 1 := ⟨fuel - 1, by omega⟩
    refine step a 0 f (fun _ => ?_) (fun h => absurd rfl h)
    have := q 0
    simpa using this
  | succ k ih =>
    intro a b fuel cs hb hf Q q
    obtain ⟨f, rfl⟩ : ∃ f, fuel = f + 1 + 1 := ⟨fuel - 2, by omega⟩
    refine step a b (f + 1) (fun h0 => ?_) (fun h0 => ?_)
    · subst h0
      have := q 0
      simpa using this
    · refine step b (a % b) f (fun h1 => ?_) (fun h1 => ?_)
      · have := q 0
        rw [Nat.gcd_rec, Nat.gcd_comm] at this
        rw [Nat.gcd_comm a b, Nat.gcd_rec, h1] at q
        have := q 0
        rw [h1]
        simpa using this
      · refine ih (a % b) (b % (a % b)) f ?_ (by omega) ?_
        · have h2 : a % b < b := Nat.mod_lt _ (by omega)
          have h3 : b % (a % b) < a % b := Nat.mod_lt _ (by omega)
          have h4 : b % (a % b) + (a % b) ≤ b := by
            have := Nat.div_add_mod b (a % b)
            have h5 : 1 ≤ b / (a % b) := (Nat.one_le_div_iff (by omega)).mpr (by omega)
            have h6 : (a % b) * 1 ≤ (a % b) * (b / (a % b)) := Nat.mul_le_mul_left _ h5
            omega
          rw [Nat.pow_succ] at hb
          omega
        · intro z
          have h1 : Nat.gcd a b = Nat.gcd (a % b) (b % (a % b)) := by
            rw [Nat.gcd_comm a b, Nat.gcd_rec, Nat.gcd_rec, Nat.gcd_comm]
          rw [← h1]
          exact q z
theorem w_gcd {a b : Int} (hb : b.natAbs < 2 ^ 9000) : m_common_divisor [.int a, .int b] = some (.int (Int.gcd a b : Nat)) := by
  refine of_runF (by rfl) ?_
  unfold b_common_divisor
  have ea : ∀ x : Int, oAbs [.int x] = some (.int (x.natAbs : Nat)) := fun x => by
    show some (D.int (if x < 0 then -x else x)) = _
    congr 2
    split <;> omega
  simp [List.replicate, ea]
  refine gcd_loop 9000 a.natAbs b.natAbs 20000 hb (by decide) ?_
  intro z
  simp [flD]
  rfl
theorem gcd_pos {a b : Int} (hb : b ≠ 0) : 1 ≤ Int.gcd a b := Int.gcd_pos_of_ne_zero_right _ hb
theorem gcd_le {a b : Int} (hb : b ≠ 0) : (Int.gcd a b : Nat) ≤ b.natAbs := Nat.le_of_dvd (by omega) (Nat.gcd_dvd_right _ _)
theorem w_ratio {a b : Int} (h0 : b ≠ 0) (hb : b.natAbs < 2 ^ 30) : m_ratio [.int a, .int b] = some (qD (Rat.divInt a b)) := by
  have pos : ∀ a b : Int, 0 < b → b < 2 ^ 30 → ∀ {Q : Fl → List Sl → Option D → Prop} {x : Sl} {cs : Option D}, x ≠ .cst → Q (.rt (qD (Rat.divInt a b))) [] cs →
      wS (dsSeq (dsIf (dTst (dOp oNe (dVar 1) (dC (.int 1)))) (dsSeq (dsAsg (dCall m_common_divisor (dCons (dVar 0) (dCons (dVar 1) dNil))) (gdN 2))
        (dsPar 0 1 (dCons (dOp oFdiv (dVar 0) (dVar 2)) (dCons (dOp oFdiv (dVar 1) (dVar 2)) dNil)))) dsNil) (dsRet (dTup (dCons (dVar 0) (dCons (dVar 1) dNil))))) [.val (.int a), .val (.int b), x] cs Q .mk := by
    intro a b hb hb2 Q x cs hx q
    have q1 := gcd_pos (a := a) (b := b) (by omega)
    have q2 := gcd_le (a := a) (b := b) (by omega)
    simp
    have eq : qD (Rat.divInt a b) = .tup [.int (a / (Int.gcd a b : Nat)), .int (b / (Int.gcd a b : Nat))] := by
      have h1 := Rat.num_divInt a b
      have h2 := Rat.den_divInt a b
      rw [Int.sign_eq_one_of_pos hb, Int.one_mul] at h1
      rw [if_neg (by omega)] at h2
      unfold qD
      rw [h1, h2, Int.gcd_comm b a]
      congr 3
      simp
      rw [show (b.natAbs : Int) = b by omega]
    refine ⟨fun h => ?_, fun h => ?_⟩
    rotate_left
    · rw [w_gcd (by have : (2 : Nat) ^ 30 ≤ 2 ^ 9000 := Nat.pow_le_pow_right (by omega) (by omega); omega)]
      simp [notCst_of hx]
      rw [if_pos ⟨by omega, by omega⟩]
      simp
      rw [if_pos ⟨by omega, by omega⟩]
      simp (disch := omega) [iP_dis, sizeLine_v]
      rw [eq] at q
      rw [Int.fdiv_eq_ediv_of_nonneg _ (by omega), Int.fdiv_eq_ediv_of_nonneg _ (by omega)]
      exact q
    · subst h
      simp (disch := omega) [iP_dis, sizeLine_v]
      rw [eq] at q
      simpa using q
  refine of_runF (by rfl) ?_
  show wS b_ratio [.val (.int a), .val (.int b), .no] none _ .mk
  unfold b_ratio
  by_cases h : b < 0
  · refine seq_mid (fun S1 c1 => S1 = [.val (.int (-a)), .val (.int (-b)), .no] ∧ c1 = none) (by simp [h]) ?_
    rintro _ _ ⟨rfl, rfl⟩
    rw [show Rat.divInt a b = Rat.divInt (-a) (-b) by rw [Rat.divInt_eq_divInt_iff h0 (by omega), Int.mul_neg, Int.neg_mul]]
    exact pos (-a) (-b) (by omega) (by omega) (by simp) rfl
  · refine seq_mid (fun S1 c1 => S1 = [.val (.int a), .val (.int b), .no] ∧ c1 = none) (by simp [h]) ?_
    rintro _ _ ⟨rfl, rfl⟩
    exact pos a b (by omega) (by omega) (by simp) rfl
theorem divInt_mk {a : Int} {b : Nat} : Rat.divInt a b = mkRat a b := by
  rw [Rat.mkRat_eq_div, Rat.divInt_eq_div]; rfl
theorem w_plus {x y : Rat} (h : x.den * y.den < 2 ^ 30) : m_plus [qD x, qD y] = some (qD (x + y)) := by
  have hx := x.den_pos; have hy := y.den_pos
  have bx : x.den ≤ x.den * y.den := Nat.le_mul_of_pos_right _ hy
  have bY : y.den ≤ x.den * y.den := Nat.le_mul_of_pos_left _ hx
  refine of_runF (by rfl) ?_
  unfold b_plus
  simp [List.replicate]
  have last : (wE (dIx (dVar 0) (dC (.int 0))) [.val (qD x), .val (qD y)] none (fun _ _ => True) .mk) := by simp
  by_cases h1 : x.den = 1 ∧ y.den = 1
  · obtain ⟨e1, e2⟩ := h1
    simp (disch := omega) [e1, e2, iP_dis, sizeLine_v, flD]
    rw [Rat.add_def', e1, e2]
    simp [qD, Rat.num_mkRat, Rat.den_mkRat]
  · have fin : ∀ {Q : Prop}, True := fun {_} => trivial
    have e3 : Rat.divInt (x.num * y.den + y.num * x.den) ((x.den : Int) * (y.den : Int)) = x + y := by
      rw [Rat.add_def', ← divInt_mk]
      congr 1
    have call : wS (dsRet (dCall m_ratio (dCons (dOp oAdd (dOp oMul (dIx (dVar 0) (dC (.int 0))) (dIx (dVar 1) (dC (.int 1)))) (dOp oMul (dIx (dVar 1) (dC (.int 0))) (dIx (dVar 0) (dC (.int 1))))) (dCons (dOp oMul (dIx (dVar 0) (dC (.int 1))) (dIx (dVar 1) (dC (.int 1)))) dNil)))) [.val (qD x), .val (qD y)] none (fun fl _ _ => flD fl = some (qD (x + y))) .mk := by
      simp
      rw [oMul_i (by omega)]
      simp
      rw [oMul_i (by omega)]
      simp
      rw [oMul_i (by omega)]
      have h2 : ((x.den : Int) * (y.den : Int)).natAbs = x.den * y.den := by rw [Int.natAbs_mul]; simp
      have h3 : 0 < x.den * y.den := Nat.mul_pos hx hy
      simp
      rw [w_ratio (by omega) (by omega), e3]
      simp [flD]
    simp at call
    by_cases e1 : x.den = y.den
    · have e2 : ¬ y.den = 1 := fun z => h1 ⟨e1.trans z, z⟩
      have e1' : (x.den : Int) = y.den := by omega
      have e2' : ¬ (y.den : Int) = 1 := by omega
      simp [e1', e2'] at call ⊢
      exact call
    · have e1' : ¬ (x.den : Int) = y.den := by omega
      simp [e1'] at call ⊢
      exact call
end K62

set_option autoImplicit true
set_option relaxedAutoImplicit true
set_option Elab.async false
set_option linter.all false
set_option maxRecDepth 100000
set_option maxHeartbeats 4000000
/-! RB: more of fractions -/
namespace K62
open PySem L2 DL
/-- the denominator divides n -/
def Dv (n : Nat) (x : Rat) : Prop := x.den ∣ n
theorem Dv.le {n : Nat} {x : Rat} (h : Dv n x) (hn : 0 < n) : x.den ≤ n := Nat.le_of_dvd hn h
theorem Dv.self {x : Rat} : Dv x.den x := Nat.dvd_refl _
theorem Dv.mk {n : Nat} {k : Int} (hn : 0 < n) : Dv n (mkRat k n) := by
  unfold Dv
  rw [Rat.den_mkRat, if_neg (by omega)]
  exact Nat.div_dvd_of_dvd (Nat.gcd_dvd_left _ _)
theorem Dv.ex {n : Nat} {x : Rat} (hn : 0 < n) (h : Dv n x) : ∃ k : Int, x = mkRat k n := by
  obtain ⟨m, hm⟩ := h
  by_cases h0 : m = 0
  · subst h0; omega
  · refine ⟨m * x.num, ?_⟩
    rw [hm, Nat.mul_comm x.den m]
    rw [Rat.mkRat_mul_left h0]
    exact (Rat.mkRat_self x).symm
theorem Dv.add {n : Nat} {x y : Rat} (hn : 0 < n) (hx : Dv n x) (hy : Dv n y) : Dv n (x + y) := by
  obtain ⟨k, rfl⟩ := hx.ex hn
  obtain ⟨l, rfl⟩ := hy.ex hn
  rw [Rat.mkRat_add_mkRat _ _ (by omega) (by omega), show k * (n : Int) + l * n = n * (k + l) by rw [Int.mul_add, Int.mul_comm, Int.mul_comm l], Rat.mkRat_mul_left (by omega)]
  exact Dv.mk hn
theorem Dv.neg {n : Nat} {x : Rat} (hx : Dv n x) : Dv n (-x) := by unfold Dv; rw [Rat.neg_den]; exact hx
theorem Dv.sub {n : Nat} {x y : Rat} (hn : 0 < n) (hx : Dv n x) (hy : Dv n y) : Dv n (x - y) := by
  rw [Rat.sub_eq_add_neg]; exact Dv.add hn hx hy.neg
theorem Dv.int {n : Nat} {k : Int} : Dv n (k : Rat) := by unfold Dv; rw [Rat.den_intCast]; exact Nat.one_dvd _
theorem Dv.mulI {n : Nat} {x : Rat} {k : Int} (hn : 0 < n) (hx : Dv n x) : Dv n (x * k) := by
  obtain ⟨l, rfl⟩ := hx.ex hn
  have : mkRat l n * (k : Rat) = mkRat (l * k) n := by
    rw [Rat.mkRat_eq_div, Rat.mkRat_eq_div, Rat.intCast_mul, Rat.div_def, Rat.div_def, Rat.mul_assoc, Rat.mul_comm _ (k : Rat), Rat.mul_assoc]
  rw [this]
  exact Dv.mk hn
theorem q_int {k : Int} : D.tup [.int k, .int 1] = qD (k : Rat) := by simp [qD]
theorem w_times {x y : Rat} (h : x.den * y.den < 2 ^ 30) (hn : -(2 ^ 64) < y.num ∧ y.num < 2 ^ 64) : m_times [qD x, qD y] = some (qD (x * y)) := by
  have hx := x.den_pos; have hy := y.den_pos
  have bY : y.den ≤ x.den * y.den := Nat.le_mul_of_pos_left _ hx
  refine of_runF (by rfl) ?_
  unfold b_times
  have h2 : ((x.den : Int) * (y.den : Int)).natAbs = x.den * y.den := by rw [Int.natAbs_mul]; simp
  have h3 : 0 < x.den * y.den := Nat.mul_pos hx hy
  have e3 : Rat.divInt (x.num * y.num) ((x.den : Int) * (y.den : Int)) = x * y := by
    rw [Rat.mul_def', ← divInt_mk]
    congr 1
  simp [List.replicate]
  rw [oMul_i hn]
  simp
  rw [oMul_i (by omega)]
  simp
  rw [w_ratio (by omega) (by omega), e3]
  simp [flD]
theorem w_neg {x : Rat} : m_negative [qD x] = some (qD (-x)) := by
  refine of_runF (by rfl) ?_
  unfold b_negative
  simp (disch := omega) [List.replicate, iP_dis, sizeLine_v, flD]
  simp [qD]
theorem w_minus {x y : Rat} (h : x.den * y.den < 2 ^ 30) : m_minus [qD x, qD y] = some (qD (x - y)) := by
  refine of_runF (by rfl) ?_
  unfold b_minus
  simp [List.replicate, w_neg]
  rw [w_plus (by rw [Rat.neg_den]; exact h)]
  simp [flD, Rat.sub_eq_add_neg]
theorem w_less {x y : Rat} (h1 : x.den < 2 ^ 30) (h2 : y.den < 2 ^ 30) : m_is_less [qD x, qD y] = some (.bl (decide (x < y))) := by
  refine of_runF (by rfl) ?_
  unfold b_is_less
  simp [List.replicate]
  rw [oMul_i (by omega)]
  simp
  rw [oMul_i (by omega)]
  simp [flD, Rat.lt_iff]
theorem w_most {x y : Rat} (h1 : x.den < 2 ^ 30) (h2 : y.den < 2 ^ 30) : m_at_most [qD x, qD y] = some (.bl (decide (x ≤ y))) := by
  refine of_runF (by rfl) ?_
  unfold b_at_most
  simp [List.replicate]
  rw [oMul_i (by omega)]
  simp
  rw [oMul_i (by omega)]
  simp [flD, Rat.le_iff]
theorem w_floor {x : Rat} (h1 : x.den < 2 ^ 30) : m_floor_of [qD x] = some (.int x.floor) := by
  have := x.den_pos
  refine of_runF (by rfl) ?_
  unfold b_floor_of
  simp [List.replicate]
  rw [if_pos ⟨by omega, by omega⟩]
  simp [flD, Rat.floor_def, Int.fdiv_eq_ediv_of_nonneg]
theorem num_abs {x : Rat} : x.abs.num = if x.num < 0 then -x.num else x.num := by
  by_cases h : 0 ≤ x
  · rw [Rat.abs_of_nonneg h, if_neg (by have := Rat.num_nonneg.mpr h; omega)]
  · have h' : x ≤ 0 := by grind
    rw [Rat.abs_of_nonpos h', Rat.neg_num]
    split
    · rfl
    · rename_i h2
      exact absurd (Rat.num_nonneg.mp (by omega)) h
theorem den_abs {x : Rat} : x.abs.den = x.den := by
  by_cases h : 0 ≤ x
  · rw [Rat.abs_of_nonneg h]
  · have h' : x ≤ 0 := by grind
    rw [Rat.abs_of_nonpos h', Rat.neg_den]
theorem w_abs {x : Rat} : m_absolute [qD x] = some (qD x.abs) := by
  have ea : ∀ x : Int, oAbs [.int x] = some (.int (if x < 0 then -x else x)) := fun x => rfl
  refine of_runF (by rfl) ?_
  unfold b_absolute
  simp (disch := omega) [List.replicate, ea, iP_dis, sizeLine_v, flD]
  simp [qD, num_abs, den_abs]
def isI : D → Bool
  | .int _ => true
  | _ => false
theorem w_isint {d : D} (h : (isiD d "int").isSome = true) : m_is_integer [d] = some (.bl (isI d)) := by
  refine of_runF (by rfl) ?_
  unfold b_is_integer
  cases d with
  | obj _ _ _ => cases h
  | scr _ => cases h
  | _ => simp [List.replicate, isiD, flD, isI]
@[simp] theorem w_isint_i {i : Int} : m_is_integer [.int i] = some (.bl true) := w_isint rfl
theorem w_isratio {x : Rat} (h : x.den < 2 ^ 30) : m_is_ratio [qD x] = some (.bl true) := by
  have := x.den_pos
  have g : Int.gcd x.num x.den = 1 := by simpa [Int.gcd] using x.reduced
  refine of_runF (by rfl) ?_
  unfold b_is_ratio
  have e : oLen [qD x] = some (.int 2) := (rfl)
  have e2 : isiD (qD x) "tuple" = some true := (rfl)
  simp [List.replicate, e, e2]
  rw [w_gcd (by have : (2 : Nat) ^ 30 ≤ 2 ^ 9000 := Nat.pow_le_pow_right (by omega) (by omega); omega)]
  simp [flD, g]
  omega
end K62

set_option autoImplicit true
set_option relaxedAutoImplicit true
set_option Elab.async false
set_option linter.all false
set_option maxRecDepth 100000
set_option maxHeartbeats 4000000
/-! RC: near meetings: the small defs -/
namespace K62
open PySem L2 DL
@[simp] theorem t2_0 {a b : D} : ixD (.tup [a, b]) (.int 0) = some a := (rfl)
@[simp] theorem t2_1 {a b : D} : ixD (.tup [a, b]) (.int 1) = some b := (rfl)
@[simp] theorem t3_0 {a b c : D} : ixD (.tup [a, b, c]) (.int 0) = some a := (rfl)
@[simp] theorem t3_1 {a b c : D} : ixD (.tup [a, b, c]) (.int 1) = some b := (rfl)
@[simp] theorem t3_2 {a b c : D} : ixD (.tup [a, b, c]) (.int 2) = some c := (rfl)
@[simp] theorem t4_0 {a b c d : D} : ixD (.tup [a, b, c, d]) (.int 0) = some a := (rfl)
@[simp] theorem t4_1 {a b c d : D} : ixD (.tup [a, b, c, d]) (.int 1) = some b := (rfl)
@[simp] theorem t4_2 {a b c d : D} : ixD (.tup [a, b, c, d]) (.int 2) = some c := (rfl)
@[simp] theorem t4_3 {a b c d : D} : ixD (.tup [a, b, c, d]) (.int 3) = some d := (rfl)
abbrev pD (p q : Int) : D := .tup [.int p, .int q]
theorem w_timesI {x : Rat} {k : Int} (h : x.den < 2 ^ 30) (hk : -(2 ^ 64) < k ∧ k < 2 ^ 64) : m_times [qD x, .tup [.int k, .int 1]] = some (qD (x * k)) := by
  rw [q_int, w_times (by rw [Rat.den_intCast]; omega) (by rw [Rat.num_intCast]; exact hk)]
theorem w_minusI {x : Rat} {k : Int} (h : x.den < 2 ^ 30) : m_minus [qD x, .tup [.int k, .int 1]] = some (qD (x - k)) := by
  rw [q_int, w_minus (by rw [Rat.den_intCast]; omega)]
theorem w_Iminus {x : Rat} {k : Int} (h : x.den < 2 ^ 30) : m_minus [.tup [.int k, .int 1], qD x] = some (qD (k - x)) := by
  rw [q_int, w_minus (by rw [Rat.den_intCast]; omega)]
/-- the nearest whole number, the lesser one of two -/
def nw (x : Rat) : Int := if x - (x.floor : Int) ≤ (x.floor : Rat) + 1 - x then x.floor else x.floor + 1
theorem w_nw {x : Rat} (h : x.den < 2 ^ 30) : m_nearest_whole [qD x] = some (.int (nw x)) := by
  have d1 : ∀ k : Int, (x - (k : Rat)).den < 2 ^ 30 := fun k => Nat.lt_of_le_of_lt ((Dv.sub x.den_pos Dv.self Dv.int).le x.den_pos) h
  have d2 : ∀ k : Int, ((k : Rat) - x).den < 2 ^ 30 := fun k => Nat.lt_of_le_of_lt ((Dv.sub x.den_pos Dv.int Dv.self).le x.den_pos) h
  refine of_runF (by rfl) ?_
  unfold b_nearest_whole
  simp (disch := omega) [List.replicate, w_floor h, iP_dis, sizeLine_v, w_minusI h]
  rw [w_Iminus h]
  have e1 := w_most (d1 x.floor) (d2 (x.floor + 1))
  simp at e1
  simp [e1]
  refine ⟨fun h => ?_, fun h => ?_⟩
  · unfold nw; rw [if_pos h]; simp [flD]
  · unfold nw; rw [if_neg h]; simp [flD]
def awy (x : Rat) : Rat := (x - (nw x : Int)).abs
theorem w_away {x : Rat} (h : x.den < 2 ^ 30) : m_away [qD x] = some (qD (awy x)) := by
  refine of_runF (by rfl) ?_
  unfold b_away
  simp (disch := omega) [List.replicate, w_nw h, iP_dis, sizeLine_v]
  rw [w_minusI h]
  simp [w_abs, flD, awy]
theorem w_below {a : Rat} {p q : Int} (h : a.den < 2 ^ 30) (hq : -(2 ^ 64) < q ∧ q < 2 ^ 64) : m_below_by [qD a, pD p q] = some (qD (a * q - p)) := by
  refine of_runF (by rfl) ?_
  unfold b_below_by
  simp (disch := omega) [List.replicate, iP_dis, sizeLine_v]
  rw [w_timesI h hq]
  simp (disch := omega) [iP_dis, sizeLine_v]
  rw [w_minusI (Nat.lt_of_le_of_lt ((Dv.mulI a.den_pos Dv.self).le a.den_pos) h)]
  simp [flD]
theorem w_above {a : Rat} {p q : Int} (h : a.den < 2 ^ 30) (hq : -(2 ^ 64) < q ∧ q < 2 ^ 64) : m_above_by [qD a, pD p q] = some (qD (p - a * q)) := by
  refine of_runF (by rfl) ?_
  unfold b_above_by
  simp (disch := omega) [List.replicate, iP_dis, sizeLine_v]
  rw [w_timesI h hq]
  simp (disch := omega) [iP_dis, sizeLine_v]
  rw [w_Iminus (Nat.lt_of_le_of_lt ((Dv.mulI a.den_pos Dv.self).le a.den_pos) h)]
  simp [flD]
theorem w_added {p q r s k : Int} (hk : -(2 ^ 64) < k ∧ k < 2 ^ 64) : m_added [pD p q, pD r s, .int k] = some (pD (p + k * r) (q + k * s)) := by
  refine of_runF (by rfl) ?_
  unfold b_added
  simp [List.replicate]
  rw [oMul_i' hk]
  simp
  rw [oMul_i' hk]
  simp (disch := omega) [iP_dis, sizeLine_v, flD]
/-- one fraction by another one, as the program reckons it -/
theorem quot {x y : Rat} (hy : 0 < y) : Rat.divInt (x.num * y.den) (x.den * y.num) = x / y := by
  have h1 : 0 < y.num := by
    have := Rat.num_nonneg.mpr (Rat.le_of_lt hy)
    have h2 : y.num ≠ 0 := fun z => by rw [Rat.num_eq_zero] at z; subst z; exact absurd hy (by decide)
    omega
  have hx : (x.den : Int) ≠ 0 := by have := x.den_pos; omega
  have e1 : x = Rat.divInt x.num x.den := (Rat.num_divInt_den x).symm
  have e2 : y⁻¹ = Rat.divInt y.den y.num := by
    rw [Rat.inv_def]
  rw [Rat.div_def, e2]
  conv => rhs; rw [e1]
  rw [Rat.divInt_mul_divInt]
theorem num_pos {y : Rat} (hy : 0 < y) : 0 < y.num := by
  have := Rat.num_nonneg.mpr (Rat.le_of_lt hy)
  have h2 : y.num ≠ 0 := fun z => by rw [Rat.num_eq_zero] at z; subst z; exact absurd hy (by decide)
  omega
/-- num and den of what is between 0 and 1 -/
theorem num_le {x : Rat} (h : x ≤ 1) : x.num ≤ x.den := by
  have := (Rat.le_iff x 1).mp h
  simpa using this
theorem w_quot {x y : Rat} (hy : 0 < y) (hy1 : y ≤ 1) (dx : x.den < 2 ^ 14) (dy : y.den < 2 ^ 14) : m_ratio [.int (x.num * y.den), .int (x.den * y.num)] = some (qD (x / y)) := by
  have h1 := num_pos hy
  have h2 := num_le hy1
  have h3 := x.den_pos
  have b : (x.den : Int) * y.num ≤ 2 ^ 14 * 2 ^ 14 := Int.mul_le_mul (by omega) (by omega) (by omega) (by omega)
  have c : 0 < (x.den : Int) * y.num := Int.mul_pos (by omega) h1
  rw [w_ratio (by omega) (by omega), quot hy]
theorem den_quot {x y : Rat} (hy : 0 < y) (hy1 : y ≤ 1) (dx : x.den < 2 ^ 14) (dy : y.den < 2 ^ 14) : (x / y).den < 2 ^ 30 := by
  have h1 := num_pos hy
  have h2 := num_le hy1
  have h3 := x.den_pos
  have b : (x.den : Int) * y.num ≤ 2 ^ 14 * 2 ^ 14 := Int.mul_le_mul (by omega) (by omega) (by omega) (by omega)
  have c : 0 < (x.den : Int) * y.num := Int.mul_pos (by omega) h1
  rw [← quot hy, Rat.den_divInt, if_neg (by omega)]
  refine Nat.lt_of_le_of_lt (Nat.div_le_self _ _) ?_
  omega
/-- the greatest k up to most with gap - k step from 0 up -/
theorem w_within {g s : Rat} {most : Int} (hs : 0 < s) (hs1 : s ≤ 1) (dx : g.den < 2 ^ 14) (dy : s.den < 2 ^ 14) : m_steps_within [qD g, qD s, .int most] = some (.int (min most (g / s).floor)) := by
  have h1 := num_pos hs
  have h2 := num_le hs1
  refine of_runF (by rfl) ?_
  unfold b_steps_within
  simp [List.replicate]
  have hs0 : ¬ s = 0 := fun z => by subst z; exact absurd hs (by decide)
  refine ⟨fun h => absurd h hs0, fun _ => ?_⟩
  rw [oMul_i (by omega)]
  simp
  rw [oMul_i (by omega)]
  simp
  rw [w_quot hs hs1 dx dy]
  simp [w_floor (den_quot hs hs1 dx dy), flD]
  omega
theorem w_saboveZ {g : Rat} {most : Int} : m_steps_above [qD g, qD 0, .int most] = some (.int most) := by
  refine of_runF (by rfl) ?_
  unfold b_steps_above
  simp [List.replicate, flD]
theorem w_sabove {g s : Rat} {most : Int} (hs : 0 < s) (hs1 : s ≤ 1) (dx : g.den < 2 ^ 14) (dy : s.den < 2 ^ 14) : m_steps_above [qD g, qD s, .int most] = some (.int (min most ((g / s).floor - (if (g / s).den = 1 then 1 else 0)))) := by
  have h1 := num_pos hs
  have h2 := num_le hs1
  refine of_runF (by rfl) ?_
  unfold b_steps_above
  simp [List.replicate]
  have hs0 : ¬ s = 0 := fun z => by subst z; exact absurd hs (by decide)
  refine ⟨fun h => absurd h hs0, fun _ => ?_⟩
  rw [oMul_i (by omega)]
  simp
  rw [oMul_i (by omega)]
  simp
  rw [w_quot hs hs1 dx dy]
  have et : ∀ b : Bool, oToInt [.bl b] = some (.int (if b = true then 1 else 0)) := fun b => by cases b <;> rfl
  simp [w_floor (den_quot hs hs1 dx dy), et, flD]
  have : ((g / s).den : Int) = 1 ↔ (g / s).den = 1 := by omega
  simp only [this]
  split <;> omega
theorem w_sto {g s e : Rat} (hs : 0 < s) (hs1 : s ≤ 1) (dx : g.den * e.den < 2 ^ 14) (dy : s.den < 2 ^ 14) : m_steps_to [qD g, qD s, qD e] = some (.int (max 1 ((g - e) / s).ceil)) := by
  have h1 := num_pos hs
  have h2 := num_le hs1
  have hm : (g - e).den ≤ g.den * e.den := by
    have p := Nat.mul_pos g.den_pos e.den_pos
    exact (Dv.sub p (Nat.dvd_mul_right _ _) (Nat.dvd_mul_left _ _)).le p
  refine of_runF (by rfl) ?_
  unfold b_steps_to
  simp [List.replicate, w_minus (x := g) (y := e) (by omega)]
  generalize g - e = m at *
  have h3 := m.den_pos
  have b : (m.den : Int) * s.num ≤ 2 ^ 14 * 2 ^ 14 := Int.mul_le_mul (by omega) (by omega) (by omega) (by omega)
  have c : 0 < (m.den : Int) * s.num := Int.mul_pos (by omega) h1
  rw [oMul_i (by omega)]
  simp
  rw [oMul_i (by omega)]
  simp
  have hs0 : ¬ s = 0 := fun z => by subst z; exact absurd hs (by decide)
  rw [if_pos ⟨by simp [hs0]; omega, by omega⟩]
  simp [flD]
  have e : -((-(m.num * (s.den : Int))).fdiv ((m.den : Int) * s.num)) = (m / s).ceil := by
    rw [Rat.ceil_eq_neg_floor_neg]
    congr 1
    rw [show -(m / s) = Rat.divInt (-(m.num * s.den)) (m.den * s.num) by rw [← quot hs, Rat.neg_divInt]]
    rw [Int.fdiv_eq_ediv_of_nonneg _ (by omega)]
    rw [Rat.floor_def, Rat.num_divInt, Rat.den_divInt, if_neg (by omega), Int.sign_eq_one_of_pos c, Int.one_mul]
    generalize hB : (m.den : Int) * s.num = B at *
    generalize -(m.num * (s.den : Int)) = A at *
    have hg : (1 : Int) ≤ (Int.gcd B A : Nat) := by have := Int.gcd_pos_of_ne_zero_left A (show B ≠ 0 by omega); omega
    have hd1 : ((Int.gcd B A : Nat) : Int) ∣ A := Int.gcd_dvd_right ..
    have hd2 : ((Int.gcd B A : Nat) : Int) ∣ B := Int.gcd_dvd_left ..
    have hden : ((B.natAbs / B.gcd A : Nat) : Int) = B / (B.gcd A : Nat) := by rw [Int.natCast_ediv, show (B.natAbs : Int) = B by omega]
    rw [hden]
    generalize ((Int.gcd B A : Nat) : Int) = G at *
    obtain ⟨a, rfl⟩ := hd1
    obtain ⟨b', rfl⟩ := hd2
    rw [Int.mul_ediv_mul_of_pos _ _ (by omega), Int.mul_ediv_cancel_left _ (by omega), Int.mul_ediv_cancel_left _ (by omega)]
  rw [e]
  split <;> omega
end K62

set_option autoImplicit true
set_option relaxedAutoImplicit true
set_option Elab.async false
set_option linter.all false
set_option maxRecDepth 100000
set_option maxHeartbeats 4000000
/-! RD: neighbours of a fraction -/
namespace K62
open PySem L2 DL
theorem lt_abs {e t : Rat} (h : e < t ∨ e < -t) : e < t.abs := by
  have h0 : t ≤ t.abs ∧ -t ≤ t.abs := by
    by_cases h : 0 ≤ t
    · rw [Rat.abs_of_nonneg h]; constructor <;> grind
    · have h' : t ≤ 0 := by grind
      rw [Rat.abs_of_nonpos h']; constructor <;> grind
  rcases h with h | h <;> grind
theorem cast_le {i j : Int} (h : i ≤ j) : (i : Rat) ≤ (j : Rat) := Rat.intCast_le_intCast.mpr h
theorem cast_lt {i j : Int} (h : i < j) : (i : Rat) < (j : Rat) := Rat.intCast_lt_intCast.mpr h
/-- an integer from 1 up, times what is from 0 up -/
theorem ge_mul {x : Int} {t : Rat} (hx : 1 ≤ x) (ht : 0 ≤ t) : t ≤ x * t := by
  have h1 := cast_le hx
  have h2 : 0 ≤ ((x : Rat) - 1) * t := Rat.mul_nonneg (by simp at h1; grind) ht
  grind
theorem nonpos_mul {x : Int} {t : Rat} (hx : x ≤ 0) (ht : 0 ≤ t) : x * t ≤ 0 := by
  have h1 := cast_le hx
  have h2 : 0 ≤ (-(x : Rat)) * t := Rat.mul_nonneg (by simp at h1; grind) ht
  grind
theorem near_lat {a e : Rat} {p q r s m k : Int} (u : r * q - p * s = 1) (hq : 1 ≤ q) (hs : 0 ≤ s) (he : 0 ≤ e) (hb : e < a * q - p) (ha : e < r - a * s) (h1 : 1 ≤ m) (hm : m < q + s) : e < (a * m - k).abs := by
  obtain ⟨x, hx⟩ : ∃ x, x = m * r - k * s := ⟨_, rfl⟩
  obtain ⟨y, hy⟩ : ∃ y, y = k * q - m * p := ⟨_, rfl⟩
  have e1 : m = x * q + y * s := by rw [hx, hy]; grind
  have e2 : k = x * p + y * r := by rw [hx, hy]; grind
  have c1 : (m : Rat) = x * q + y * s := by rw [e1]; simp
  have c2 : (k : Rat) = x * p + y * r := by rw [e2]; simp
  have ev : a * m - k = x * (a * q - p) - y * (r - a * s) := by rw [c1, c2]; grind
  have pb : 0 ≤ a * q - p := by grind
  have pa : 0 ≤ r - a * s := by grind
  clear hx hy c1 c2
  apply lt_abs
  rw [ev]
  by_cases x1 : 1 ≤ x
  · by_cases y1 : 1 ≤ y
    · exfalso
      have := Int.mul_nonneg (show 0 ≤ x - 1 by omega) (show 0 ≤ q by omega)
      have := Int.mul_nonneg (show 0 ≤ y - 1 by omega) hs
      grind
    · left
      have := ge_mul x1 pb
      have := nonpos_mul (show y ≤ 0 by omega) pa
      grind
  · by_cases y1 : 1 ≤ y
    · right
      have := nonpos_mul (show x ≤ 0 by omega) pb
      have := ge_mul y1 pa
      grind
    · exfalso
      have := Int.mul_nonneg (show 0 ≤ -x by omega) (show 0 ≤ q by omega)
      have := Int.mul_nonneg (show 0 ≤ -y by omega) hs
      grind
structure NB (a : Rat) (n p q r s : Int) : Prop where
  u : r * q - p * s = 1
  q1 : 1 ≤ q
  qn : q ≤ n
  s0 : 0 ≤ s
  sn : s ≤ n
  b0 : 0 ≤ a * q - p
  b1 : a * q - p < 1
  a0 : 0 < r - a * s
  a1 : r - a * s ≤ 1
theorem den_b {a : Rat} {p q : Int} : (a * q - p).den ≤ a.den := (Dv.sub a.den_pos (Dv.mulI a.den_pos Dv.self) Dv.int).le a.den_pos
theorem den_a {a : Rat} {p q : Int} : (p - a * q).den ≤ a.den := (Dv.sub a.den_pos Dv.int (Dv.mulI a.den_pos Dv.self)).le a.den_pos
theorem floor_b {a : Rat} : 0 ≤ a - (a.floor : Rat) ∧ a - (a.floor : Rat) < 1 := by
  have h1 := Rat.floor_le a
  have h2 := Rat.lt_floor_add_one a
  simp at h2
  constructor <;> grind
theorem den_one {x : Rat} (h : x.den = 1) : ∃ k : Int, x = k := by
  refine ⟨x.num, ?_⟩
  apply Rat.ext
  · simp
  · simp [h]
/-- how many steps stay above 0 -/
theorem sabove_spec {g s : Rat} (hs : 0 < s) (hg : 0 < g) {K : Int} (hK : K = (g / s).floor - (if (g / s).den = 1 then 1 else 0)) : K * s < g ∧ (K ≤ 0 → g ≤ s) := by
  obtain ⟨t, ht⟩ : ∃ t, t = g / s := ⟨_, rfl⟩
  have hgt : g = t * s := by rw [ht, Rat.div_mul_cancel]; rintro rfl; exact absurd hs (by decide)
  rw [← ht] at hK
  have f1 := Rat.floor_le t
  have f2 := Rat.lt_floor_add_one t
  simp at f2
  have key : (K : Rat) < t ∧ t ≤ (K : Rat) + 1 := by
    split at hK
    · rename_i h
      obtain ⟨k, hk⟩ := den_one h
      rw [hk, Rat.floor_intCast] at hK
      subst hK
      rw [hk]
      simp
      constructor <;> grind
    · rename_i h
      have hne : ((t.floor : Int) : Rat) ≠ t := fun z => h (by rw [← z]; simp)
      rw [Int.sub_zero] at hK
      subst hK
      constructor <;> grind
  obtain ⟨k1, k2⟩ := key
  refine ⟨?_, fun h => ?_⟩
  · rw [hgt]
    exact Rat.mul_lt_mul_of_pos_right k1 hs
  · rw [hgt]
    have h1 := cast_le h
    simp at h1
    have := Rat.mul_le_mul_of_nonneg_right (show t ≤ 1 by grind) (Rat.le_of_lt hs)
    grind
theorem within_spec {g s : Rat} (hs : 0 < s) {K : Int} (hK : K = (g / s).floor) : K * s ≤ g ∧ (s ≤ g → 1 ≤ K) := by
  obtain ⟨t, ht⟩ : ∃ t, t = g / s := ⟨_, rfl⟩
  have hgt : g = t * s := by rw [ht, Rat.div_mul_cancel]; rintro rfl; exact absurd hs (by decide)
  rw [← ht] at hK
  have f1 := Rat.floor_le t
  subst hK
  refine ⟨?_, fun h => ?_⟩
  · rw [hgt]
    exact Rat.mul_le_mul_of_nonneg_right f1 (Rat.le_of_lt hs)
  · rw [Rat.le_floor_iff]
    rw [hgt] at h
    refine Rat.le_of_mul_le_mul_right (c := s) ?_ hs
    simp
    grind
theorem to_spec {g s e : Rat} (hs : 0 < s) {K : Int} (hK : K = max 1 ((g - e) / s).ceil) : 1 ≤ K ∧ g - K * s ≤ e ∧ (K = 1 ∨ e < g - (K - 1 : Int) * s) := by
  obtain ⟨t, ht⟩ : ∃ t, t = (g - e) / s := ⟨_, rfl⟩
  have hgt : g - e = t * s := by rw [ht, Rat.div_mul_cancel]; rintro rfl; exact absurd hs (by decide)
  rw [← ht] at hK
  have f1 : t ≤ (t.ceil : Rat) := Rat.le_ceil
  have f2 : (t.ceil : Rat) < t + 1 := Rat.ceil_lt
  have h1 : t.ceil ≤ K := by omega
  have h2 := cast_le h1
  have h3 := Rat.mul_le_mul_of_nonneg_right (show t ≤ (K : Rat) by grind) (Rat.le_of_lt hs)
  refine ⟨by omega, by grind, ?_⟩
  by_cases h : t.ceil ≤ 1
  · left; omega
  · right
    have : K = t.ceil := by omega
    subst this
    have h4 := Rat.mul_lt_mul_of_pos_right (show ((t.ceil - 1 : Int) : Rat) < t by simp; grind) hs
    grind
end K62

set_option autoImplicit true
set_option relaxedAutoImplicit true
set_option Elab.async false
set_option linter.all false
set_option maxRecDepth 100000
set_option maxHeartbeats 4000000
/-! RE: the walks of neighbours and near_paper -/
namespace K62
open PySem L2 DL
theorem lt_of_le_lt {x y z : Rat} (h : x ≤ y) (g : y < z) : x < z := by grind
def NI (a : Rat) (n : Int) (m : Nat) (S1 : List Sl) (c1 : Option D) : Prop := ∃ p q r s : Int, ∃ x y z : Sl, NB a n p q r s ∧ 19000 ≤ (m : Int) + q + s ∧ x ≠ .cst ∧ y ≠ .cst ∧ z ≠ .cst ∧ S1 = [.val (qD a), .val (.int n), .val (pD p q), .val (pD r s), x, y, z] ∧ c1 = none
def NF (a : Rat) (n : Int) (S1 : List Sl) (c1 : Option D) : Prop := ∃ p q r s : Int, ∃ x y z : Sl, NB a n p q r s ∧ n < q + s ∧ S1 = [.val (qD a), .val (.int n), .val (pD p q), .val (pD r s), x, y, z] ∧ c1 = none
theorem w_neighbours {a : Rat} {n : Int} (ha : a.den < 2 ^ 14) (h1 : 1 ≤ n) (hn : n ≤ 1000) :
    ∃ p q r s : Int, m_neighbours [qD a, .int n] = some (.tup [pD p q, pD r s]) ∧ NB a n p q r s ∧ 1 ≤ s ∧ n < q + s := by
  have key : ∃ d, m_neighbours [qD a, .int n] = some d ∧ ∃ p q r s : Int, d = .tup [pD p q, pD r s] ∧ NB a n p q r s ∧ 1 ≤ s ∧ n < q + s := by
    refine of_runF_ex _ (by rfl) ?_
    show wS b_neighbours [.val (qD a), .val (.int n), .no, .no, .no, .no, .no] none _ .mk
    unfold b_neighbours
    refine seq_mid (fun S1 c1 => S1 = [.val (qD a), .val (.int n), .val (pD a.floor 1), .val (pD 1 0), .no, .no, .no] ∧ c1 = none) ?_ ?_
    · simp (disch := omega) [w_floor (show a.den < 2 ^ 30 by omega), iP_dis, sizeLine_v]
    rintro _ _ ⟨rfl, rfl⟩
    refine seq_mid (NF a n) ?_ ?_
    · refine while_all (NI a n) 20000 ?_ ?_
      · obtain ⟨f1, f2⟩ := floor_b (a := a)
        refine ⟨a.floor, 1, 1, 0, .no, .no, .no, ⟨by omega, by omega, by omega, by omega, by omega, ?_, ?_, ?_, ?_⟩, by omega, by simp, by simp, by simp, rfl, rfl⟩ <;> simp <;> grind
      · rintro m S1 c1 ⟨p, q, r, s, x, y, z, N, hm, hx, hy, hz, rfl, rfl⟩
        have q1 := N.q1; have qn := N.qn; have s0 := N.s0; have sn := N.sn
        refine ⟨by omega, ?_⟩
        simp
        refine ⟨fun hle => ?_, fun hgt => ?_⟩
        rotate_left
        · exact ⟨p, q, r, s, x, y, z, N, hgt, rfl, rfl⟩
        rw [w_below (by omega) (by omega)]
        simp
        rw [w_above (by omega) (by omega)]
        simp [notCst_of hx, notCst_of hy]
        rw [if_pos ⟨by omega, by omega⟩]
        have db := den_b (a := a) (p := p) (q := q)
        have da := den_a (a := a) (p := r) (q := s)
        have hdiv : (n - s).fdiv q = (n - s) / q := Int.fdiv_eq_ediv_of_nonneg _ (by omega)
        have hdq := Int.mul_ediv_add_emod (n - s) q
        have hmq := Int.emod_nonneg (n - s) (show q ≠ 0 by omega)
        have hkq : q * 1 ≤ (n - s) → 1 ≤ (n - s) / q := fun h => by
          rw [Int.mul_one] at h
          exact (Int.le_ediv_iff_mul_le (by omega)).mpr (by omega)
        have b0 := N.b0; have b1 := N.b1; have a0 := N.a0; have a1 := N.a1
        -- what steps_above says
        have hk : ∃ k : Int, m_steps_above [qD (↑r - a * ↑s), qD (a * ↑q - ↑p), .int ((n - s).fdiv q)] = some (.int k) ∧ k ≤ (n - s) / q ∧ (1 ≤ k → (k : Rat) * (a * q - p) < r - a * s) ∧ (k ≤ 0 → 0 < a * q - p ∧ r - a * s ≤ a * q - p) := by
          by_cases hz0 : a * q - p = 0
          · refine ⟨(n - s) / q, by rw [hz0, w_saboveZ, hdiv], Int.le_refl _, fun _ => ?_, fun h => ?_⟩
            · rw [hz0, Rat.mul_zero]; exact a0
            · have := hkq (by omega); omega
          · have hp0 : 0 < a * q - p := by grind
            refine ⟨_, w_sabove hp0 (Rat.le_of_lt b1) (by omega) (by omega), ?_, fun h => ?_, fun h => ⟨hp0, ?_⟩⟩
            · rw [hdiv]; omega
            · obtain ⟨z1, z2⟩ := sabove_spec hp0 a0 (K := _) rfl
              refine lt_of_le_lt ?_ z1
              refine Rat.mul_le_mul_of_nonneg_right (cast_le ?_) (Rat.le_of_lt hp0)
              omega
            · obtain ⟨z1, z2⟩ := sabove_spec hp0 a0 (K := _) rfl
              refine z2 ?_
              rw [hdiv] at h
              have := hkq (by omega)
              omega
        obtain ⟨k, hk0, hk1, hk2, hk3⟩ := hk
        simp
        rw [hk0]
        simp [notCst_of hz]
        have kb : k ≤ n := Int.le_trans hk1 (by
          have : (n - s) / q ≤ n - s := Int.ediv_le_self _ (by omega)
          omega)
        refine ⟨fun hpos => ?_, fun hneg => ?_⟩
        · rw [oMul_i' (by omega)]
          simp
          rw [oMul_i' (by omega)]
          simp (disch := omega) [iP_dis, sizeLine_v]
          have e1 : k * q ≤ n - s := by
            have := Int.mul_le_mul_of_nonneg_right hk1 (show 0 ≤ q by omega)
            rw [Int.mul_comm] at hdq
            omega
          have e2 : k ≤ k * q := by
            have := Int.mul_le_mul_of_nonneg_left q1 (show 0 ≤ k by omega)
            omega
          have hlt := hk2 (by omega)
          have hge := Rat.mul_nonneg (Rat.intCast_nonneg.mpr (show 0 ≤ k by omega)) b0
          refine ⟨p, q, r + k * p, s + k * q, .val (qD (a * ↑q - ↑p)), .val (qD (↑r - a * ↑s)), .val (.int k), ⟨?_, q1, qn, by omega, by omega, b0, b1, ?_, ?_⟩, by omega, by simp, by simp, by simp, rfl, rfl⟩
          · have := N.u; grind
          · simp; grind
          · simp; grind
        · obtain ⟨hp0, hle2⟩ := hk3 (by omega)
          have s1 : 1 ≤ s := by
            by_cases h : 1 ≤ s
            · exact h
            · exfalso
              have hs0 : s = 0 := by omega
              subst hs0
              have := N.u
              simp at this
              have hq' : q = 1 := by
                have : q ∣ 1 := ⟨r, by rw [Int.mul_comm]; omega⟩
                have := Int.le_of_dvd (by omega) this
                omega
              subst hq'
              have hr : r = 1 := by omega
              subst hr
              simp at hle2 b1
              grind
          rw [if_pos ⟨by omega, by omega⟩]
          have hdiv2 : (n - q).fdiv s = (n - q) / s := Int.fdiv_eq_ediv_of_nonneg _ (by omega)
          simp
          rw [w_within a0 a1 (by omega) (by omega)]
          obtain ⟨z1, z2⟩ := within_spec a0 (K := _) (g := a * q - p) rfl
          have z3 := z2 hle2
          have hdq2 := Int.mul_ediv_add_emod (n - q) s
          have hmq2 := Int.emod_nonneg (n - q) (show s ≠ 0 by omega)
          have z4 : 1 ≤ (n - q) / s := (Int.le_ediv_iff_mul_le (by omega)).mpr (by omega)
          generalize hK : min ((n - q).fdiv s) ((a * q - p) / (r - a * s)).floor = K at *
          have K1 : 1 ≤ K := by rw [hdiv2] at hK; omega
          have K2 : K ≤ (n - q) / s := by rw [hdiv2] at hK; omega
          have K3 : K ≤ n := Int.le_trans K2 (by
            have : (n - q) / s ≤ n - q := Int.ediv_le_self _ (by omega)
            omega)
          have K4 : (K : Rat) * (r - a * s) ≤ a * q - p := Rat.le_trans (Rat.mul_le_mul_of_nonneg_right (cast_le (show K ≤ ((a * q - p) / (r - a * s)).floor by omega)) (Rat.le_of_lt a0)) z1
          have e1 : K * s ≤ n - q := by
            have := Int.mul_le_mul_of_nonneg_right K2 (show 0 ≤ s by omega)
            rw [Int.mul_comm] at hdq2
            omega
          have e2 : K ≤ K * s := by
            have := Int.mul_le_mul_of_nonneg_left s1 (show 0 ≤ K by omega)
            omega
          have hge := Rat.mul_nonneg (Rat.intCast_nonneg.mpr (show 0 ≤ K by omega)) (Rat.le_of_lt a0)
          simp
          rw [oMul_i' (by omega)]
          simp
          rw [oMul_i' (by omega)]
          simp (disch := omega) [iP_dis, sizeLine_v]
          refine ⟨p + K * r, q + K * s, r, s, .val (qD (a * ↑q - ↑p)), .val (qD (↑r - a * ↑s)), .val (.int K), ⟨?_, by omega, by omega, s0, sn, ?_, ?_, a0, a1⟩, by omega, by simp, by simp, by simp, rfl, rfl⟩
          · have := N.u; grind
          · simp; grind
          · simp; grind
    · rintro S1 c1 ⟨p, q, r, s, x, y, z, N, hlt, rfl, rfl⟩
      simp (disch := omega) [iP_dis, sizeLine_v, flD]
      have qn := N.qn; have s0 := N.s0
      exact ⟨p, q, r, s, ⟨⟨rfl, rfl⟩, rfl, rfl⟩, N, by omega, hlt⟩
  obtain ⟨d, h1, p, q, r, s, rfl, h2, h3, h4⟩ := key
  exact ⟨p, q, r, s, h1, h2, h3, h4⟩
end K62

set_option autoImplicit true
set_option relaxedAutoImplicit true
set_option Elab.async false
set_option linter.all false
set_option maxRecDepth 100000
set_option maxHeartbeats 4000000
/-! RF: the walk of near_paper -/
namespace K62
open PySem L2 DL
theorem awy_le {x : Rat} (k : Int) : awy x ≤ (x - k).abs := by
  obtain ⟨f1, f2⟩ := floor_b (a := x)
  have b1 : ∀ t : Rat, t ≤ t.abs ∧ -t ≤ t.abs := fun t => by
    by_cases h : 0 ≤ t
    · rw [Rat.abs_of_nonneg h]; constructor <;> grind
    · have h' : t ≤ 0 := by grind
      rw [Rat.abs_of_nonpos h']; constructor <;> grind
  obtain ⟨h1, h2⟩ := b1 (x - k)
  have h0 : awy x = if x - (x.floor : Rat) ≤ (x.floor : Rat) + 1 - x then x - (x.floor : Rat) else (x.floor : Rat) + 1 - x := by
    unfold awy nw
    split
    · rw [Rat.abs_of_nonneg f1]
    · rw [Rat.abs_of_nonpos (by simp; grind)]
      simp; grind
  rw [h0]
  by_cases hk : k ≤ x.floor
  · have := cast_le hk
    split <;> grind
  · have := cast_le (show x.floor + 1 ≤ k by omega)
    simp at this
    split <;> grind
theorem awy_nw {x : Rat} : awy x = (x - (nw x : Int)).abs := rfl
/-- what near_paper gives -/
def NPaper (a e : Rat) (m k : Int) (lo hi : D) : Prop := (a * m - k).abs ≤ e ∧ (∀ j k' : Int, 1 ≤ j → j < m → e < (a * j - k').abs) ∧
  ((m = 1 ∧ lo = .non ∧ hi = .non) ∨ ∃ p q r s : Int, lo = pD p q ∧ hi = pD r s ∧ r * q - p * s = 1 ∧ 1 ≤ q ∧ 0 ≤ s ∧ m = q + s ∧ 2 ≤ m ∧ q + s ≤ 2 ^ 14 ∧ e < a * q - p ∧ e < r - a * s ∧ a * q - p ≤ 1 ∧ r - a * s ≤ 1)
structure NQ (a e : Rat) (p q r s : Int) : Prop where
  u : r * q - p * s = 1
  q1 : 1 ≤ q
  s0 : 0 ≤ s
  b0 : e < a * q - p
  b1 : a * q - p ≤ 1
  a0 : e < r - a * s
  a1 : r - a * s ≤ 1
theorem NQ.le {a e : Rat} {p q r s : Int} (N : NQ a e p q r s) (he : 0 ≤ e) : q + s ≤ a.den := by
  have hd := a.den_pos
  by_cases h : (a.den : Int) < q + s
  · exfalso
    have := near_lat N.u N.q1 N.s0 he N.b0 N.a0 (m := a.den) (k := a.num) (by omega) h
    have e1 : a * ((a.den : Int) : Rat) - a.num = 0 := by
      have h2 : a = (a.num : Rat) / ((a.den : Nat) : Rat) := by
        have := (Rat.mkRat_self a).symm
        rw [Rat.mkRat_eq_div] at this
        exact this
      have h3 : ((a.den : Nat) : Rat) ≠ 0 := by
        rw [ne_eq, Rat.natCast_eq_zero_iff]; omega
      have h4 : a * ((a.den : Nat) : Rat) = a.num := by
        conv => lhs; lhs; rw [h2]
        exact Rat.div_mul_cancel h3
      have h5 : ((a.den : Int) : Rat) = ((a.den : Nat) : Rat) := rfl
      rw [h5, h4, Rat.sub_self]
    rw [e1, Rat.abs_zero] at this
    grind
  · omega
def NJ (a e : Rat) (m : Nat) (S1 : List Sl) (c1 : Option D) : Prop := ∃ p q r s : Int, ∃ x y z w v : Sl, NQ a e p q r s ∧ 20001 ≤ (m : Int) + q + s ∧ x ≠ .cst ∧ y ≠ .cst ∧ z ≠ .cst ∧ w ≠ .cst ∧ v ≠ .cst ∧ S1 = [.val (qD a), .val (qD e), .val (pD p q), .val (pD r s), x, y, z, w, v] ∧ c1 = none
def NR (a e : Rat) (d : D) : Prop := ∃ (m k : Int) (lo hi : D), d = .tup [.int m, .int k, lo, hi] ∧ NPaper a e m k lo hi
def NE (a e : Rat) (fl : Fl) : Prop := ∃ d, flD fl = some d ∧ NR a e d
theorem num_lt {x : Rat} : x.num < 0 ↔ x < 0 := by
  have := @Rat.num_nonneg x
  constructor
  · intro h
    have : ¬ 0 ≤ x := fun z => by have := this.mpr z; omega
    grind
  · intro h
    have : ¬ 0 ≤ x.num := fun z => by have := this.mp z; grind
    omega
/-- one turn from the point where both neighbours are led on -/
theorem near_turn {a e : Rat} {p q r s : Int} {m : Nat} {x y z w v : Sl} (ha : a.den < 2 ^ 13) (hx : x ≠ .cst) (hy : y ≠ .cst) (hz : z ≠ .cst) (hw : w ≠ .cst) (hv : v ≠ .cst) (he : 0 ≤ e) (hd : e.den < 2 ^ 13) (N : NQ a e p q r s) (hm : 20000 ≤ (m : Int) + q + s) (h2 : 2 ≤ q + s) :
    wS (dsSeq (dsAsg (dCall m_added (dCons (dVar 2) (dCons (dVar 3) (dCons (dC (.int 1)) dNil)))) (gdN 7))
      (dsSeq (dsAsg (dCall m_minus (dCons (dCall m_times (dCons (dVar 0) (dCons (dTup (dCons (dIx (dVar 7) (dC (.int 1))) (dCons (dC (.int 1)) dNil))) dNil))) (dCons (dTup (dCons (dIx (dVar 7) (dC (.int 0))) (dCons (dC (.int 1)) dNil))) dNil))) (gdN 8))
      (dsSeq (dsIf (dTru (dCall m_at_most (dCons (dCall m_absolute (dCons (dVar 8) dNil)) (dCons (dVar 1) dNil)))) (dsRet (dTup (dCons (dIx (dVar 7) (dC (.int 1))) (dCons (dIx (dVar 7) (dC (.int 0))) (dCons (dVar 2) (dCons (dVar 3) dNil)))))) dsNil)
      (dsIf (dTst (dOp oLtA (dIx (dVar 8) (dC (.int 0))) (dC (.int 0)))) (dsAsg (dVar 7) (gdN 3)) (dsAsg (dVar 7) (gdN 2))))))
      [.val (qD a), .val (qD e), .val (pD p q), .val (pD r s), x, y, z, w, v] none (fun fl S2 c2 => onLp fl (NJ a e m S2 c2) (NE a e .nx) (NE a e fl) .mk .mk .mk) .mk := by
  have hle := N.le he
  have q1 := N.q1; have s0 := N.s0; have u := N.u
  have b0 := N.b0; have b1 := N.b1; have a0 := N.a0; have a1 := N.a1
  simp [w_added, notCst_of hw]
  simp (disch := omega) [iP_dis, sizeLine_v]
  rw [w_timesI (by omega) (by omega)]
  simp (disch := omega) [iP_dis, sizeLine_v]
  have dm : (a * ((q : Rat) + s)).den ≤ a.den := by
    have := (Dv.mulI a.den_pos (Dv.self (x := a)) (k := q + s)).le a.den_pos
    simpa using this
  have eg : a * ((q : Rat) + s) - ((p : Rat) + r) = (a * q - p) - (r - a * s) := by grind
  have wm := w_minusI (x := a * ((q : Rat) + s)) (k := p + r) (by omega)
  have dg : (a * ((q : Rat) + s) - ((p : Rat) + r)).den ≤ a.den := by
    have := den_b (a := a) (p := p + r) (q := q + s)
    simpa using this
  have s1 : 1 ≤ s := by
    by_cases h : 1 ≤ s
    · exact h
    · exfalso
      have e2 : s = 0 := by omega
      subst e2
      simp at u
      have : q ∣ 1 := ⟨r, by rw [Int.mul_comm]; omega⟩
      have := Int.le_of_dvd (by omega) this
      omega
  simp at wm
  rw [wm]
  generalize hg : a * ((q : Rat) + s) - ((p : Rat) + r) = g at *
  simp [notCst_of hv, w_abs]
  rw [w_most (by rw [den_abs]; omega) (by omega)]
  simp
  refine ⟨fun hin => ?_, fun hout => ?_⟩
  · simp (disch := omega) [iP_dis, sizeLine_v]
    refine ⟨_, rfl, q + s, p + r, pD p q, pD r s, rfl, by simp; rw [hg]; exact hin, fun j k' j1 j2 => near_lat u q1 s0 he b0 a0 j1 j2, .inr ⟨p, q, r, s, rfl, rfl, u, q1, s0, rfl, h2, by omega, b0, a0, b1, a1⟩⟩
  · have habs : g.abs = g ∨ g.abs = -g := by
      by_cases h : 0 ≤ g
      · exact .inl (Rat.abs_of_nonneg h)
      · exact .inr (Rat.abs_of_nonpos (by grind))
    simp [num_lt]
    refine ⟨fun hneg => ?_, fun hpos => ?_⟩
    · have e1 : g.abs = -g := Rat.abs_of_nonpos (Rat.le_of_lt hneg)
      refine ⟨p, q, p + r, q + s, x, y, z, .val (pD (p + r) (q + s)), .val (qD g), ⟨by grind, q1, by omega, b0, b1, ?_, ?_⟩, by omega, hx, hy, hz, by simp, by simp, rfl, rfl⟩
      · simp at hg ⊢; grind
      · simp at hg ⊢; grind
    · have e1 : g.abs = g := Rat.abs_of_nonneg (by grind)
      refine ⟨p + r, q + s, r, s, x, y, z, .val (pD (p + r) (q + s)), .val (qD g), ⟨by grind, by omega, s0, ?_, ?_, a0, a1⟩, by omega, hx, hy, hz, by simp, by simp, rfl, rfl⟩
      · simp at hg ⊢; grind
      · simp at hg ⊢; grind
theorem w_near {a e : Rat} (ha : a.den * e.den < 2 ^ 13) (he : 0 ≤ e) : ∃ (m k : Int) (lo hi : D), m_near_paper [qD a, qD e] = some (.tup [.int m, .int k, lo, hi]) ∧ NPaper a e m k lo hi := by
  have hd1 := a.den_pos; have hd2 := e.den_pos
  have d1 : a.den ≤ a.den * e.den := Nat.le_mul_of_pos_right _ hd2
  have d2 : e.den ≤ a.den * e.den := Nat.le_mul_of_pos_left _ hd1
  have key : ∃ d, m_near_paper [qD a, qD e] = some d ∧ NR a e d := by
    refine of_runF_ex _ (by rfl) ?_
    show wS b_near_paper [.val (qD a), .val (qD e), .no, .no, .no, .no, .no, .no, .no] none (fun fl _ _ => NE a e fl) .mk
    unfold b_near_paper
    rw [w_seq]
    simp [w_away (x := a) (by omega)]
    rw [w_most (by unfold awy; rw [den_abs]; exact Nat.lt_of_le_of_lt ((Dv.sub hd1 Dv.self Dv.int).le hd1) (by omega)) (by omega)]
    simp
    refine ⟨fun h => ?_, fun h => ?_⟩
    · simp (disch := omega) [w_nw (x := a) (by omega), iP_dis, sizeLine_v]
      exact ⟨_, rfl, 1, nw a, .non, .non, rfl, by have h' : (a - (nw a : Int)).abs ≤ e := h; simpa using h', fun j k' j1 j2 => by omega, .inl ⟨rfl, rfl, rfl⟩⟩
    · simp (disch := omega) [w_floor (x := a) (by omega), iP_dis, sizeLine_v]
      refine while_all (NJ a e) 20000 ?_ ?_
      · obtain ⟨f1, f2⟩ := floor_b (a := a)
        have g1 := awy_le (x := a) a.floor
        have g2 := awy_le (x := a) (a.floor + 1)
        rw [Rat.abs_of_nonneg f1] at g1
        rw [Rat.abs_of_nonpos (by simp; grind)] at g2
        simp at g2
        refine ⟨a.floor, 1, 1, 0, .no, .no, .no, .no, .no, ⟨by omega, by omega, by omega, ?_, ?_, ?_, ?_⟩, by omega, by simp, by simp, by simp, by simp, by simp, rfl, rfl⟩ <;> simp <;> grind
      · rintro m S1 c1 ⟨p, q, r, s, x, y, z, w, v, N, hm, hx, hy, hz, hw, hv, rfl, rfl⟩
        have hle := N.le he
        have q1 := N.q1; have s0 := N.s0; have u := N.u
        have b0 := N.b0; have b1 := N.b1; have a0 := N.a0; have a1 := N.a1
        have pb : 0 < a * q - p := by grind
        have pa : 0 < r - a * s := by grind
        have db := den_b (a := a) (p := p) (q := q)
        have da := den_a (a := a) (p := r) (q := s)
        refine ⟨by omega, ?_⟩
        simp [w_below (a := a) (p := p) (q := q) (by omega) (by omega)]
        rw [w_above (by omega) (by omega)]
        simp [notCst_of hx, notCst_of hy]
        rw [w_less (by omega) (by omega)]
        simp
        have dd1 : (↑r - a * ↑s).den * e.den < 2 ^ 14 := Nat.lt_of_le_of_lt (Nat.mul_le_mul_right _ da) (by omega)
        have dd2 : (a * ↑q - ↑p).den * e.den < 2 ^ 14 := Nat.lt_of_le_of_lt (Nat.mul_le_mul_right _ db) (by omega)
        refine ⟨fun hlt => ?_, fun hlt => ?_⟩
        · rw [w_sto pb b1 dd1 (by omega)]
          obtain ⟨k1, k2, k3⟩ := to_spec pb (g := r - a * s) (e := e) (K := _) rfl
          generalize max 1 ((↑r - a * ↑s - e) / (a * ↑q - ↑p)).ceil = K at *
          have hge := Rat.mul_nonneg (Rat.intCast_nonneg.mpr (show 0 ≤ K - 1 by omega)) (Rat.le_of_lt pb)
          have kq : K - 1 ≤ (K - 1) * q := by
            have := Int.mul_le_mul_of_nonneg_left q1 (show 0 ≤ K - 1 by omega)
            omega
          have N2 : NQ a e p q (r + (K - 1) * p) (s + (K - 1) * q) := ⟨by grind, q1, by omega, b0, b1, by
            rcases k3 with k3 | k3
            · subst k3; simp; exact a0
            · simp at k3 ⊢; grind, by simp at hge ⊢; grind⟩
          have hle2 := N2.le he
          simp [notCst_of hz]
          rw [w_added (by omega)]
          simp
          have h2 : 2 ≤ q + (s + (K - 1) * q) := by
            by_cases h2 : 2 ≤ q + (s + (K - 1) * q)
            · exact h2
            · exfalso
              have e1 : q = 1 := by omega
              have e2 : s = 0 := by omega
              have e3 : K = 1 := by
                have : K - 1 ≤ 0 := by omega
                omega
              subst e1 e2 e3
              have hr : r = 1 := by omega
              subst hr
              have g2 := awy_le (x := a) (p + 1)
              simp at k2 g2 b1 b0
              rw [Rat.abs_of_nonpos (by grind)] at g2
              grind
          have := near_turn (x := .val (qD (a * ↑q - ↑p))) (y := .val (qD (↑r - a * ↑s))) (z := .val (.int K)) (m := m - 1) (by omega) (by simp) (by simp) (by simp) hw hv he (by omega) N2 (by omega) h2
          simpa using this
        · rw [w_sto pa a1 dd2 (by omega)]
          obtain ⟨k1, k2, k3⟩ := to_spec pa (g := a * q - p) (e := e) (K := _) rfl
          generalize max 1 ((a * ↑q - ↑p - e) / (↑r - a * ↑s)).ceil = K at *
          have hge := Rat.mul_nonneg (Rat.intCast_nonneg.mpr (show 0 ≤ K - 1 by omega)) (Rat.le_of_lt pa)
          have kq := Int.mul_nonneg (show 0 ≤ K - 1 by omega) s0
          have N2 : NQ a e (p + (K - 1) * r) (q + (K - 1) * s) r s := ⟨by grind, by omega, s0, by
            rcases k3 with k3 | k3
            · subst k3; simp; exact b0
            · simp at k3 ⊢; grind, by simp at hge ⊢; grind, a0, a1⟩
          have hle2 := N2.le he
          have s1 : 1 ≤ s := by
            by_cases h : 1 ≤ s
            · exact h
            · exfalso
              have e2 : s = 0 := by omega
              subst e2
              simp at u
              have e1 : q = 1 := by
                have : q ∣ 1 := ⟨r, by rw [Int.mul_comm]; omega⟩
                have := Int.le_of_dvd (by omega) this
                omega
              subst e1
              have hr : r = 1 := by omega
              subst hr
              obtain ⟨f1, f2⟩ := floor_b (a := a)
              simp at hlt b1 b0
              have e3 : a = ((p + 1 : Int) : Rat) := by simp; grind
              have g2 := awy_le (x := a) (p + 1)
              rw [← e3, Rat.sub_self, Rat.abs_zero] at g2
              grind
          have kq : K - 1 ≤ (K - 1) * s := by
            have := Int.mul_le_mul_of_nonneg_left s1 (show 0 ≤ K - 1 by omega)
            omega
          simp [notCst_of hz]
          rw [w_added (by omega)]
          simp
          have := near_turn (x := .val (qD (a * ↑q - ↑p))) (y := .val (qD (↑r - a * ↑s))) (z := .val (.int K)) (m := m - 1) (by omega) (by simp) (by simp) (by simp) hw hv he (by omega) N2 (by omega) (by omega)
          simpa using this
  obtain ⟨d, h1, m, k, lo, hi, rfl, h2⟩ := key
  exact ⟨m, k, lo, hi, h1, h2⟩
end K62

set_option autoImplicit true
set_option relaxedAutoImplicit true
set_option Elab.async false
set_option linter.all false
set_option maxRecDepth 100000
set_option maxHeartbeats 4000000
/-! TK: what the law draws -/
namespace K62
open PySem L2 DL
theorem last_t {vs : List Int} (h : vs ≠ []) : ixD (.tup (vs.map D.int)) (.int (-1)) = some (.int (gI vs (vs.length - 1))) := by
  have h1 : 1 ≤ vs.length := by cases vs with
    | nil => exact absurd rfl h
    | cons _ _ => simp
  have e : vs.map D.int = (vs.map D.int).take (vs.length - 1) ++ [.int (gI vs (vs.length - 1))] := by
    rw [show vs.length - 1 = (vs.map D.int).length - 1 by simp]
    apply List.ext_getElem?
    intro i
    have hg : ∀ i, i < vs.length → (vs.map D.int)[i]? = some (.int (gI vs i)) := fun i hi => gI_get hi
    by_cases hi : i < vs.length - 1
    · rw [List.getElem?_append_left (by simp; omega), List.getElem?_take_of_lt (by simp; omega)]
    · by_cases h2 : i = vs.length - 1
      · subst h2
        rw [List.getElem?_append_right (by simp), hg _ (by omega)]
        simp
      · rw [List.getElem?_eq_none (by simp; omega), List.getElem?_eq_none (by simp; omega)]
  show atI (vs.map D.int) (-1) = _
  rw [e]
  exact atI_last _ _
def cl (ns : List Int) (pos : Nat) (acc cnt : Int) : D := .lst [.lst (ns.map .int), .int pos, .int acc, .int cnt, .int 20]
def Cell (d : D) : Prop := ∃ ns pos acc cnt, d = cl ns pos acc cnt
theorem ix0 {a b c d e : D} : ixD (.lst [a, b, c, d, e]) (.int 0) = some a := (rfl)
theorem ix1 {a b c d e : D} : ixD (.lst [a, b, c, d, e]) (.int 1) = some b := (rfl)
theorem ix2 {a b c d e : D} : ixD (.lst [a, b, c, d, e]) (.int 2) = some c := (rfl)
theorem ix3 {a b c d e : D} : ixD (.lst [a, b, c, d, e]) (.int 3) = some d := (rfl)
theorem in1 : ixN 5 1 = some 1 := (rfl)
theorem in2 : ixN 5 2 = some 2 := (rfl)
theorem in3 : ixN 5 3 = some 3 := (rfl)
theorem last_l {vs : List Int} (h : vs ≠ []) : ixD (.lst (vs.map D.int)) (.int (-1)) = some (.int (gI vs (vs.length - 1))) := last_t h
theorem of_runC_ex {np n : Nat} {b : DS} {ds : List D} {c : D} (Φ : D → D → Prop) (hl : ds.length + 1 = np) (h : wS b (.cst :: (ds.map Sl.val ++ List.replicate (n - np) Sl.no)) (some c) (fun fl _ c1 => ∃ d c', flD fl = some d ∧ c1 = some c' ∧ Φ d c') .mk) : ∃ d c', runC np n b c ds = some (d, c') ∧ Φ d c' := by
  rw [wS_ex] at h
  obtain ⟨fl, S', c1, e, d, c', q, q', w⟩ := h
  exact ⟨d, c', of_runC hl (wS_ex.mpr ⟨fl, S', c1, e, q, q'⟩), w⟩
theorem w_fill (ns : List Int) (pos : Nat) (acc cnt : Int) : ∃ v pos' cnt', m__law_fill (cl ns pos acc cnt) [] = some (.int v, cl ns pos' acc cnt') := by
  have key : ∃ d c', runC 1 2 b__law_fill (cl ns pos acc cnt) [] = some (d, c') ∧ ∃ (v : Int) (pos' : Nat) (cnt' : Int), d = .int v ∧ c' = cl ns pos' acc cnt' := by
    refine of_runC_ex _ (by rfl) ?_
    unfold b__law_fill cl
    have m1 : ∀ i j : Int, -(2 ^ 64) < j ∧ j < 2 ^ 64 → oMul (.int i) (.int j) = some (.int (i * j)) := fun i j h => oMul_i h
    have e1 : (∃ x, oPow (.int 10) (.int 18) = some (.int x)) := ⟨_, rfl⟩
    obtain ⟨big, e1⟩ := e1
    rw [w_seq]
    refine wS_mono (Q := fun fl S1 c1 => fl = .nx ∧ S1 = [.cst, .no] ∧ c1 = some (.lst [.lst (ns.map .int), .int pos, .int acc, .int (cnt + 1), .int 20])) ?_ ?_
    · simp [List.replicate, ix3, in3]
    intro fl S1 c1 h
    rw [h.1, h.2.1, h.2.2, onFl_nx, w_seq]
    refine wS_mono (Q := fun fl S1 c1 => fl = .nx ∧ ∃ x : Int, S1 = [.cst, .val (.int x)] ∧ c1 = some (.lst [.lst (ns.map .int), .int pos, .int acc, .int (cnt + 1), .int 20])) ?_ ?_
    · simp [ix3]
      rw [m1 _ _ (by omega)]
      simp
    clear h
    intro fl S1 c1 h
    obtain ⟨h1, x, h2, h3⟩ := h
    rw [h1, h2, h3, onFl_nx, w_seq]
    refine wS_mono (Q := fun fl S1 c1 => (fl = .nx ∧ ∃ (x : Int) (p : Nat), S1 = [.cst, .val (.int x)] ∧ c1 = some (.lst [.lst (ns.map .int), .int p, .int acc, .int (cnt + 1), .int 20])) ∨
      ∃ (x : Int) (p : Nat), fl = .rt (.int x) ∧ c1 = some (.lst [.lst (ns.map .int), .int p, .int acc, .int (cnt + 1), .int 20])) ?_ ?_
    · simp [ix0, ix1]
      refine ⟨fun hl => ?_, fun hl => ⟨pos, rfl⟩⟩
      rw [gI_l (by omega) (by omega)]
      simp [ix0, ix1]
      rw [gI_l (by omega) (by omega)]
      simp [ix1, in1, e1]
      exact ⟨fun _ => ⟨pos + 1, by simp⟩, fun _ => ⟨pos + 1, by simp⟩⟩
    clear h1 h2 h3
    intro fl S1 c1 h
    rcases h with h | h
    · obtain ⟨h1, x, p, h2, h3⟩ := h
      rw [h1, h2, h3, onFl_nx, w_seq]
      refine wS_mono (Q := fun fl S1 c1 => fl = .nx ∧ ∃ x : Int, S1 = [.cst, .val (.int x)] ∧ c1 = some (.lst [.lst (ns.map .int), .int p, .int acc, .int (cnt + 1), .int 20])) ?_ ?_
      · cases ns with
        | nil => simp [ix0]
        | cons a r =>
          simp [ix0, ix1]
          refine fun _ => ?_
          have := last_l (vs := a :: r) (by simp)
          simp at this
          rw [this]
          simp
      clear h1 h2 h3
      intro fl S1 c1 h
      obtain ⟨h1, x, h2, h3⟩ := h
      rw [h1, h2, h3, onFl_nx, w_seq]
      refine wS_mono (Q := fun fl S1 c1 => fl = .nx ∧ ∃ x : Int, (-(2 ^ 64) < x ∧ x < 2 ^ 64) ∧ S1 = [.cst, .val (.int x)] ∧ c1 = some (.lst [.lst (ns.map .int), .int p, .int acc, .int (cnt + 1), .int 20])) ?_ ?_
      · simp
        rw [m1 _ _ (by omega)]
        simp [ix3]
        rw [m1 _ _ (by omega)]
        simp
        have a1 := Int.fmod_nonneg_of_pos (x * 48271 + (cnt + 1) * 69621) (show (0 : Int) < 2147483647 by omega)
        have a2 := Int.fmod_lt_of_pos (x * 48271 + (cnt + 1) * 69621) (show (0 : Int) < 2147483647 by omega)
        omega
      clear h1 h2 h3
      intro fl S1 c1 h
      obtain ⟨h1, x, hx, h2, h3⟩ := h
      rw [h1, h2, h3, onFl_nx]
      have mx := m1 x x hx
      have my := m1 (cnt + 1) 7919 (by omega)
      clear m1 e1
      simp [mx]
      simp [ix3, my, flD]
      exact ⟨p, rfl⟩
    · obtain ⟨x, p, h1, h2⟩ := h
      rw [h1, h2]
      simp [flD]
      exact ⟨p, rfl⟩
  obtain ⟨d, c', h1, v, p, c, h2, h3⟩ := key
  exact ⟨v, p, c, by rw [← h2, ← h3]; exact h1⟩
theorem w_take {c : D} (h : Cell c) (many : Nat) (h1 : 1 ≤ many) (h2 : many ≤ 1000) : ∃ (v : Nat) (c' : D), v < many ∧ Cell c' ∧ m__law_take c [.int many] = some (.int v, c') := by
  obtain ⟨ns, pos, acc, cnt, rfl⟩ := h
  obtain ⟨v, p, c, hf⟩ := w_fill ns pos acc cnt
  have fm : ∀ a : Int, ∃ r : Nat, a.fmod many = (r : Int) ∧ r < many := fun a => by
    have a1 := Int.fmod_nonneg_of_pos a (show (0 : Int) < many by omega)
    have a2 := Int.fmod_lt_of_pos a (show (0 : Int) < many by omega)
    exact ⟨(a.fmod many).toNat, by omega, by omega⟩
  have m0 : ¬ many = 0 := by omega
  have m1 : many < 1073741824 := by omega
  by_cases hl : acc < many
  · obtain ⟨r, r1, r2⟩ := fm v
    refine ⟨r, cl ns p (v.fdiv many) c, r2, ⟨_, _, _, _, rfl⟩, of_runC (by rfl) ?_⟩
    unfold b__law_take
    unfold cl at hf ⊢
    simp [List.replicate, ix2, hl]
    rw [hf]
    simp [in2, ix2, m0, r1]
    simp [in2, ix2, m0, m1, flD]
  · obtain ⟨r, r1, r2⟩ := fm acc
    refine ⟨r, cl ns pos (acc.fdiv many) cnt, r2, ⟨_, _, _, _, rfl⟩, of_runC (by rfl) ?_⟩
    unfold b__law_take
    unfold cl
    simp [List.replicate, ix2, hl, m0, r1]
    simp [in2, ix2, m0, m1, flD]
theorem w_start {ns : List Int} (h : ns.length ≤ 63) : m__law_start [.scr ns] = some [.lst (ns.map .int), .int 0, .int 0, .int 0, .int 20] := by
  refine of_runN (by rfl) ?_
  unfold b__law_start
  have ht : (ns.map D.int).take 63 = ns.map D.int := List.take_of_length_le (by simpa using h)
  have hl : (ns.map D.int).length = ns.length := by simp
  simp [List.replicate]
  rw [show (63 : Int) = ((63 : Nat) : Int) from rfl, cut_to, ht, hl]
  rw [iP_dis (by rw [sizeLine_v]; omega), lc_all (φ := fun i => .int (gI ns i)), hl]
  · have : (List.range ns.length).map (fun i => D.int (gI ns i)) = ns.map D.int := by
      apply List.ext_getElem?
      intro i
      by_cases hi : i < ns.length
      · rw [gI_get hi, List.getElem?_map, List.getElem?_range hi]; rfl
      · rw [List.getElem?_eq_none (by simp; omega), List.getElem?_eq_none (by simp; omega)]
    rw [this]
    simp (disch := omega) [iP_dis, sizeLine_v]
  · intro i d hd
    obtain ⟨hi, rfl⟩ := ints_inv hd
    simp
theorem lc_filter {g : DG} {tt : DT} {f : DE} {S : List Sl} {cs : Option D} {φ : Nat → Bool} {lo : Int} : ∀ (is : List Nat),
    (∀ i, i ∈ is → wG g (.int (lo + (i : Int))) S (fun S1 => wT tt S1 cs (fun b c => b = φ i ∧ c = cs ∧ wE f S1 cs (fun r c => r = .c (.int (lo + (i : Int))) ∧ c = cs) .mk) .mk) .mk) →
      lcL g tt f (is.map fun (i : Nat) => D.int (lo + (i : Int))) S cs = some ((is.filter φ).map fun (i : Nat) => D.int (lo + (i : Int)), cs)
  | [], _ => rfl
  | i :: r, h => by
    obtain ⟨S1, e1, q⟩ := wG_ex.mp (h i List.mem_cons_self)
    obtain ⟨b, c, e2, hb, hcc, q⟩ := wT_ex.mp q
    obtain ⟨r1, c1, e3, hr, hc1⟩ := wE_ex.mp q
    subst hb hcc hr hc1
    have ih := lc_filter (g := g) (tt := tt) (f := f) (φ := φ) (lo := lo) r fun i hi => h i (List.mem_cons_of_mem _ hi)
    rw [List.map_cons]
    unfold lcL
    cases hφ : φ i with
    | true => simp [e1, e2, hφ, e3, ih]
    | false => simp [e1, e2, hφ, ih]
theorem filter_first {φ : Nat → Bool} {n t0 : Nat} (h : t0 < n) (h1 : φ t0 = true) (h2 : ∀ i, i < t0 → φ i = false) : ∃ r, (List.range n).filter φ = t0 :: r := by
  obtain ⟨k, rfl⟩ := Nat.exists_eq_add_of_lt h
  have e : List.range (t0 + k + 1) = List.range t0 ++ (t0 :: (List.range k).map fun i => t0 + 1 + i) := by
    rw [show t0 + k + 1 = t0 + (k + 1) by omega, List.range_add]
    congr 1
    rw [List.range_succ_eq_map]
    simp
    intro a _
    omega
  rw [e, List.filter_append, List.filter_cons_of_pos h1, List.filter_eq_nil_iff.mpr (fun a ha => by rw [h2 a (List.mem_range.mp ha)]; simp)]
  exact ⟨_, rfl⟩
theorem w_said {a : Bool} : m__law_said [.bl a, .bl a] = some (.bl true) := by
  cases a <;> rfl
end K62

set_option autoImplicit true
set_option relaxedAutoImplicit true
set_option Elab.async false
set_option linter.all false
set_option maxRecDepth 100000
set_option maxHeartbeats 4000000
/-! RG: the law's own fractions -/
namespace K62
open PySem L2 DL
theorem oAbs_nn {a : Int} (h : 0 ≤ a) : oAbs [.int a] = some (.int a) := by
  show some (D.int (if a < 0 then -a else a)) = _
  rw [if_neg (by omega)]
def GI (n : Int) (d : Nat) (i : Nat) (S1 : List Sl) (c1 : Option D) : Prop := ∃ (a : Int) (b : Nat) (x : Sl), S1 = [.val (.int a), .val (.int b), x] ∧ c1 = none ∧ x ≠ .cst ∧ Int.gcd a b = Int.gcd n d ∧ b + i ≤ d ∧ (1 ≤ i → 0 ≤ a) ∧ (b = 0 → 1 ≤ i)
theorem w_lawdiv {n : Int} {d : Nat} (h0 : 0 < d) (hd : d < 19000) : m__law_divisor [.int n, .int d] = some (.int (Int.gcd n d : Nat)) := by
  refine of_runF (by rfl) ?_
  show wS b__law_divisor [.val (.int n), .val (.int d), .no] none _ .mk
  unfold b__law_divisor
  simp (disch := omega) [iP_dis]
  refine for_rng (GI n d) ⟨n, d, .no, rfl, rfl, by simp, rfl, by omega, by omega, by omega⟩ ?_ ?_
  · rintro i S1 c1 hi ⟨a, b, x, rfl, rfl, hx, hg, hb, ha, hb2⟩
    simp [notCst_of hx]
    refine ⟨fun hb0 => ?_, fun hb0 => ?_⟩
    · subst hb0
      have ha := ha (hb2 rfl)
      rw [oAbs_nn ha]
      simp [flD]
      rw [← hg]
      simp; omega
    · rw [if_neg (by omega)]
      have h2 := Int.emod_lt_of_pos a (show (0 : Int) < b by omega)
      have h3 := Int.emod_nonneg a (show (b : Int) ≠ 0 by omega)
      obtain ⟨r, hr⟩ : ∃ r : Nat, a % (b : Int) = r := ⟨(a % (b : Int)).toNat, by omega⟩
      have h1 : a.fmod b = (r : Int) := by rw [Int.fmod_eq_emod_of_nonneg _ (by omega), hr]
      simp [h1]
      refine ⟨b, r, .val (.int i), rfl, rfl, by simp, ?_, by omega, by omega, by omega⟩
      rw [← hg, ← hr, Int.emod_def, show a - (b : Int) * (a / b) = a + (-(a / b)) * b by grind, Int.gcd_add_mul_right_right, Int.gcd_comm]
  · rintro S1 c1 ⟨a, b, x, rfl, rfl, hx, hg, hb, ha, hb2⟩
    omega
theorem mk_gcd {n : Int} {d : Nat} (h0 : 0 < d) : qD (mkRat n d) = .tup [.int (n / (Int.gcd n d : Nat)), .int (d / (Int.gcd n d : Nat))] := by
  have e : Nat.gcd d n.natAbs = Int.gcd n d := by rw [Int.gcd, Nat.gcd_comm]; simp
  unfold qD
  rw [Rat.num_mkRat, Rat.den_mkRat, if_neg (by omega), if_neg (by omega), e, Int.natCast_ediv]
theorem w_frac {n : Int} {d : Nat} (h0 : 0 < d) (hd : d < 19000) : m__law_fraction [.int n, .int d] = some (qD (mkRat n d)) := by
  refine of_runF (by rfl) ?_
  unfold b__law_fraction
  have h1 := gcd_pos (a := n) (b := d) (by omega)
  have h2 := gcd_le (a := n) (b := d) (by omega)
  simp [List.replicate, w_lawdiv h0 hd]
  rw [if_pos ⟨by omega, by omega⟩]
  simp
  rw [if_pos ⟨by omega, by omega⟩]
  simp (disch := omega) [iP_dis, sizeLine_v, flD]
  rw [Int.fdiv_eq_ediv_of_nonneg _ (by omega), Int.fdiv_eq_ediv_of_nonneg _ (by omega), mk_gcd h0]
  exact ⟨fun _ => rfl, fun h => absurd h (by omega)⟩
theorem w_lplus {x y : Rat} (h : x.den * y.den < 19000) : m__law_plus [qD x, qD y] = some (qD (x + y)) := by
  have hx := x.den_pos; have hy := y.den_pos
  have bx : x.den ≤ x.den * y.den := Nat.le_mul_of_pos_right _ hy
  have bY : y.den ≤ x.den * y.den := Nat.le_mul_of_pos_left _ hx
  refine of_runF (by rfl) ?_
  unfold b__law_plus
  simp [List.replicate]
  rw [oMul_i (by omega)]
  simp
  rw [oMul_i (by omega)]
  simp
  rw [oMul_i (by omega)]
  simp
  have := w_frac (n := x.num * y.den + y.num * x.den) (Nat.mul_pos hx hy) h
  simp at this
  rw [this, Rat.add_def']
  simp [flD]
theorem w_ltimesI {x : Rat} {k : Int} (h : x.den < 19000) (hk : -(2 ^ 64) < k ∧ k < 2 ^ 64) : m__law_times [qD x, .tup [.int k, .int 1]] = some (qD (x * k)) := by
  have hx := x.den_pos
  refine of_runF (by rfl) ?_
  unfold b__law_times
  simp [List.replicate]
  rw [oMul_i hk]
  simp
  rw [oMul_i (by omega)]
  simp [w_frac hx h, flD]
  rw [Rat.mul_def']
  simp
theorem w_lless {x y : Rat} (h1 : x.den < 2 ^ 30) (h2 : y.den < 2 ^ 30) : m__law_less [qD x, qD y] = some (.bl (decide (x < y))) := by
  refine of_runF (by rfl) ?_
  unfold b__law_less
  simp [List.replicate]
  rw [oMul_i (by omega)]
  simp
  rw [oMul_i (by omega)]
  simp [flD, Rat.lt_iff]
theorem w_lminus {x y : Rat} (h : x.den * y.den < 19000) : m__law_minus [qD x, qD y] = some (qD (x - y)) := by
  refine of_runF (by rfl) ?_
  unfold b__law_minus
  have e : D.tup [.int (-y.num), .int y.den] = qD (-y) := by simp [qD]
  simp (disch := omega) [List.replicate, iP_dis, sizeLine_v, e]
  rw [w_lplus (by rw [Rat.neg_den]; exact h)]
  simp [flD, Rat.sub_eq_add_neg]
theorem oAbs_d {a : Int} : oAbs [.int a] = some (.int (if a < 0 then -a else a)) := (rfl)
theorem w_lfar {x y : Rat} (h : x.den * y.den < 19000) : m__law_far [qD x, qD y] = some (qD (x - y).abs) := by
  refine of_runF (by rfl) ?_
  unfold b__law_far
  simp (disch := omega) [List.replicate, w_lminus h, oAbs_d, iP_dis, sizeLine_v, flD]
  simp [qD, num_abs, den_abs]
theorem awy_eq {x : Rat} : awy x = if x - (x.floor : Rat) ≤ (x.floor : Rat) + 1 - x then x - (x.floor : Rat) else (x.floor : Rat) + 1 - x := by
  obtain ⟨f1, f2⟩ := floor_b (a := x)
  unfold awy nw
  split
  · rw [Rat.abs_of_nonneg f1]
  · rw [Rat.abs_of_nonpos (by simp; grind)]
    simp; grind
theorem mk_lt {a b : Int} {n : Nat} (hn : 0 < n) : mkRat a n < mkRat b n ↔ a < b := by
  have h : (0 : Rat) < (n : Rat) := Rat.natCast_pos.mpr hn
  have h0 : (n : Rat) ≠ 0 := by intro z; rw [z] at h; exact absurd h (by decide)
  rw [Rat.mkRat_eq_div, Rat.mkRat_eq_div, Rat.div_lt_iff h, Rat.div_mul_cancel h0, Rat.intCast_lt_intCast]
theorem mk_le {a b : Int} {n : Nat} (hn : 0 < n) : mkRat a n ≤ mkRat b n ↔ a ≤ b := by
  rw [← Rat.not_lt, mk_lt hn]; omega
theorem w_laway {x : Rat} (h : x.den < 19000) : m__law_away [qD x] = some (qD (awy x)) := by
  have hx := x.den_pos
  refine of_runF (by rfl) ?_
  unfold b__law_away
  simp [List.replicate]
  rw [if_neg (by omega)]
  simp
  rw [Int.fmod_eq_emod_of_nonneg _ (by omega)]
  have h1 := Int.emod_nonneg x.num (show (x.den : Int) ≠ 0 by omega)
  have h2 := Int.emod_lt_of_pos x.num (show (0 : Int) < x.den by omega)
  have h3 := Int.mul_ediv_add_emod x.num x.den
  rw [← Rat.floor_def] at h3
  obtain ⟨r, hr⟩ : ∃ r : Nat, x.num % (x.den : Int) = r := ⟨(x.num % (x.den : Int)).toNat, by omega⟩
  rw [hr] at h1 h2 h3 ⊢
  have e1 : x - (x.floor : Rat) = mkRat r x.den := by
    have : (x.floor : Rat) = mkRat (x.den * x.floor) x.den := by
      have := Rat.mkRat_mul_left (n := x.floor) (d := 1) (a := x.den) (by omega)
      rw [Nat.mul_one] at this
      rw [this, Rat.mkRat_one]
    conv => lhs; lhs; rw [← Rat.mkRat_self x]
    rw [this, Rat.sub_eq_add_neg, Rat.neg_mkRat, Rat.mkRat_add_mkRat _ _ (by omega) (by omega), ← Int.add_mul, Rat.mkRat_mul_right (by omega)]
    congr 1
    omega
  have e2 : (x.floor : Rat) + 1 - x = mkRat (x.den - r) x.den := by
    have : (1 : Rat) = mkRat x.den x.den := by
      have := Rat.mkRat_mul_left (n := 1) (d := 1) (a := x.den) (by omega)
      simp at this
      rw [this, Rat.mkRat_one]; rfl
    have h5 : (x.floor : Rat) + 1 - x = 1 + -(x - (x.floor : Rat)) := by grind
    rw [h5, e1, this, Rat.neg_mkRat, Rat.mkRat_add_mkRat _ _ (by omega) (by omega), ← Int.add_mul, Rat.mkRat_mul_right (by omega)]
    congr 1
  rw [w_frac hx h, awy_eq, e1, e2]
  have hle := mk_le (a := r) (b := x.den - r) hx
  simp [flD]
  by_cases hc : (r : Int) ≤ x.den - r
  · rw [if_pos (hle.mpr hc), if_neg (by omega)]
  · rw [if_neg (fun z => hc (hle.mp z)), if_pos (by omega)]
end K62

set_option autoImplicit true
set_option relaxedAutoImplicit true
set_option Elab.async false
set_option linter.all false
set_option maxRecDepth 100000
set_option maxHeartbeats 4000000
/-! RH: the judges of near meetings and best fractions -/
namespace K62
open PySem L2 DL
theorem w_ispair {p q : Int} : m_is_pair [pD p q] = some (.bl true) := by
  refine of_runF (by rfl) ?_
  unfold b_is_pair
  simp [List.replicate, isiD, flD]
theorem w_ispair_n : m_is_pair [.non] = some (.bl false) := by
  refine of_runF (by rfl) ?_
  unfold b_is_pair
  simp [List.replicate, isiD, flD]
theorem num_ge {x : Rat} : 0 ≤ x.num ↔ 0 ≤ x := Rat.num_nonneg
theorem num_gt {x : Rat} : 0 < x.num ↔ 0 < x := by
  constructor
  · intro h
    have h1 := num_lt (x := -x)
    rw [Rat.neg_num] at h1
    have := h1.mp (by omega)
    grind
  · exact num_pos
theorem w_areN {a : Rat} {p q r s : Int} (ha : a.den < 2 ^ 14) (hq : 1 ≤ q ∧ q < 2 ^ 30) (hs : 0 ≤ s ∧ s < 2 ^ 30) (u : r * q - p * s = 1) (b0 : 0 ≤ a * q - p) (a0 : 0 < r - a * s) : m_are_neighbours [qD a, pD p q, pD r s] = some (.bl true) := by
  refine of_runF (by rfl) ?_
  unfold b_are_neighbours
  simp (disch := omega) [List.replicate, w_ispair]
  refine ⟨fun h => by omega, fun h => ⟨fun h => by omega, fun h => ?_⟩⟩
  rw [oMul_i (by omega)]
  simp
  rw [oMul_i (by omega)]
  simp [u]
  rw [w_below (by omega) (by omega)]
  simp [num_ge, b0]
  rw [w_above (by omega) (by omega)]
  simp [num_gt, a0, flD]
theorem w_areN_n {a : Rat} : m_are_neighbours [qD a, .non, .non] = some (.bl false) := by
  refine of_runF (by rfl) ?_
  unfold b_are_neighbours
  simp [List.replicate, w_ispair_n, flD]
/-- what a paper's neighbours are -/
def NbOk (a e : Rat) (lo hi : D) (q s : Int) : Prop := ∃ p r : Int, lo = pD p q ∧ hi = pD r s ∧ r * q - p * s = 1 ∧ 1 ≤ q ∧ 0 ≤ s ∧ q + s ≤ 2 ^ 14 ∧ e < a * q - p ∧ e < r - a * s
theorem ok4 {a b c d : D} (h1 : Ok 3 a) (h2 : Ok 3 b) (h3 : Ok 3 c) (h4 : Ok 3 d) : Ok 4 (.tup [a, b, c, d]) := Ok.tups (.cons h1 (.cons h2 (.cons h3 (.cons h4 .nil))))
theorem w_jn_none {a e : Rat} : m_judge_near [qD a, qD e, .non] = some (.bl false) := by
  refine of_runF (by rfl) ?_
  unfold b_judge_near
  simp [List.replicate, isiD, flD]
theorem w_jn_three {a e : Rat} {x y z : D} : m_judge_near [qD a, qD e, .tup [x, y, z]] = some (.bl false) := by
  refine of_runF (by rfl) ?_
  unfold b_judge_near
  simp [List.replicate, isiD, flD]
open Classical in
theorem w_jn {a e : Rat} {m k : Int} {lo hi : D} (ha : a.den < 2 ^ 13) (he : 0 ≤ e) (hd : e.den < 2 ^ 13) (hm : -(2 ^ 40) < m ∧ m < 2 ^ 40) (h : (lo = .non ∧ hi = .non) ∨ ∃ q s, NbOk a e lo hi q s) :
    m_judge_near [qD a, qD e, .tup [.int m, .int k, lo, hi]] = some (.bl (decide (1 ≤ m ∧ (a * m - k).abs ≤ e ∧ ((lo = .non ∧ m = 1) ∨ (m ≠ 1 ∧ ∃ q s, NbOk a e lo hi q s ∧ m ≤ q + s))))) := by
  have q1 : ∀ x : Rat, isiD (qD x) "tuple" = some true := fun x => rfl
  have dm : (a * m).den ≤ a.den := (Dv.mulI a.den_pos Dv.self).le a.den_pos
  refine of_runF (by rfl) ?_
  show wS b_judge_near [.val (qD a), .val (qD e), .val (.tup [.int m, .int k, lo, hi]), .no, .no, .no, .no] none _ .mk
  unfold b_judge_near
  simp [isiD]
  refine ⟨fun h0 => ?_, fun h0 => ?_⟩
  · simp [flD]; omega
  simp (disch := omega) [iP_dis, sizeLine_v, w_timesI (x := a) (k := m) (show a.den < 2 ^ 30 by omega)]
  rw [w_minusI (by omega)]
  simp [w_abs]
  rw [w_most (by rw [den_abs]; have := den_b (a := a) (p := k) (q := m); omega) (by omega)]
  simp
  refine ⟨fun h1 => ?_, fun h1 => ?_⟩
  rotate_left
  · simp [flD, h1]
  have lohi : (lo = .non ∧ hi = .non) ∨ (lo ≠ .non ∧ hi ≠ .non ∧ ∃ q s, NbOk a e lo hi q s) := by
    rcases h with h | ⟨q, s, p, r, rfl, rfl, h⟩
    · exact .inl h
    · exact .inr ⟨by simp, by simp, q, s, p, r, rfl, rfl, h⟩
  rcases lohi with ⟨rfl, rfl⟩ | ⟨n1, n2, q, s, N⟩
  · have no : ¬ ∃ q s, NbOk a e .non .non q s ∧ m ≤ q + s := by
      rintro ⟨q, s, ⟨p, r, z, _⟩, _⟩
      cases z
    refine ⟨fun h2 => ?_, fun h2 => ?_⟩
    · subst h2
      simp [flD]
      simpa using h1
    · simp [w_areN_n, flD, h2, no]
  · have isn : ∀ d : D, d ≠ .non → isNonD d = false := fun d hd => by cases d <;> first | rfl | exact absurd rfl hd
    refine ⟨fun h2 => ?_, fun h2 => ?_⟩
    · subst h2
      simp [isn _ n1, flD, n1]
    · obtain ⟨p, r, rfl, rfl, u, hq, hs, hl, b0, a0⟩ := N
      rw [w_areN (by omega) (by omega) (by omega) u (by grind) (by grind)]
      simp
      have db := den_b (a := a) (p := p) (q := q)
      have da := den_a (a := a) (p := r) (q := s)
      refine ⟨fun h3 => ?_, fun h3 => ?_⟩
      · simp [flD, h2]
        intro _ _ q' s' N'
        obtain ⟨p', r', e1, e2, _⟩ := N'
        simp [pD] at e1 e2
        omega
      · rw [w_below (by omega) (by omega)]
        simp
        rw [w_less (by omega) (by omega)]
        simp [b0]
        rw [w_above (by omega) (by omega)]
        simp
        rw [w_less (by omega) (by omega)]
        simp [a0, flD, h2]
        exact ⟨by omega, h1, q, s, ⟨p, r, rfl, rfl, u, hq, hs, hl, b0, a0⟩, h3⟩
end K62

set_option autoImplicit true
set_option relaxedAutoImplicit true
set_option Elab.async false
set_option linter.all false
set_option maxRecDepth 100000
set_option maxHeartbeats 4000000
/-! RI: best fractions -/
namespace K62
open PySem L2 DL
/-- a fraction's value -/
def fr (p q : Int) : Rat := Rat.divInt p q
theorem fr_mul {p q : Int} (hq : 1 ≤ q) : fr p q * q = p := by
  unfold fr
  have h0 : (q : Rat) ≠ 0 := by rw [ne_eq, Rat.intCast_eq_zero_iff]; omega
  rw [Rat.divInt_eq_div, Rat.div_mul_cancel h0]
theorem pos_q {q : Int} (hq : 1 ≤ q) : (0 : Rat) < q := Rat.intCast_pos.mpr (by omega)
theorem fr_lt {x : Rat} {p q : Int} (hq : 1 ≤ q) : x < fr p q ↔ x * q < p := by
  rw [← fr_mul (p := p) hq, Rat.mul_lt_mul_right (pos_q hq)]
theorem lt_fr {x : Rat} {p q : Int} (hq : 1 ≤ q) : fr p q < x ↔ (p : Rat) < x * q := by
  rw [← fr_mul (p := p) hq, Rat.mul_lt_mul_right (pos_q hq)]
theorem fr_le_fr {p q r s : Int} (hq : 1 ≤ q) (hs : 1 ≤ s) : fr p q ≤ fr r s ↔ p * s ≤ r * q := by
  have h1 : fr r s < fr p q ↔ r * q < p * s := by
    rw [fr_lt hq]
    have : fr r s * q * s = (r * q : Int) := by
      have := fr_mul (p := r) hs
      rw [Rat.intCast_mul, ← this]; grind
    rw [← Rat.mul_lt_mul_right (pos_q hs), this, ← Rat.intCast_mul, Rat.intCast_lt_intCast]
  rw [← Rat.not_lt, h1]; omega
theorem gcd_of_u {p q r s : Int} (u : r * q - p * s = 1) : Int.gcd p q = 1 ∧ Int.gcd r s = 1 := by
  constructor
  · have h1 : ((Int.gcd p q : Nat) : Int) ∣ p := Int.gcd_dvd_left ..
    have h2 : ((Int.gcd p q : Nat) : Int) ∣ q := Int.gcd_dvd_right ..
    have h3 : ((Int.gcd p q : Nat) : Int) ∣ 1 := by
      rw [← u]; exact Int.dvd_sub (Int.dvd_mul_of_dvd_right h2) (Int.dvd_mul_of_dvd_left h1)
    have := Int.le_of_dvd (by omega) h3
    have h4 : Int.gcd p q ≠ 0 := fun z => by rw [z] at h3; simp at h3
    omega
  · have h1 : ((Int.gcd r s : Nat) : Int) ∣ r := Int.gcd_dvd_left ..
    have h2 : ((Int.gcd r s : Nat) : Int) ∣ s := Int.gcd_dvd_right ..
    have h3 : ((Int.gcd r s : Nat) : Int) ∣ 1 := by
      rw [← u]; exact Int.dvd_sub (Int.dvd_mul_of_dvd_left h1) (Int.dvd_mul_of_dvd_right h2)
    have := Int.le_of_dvd (by omega) h3
    have h4 : Int.gcd r s ≠ 0 := fun z => by rw [z] at h3; simp at h3
    omega
theorem q_fr {p q : Int} (hq : 1 ≤ q) (g : Int.gcd p q = 1) : qD (fr p q) = pD p q := by
  have e : fr p q = mkRat p q.toNat := by
    unfold fr
    rw [← divInt_mk]
    congr 1
    omega
  rw [e, mk_gcd (by omega), show ((q.toNat : Nat) : Int) = q by omega, g]
  simp
theorem low_lat {a : Rat} {n p q r s x y : Int} (N : NB a n p q r s) (hn : n < q + s) (hy : 1 ≤ y) (hy2 : y ≤ n) (hx : (x : Rat) ≤ a * y) : x * q ≤ p * y := by
  have h1 := N.q1; have s0 := N.s0; have u := N.u; have a0 := N.a0
  by_cases hb : 1 ≤ x * q - y * p
  · exfalso
    obtain ⟨α, hα⟩ : ∃ α, α = y * r - x * s := ⟨_, rfl⟩
    obtain ⟨β, hβ⟩ : ∃ β, β = x * q - y * p := ⟨_, rfl⟩
    have e1 : y = α * q + β * s := by rw [hα, hβ]; grind
    have pa : 0 < ((α : Int) : Rat) := by
      have t1 := Rat.mul_pos a0 (pos_q hy)
      have t2 := Rat.mul_nonneg (show 0 ≤ a * y - x by grind) (Rat.intCast_nonneg.mpr s0)
      rw [hα]; simp; grind
    have hα1 : 1 ≤ α := by have := Rat.intCast_pos.mp pa; omega
    have m1 := Int.mul_nonneg (show 0 ≤ α - 1 by omega) (show 0 ≤ q by omega)
    have m2 := Int.mul_nonneg (show 0 ≤ β - 1 by omega) s0
    grind
  · grind
theorem high_lat {a : Rat} {n p q r s x y : Int} (N : NB a n p q r s) (hn : n < q + s) (hs : 1 ≤ s) (hy : 1 ≤ y) (hy2 : y ≤ n) (hx : a * y < (x : Rat)) : r * y ≤ x * s := by
  have h1 := N.q1; have s0 := N.s0; have u := N.u; have b0 := N.b0
  by_cases hb : 1 ≤ y * r - x * s
  · exfalso
    obtain ⟨α, hα⟩ : ∃ α, α = y * r - x * s := ⟨_, rfl⟩
    obtain ⟨β, hβ⟩ : ∃ β, β = x * q - y * p := ⟨_, rfl⟩
    have e1 : y = α * q + β * s := by rw [hα, hβ]; grind
    have pb : 0 < ((β : Int) : Rat) := by
      have t1 := Rat.mul_pos (show 0 < x - a * y by grind) (pos_q h1)
      have t2 := Rat.mul_nonneg b0 (Rat.le_of_lt (pos_q hy))
      rw [hβ]; simp; grind
    have hβ1 : 1 ≤ β := by have := Rat.intCast_pos.mp pb; omega
    have m1 := Int.mul_nonneg (show 0 ≤ α - 1 by omega) (show 0 ≤ q by omega)
    have m2 := Int.mul_nonneg (show 0 ≤ β - 1 by omega) s0
    grind
  · grind
/-- the nearer one of two neighbours -/
def NrP (a : Rat) (p q r s : Int) : Prop := a - fr p q < fr r s - a ∨ (¬ fr r s - a < a - fr p q ∧ q ≤ s)
theorem den_fr {p q : Int} (hq : 1 ≤ q) : ((fr p q).den : Int) ≤ q := by
  unfold fr
  rw [Rat.den_divInt, if_neg (by omega)]
  have := Nat.div_le_self q.natAbs (Int.gcd q p)
  omega
open Classical in
theorem w_nearer {a : Rat} {p q r s : Int} (ha : a.den < 2 ^ 12) (hq : 1 ≤ q ∧ q < 2 ^ 12) (hs : 1 ≤ s ∧ s < 2 ^ 12) : m_nearer [qD a, pD p q, pD r s] = some (if NrP a p q r s then pD p q else pD r s) := by
  have d1 := den_fr (p := p) hq.1
  have d2 := den_fr (p := r) hs.1
  have b1 : a.den * (fr p q).den < 2 ^ 30 := Nat.lt_of_le_of_lt (Nat.mul_le_mul (show a.den ≤ 2 ^ 12 by omega) (show (fr p q).den ≤ 2 ^ 12 by omega)) (by omega)
  have b2 : (fr r s).den * a.den < 2 ^ 30 := Nat.lt_of_le_of_lt (Nat.mul_le_mul (show (fr r s).den ≤ 2 ^ 12 by omega) (show a.den ≤ 2 ^ 12 by omega)) (by omega)
  have c1 : (a - fr p q).den ≤ a.den * (fr p q).den := by
    have pz := Nat.mul_pos a.den_pos (fr p q).den_pos
    exact (Dv.sub pz (Nat.dvd_mul_right _ _) (Nat.dvd_mul_left _ _)).le pz
  have c2 : (fr r s - a).den ≤ (fr r s).den * a.den := by
    have pz := Nat.mul_pos (fr r s).den_pos a.den_pos
    exact (Dv.sub pz (Nat.dvd_mul_right _ _) (Nat.dvd_mul_left _ _)).le pz
  refine of_runF (by rfl) ?_
  unfold b_nearer
  simp [List.replicate]
  refine ⟨fun h => by omega, fun _ => ?_⟩
  rw [w_ratio (by omega) (by omega)]
  simp
  rw [show Rat.divInt p q = fr p q from rfl, w_minus b1]
  simp
  rw [w_ratio (by omega) (by omega)]
  simp
  rw [show Rat.divInt r s = fr r s from rfl, w_minus b2]
  simp
  rw [w_less (by omega) (by omega)]
  simp
  refine ⟨fun h => ?_, fun h => ?_⟩
  · rw [if_pos (.inl h)]; simp [flD]
  rw [w_less (by omega) (by omega)]
  simp
  refine ⟨fun h2 => ?_, fun h2 => ?_⟩
  · rw [if_neg (fun z => by rcases z with z | z; exact h z; exact z.1 h2)]; simp [flD]
  refine ⟨fun h3 => ?_, fun h3 => ?_⟩
  · rw [if_neg (fun z => by rcases z with z | z; exact h z; omega)]; simp [flD]
  · rw [if_pos (.inr ⟨h2, by omega⟩)]; simp [flD]
theorem oAddT_2 {a b c d : D} : oAdd (.tup [a, b]) (.tup [c, d]) = some (.tup [a, b, c, d]) := by
  show orD oAddI (orD oAddS (orD oAddT oAddL)) _ _ = _
  simp [orD, oInt, oAddS, oAddT, sizeLine_v]
open Classical in
theorem w_best {a : Rat} {n : Int} (ha : a.den < 2 ^ 12) (h1 : 1 ≤ n) (hn : n ≤ 1000) {p q r s : Int} (hN : m_neighbours [qD a, .int n] = some (.tup [pD p q, pD r s])) (N : NB a n p q r s) (hs : 1 ≤ s) :
    m_best_paper [qD a, .int n] = some (if NrP a p q r s then .tup [.int p, .int q, pD p q, pD r s] else .tup [.int r, .int s, pD p q, pD r s]) := by
  have q1 := N.q1; have qn := N.qn; have sn := N.sn
  refine of_runF (by rfl) ?_
  unfold b_best_paper
  simp (disch := omega) [List.replicate, hN, iP_dis]
  rw [w_nearer ha (by omega) (by omega)]
  simp (disch := omega) [iP_dis, sizeLine_v]
  by_cases h : NrP a p q r s
  · simp [h, oAddT_2, flD]
  · simp [h, oAddT_2, flD]
theorem cut2 {a b c d : D} : cutD [a, b, c, d] none (some 2) = [a, b] := (rfl)
theorem cut2f {a b c d : D} : cutD [a, b, c, d] (some 2) none = [c, d] := (rfl)
theorem cut1f {a b c d : D} : cutD [a, b, c, d] (some 1) none = [b, c, d] := (rfl)
theorem cut3 {a b c d : D} : cutD [a, b, c, d] none (some 3) = [a, b, c] := (rfl)
theorem eq_pD {p q r s : Int} : oEq (pD p q) (pD r s) = some (.bl (decide (p = r ∧ q = s))) :=
  oEq_iff (Ok.tup (k := 63) (by simp; exact ⟨Ok.int, Ok.int⟩)) (Ok.tup (k := 63) (by simp; exact ⟨Ok.int, Ok.int⟩)) (by simp) (by simp) (by simp)
theorem ne_pD {p q r s : Int} : oNe (pD p q) (pD r s) = some (.bl (decide (¬ (p = r ∧ q = s)))) :=
  oNe_iff (Ok.tup (k := 63) (by simp; exact ⟨Ok.int, Ok.int⟩)) (Ok.tup (k := 63) (by simp; exact ⟨Ok.int, Ok.int⟩)) (by simp) (by simp) (by simp; grind)
open Classical in
theorem w_jbest {a : Rat} {n x y : Int} (ha : a.den < 2 ^ 12) (hn : n ≤ 1000) {p q r s : Int} (N : NB a n p q r s) (hs : 1 ≤ s) (hl : n < q + s) :
    m_judge_best_fraction [qD a, .int n, .tup [.int x, .int y, pD p q, pD r s]] = some (.bl (decide ((x, y) = if NrP a p q r s then (p, q) else (r, s)))) := by
  have q1 := N.q1; have qn := N.qn; have sn := N.sn
  refine of_runF (by rfl) ?_
  unfold b_judge_best_fraction
  simp (disch := omega) [List.replicate, isiD, cut2, cut2f, w_ispair, iP_dis]
  rw [w_areN (by omega) (by omega) (by omega) N.u N.b0 N.a0]
  simp
  refine ⟨fun h => by omega, fun _ => ⟨fun h => by omega, fun _ => ⟨fun h => by omega, fun _ => ?_⟩⟩⟩
  rw [cut2, w_nearer ha (by omega) (by omega)]
  simp
  by_cases h : NrP a p q r s
  · simp [h, eq_pD, flD]
  · simp [h, eq_pD, flD]
end K62

set_option autoImplicit true
set_option relaxedAutoImplicit true
set_option Elab.async false
set_option linter.all false
set_option maxRecDepth 100000
set_option maxHeartbeats 4000000
/-! RJ: the law's neighbours and best fraction -/
namespace K62
open PySem L2 DL
theorem num_eq {a : Rat} : a * ((a.den : Int) : Rat) = a.num := by
  have hd := a.den_pos
  have h2 : a = (a.num : Rat) / ((a.den : Nat) : Rat) := by
    have := (Rat.mkRat_self a).symm
    rw [Rat.mkRat_eq_div] at this
    exact this
  have h3 : ((a.den : Nat) : Rat) ≠ 0 := by rw [ne_eq, Rat.natCast_eq_zero_iff]; omega
  have h5 : ((a.den : Int) : Rat) = ((a.den : Nat) : Rat) := rfl
  rw [h5]
  conv => lhs; lhs; rw [h2]
  exact Rat.div_mul_cancel h3
theorem le_mul_iff {a : Rat} {m q : Int} : (m : Rat) ≤ a * q ↔ m * a.den ≤ a.num * q := by
  have hd : (0 : Rat) < ((a.den : Int) : Rat) := Rat.intCast_pos.mpr (by have := a.den_pos; omega)
  rw [← Rat.intCast_le_intCast, Rat.intCast_mul, Rat.intCast_mul, ← num_eq]
  constructor
  · intro h
    have := Rat.mul_le_mul_of_nonneg_right h (Rat.le_of_lt hd)
    grind
  · intro h
    refine Rat.le_of_mul_le_mul_right (c := ((a.den : Int) : Rat)) ?_ hd
    grind
theorem lt_mul_iff {a : Rat} {m q : Int} : a * q < (m : Rat) ↔ a.num * q < m * a.den := by
  rw [← Rat.not_le, le_mul_iff]; omega
theorem floor_mul {a : Rat} {q : Int} : (a.num * q).fdiv a.den = (a * q).floor := by
  have hd := a.den_pos
  rw [Int.fdiv_eq_ediv_of_nonneg _ (by omega)]
  have h1 : (a.num * q) / a.den ≤ (a * q).floor := by
    rw [Rat.le_floor_iff, le_mul_iff]
    exact Int.ediv_mul_le _ (by omega)
  have h2 : (a * q).floor ≤ (a.num * q) / a.den := by
    rw [Int.le_ediv_iff_mul_le (by omega), ← le_mul_iff]
    exact Rat.floor_le _
  omega
def fl (a : Rat) (k : Int) : Int := (a * k).floor
theorem fl_le {a : Rat} {k : Int} : ((fl a k : Int) : Rat) ≤ a * k := Rat.floor_le _
theorem lt_fl {a : Rat} {k : Int} : a * k < ((fl a k + 1 : Int) : Rat) := Rat.lt_floor_add_one _
theorem le_fl {a : Rat} {k m : Int} (h : (m : Rat) ≤ a * k) : m ≤ fl a k := Rat.le_floor_iff.mpr h
theorem fl_lt {a : Rat} {k m : Int} (h : a * k < (m : Rat)) : fl a k + 1 ≤ m := by
  have : ((fl a k : Int) : Rat) < m := by have := fl_le (a := a) (k := k); grind
  have := Rat.intCast_lt_intCast.mp this
  omega
def AI (a : Rat) (n : Int) (i : Nat) (S1 : List Sl) (c1 : Option D) : Prop := ∃ (lp lq hp hq : Int) (x y : Sl), S1 = [.val (qD a), .val (.int n), .val (pD lp lq), .val (pD hp hq), x, y] ∧ c1 = none ∧ x ≠ .cst ∧ y ≠ .cst ∧
  1 ≤ lq ∧ lq ≤ n ∧ (lp : Rat) ≤ a * lq ∧ (∀ k : Int, 1 ≤ k → k ≤ i → fl a k * lq ≤ lp * k) ∧ (i = 0 → hq = 0 ∧ hp = 1) ∧ (1 ≤ i → 1 ≤ hq ∧ hq ≤ n ∧ a * hq < (hp : Rat) ∧ ∀ k : Int, 1 ≤ k → k ≤ i → hp * k ≤ (fl a k + 1) * hq)
theorem w_around {a : Rat} {n p q r s : Int} (ha : a.den < 2 ^ 12) (h1 : 1 ≤ n) (hn : n ≤ 1000) (N : NB a n p q r s) (hs : 1 ≤ s) (hl : n < q + s) : m__law_around [qD a, .int n] = some (.lst [pD p q, pD r s]) := by
  have q1 := N.q1; have qn := N.qn; have sn := N.sn
  have hd := a.den_pos
  refine of_runF (by rfl) ?_
  show wS b__law_around [.val (qD a), .val (.int n), .no, .no, .no, .no] none _ .mk
  unfold b__law_around
  refine seq_mid (fun S1 c1 => S1 = [.val (qD a), .val (.int n), .val (pD a.floor 1), .val (pD 1 0), .no, .no] ∧ c1 = none) ?_ ?_
  · simp
    rw [if_pos ⟨by omega, by omega⟩]
    simp (disch := omega) [iP_dis, sizeLine_v, Rat.floor_def, Int.fdiv_eq_ediv_of_nonneg]
  rintro _ _ ⟨rfl, rfl⟩
  refine seq_mid (AI a n n.toNat) ?_ ?_
  · simp (disch := omega) [iP_dis]
    refine for_rng (AI a n) ⟨a.floor, 1, 1, 0, .no, .no, rfl, rfl, by simp, by simp, by omega, by omega, by simp; exact Rat.floor_le a, fun k k1 k2 => by omega, fun _ => ⟨rfl, rfl⟩, fun h => by omega⟩ ?_ (fun S cs h => ⟨rfl, h⟩)
    rintro i S1 c1 hi ⟨lp, lq, hp, hq, x, y, rfl, rfl, hx, hy, l1, l2, l3, l4, l5, l6⟩
    obtain ⟨k0, hk0⟩ : ∃ k0 : Int, k0 = 1 + (i : Int) := ⟨_, rfl⟩
    rw [← hk0]
    simp [notCst_of hx]
    rw [oMul_i (by omega)]
    simp
    rw [if_pos ⟨by omega, by omega⟩]
    simp [notCst_of hy]
    rw [floor_mul]
    show _
    rw [show (a * (k0 : Rat)).floor = fl a k0 from rfl]
    obtain ⟨f, hf⟩ : ∃ f, f = fl a k0 := ⟨_, rfl⟩
    have hf1 := fl_le (a := a) (k := k0)
    have hf2 := lt_fl (a := a) (k := k0)
    rw [← hf] at hf1 hf2 ⊢
    rw [oMul_i (by omega)]
    simp
    rw [oMul_i (by omega)]
    simp
    -- the low one
    have low : ∃ lp' lq' : Int, (lp * k0 < f * lq → lp' = f ∧ lq' = k0) ∧ (f * lq ≤ lp * k0 → lp' = lp ∧ lq' = lq) ∧ 1 ≤ lq' ∧ lq' ≤ n ∧ (lp' : Rat) ≤ a * lq' ∧ ∀ k : Int, 1 ≤ k → k ≤ ((i + 1 : Nat) : Int) → fl a k * lq' ≤ lp' * k := by
      by_cases hc : lp * k0 < f * lq
      · refine ⟨f, k0, fun _ => ⟨rfl, rfl⟩, fun h => by omega, by omega, by omega, hf1, fun k k1 k2 => ?_⟩
        by_cases hk : k ≤ i
        · have := l4 k k1 hk
          have e1 := Int.mul_le_mul_of_nonneg_right this (show 0 ≤ k0 by omega)
          have e2 := Int.mul_le_mul_of_nonneg_right (Int.le_of_lt hc) (show 0 ≤ k by omega)
          refine Int.le_of_mul_le_mul_right (a := lq) ?_ (by omega)
          grind
        · have : k = k0 := by omega
          subst this
          rw [← hf]; exact Int.le_refl _
      · refine ⟨lp, lq, fun h => absurd h hc, fun _ => ⟨rfl, rfl⟩, l1, l2, l3, fun k k1 k2 => ?_⟩
        by_cases hk : k ≤ i
        · exact l4 k k1 hk
        · have : k = k0 := by omega
          subst this
          rw [← hf]; omega
    obtain ⟨lp', lq', t1, t2, l1', l2', l3', l4'⟩ := low
    have high : ∃ hp' hq' : Int, (((f + 1) * hq < hp * k0 ∨ hq = 0) → hp' = f + 1 ∧ hq' = k0) ∧ (¬ ((f + 1) * hq < hp * k0 ∨ hq = 0) → hp' = hp ∧ hq' = hq) ∧ 1 ≤ hq' ∧ hq' ≤ n ∧ a * hq' < (hp' : Rat) ∧ ∀ k : Int, 1 ≤ k → k ≤ ((i + 1 : Nat) : Int) → hp' * k ≤ (fl a k + 1) * hq' := by
      by_cases hc : (f + 1) * hq < hp * k0 ∨ hq = 0
      · refine ⟨f + 1, k0, fun _ => ⟨rfl, rfl⟩, fun h => absurd hc h, by omega, by omega, hf2, fun k k1 k2 => ?_⟩
        by_cases hk : k ≤ i
        · obtain ⟨g1, g2, g3, g4⟩ := l6 (by omega)
          have g5 := g4 k k1 hk
          rcases hc with hc | hc
          · have e1 := Int.mul_le_mul_of_nonneg_right g5 (show 0 ≤ k0 by omega)
            have e2 := Int.mul_le_mul_of_nonneg_right (Int.le_of_lt hc) (show 0 ≤ k by omega)
            refine Int.le_of_mul_le_mul_right (a := hq) ?_ (by omega)
            grind
          · omega
        · have : k = k0 := by omega
          subst this
          rw [← hf]; exact Int.le_refl _
      · have hi1 : 1 ≤ i := by
          by_cases h : i = 0
          · exact absurd (.inr (l5 h).1) hc
          · omega
        obtain ⟨g1, g2, g3, g4⟩ := l6 hi1
        refine ⟨hp, hq, fun h => absurd h hc, fun _ => ⟨rfl, rfl⟩, g1, g2, g3, fun k k1 k2 => ?_⟩
        by_cases hk : k ≤ i
        · exact g4 k k1 hk
        · have : k = k0 := by omega
          subst this
          rw [← hf]; omega
    obtain ⟨hp', hq', u1, u2, m1', m2', m3', m4'⟩ := high
    have hqb : -(2 ^ 64) < hq ∧ hq < 2 ^ 64 := by
      by_cases h : i = 0
      · have := (l5 h).1; omega
      · obtain ⟨g1, g2, _⟩ := l6 (by omega); omega
    have fin : ∀ x y : Sl, x ≠ .cst → y ≠ .cst → AI a n (i + 1) [.val (qD a), .val (.int n), .val (pD lp' lq'), .val (pD hp' hq'), x, y] none := fun x y hx hy =>
      ⟨lp', lq', hp', hq', x, y, rfl, rfl, hx, hy, l1', l2', l3', l4', fun h => by omega, fun _ => ⟨m1', m2', m3', m4'⟩⟩
    have upper : ∀ {lp' lq' : Int} {Q : Prop}, True := fun {_ _ _} => trivial
    refine ⟨fun hc => ?_, fun hc => ?_⟩
    · obtain ⟨rfl, rfl⟩ := t1 hc
      simp (disch := omega) [iP_dis, sizeLine_v]
      rw [oMul_i hqb]
      simp
      rw [oMul_i (by omega)]
      simp
      refine ⟨fun h => ?_, fun h => ⟨fun h2 => ?_, fun h2 => ?_⟩⟩
      · obtain ⟨rfl, rfl⟩ := u1 (.inl h)
        simp (disch := omega) [iP_dis, sizeLine_v]
        exact fin _ _ (by simp) (by simp)
      · obtain ⟨rfl, rfl⟩ := u1 (.inr h2)
        simp (disch := omega) [iP_dis, sizeLine_v]
        exact fin _ _ (by simp) (by simp)
      · obtain ⟨rfl, rfl⟩ := u2 (fun z => by rcases z with z | z; omega; exact h2 z)
        exact fin _ _ (by simp) (by simp)
    · obtain ⟨rfl, rfl⟩ := t2 (by omega)
      rw [oMul_i hqb]
      simp
      rw [oMul_i (by omega)]
      simp
      refine ⟨fun h => ?_, fun h => ⟨fun h2 => ?_, fun h2 => ?_⟩⟩
      · obtain ⟨rfl, rfl⟩ := u1 (.inl h)
        simp (disch := omega) [iP_dis, sizeLine_v]
        exact fin _ _ (by simp) (by simp)
      · obtain ⟨rfl, rfl⟩ := u1 (.inr h2)
        simp (disch := omega) [iP_dis, sizeLine_v]
        exact fin _ _ (by simp) (by simp)
      · obtain ⟨rfl, rfl⟩ := u2 (fun z => by rcases z with z | z; omega; exact h2 z)
        exact fin _ _ (by simp) (by simp)
  · rintro S1 c1 ⟨lp, lq, hp, hq, x, y, rfl, rfl, hx, hy, l1, l2, l3, l4, l5, l6⟩
    obtain ⟨g1, g2, g3, g4⟩ := l6 (by omega)
    obtain ⟨gg1, gg2⟩ := gcd_of_u N.u
    have e1 : fr lp lq = fr p q := by
      have a1 : fr lp lq ≤ fr p q := (fr_le_fr l1 q1).mpr (low_lat N hl l1 l2 l3)
      have a2 : fr p q ≤ fr lp lq := (fr_le_fr q1 l1).mpr (by
        have b1 : p ≤ fl a q := le_fl (by have := N.b0; grind)
        have b2 := l4 q q1 (by omega)
        have b3 := Int.mul_le_mul_of_nonneg_right b1 (show 0 ≤ lq by omega)
        omega)
      exact Rat.le_antisymm a1 a2
    have e2 : fr hp hq = fr r s := by
      have a1 : fr r s ≤ fr hp hq := (fr_le_fr hs g1).mpr (high_lat N hl hs g1 g2 g3)
      have a2 : fr hp hq ≤ fr r s := (fr_le_fr g1 hs).mpr (by
        have b1 : fl a s + 1 ≤ r := fl_lt (by have := N.a0; grind)
        have b2 := g4 s hs (by omega)
        have b3 := Int.mul_le_mul_of_nonneg_right b1 (show 0 ≤ hq by omega)
        omega)
      exact Rat.le_antisymm a2 a1
    have w1 : ∀ x y : Int, 1 ≤ y → y ≤ n → m__law_fraction [.int x, .int y] = some (qD (fr x y)) := fun x y h1 h2 => by
      have := w_frac (n := x) (d := y.toNat) (by omega) (by omega)
      rw [show ((y.toNat : Nat) : Int) = y by omega] at this
      rw [this, ← divInt_mk, show ((y.toNat : Nat) : Int) = y by omega]
      rfl
    simp [w1 lp lq l1 l2, w1 hp hq g1 g2]
    simp (disch := omega) [iP_dis, sizeLine_v, flD, e1, e2, q_fr q1 gg1, q_fr hs gg2]
end K62

set_option autoImplicit true
set_option relaxedAutoImplicit true
set_option Elab.async false
set_option linter.all false
set_option maxRecDepth 100000
set_option maxHeartbeats 4000000
/-! RK: the law's best fraction -/
namespace K62
open PySem L2 DL
/-- c is better than x -/
def btr (a c x : Rat) : Prop := (a - c).abs < (a - x).abs ∨ ((a - c).abs = (a - x).abs ∧ (c.den < x.den ∨ (c.den = x.den ∧ c.num < x.num)))
theorem btr_trans {a x y z : Rat} (h : btr a x y) (g : btr a y z) : btr a x z := by
  unfold btr at *
  rcases h with h | ⟨h1, h2⟩
  · rcases g with g | ⟨g1, g2⟩
    · left; grind
    · left; grind
  · rcases g with g | ⟨g1, g2⟩
    · left; grind
    · right
      refine ⟨h1.trans g1, ?_⟩
      rcases h2 with h2 | h2 <;> rcases g2 with g2 | g2 <;> first | (left; omega) | (right; omega)
theorem btr_irr {a x : Rat} (h : btr a x x) : False := by
  unfold btr at h
  rcases h with h | ⟨_, h⟩
  · exact Rat.lt_irrefl h
  · omega
/-- the best one so far -/
def BS (a : Rat) (C : Rat → Prop) (d : D) : Prop := (d = .non ∧ ∀ x, ¬ C x) ∨ ∃ x, d = .tup [qD (a - x).abs, qD x] ∧ C x ∧ ∀ c, C c → ¬ btr a c x
theorem BS.step {a y : Rat} {C : Rat → Prop} {x : Rat} (h : C x ∧ ∀ c, C c → ¬ btr a c x) : (btr a y x → BS a (fun c => C c ∨ c = y) (.tup [qD (a - y).abs, qD y])) ∧ (¬ btr a y x → BS a (fun c => C c ∨ c = y) (.tup [qD (a - x).abs, qD x])) := by
  obtain ⟨h1, h2⟩ := h
  refine ⟨fun hb => .inr ⟨y, rfl, .inr rfl, fun c hc hcb => ?_⟩, fun hb => .inr ⟨x, rfl, .inl h1, fun c hc hcb => ?_⟩⟩
  · rcases hc with hc | hc
    · exact h2 c hc (btr_trans hcb hb)
    · subst hc; exact btr_irr hcb
  · rcases hc with hc | hc
    · exact h2 c hc hcb
    · subst hc; exact hb hcb
/-- the state at the law's search -/
def SB (a : Rat) (s2 s3 s4 s5 s6 s7 s8 s9 s10 s11 s12 s13 s14 : Sl) (d : D) (b : Sl) (s17 s18 s19 : Sl) : List Sl := [.cst, .val (qD a), s2, s3, s4, s5, s6, s7, s8, s9, s10, s11, s12, s13, s14, .val d, b, s17, s18, s19, .no]
abbrev bodyB : DS := (dsSeq (dsAsg (dCall m__law_fraction (dCons (dVar 17) (dCons (dVar 16) dNil))) (gdN 18))
  (dsSeq (dsAsg (dCall m__law_far (dCons (dVar 1) (dCons (dVar 18) dNil))) (gdN 19))
  (dsIf (dOr (dTst (dOp oIsA (dVar 15) (dC .non))) (dOr (dTru (dCall m__law_less (dCons (dVar 19) (dCons (dIx (dVar 15) (dC (.int 0))) dNil)))) (dAnd (dTst (dOp oEq (dVar 19) (dIx (dVar 15) (dC (.int 0))))) (dTst (dOp oLtA (dTup (dCons (dIx (dVar 18) (dC (.int 1))) (dCons (dIx (dVar 18) (dC (.int 0))) dNil))) (dTup (dCons (dIx (dIx (dVar 15) (dC (.int 1))) (dC (.int 1))) (dCons (dIx (dIx (dVar 15) (dC (.int 1))) (dC (.int 0))) dNil)))))))) (dsAsg (dTup (dCons (dVar 19) (dCons (dVar 18) dNil))) (gdN 15)) dsNil)))
def BE (a : Rat) (s2 s3 s4 s5 s6 s7 s8 s9 s10 s11 s12 s13 s14 : Sl) (b : Sl) (C : Rat → Prop) (cs : Option D) (S1 : List Sl) (c1 : Option D) : Prop := ∃ (d : D) (s17 s18 s19 : Sl), s17 ≠ .cst ∧ s18 ≠ .cst ∧ s19 ≠ .cst ∧ S1 = SB a s2 s3 s4 s5 s6 s7 s8 s9 s10 s11 s12 s13 s14 d b s17 s18 s19 ∧ c1 = cs ∧ BS a C d
theorem ltT {a b c d : Int} : oLtA (.tup [.int a, .int b]) (.tup [.int c, .int d]) = some (.bl (decide (a < c ∨ (a = c ∧ b < d)))) := by
  show orD oLt oLtT _ _ = _
  simp only [orD, oLtT, intsD, oLt, oInt]
  simp only [HT.lexLt]
  congr 2
  by_cases h : a = c
  · subst h
    by_cases h2 : b = d
    · subst h2; simp
    · simp [h2]
  · simp [h]
theorem w_bodyB {a : Rat} {s2 s3 s4 s5 s6 s7 s8 s9 s10 s11 s12 s13 s14 s18 s19 : Sl} {d : D} {t b : Int} {C : Rat → Prop} {cs : Option D} (ha : a.den ≤ 30) (hb : 1 ≤ b ∧ b ≤ 30) (h18 : s18 ≠ .cst) (h19 : s19 ≠ .cst) (h : BS a C d) (hC : ∀ x, C x → x.den ≤ 30) :
    wS bodyB (SB a s2 s3 s4 s5 s6 s7 s8 s9 s10 s11 s12 s13 s14 d (.val (.int b)) (.val (.int t)) s18 s19) cs (fun fl S1 c1 => fl = .nx ∧ BE a s2 s3 s4 s5 s6 s7 s8 s9 s10 s11 s12 s13 s14 (.val (.int b)) (fun c => C c ∨ c = fr t b) cs S1 c1) .mk := by
  have w1 : m__law_fraction [.int t, .int b] = some (qD (fr t b)) := by
    have := w_frac (n := t) (d := b.toNat) (by omega) (by omega)
    rw [show ((b.toNat : Nat) : Int) = b by omega] at this
    rw [this, ← divInt_mk, show ((b.toNat : Nat) : Int) = b by omega]
    rfl
  have hdf : (fr t b).den ≤ 30 := by have := den_fr (p := t) hb.1; omega
  have hm : ∀ x y : Rat, x.den ≤ 30 → y.den ≤ 30 → x.den * y.den < 19000 := fun x y h1 h2 => Nat.lt_of_le_of_lt (Nat.mul_le_mul h1 h2) (by omega)
  have hs : ∀ x y : Rat, x.den ≤ 30 → y.den ≤ 30 → (x - y).abs.den < 2 ^ 30 := fun x y h1 h2 => by
    rw [den_abs]
    have pz := Nat.mul_pos x.den_pos y.den_pos
    have := (Dv.sub pz (Nat.dvd_mul_right x.den y.den) (Nat.dvd_mul_left _ _)).le pz
    have := hm x y h1 h2
    omega
  have fin : ∀ d', BS a (fun c => C c ∨ c = fr t b) d' → BE a s2 s3 s4 s5 s6 s7 s8 s9 s10 s11 s12 s13 s14 (.val (.int b)) (fun c => C c ∨ c = fr t b) cs (SB a s2 s3 s4 s5 s6 s7 s8 s9 s10 s11 s12 s13 s14 d' (.val (.int b)) (.val (.int t)) (.val (qD (fr t b))) (.val (qD (a - fr t b).abs))) cs := fun d' h' =>
    ⟨d', _, _, _, by simp, by simp, by simp, rfl, rfl, h'⟩
  unfold SB at fin ⊢
  unfold bodyB
  generalize hBE : BE a s2 s3 s4 s5 s6 s7 s8 s9 s10 s11 s12 s13 s14 (.val (.int b)) (fun c => C c ∨ c = fr t b) cs = BEE at *
  simp [w1, notCst_of h18]
  rw [w_lfar (hm _ _ ha hdf)]
  simp [notCst_of h19]
  rcases h with ⟨rfl, hno⟩ | ⟨x, rfl, hx, hbest⟩
  · simp (disch := omega) [iP_dis, sizeLine_v]
    exact fin _ (.inr ⟨fr t b, rfl, .inr rfl, fun c hc hcb => by
      rcases hc with hc | hc
      · exact hno c hc
      · subst hc; exact btr_irr hcb⟩)
  · obtain ⟨st1, st2⟩ := BS.step (y := fr t b) ⟨hx, hbest⟩
    have hdx := hC x hx
    have ist : isNonD (.tup [qD (a - x).abs, qD x]) = false := rfl
    simp [ist]
    rw [w_lless (hs _ _ ha hdf) (hs _ _ ha hdx)]
    simp
    refine ⟨fun hlt => ?_, fun hlt => ⟨fun he => ?_, fun he => ?_⟩⟩
    · simp (disch := omega) [iP_dis, sizeLine_v]
      exact fin _ (st1 (.inl hlt))
    · simp (disch := omega) [iP_dis, sizeLine_v, ltT]
      rw [iB_b]
      simp only [Bool.or_eq_true, Bool.and_eq_true, decide_eq_true_eq, Bool.or_eq_false_iff, Bool.and_eq_false_iff, decide_eq_false_iff_not]
      refine ⟨fun hc => ?_, fun hc => ?_⟩
      · simp (disch := omega) [iP_dis, sizeLine_v]
        exact fin _ (st1 (.inr ⟨he, by omega⟩))
      · simp
        refine fin _ (st2 fun z => ?_)
        rcases z with z | ⟨_, z⟩
        · exact hlt z
        · omega
    · refine fin _ (st2 fun z => ?_)
      rcases z with z | ⟨z, _⟩
      · exact hlt z
      · exact he z
/-- what has been tried -/
def Cd (a : Rat) (i : Nat) (x : Rat) : Prop := ∃ k : Int, 1 ≤ k ∧ k ≤ i ∧ (x = fr (fl a k) k ∨ x = fr (fl a k + 1) k)
theorem BS.congr {a : Rat} {C C' : Rat → Prop} {d : D} (h : BS a C d) (e : ∀ x, C x ↔ C' x) : BS a C' d := by
  rcases h with ⟨h1, h2⟩ | ⟨x, h1, h2, h3⟩
  · exact .inl ⟨h1, fun x hx => h2 x ((e x).mpr hx)⟩
  · exact .inr ⟨x, h1, (e x).mp h2, fun c hc => h3 c ((e c).mpr hc)⟩
def BL (a : Rat) (s2 s3 s4 s5 s6 s7 s8 s9 s10 s11 s12 s13 s14 : Sl) (cs : Option D) (i : Nat) (S1 : List Sl) (c1 : Option D) : Prop := ∃ b : Sl, b ≠ .cst ∧ BE a s2 s3 s4 s5 s6 s7 s8 s9 s10 s11 s12 s13 s14 b (Cd a i) cs S1 c1
theorem w_loopB {a : Rat} {s2 s3 s4 s5 s6 s7 s9 s10 s11 s12 s13 s14 : Sl} {n : Nat} {cs : Option D} (ha : a.den ≤ 30) (hn : n ≤ 30) :
    wS (dsFor (diRng2 (dCons (dC (.int 1)) (dCons (dOp oAdd (dVar 8) (dC (.int 1))) dNil))) (gdN 16) (dsFor (diSeq (dFz (dLst (dCons (dOp oFdiv (dOp oMul (dIx (dVar 1) (dC (.int 0))) (dVar 16)) (dIx (dVar 1) (dC (.int 1)))) (dCons (dOp oAdd (dOp oFdiv (dOp oMul (dIx (dVar 1) (dC (.int 0))) (dVar 16)) (dIx (dVar 1) (dC (.int 1)))) (dC (.int 1))) dNil))))) (gdN 17) bodyB))
      (SB a s2 s3 s4 s5 s6 s7 (.val (.int n)) s9 s10 s11 s12 s13 s14 .non .no .no .no .no) cs (fun fl S1 c1 => fl = .nx ∧ BL a s2 s3 s4 s5 s6 s7 (.val (.int n)) s9 s10 s11 s12 s13 s14 cs n S1 c1) .mk := by
  have hd := a.den_pos
  unfold SB
  simp (disch := omega) [iP_dis]
  refine for_rng (BL a s2 s3 s4 s5 s6 s7 (.val (.int n)) s9 s10 s11 s12 s13 s14 cs) ⟨.no, by simp, .non, .no, .no, .no, by simp, by simp, by simp, rfl, rfl, .inl ⟨rfl, fun x ⟨k, k1, k2, _⟩ => by omega⟩⟩ ?_ (fun S c h => ⟨rfl, h⟩)
  rintro i S1 c1 hi ⟨b, hb, d, s17, s18, s19, h17, h18, h19, rfl, rfl, hB⟩
  obtain ⟨k0, hk0⟩ : ∃ k0 : Int, k0 = 1 + (i : Int) := ⟨_, rfl⟩
  rw [← hk0]
  have hCd : ∀ j, j ≤ 30 → ∀ x, Cd a j x → x.den ≤ 30 := by
    rintro j hj x ⟨k, k1, k2, rfl | rfl⟩
    · have := den_fr (p := fl a k) k1; omega
    · have := den_fr (p := fl a k + 1) k1; omega
  have b1 := w_bodyB (s2 := s2) (s3 := s3) (s4 := s4) (s5 := s5) (s6 := s6) (s7 := s7) (s8 := .val (.int n)) (s9 := s9) (s10 := s10) (s11 := s11) (s12 := s12) (s13 := s13) (s14 := s14) (t := fl a k0) (b := k0) (cs := c1) ha (by omega) h18 h19 hB (hCd i (by omega))
  unfold SB at b1 ⊢
  simp only [bodyB] at b1 ⊢
  generalize hbody : (dsSeq (dsAsg (dCall m__law_fraction (dCons (dVar 17) (dCons (dVar 16) dNil))) (gdN 18)) _) = body at b1 ⊢
  simp [notCst_of hb]
  rw [oMul_i (by omega)]
  simp
  rw [if_pos ⟨by omega, by omega⟩, floor_mul]
  simp
  rw [oMul_i (by omega)]
  simp
  rw [if_pos ⟨by omega, by omega⟩, floor_mul]
  simp (disch := omega) [iP_dis, sizeLine_v]
  rw [show (a * (k0 : Rat)).floor = fl a k0 from rfl, for_cons]
  simp [notCst_of h17]
  refine wS_mono b1 ?_
  rintro _ S2 c2 ⟨rfl, d2, t17, t18, t19, g17, g18, g19, rfl, rfl, hB2⟩
  simp
  have hC2 : ∀ x, (Cd a i x ∨ x = fr (fl a k0) k0) → x.den ≤ 30 := by
    rintro x (hx | rfl)
    · exact hCd i (by omega) x hx
    · have := den_fr (p := fl a k0) (show 1 ≤ k0 by omega); omega
  have b2 := w_bodyB (s2 := s2) (s3 := s3) (s4 := s4) (s5 := s5) (s6 := s6) (s7 := s7) (s8 := .val (.int n)) (s9 := s9) (s10 := s10) (s11 := s11) (s12 := s12) (s13 := s13) (s14 := s14) (t := fl a k0 + 1) (b := k0) (cs := c2) ha (by omega) g18 g19 hB2 hC2
  unfold SB at b2 ⊢
  simp only [bodyB] at b2
  rw [hbody] at b2
  rw [for_cons]
  simp [notCst_of g17]
  refine wS_mono b2 ?_
  rintro _ S3 c3 ⟨rfl, d3, u17, u18, u19, f17, f18, f19, rfl, rfl, hB3⟩
  simp [for_nil]
  refine ⟨_, by simp, d3, u17, u18, u19, f17, f18, f19, rfl, rfl, hB3.congr fun x => ?_⟩
  constructor
  · rintro ((⟨k, k1, k2, h⟩ | rfl) | rfl)
    · exact ⟨k, k1, by omega, h⟩
    · exact ⟨k0, by omega, by omega, .inl rfl⟩
    · exact ⟨k0, by omega, by omega, .inr rfl⟩
  · rintro ⟨k, k1, k2, h⟩
    by_cases hk : k ≤ i
    · exact .inl (.inl ⟨k, k1, hk, h⟩)
    · have : k = k0 := by omega
      subst this
      rcases h with h | h
      · exact .inl (.inr h)
      · exact .inr h
end K62

set_option autoImplicit true
set_option relaxedAutoImplicit true
set_option Elab.async false
set_option linter.all false
set_option maxRecDepth 100000
set_option maxHeartbeats 4000000
/-! RL: the law's near meetings -/
namespace K62
open PySem L2 DL
open Classical in
noncomputable def nrst (a : Rat) (p q r s : Int) : Rat := if NrP a p q r s then fr p q else fr r s
theorem fl_low {a : Rat} {n p q r s : Int} (N : NB a n p q r s) : fl a q = p := by
  have h1 : p ≤ fl a q := le_fl (by have := N.b0; grind)
  have h2 : fl a q < p + 1 := by
    have h3 := fl_le (a := a) (k := q)
    have h4 := N.b1
    have : ((fl a q : Int) : Rat) < ((p + 1 : Int) : Rat) := by simp; grind
    exact Rat.intCast_lt_intCast.mp this
  omega
theorem fl_high {a : Rat} {n p q r s : Int} (N : NB a n p q r s) : fl a s + 1 = r := by
  have h1 : r - 1 ≤ fl a s := le_fl (by have := N.a1; simp; grind)
  have h2 : fl a s + 1 ≤ r := fl_lt (by have := N.a0; grind)
  omega
theorem best_eq {a : Rat} {n : Nat} {p q r s : Int} (N : NB a n p q r s) (hs : 1 ≤ s) (hl : (n : Int) < q + s) {d : D} (h : BS a (Cd a n) d) : d = .tup [qD (a - nrst a p q r s).abs, qD (nrst a p q r s)] := by
  have q1 := N.q1; have qn := N.qn; have sn := N.sn; have b0 := N.b0; have a0 := N.a0
  have f1 := fl_low N; have f2 := fl_high N
  obtain ⟨gg1, gg2⟩ := gcd_of_u N.u
  have hL : fr p q ≤ a := by rw [← Rat.not_lt, fr_lt q1]; grind
  have hH : a < fr r s := by rw [fr_lt hs]; grind
  have nin : Cd a n (nrst a p q r s) := by
    unfold nrst
    split
    · exact ⟨q, q1, qn, .inl (by rw [f1])⟩
    · exact ⟨s, hs, sn, .inr (by rw [f2])⟩
  have dL : (fr p q).den = q := by
    have := q_fr q1 gg1
    unfold qD at this
    simp at this
    exact this.2
  have dH : (fr r s).den = s := by
    have := q_fr hs gg2
    unfold qD at this
    simp at this
    exact this.2
  have nL : (fr p q).num = p := by
    have := q_fr q1 gg1
    unfold qD at this
    simp at this
    exact this.1
  have nH : (fr r s).num = r := by
    have := q_fr hs gg2
    unfold qD at this
    simp at this
    exact this.1
  have aL : (a - fr p q).abs = a - fr p q := Rat.abs_of_nonneg (by grind)
  have aH : (a - fr r s).abs = fr r s - a := by rw [Rat.abs_of_nonpos (by grind)]; grind
  have out : ∀ c, Cd a n c → c ≠ nrst a p q r s → btr a (nrst a p q r s) c := by
    rintro c ⟨k, k1, k2, hc⟩ hne
    have side : (c ≤ a ∧ c ≤ fr p q) ∨ (a < c ∧ fr r s ≤ c) := by
      rcases hc with rfl | rfl
      · left
        refine ⟨?_, (fr_le_fr k1 q1).mpr (low_lat N hl k1 k2 fl_le)⟩
        rw [← Rat.not_lt, fr_lt k1]
        have := fl_le (a := a) (k := k)
        grind
      · right
        refine ⟨?_, (fr_le_fr hs k1).mpr (high_lat N hl hs k1 k2 lt_fl)⟩
        rw [fr_lt k1]
        exact lt_fl
    unfold nrst NrP at hne ⊢
    unfold btr
    rcases side with ⟨s1, s2⟩ | ⟨s1, s2⟩
    · have ac : (a - c).abs = a - c := Rat.abs_of_nonneg (by grind)
      split at hne
      · rename_i hN
        rw [if_pos hN]
        left
        rw [aL, ac]
        grind
      · rename_i hN
        rw [if_neg hN]
        rw [aH, ac]
        have hN' : ¬ a - fr p q < fr r s - a ∧ (fr r s - a < a - fr p q ∨ s < q) := by
          constructor
          · exact fun z => hN (.inl z)
          · by_cases z : fr r s - a < a - fr p q
            · exact .inl z
            · right
              by_cases zz : s < q
              · exact zz
              · exact absurd (.inr ⟨z, by omega⟩) hN
        by_cases hlt : fr r s - a < a - c
        · exact .inl hlt
        · right
          have e1 : c = fr p q := by grind
          have e2 : fr r s - a = a - c := by grind
          refine ⟨e2, .inl ?_⟩
          subst e1
          rcases hN'.2 with z | z
          · exact absurd z (by grind)
          · omega
    · have ac : (a - c).abs = c - a := by rw [Rat.abs_of_nonpos (by grind)]; grind
      split at hne
      · rename_i hN
        rw [if_pos hN, aL, ac]
        by_cases hlt : a - fr p q < c - a
        · exact .inl hlt
        · right
          have hN' : ¬ fr r s - a < a - fr p q ∧ q ≤ s := by
            rcases hN with z | z
            · exact absurd z (by grind)
            · exact z
          have e1 : c = fr r s := by grind
          subst e1
          refine ⟨by grind, ?_⟩
          by_cases hqs : q < s
          · left; omega
          · right
            have : q = s := by omega
            subst this
            have u := N.u
            refine ⟨by omega, ?_⟩
            rw [nL, nH]
            have : 0 < (r - p) * q := by grind
            have := Int.pos_of_mul_pos_right this (by omega)
            omega
      · rename_i hN
        rw [if_neg hN, aH, ac]
        left
        grind
  rcases h with ⟨_, h⟩ | ⟨x, rfl, hx, hbest⟩
  · exact absurd nin (h _)
  · by_cases e : x = nrst a p q r s
    · rw [e]
    · exact absurd (out x hx e) (hbest _ nin)
theorem lst_0 {x : D} {r : List D} : ixD (.lst (x :: r)) (.int 0) = some x := ixD_l (i := 0) rfl
end K62

set_option autoImplicit true
set_option relaxedAutoImplicit true
set_option Elab.async false
set_option linter.all false
set_option maxRecDepth 100000
set_option maxHeartbeats 4000000
/-! RM: the law's part on near meetings -/
namespace K62
open PySem L2 DL
theorem np_le {a e : Rat} {m k : Int} {lo hi : D} (he : 0 ≤ e) (h : NPaper a e m k lo hi) : 1 ≤ m ∧ m ≤ a.den := by
  obtain ⟨h1, h2, h3⟩ := h
  have hd := a.den_pos
  have hm : 1 ≤ m := by rcases h3 with ⟨rfl, _⟩ | ⟨p, q, r, s, _, _, _, hq, hs, rfl, hl, _⟩ <;> omega
  refine ⟨hm, ?_⟩
  by_cases h : m ≤ a.den
  · exact h
  · exfalso
    have := h2 a.den a.num (by omega) (by omega)
    rw [num_eq, Rat.sub_self, Rat.abs_zero] at this
    grind
theorem np_jn {a e : Rat} {m k : Int} {lo hi : D} (h : NPaper a e m k lo hi) : (lo = .non ∧ hi = .non ∧ m = 1) ∨ ∃ q s, NbOk a e lo hi q s ∧ m = q + s ∧ m ≠ 1 := by
  obtain ⟨h1, h2, h3⟩ := h
  rcases h3 with ⟨h4, h5, h6⟩ | ⟨p, q, r, s, h4, h5, u, hq, hs, hm, hl, hb, b0, a0, _⟩
  · exact .inl ⟨h5, h6, h4⟩
  · exact .inr ⟨q, s, ⟨p, r, h4, h5, u, hq, hs, hb, b0, a0⟩, hm, by omega⟩
theorem w_saidF {a : Bool} : m__law_said [.bl a, .bl false] = some (.bl (!a)) := by
  cases a <;> rfl
theorem w_saidB {a b : Bool} : m__law_said [.bl a, .bl b] = some (.bl (decide (a = b))) := by
  cases a <;> cases b <;> rfl
theorem num_mk {k : Int} {n : Nat} : -(2 ^ 64 : Int) < (1 : Int) := by omega
theorem oAddT_c {x : D} {xs ys : List D} (h : xs.length + 1 + ys.length ≤ 1000) : oAdd (.tup (x :: xs)) (.tup ys) = some (.tup (x :: xs ++ ys)) := by
  show orD oAddI (orD oAddS (orD oAddT oAddL)) _ _ = _
  have : (x :: xs).length + ys.length ≤ sizeLine := by rw [sizeLine_v]; simp; omega
  unfold orD oAddI oInt oAddS oAddT
  simp only []
  rw [if_pos ⟨by simp, this⟩]
theorem oAddT_13 {a b c d : D} : oAdd (.tup [a]) (.tup [b, c, d]) = some (.tup [a, b, c, d]) := oAddT_c (by simp)
theorem L5_0 {a b c d e : D} : ixD (.lst [a, b, c, d, e]) (.int 0) = some a := (rfl)
theorem L5_1 {a b c d e : D} : ixD (.lst [a, b, c, d, e]) (.int 1) = some b := (rfl)
theorem L5_2 {a b c d e : D} : ixD (.lst [a, b, c, d, e]) (.int 2) = some c := (rfl)
theorem L5_3 {a b c d e : D} : ixD (.lst [a, b, c, d, e]) (.int 3) = some d := (rfl)
theorem L5_4 {a b c d e : D} : ixD (.lst [a, b, c, d, e]) (.int 4) = some e := (rfl)
open Classical in
theorem w_nearR {c : D} (hc : Cell c) : ∃ d c', m__law_near_right c [] = some (d, c') ∧ d = .bl true := by
  refine of_runC_ex (fun d c' => d = .bl true) (by rfl) ?_
  show wS b__law_near_right [.cst, .no, .no, .no, .no, .no, .no, .no, .no, .no, .no, .no, .no, .no, .no, .no, .no, .no, .no, .no, .no] (some c) _ .mk
  unfold b__law_near_right
  obtain ⟨v1, c1, b1, hc1, e1⟩ := w_take hc 60 (by omega) (by omega)
  obtain ⟨v2, c2, b2, hc2, e2⟩ := w_take hc1 30 (by omega) (by omega)
  obtain ⟨v3, c3, b3, hc3, e3⟩ := w_take hc2 6 (by omega) (by omega)
  obtain ⟨v4, c4, b4, hc4, e4⟩ := w_take hc3 40 (by omega) (by omega)
  simp at e1 e2 e3 e4
  have f1 := w_frac (n := v1) (d := 1 + v2) (by omega) (by omega)
  have f2 := w_frac (n := v3) (d := 1 + v4) (by omega) (by omega)
  have da : (mkRat v1 (1 + v2)).den ≤ 30 := by have := (Dv.mk (n := 1 + v2) (k := v1) (by omega)).le (by omega); omega
  have de : (mkRat v3 (1 + v4)).den ≤ 40 := by have := (Dv.mk (n := 1 + v4) (k := v3) (by omega)).le (by omega); omega
  have he : 0 ≤ mkRat v3 (1 + v4) := by
    apply Rat.num_nonneg.mp
    rw [Rat.num_mkRat]
    split
    · omega
    · exact Int.ediv_nonneg (by omega) (by omega)
  simp at f1 f2
  generalize mkRat v1 (1 + v2) = a at *
  generalize mkRat v3 (1 + v4) = e at *
  refine seq_mid (fun S1 cc => S1 = [.cst, .val (qD a), .val (qD e), .no, .no, .no, .no, .no, .no, .no, .no, .no, .no, .no, .no, .no, .no, .no, .no, .no, .no] ∧ cc = some c4) ?_ ?_
  · simp [e1, e2]
    simp [f1, e3, e4]
    simp (disch := omega) [f2, iP_dis, sizeLine_v]
  rintro _ _ ⟨rfl, rfl⟩
  have had := a.den_pos
  have hed := e.den_pos
  obtain ⟨m, k, lo, hi, hn, NP⟩ := w_near (a := a) (e := e) (Nat.lt_of_le_of_lt (Nat.mul_le_mul da de) (by omega)) he
  obtain ⟨m1, m2⟩ := np_le he NP
  obtain ⟨t0, ht0⟩ : ∃ t0 : Nat, m = 1 + (t0 : Int) := ⟨(m - 1).toNat, by omega⟩
  -- the first one
  have hdm : ∀ j : Int, (a * j).den ≤ 30 := fun j => Nat.le_trans ((Dv.mulI had Dv.self).le had) da
  have daw : ∀ j : Int, (awy (a * j)).den ≤ 30 := fun j => by
    unfold awy
    rw [den_abs]
    exact Nat.le_trans ((Dv.sub (a * j).den_pos Dv.self Dv.int).le (a * j).den_pos) (hdm j)
  obtain ⟨rest, hr⟩ := filter_first (φ := fun i => !decide (e < awy (a * ((1 + (i : Int) : Int) : Rat)))) (n := 39) (t0 := t0) (by omega) (by
    have := awy_le (x := a * m) k
    have h1 := NP.1
    rw [← ht0]
    simp
    grind) (fun i hi => by
    have := NP.2.1 (1 + i) (nw (a * ((1 + (i : Int) : Int) : Rat))) (by omega) (by omega)
    unfold awy
    simpa using this)
  have hf := lc_filter (g := gdN 3) (tt := dNot (dTru (dCall m__law_less (dCons (dVar 2) (dCons (dCall m__law_away (dCons (dCall m__law_times (dCons (dVar 1) (dCons (dTup (dCons (dVar 3) (dCons (dC (.int 1)) dNil))) dNil))) dNil)) dNil))))) (f := dVar 3) (S := [.cst, .val (qD a), .val (qD e), .no, .no, .no, .no, .no, .no, .no, .no, .no, .no, .no, .no, .no, .no, .no, .no, .no, .no]) (cs := some c4) (φ := fun i => !decide (e < awy (a * ((1 + (i : Int) : Int) : Rat)))) (lo := 1) (List.range 39) (fun i hi => by
    rw [List.mem_range] at hi
    have w1 := w_ltimesI (x := a) (k := 1 + i) (by omega) (by omega)
    have w2 := w_laway (x := a * ((1 + (i : Int) : Int) : Rat)) (by have := hdm (1 + i); omega)
    have w3 := w_lless (x := e) (y := awy (a * ((1 + (i : Int) : Int) : Rat))) (by omega) (by have := daw (1 + i); omega)
    simp (disch := omega) [iP_dis, sizeLine_v, -Rat.intCast_add]
    rw [w1]
    simp [w2, w3, -Rat.intCast_add])
  rw [hr] at hf
  refine seq_mid (fun S1 cc => S1 = [.cst, .val (qD a), .val (qD e), .val (.int m), .no, .no, .no, .no, .no, .no, .no, .no, .no, .no, .no, .no, .no, .no, .no, .no, .no] ∧ cc = some c4) ?_ ?_
  · simp (disch := omega) [iP_dis, sizeLine_v, rngD_len]
    rw [show rngD 1 39 = (List.range 39).map (fun (i : Nat) => D.int (1 + (i : Int))) from rfl, hf]
    simp [lst_0, ht0]
  rintro _ _ ⟨rfl, rfl⟩
  refine seq_mid (fun S1 cc => S1 = [.cst, .val (qD a), .val (qD e), .val (.int m), .val (.tup [.int m, .int k, lo, hi]), .no, .no, .no, .no, .no, .no, .no, .no, .no, .no, .no, .no, .no, .no, .no, .no] ∧ cc = some c4) ?_ ?_
  · simp [hn]
  rintro _ _ ⟨rfl, rfl⟩
  obtain ⟨v5, c5, b5, hc5, e5⟩ := w_take hc4 81 (by omega) (by omega)
  obtain ⟨v6, c6, b6, hc6, e6⟩ := w_take hc5 9 (by omega) (by omega)
  simp at e5 e6
  have f3 := w_frac (n := (v5 : Int) - 40) (d := 1 + v6) (by omega) (by omega)
  have dx : (mkRat ((v5 : Int) - 40) (1 + v6)).den ≤ 9 := by have := (Dv.mk (n := 1 + v6) (k := (v5 : Int) - 40) (by omega)).le (by omega); omega
  simp at f3
  generalize mkRat ((v5 : Int) - 40) (1 + v6) = x at *
  refine seq_mid (fun S1 cc => S1 = [.cst, .val (qD a), .val (qD e), .val (.int m), .val (.tup [.int m, .int k, lo, hi]), .val (qD x), .no, .no, .no, .no, .no, .no, .no, .no, .no, .no, .no, .no, .no, .no, .no] ∧ cc = some c6) ?_ ?_
  · simp [e5]
    simp [e6, f3]
  rintro _ _ ⟨rfl, rfl⟩
  have jn : ∀ m' k' : Int, -(2 ^ 40) < m' ∧ m' < 2 ^ 40 → m_judge_near [qD a, qD e, .tup [.int m', .int k', lo, hi]] = some (.bl (decide (1 ≤ m' ∧ (a * m' - k').abs ≤ e ∧ ((lo = .non ∧ m' = 1) ∨ (m' ≠ 1 ∧ ∃ q s, NbOk a e lo hi q s ∧ m' ≤ q + s))))) := fun m' k' hm' =>
    w_jn (by omega) he (by omega) hm' (by rcases np_jn NP with ⟨h1, h2, _⟩ | ⟨q, s, h1, _⟩; exact .inl ⟨h1, h2⟩; exact .inr ⟨q, s, h1⟩)
  have jcond : ((lo = .non ∧ m = 1) ∨ (m ≠ 1 ∧ ∃ q s, NbOk a e lo hi q s ∧ m ≤ q + s)) := by
    rcases np_jn NP with ⟨h1, h2, h3⟩ | ⟨q, s, h1, h2, h3⟩
    · exact .inl ⟨h1, h3⟩
    · exact .inr ⟨h3, q, s, h1, by omega⟩
  have jt : m_judge_near [qD a, qD e, .tup [.int m, .int k, lo, hi]] = some (.bl true) := by
    rw [jn m k (by omega)]
    simp only [decide_eq_true (show _ from (⟨m1, NP.1, jcond⟩ : 1 ≤ m ∧ (a * m - k).abs ≤ e ∧ _))]
  have far : ∀ k' : Int, m__law_far [qD (a * m), .tup [.int k', .int 1]] = some (qD (a * m - k').abs) := fun k' => by
    rw [q_int, w_lfar (by rw [Rat.den_intCast]; have := hdm m; omega)]
  have tmm := w_ltimesI (x := a) (k := m) (by omega) (by omega)
  have lls : ∀ k' : Int, m__law_less [qD e, qD (a * m - k').abs] = some (.bl (decide (e < (a * m - k').abs))) := fun k' => w_lless (by omega) (by rw [den_abs]; have := den_b (a := a) (p := k') (q := m); omega)
  refine seq_mid (fun S1 cc => S1 = [.cst, .val (qD a), .val (qD e), .val (.int m), .val (.tup [.int m, .int k, lo, hi]), .val (qD x), .no, .no, .no, .no, .no, .no, .no, .no, .no, .no, .no, .no, .no, .no, .no] ∧ cc = some c6) ?_ ?_
  · simp [w_away (x := x) (by omega), w_laway (x := x) (by omega), jt]
    simp (disch := omega) [iP_dis, sizeLine_v, tmm, far, lls]
    have := NP.1
    grind
  rintro _ _ ⟨rfl, rfl⟩
  obtain ⟨v7, c7, b7, hc7, e7⟩ := w_take hc6 5 (by omega) (by omega)
  simp at e7
  generalize hR : dsSeq (dsAsg (dOp oAdd (dC (.int 1)) (dCallC m__law_take (dCons (dVar 0) (dCons (dC (.int 30)) dNil)))) (gdN 8)) _ = R
  have rest : ∀ s6 s7 : Sl, wS R [.cst, .val (qD a), .val (qD e), .val (.int m), .val (.tup [.int m, .int k, lo, hi]), .val (qD x), s6, s7, .no, .no, .no, .no, .no, .no, .no, .no, .no, .no, .no, .no, .no] (some c7) (fun fl _ c1 => ∃ d c', flD fl = some d ∧ c1 = some c' ∧ d = .bl true) .mk := by
    intro s6 s7
    subst hR
    obtain ⟨v8, c8, b8, hc8, e8⟩ := w_take hc7 30 (by omega) (by omega)
    simp at e8
    obtain ⟨n, hn8⟩ : ∃ n : Nat, n = 1 + v8 := ⟨_, rfl⟩
    obtain ⟨p, q, r, s, hnb, N, s1, hl⟩ := w_neighbours (a := a) (n := n) (by omega) (by omega) (by omega)
    have q1 := N.q1; have qn := N.qn; have sn := N.sn; have u := N.u
    have har := w_around (a := a) (n := n) (by omega) (by omega) (by omega) N s1 hl
    refine seq_mid (fun S1 cc => S1 = [.cst, .val (qD a), .val (qD e), .val (.int m), .val (.tup [.int m, .int k, lo, hi]), .val (qD x), s6, s7, .val (.int n), .no, .no, .no, .no, .no, .no, .no, .no, .no, .no, .no, .no] ∧ cc = some c8) ?_ ?_
    · simp [e8, hn8]
    rintro _ _ ⟨rfl, rfl⟩
    refine seq_mid (fun S1 cc => S1 = [.cst, .val (qD a), .val (qD e), .val (.int m), .val (.tup [.int m, .int k, lo, hi]), .val (qD x), s6, s7, .val (.int n), .val (.int p), .val (.int q), .val (.int r), .val (.int s), .no, .no, .no, .no, .no, .no, .no, .no] ∧ cc = some c8) ?_ ?_
    · simp (disch := omega) [hnb, iP_dis]
    rintro _ _ ⟨rfl, rfl⟩
    refine seq_mid (fun S1 cc => S1 = [.cst, .val (qD a), .val (qD e), .val (.int m), .val (.tup [.int m, .int k, lo, hi]), .val (qD x), s6, s7, .val (.int n), .val (.int p), .val (.int q), .val (.int r), .val (.int s), .val (pD p q), .val (pD r s), .no, .no, .no, .no, .no, .no] ∧ cc = some c8) ?_ ?_
    · simp (disch := omega) [har, iP_dis]
    rintro _ _ ⟨rfl, rfl⟩
    refine seq_mid (fun S1 cc => S1 = [.cst, .val (qD a), .val (qD e), .val (.int m), .val (.tup [.int m, .int k, lo, hi]), .val (qD x), s6, s7, .val (.int n), .val (.int p), .val (.int q), .val (.int r), .val (.int s), .val (pD p q), .val (pD r s), .no, .no, .no, .no, .no, .no] ∧ cc = some c8) ?_ ?_
    · have lp : p * a.den ≤ a.num * q := le_mul_iff.mp (by have := N.b0; grind)
      have lr : a.num * s < r * a.den := lt_mul_iff.mp (by have := N.a0; grind)
      simp
      rw [oMul_i (by omega)]
      simp
      rw [oMul_i (by omega)]
      simp [u, qn, sn, hl]
      rw [oMul_i (by omega)]
      simp
      rw [oMul_i (by omega)]
      simp [lp, show 0 < s by omega]
      rw [oMul_i (by omega)]
      simp
      rw [oMul_i (by omega)]
      simp [lr, show 0 < s by omega]
      simp (disch := omega) [iP_dis, sizeLine_v, ne_pD]
    rintro _ _ ⟨rfl, rfl⟩
    refine seq_mid (fun S1 cc => S1 = SB a (.val (qD e)) (.val (.int m)) (.val (.tup [.int m, .int k, lo, hi])) (.val (qD x)) s6 s7 (.val (.int n)) (.val (.int p)) (.val (.int q)) (.val (.int r)) (.val (.int s)) (.val (pD p q)) (.val (pD r s)) .non .no .no .no .no ∧ cc = some c8) ?_ ?_
    · simp [SB]
    rintro _ _ ⟨rfl, rfl⟩
    refine seq_mid (BL a (.val (qD e)) (.val (.int m)) (.val (.tup [.int m, .int k, lo, hi])) (.val (qD x)) s6 s7 (.val (.int n)) (.val (.int p)) (.val (.int q)) (.val (.int r)) (.val (.int s)) (.val (pD p q)) (.val (pD r s)) (some c8) n) (w_loopB da (by omega)) ?_
    rintro _ _ ⟨b, hb, d, s17, s18, s19, h17, h18, h19, rfl, rfl, hB⟩
    have hd := best_eq N s1 hl hB
    subst hd
    unfold SB
    have wb := w_best (a := a) (n := n) (by omega) (by omega) (by omega) hnb N s1
    have wj := fun X Y => w_jbest (a := a) (n := n) (x := X) (y := Y) (by omega) (by omega) N s1 hl
    obtain ⟨gg1, gg2⟩ := gcd_of_u u
    have last : ∃ P Q lo2 hi2, m_best_paper [qD a, .int a.den] = some (.tup [.int P, .int Q, lo2, hi2]) ∧ pD P Q = qD a := by
      obtain ⟨p', q', r', s', hnb', N', s1', hl'⟩ := w_neighbours (a := a) (n := a.den) (by omega) (by omega) (by omega)
      have wb' := w_best (a := a) (n := a.den) (by omega) (by omega) (by omega) hnb' N' s1'
      have q1' := N'.q1
      obtain ⟨gg1', gg2'⟩ := gcd_of_u N'.u
      have e1 : fr p' q' = a := by
        have h1 : fr p' q' ≤ a := by rw [← Rat.not_lt, fr_lt q1']; have := N'.b0; grind
        have h2 := low_lat N' hl' (x := a.num) (y := a.den) (by omega) (by omega) (by rw [num_eq]; grind)
        have h3 : fr a.num a.den ≤ fr p' q' := (fr_le_fr (by omega) q1').mpr h2
        unfold fr at h3
        rw [Rat.num_divInt_den] at h3
        exact Rat.le_antisymm h1 h3
      have hH : a < fr r' s' := by rw [fr_lt s1']; have := N'.a0; grind
      have hN : NrP a p' q' r' s' := .inl (by rw [e1]; grind)
      rw [if_pos hN] at wb'
      exact ⟨p', q', _, _, wb', by rw [← q_fr q1' gg1', e1]⟩
    obtain ⟨P, Q, lo2, hi2, wl, hPQ⟩ := last
    by_cases hN : NrP a p q r s
    · have hd : nrst a p q r s = fr p q := by unfold nrst; rw [if_pos hN]
      rw [hd, q_fr q1 gg1]
      rw [if_pos hN] at wb
      have w1 := wj p q
      have w2 := wj (p + 1) q
      simp [hN] at w1 w2
      simp (disch := omega) [wb, iP_dis, sizeLine_v, cut2, cut1f, ne_pD, w1, oAddT_13, w2, wl]
      refine ⟨fun h => by omega, fun _ => ?_⟩
      rw [show D.tup [.int P, .int Q] = qD a from hPQ]
      simp [flD]
    · have hd : nrst a p q r s = fr r s := by unfold nrst; rw [if_neg hN]
      rw [hd, q_fr s1 gg2]
      rw [if_neg hN] at wb
      have w1 := wj r s
      have w2 := wj (r + 1) s
      simp [hN] at w1 w2
      simp (disch := omega) [wb, iP_dis, sizeLine_v, cut2, cut1f, ne_pD, w1, oAddT_13, w2, wl]
      refine ⟨fun h => by omega, fun _ => ?_⟩
      rw [show D.tup [.int P, .int Q] = qD a from hPQ]
      simp [flD]
  obtain ⟨J1, jm⟩ : ∃ J, m_judge_near [qD a, qD e, .tup [.int (m + 1), .int k, lo, hi]] = some (.bl J) := ⟨_, jn (m + 1) k (by omega)⟩
  have jk : m_judge_near [qD a, qD e, .tup [.int m, .int (k + 1), lo, hi]] = some (.bl (!decide (e < (a * m - (k + 1)).abs))) := by
    rw [jn m (k + 1) (by omega)]
    congr 2
    rw [Bool.eq_iff_iff]
    simp only [decide_eq_true_eq, Bool.not_eq_true', decide_eq_false_iff_not]
    constructor
    · intro h; have := h.2.1; simp at this; grind
    · intro h; exact ⟨m1, by simp; grind, jcond⟩
  have lk : m__law_less [qD e, qD (a * m - (k + 1)).abs] = some (.bl (decide (e < (a * m - (k + 1)).abs))) := by
    have := lls (k + 1); simpa using this
  have n1 : ¬ (m + 1 = m) := by omega
  have n2 : ¬ (m * 2 = m) := by omega
  obtain ⟨J2, j2⟩ : ∃ J, m_judge_near [qD a, qD e, .tup [.int (m * 2), .int k, lo, hi]] = some (.bl J) := ⟨_, jn (m * 2) k (by omega)⟩
  have o2 : oMul (.int m) (.int 2) = some (.int (m * 2)) := oMul_i (by omega)
  have ist : ∀ ds, isNonD (.tup ds) = false := fun ds => rfl
  match v7, b7, e7 with
  | 0, _, e7 =>
    simp at e7
    simp (disch := omega) [iP_dis, sizeLine_v, oAddT_13, oAddT_2, cut1f, cut2f, cut3, o2, e7, L5_0, ist, jm, w_saidB, n1]
    cases J1
    · simp; exact rest _ _
    · simp [ist, n1]; exact rest _ _
  | 1, _, e7 =>
    simp at e7
    simp (disch := omega) [iP_dis, sizeLine_v, oAddT_13, oAddT_2, cut1f, cut2f, cut3, o2, e7, L5_1, ist, w_saidB, tmm, far, lk, jk]
    exact rest _ _
  | 2, _, e7 =>
    simp at e7
    simp (disch := omega) [iP_dis, sizeLine_v, oAddT_13, oAddT_2, cut1f, cut2f, cut3, o2, e7, L5_2, ist, w_jn_three, w_saidB]
    exact rest _ _
  | 3, _, e7 =>
    simp at e7
    simp (disch := omega) [iP_dis, sizeLine_v, oAddT_13, oAddT_2, cut1f, cut2f, cut3, o2, e7, L5_3, ist, w_jn_none, w_saidB]
    exact rest _ _
  | 4, _, e7 =>
    simp at e7
    simp (disch := omega) [iP_dis, sizeLine_v, oAddT_13, oAddT_2, cut1f, cut2f, cut3, o2, e7, L5_4, ist, j2, w_saidB, n2]
    cases J2
    · simp; exact rest _ _
    · simp [ist, n2]; exact rest _ _
end K62

set_option autoImplicit true
set_option relaxedAutoImplicit true
set_option Elab.async false
set_option linter.all false
set_option maxRecDepth 100000
set_option maxHeartbeats 4000000
/-! SA: leap years and drift -/
namespace K62
open PySem L2 DL
structure Ru (m b c : Nat) : Prop where
  m1 : 1 ≤ m
  m2 : m ≤ 12
  bm : b ≤ m
  cm : c < m
abbrev rD (m b c : Nat) : D := .tup [.int m, .int b, .int c]
def lb (m b c y : Nat) : Nat := (b * y + c) / m
def lp (m b c y : Nat) : Bool := decide (m ≤ (b * y + c) % m + b)
theorem lb_0 {m b c : Nat} (h : Ru m b c) : lb m b c 0 = 0 := by
  unfold lb; rw [Nat.mul_zero, Nat.zero_add]; exact Nat.div_eq_of_lt h.cm
theorem lb_succ {m b c : Nat} (h : Ru m b c) (y : Nat) : lb m b c (y + 1) = lb m b c y + (if lp m b c y = true then 1 else 0) := by
  have h1 := h.m1; have h2 := h.bm
  unfold lb lp
  rw [show b * (y + 1) + c = (b * y + c) + b by rw [Nat.mul_add]; omega]
  generalize b * y + c = t
  have e := Nat.div_add_mod t m
  have e2 := Nat.mod_lt t (show m > 0 by omega)
  simp only [decide_eq_true_eq]
  split
  · rename_i hl
    rw [show t + b = (t % m + b - m) + m * (t / m + 1) by rw [Nat.mul_add]; omega, Nat.add_mul_div_left _ _ (by omega), Nat.div_eq_of_lt (by omega)]
    omega
  · rename_i hl
    rw [show t + b = (t % m + b) + m * (t / m) by omega, Nat.add_mul_div_left _ _ (by omega), Nat.div_eq_of_lt (by omega)]
    omega
theorem lb_le {m b c : Nat} (h : Ru m b c) (y : Nat) : lb m b c y ≤ y := by
  induction y with
  | zero => rw [lb_0 h]; omega
  | succ y ih => rw [lb_succ h]; split <;> omega
theorem lb_fdiv {m b c y : Nat} (h : Ru m b c) : ((b : Int) * y + c).fdiv m = (lb m b c y : Nat) := by
  unfold lb
  rw [Int.fdiv_eq_ediv_of_nonneg _ (by omega), Int.natCast_ediv]
  simp
theorem lp_fmod {m b c y : Nat} (h : Ru m b c) : decide ((m : Int) - b ≤ ((b : Int) * y + c).fmod m) = lp m b c y := by
  have hb := h.bm
  have e : ((b : Int) * y + c).fmod m = (((b * y + c) % m : Nat) : Int) := by
    rw [Int.fmod_eq_emod_of_nonneg _ (by omega)]
    simp
  unfold lp
  rw [e]
  by_cases hl : m ≤ (b * y + c) % m + b
  · rw [decide_eq_true hl, decide_eq_true (by omega)]
  · rw [decide_eq_false hl, decide_eq_false (by omega)]
theorem w_leaps {m b c y : Nat} (h : Ru m b c) : m_leaps_before [rD m b c, .int y] = some (.int (lb m b c y : Nat)) := by
  have h1 := h.m1; have h2 := h.m2; have hb := h.bm
  refine of_runF (by rfl) ?_
  unfold b_leaps_before
  simp (disch := omega) [List.replicate, iP_dis]
  rw [oMul_i' (by omega)]
  simp
  rw [if_pos ⟨by omega, by omega⟩, lb_fdiv h]
  simp [flD]
theorem w_isleap {m b c y : Nat} (h : Ru m b c) : m_is_leap [rD m b c, .int y] = some (.bl (lp m b c y)) := by
  have h1 := h.m1; have h2 := h.m2; have hb := h.bm
  refine of_runF (by rfl) ?_
  unfold b_is_leap
  simp (disch := omega) [List.replicate, iP_dis]
  rw [oMul_i' (by omega)]
  simp
  rw [if_neg (by omega)]
  simp [flD]
  exact lp_fmod h
theorem w_lleap {m b c y : Nat} (h : Ru m b c) : m__law_leap [rD m b c, .int y] = some (.bl (lp m b c y)) := by
  have h1 := h.m1; have h2 := h.m2; have hb := h.bm
  refine of_runF (by rfl) ?_
  unfold b__law_leap
  simp (disch := omega) [List.replicate, iP_dis]
  rw [oMul_i' (by omega)]
  simp
  rw [if_neg (by omega)]
  simp [flD]
  exact lp_fmod h
theorem w_rule {c : D} (hc : Cell c) : ∃ (m b f : Nat) (c' : D), Ru m b f ∧ Cell c' ∧ m__law_rule c [] = some (rD m b f, c') := by
  obtain ⟨v1, c1, b1, hc1, e1⟩ := w_take hc 12 (by omega) (by omega)
  obtain ⟨v2, c2, b2, hc2, e2⟩ := w_take hc1 (1 + v1 + 1) (by omega) (by omega)
  obtain ⟨v3, c3, b3, hc3, e3⟩ := w_take hc2 (1 + v1) (by omega) (by omega)
  refine ⟨1 + v1, v2, v3, c3, ⟨by omega, by omega, by omega, b3⟩, hc3, of_runC (by rfl) ?_⟩
  unfold b__law_rule
  simp at e1 e2 e3
  simp (disch := omega) [List.replicate, e1, e2, e3, iP_dis, sizeLine_v, flD]
/-- the drift at a year's beginning -/
def Dr (f : Rat) (m b c y : Nat) : Rat := f * ((y : Int) : Rat) - ((lb m b c y : Nat) : Int)
theorem den_Dr {f : Rat} {m b c y : Nat} : (Dr f m b c y).den ≤ f.den := by unfold Dr; exact den_b
theorem w_drift {f : Rat} {m b c y : Nat} (h : Ru m b c) (hf : f.den < 2 ^ 20) (hy : y ≤ 1000000) : m_drift [rD m b c, qD f, .int y] = some (qD (Dr f m b c y)) := by
  refine of_runF (by rfl) ?_
  unfold b_drift
  have w1 := w_timesI (x := f) (k := y) (by omega) (by omega)
  have d1 := (Dv.mulI f.den_pos (Dv.self (x := f)) (k := y)).le f.den_pos
  have w2 := w_minusI (x := f * ((y : Int) : Rat)) (k := (lb m b c y : Nat)) (by omega)
  simp (disch := omega) [List.replicate, iP_dis, sizeLine_v]
  rw [w1]
  simp (disch := omega) [w_leaps h, iP_dis, sizeLine_v]
  rw [w2]
  simp [flD, Dr]
def FMin (D : Nat → Rat) (m i : Nat) : Prop := i < m ∧ (∀ y, y < m → D i ≤ D y) ∧ ∀ y, y < i → D i < D y
def FMax (D : Nat → Rat) (m i : Nat) : Prop := i < m ∧ (∀ y, y < m → D y ≤ D i) ∧ ∀ y, y < i → D y < D i
theorem FMin.step {D : Nat → Rat} {m i : Nat} (h : FMin D m i) : (D m < D i → FMin D (m + 1) m) ∧ (¬ D m < D i → FMin D (m + 1) i) := by
  obtain ⟨h1, h2, h3⟩ := h
  refine ⟨fun hl => ⟨by omega, fun y hy => ?_, fun y hy => ?_⟩, fun hl => ⟨by omega, fun y hy => ?_, h3⟩⟩
  · by_cases e : y = m
    · subst e; exact Rat.le_refl
    · have := h2 y (by omega); grind
  · have := h2 y (by omega); grind
  · by_cases e : y = m
    · subst e; grind
    · exact h2 y (by omega)
theorem FMax.step {D : Nat → Rat} {m i : Nat} (h : FMax D m i) : (D i < D m → FMax D (m + 1) m) ∧ (¬ D i < D m → FMax D (m + 1) i) := by
  obtain ⟨h1, h2, h3⟩ := h
  refine ⟨fun hl => ⟨by omega, fun y hy => ?_, fun y hy => ?_⟩, fun hl => ⟨by omega, fun y hy => ?_, h3⟩⟩
  · by_cases e : y = m
    · subst e; exact Rat.le_refl
    · have := h2 y (by omega); grind
  · have := h2 y (by omega); grind
  · by_cases e : y = m
    · subst e; grind
    · exact h2 y (by omega)
def EI (f : Rat) (m b c : Nat) (i : Nat) (S1 : List Sl) (c1 : Option D) : Prop := ∃ (u v : Nat) (x y : Sl), S1 = [.val (rD m b c), .val (qD f), .val (qD (Dr f m b c u)), .val (qD (Dr f m b c v)), .val (.int u), .val (.int v), x, y] ∧ c1 = none ∧ x ≠ .cst ∧ y ≠ .cst ∧ FMin (Dr f m b c) (1 + i) u ∧ FMax (Dr f m b c) (1 + i) v
theorem w_extremes {f : Rat} {m b c : Nat} (h : Ru m b c) (hf : f.den < 2 ^ 20) : ∃ u v : Nat, m_extremes [rD m b c, qD f] = some (.tup [qD (Dr f m b c u), qD (Dr f m b c v), .int u, .int v]) ∧ FMin (Dr f m b c) m u ∧ FMax (Dr f m b c) m v := by
  have h1 := h.m1; have h2 := h.m2
  have key : ∃ d, m_extremes [rD m b c, qD f] = some d ∧ ∃ u v : Nat, d = .tup [qD (Dr f m b c u), qD (Dr f m b c v), .int u, .int v] ∧ FMin (Dr f m b c) m u ∧ FMax (Dr f m b c) m v := by
    refine of_runF_ex _ (by rfl) ?_
    show wS b_extremes [.val (rD m b c), .val (qD f), .no, .no, .no, .no, .no, .no] none _ .mk
    unfold b_extremes
    have w0 := w_drift (f := f) (y := 0) h hf (by omega)
    simp at w0
    refine seq_mid (fun S1 c1 => S1 = [.val (rD m b c), .val (qD f), .val (qD (Dr f m b c 0)), .val (qD (Dr f m b c 0)), .no, .no, .no, .no] ∧ c1 = none) ?_ ?_
    · simp [w0]
    rintro _ _ ⟨rfl, rfl⟩
    refine seq_mid (EI f m b c 0) ?_ ?_
    · simp (disch := omega) [iP_dis, sizeLine_v]
      have z : ∀ y, y < 1 + 0 → y = 0 := fun y hy => by omega
      exact ⟨0, 0, .no, .no, rfl, rfl, by simp, by simp, ⟨by omega, fun y hy => by rw [z y hy]; exact Rat.le_refl, fun y hy => by omega⟩, ⟨by omega, fun y hy => by rw [z y hy]; exact Rat.le_refl, fun y hy => by omega⟩⟩
    intro S1 c1 hE
    refine seq_mid (EI f m b c (m - 1)) ?_ ?_
    · obtain ⟨u, v, x, y, rfl, rfl, hx, hy, hu, hv⟩ := hE
      simp (disch := omega) [iP_dis]
      refine for_rng (EI f m b c) ⟨u, v, x, y, rfl, rfl, hx, hy, hu, hv⟩ ?_ (fun S c h => ⟨rfl, h⟩)
      rintro i S1 c1 hi ⟨u, v, x, y, rfl, rfl, hx, hy, hu, hv⟩
      have wi := w_drift (f := f) (y := 1 + i) h hf (by omega)
      simp at wi
      simp [notCst_of hx, wi, notCst_of hy]
      have d1 := den_Dr (f := f) (m := m) (b := b) (c := c) (y := 1 + i)
      have d2 := den_Dr (f := f) (m := m) (b := b) (c := c) (y := u)
      have d3 := den_Dr (f := f) (m := m) (b := b) (c := c) (y := v)
      have hu' := hu.step
      have hv' := hv.step
      rw [show 1 + i + 1 = 1 + (i + 1) by omega] at hu' hv'
      rw [w_less (by omega) (by omega)]
      simp
      refine ⟨fun hlt => ?_, fun hlt => ?_⟩
      · rw [w_less (by omega) (by omega)]
        simp
        refine ⟨fun hgt => ?_, fun hgt => ?_⟩
        · exact ⟨1 + i, 1 + i, _, _, by simp; exact ⟨rfl, rfl⟩, rfl, by simp, by simp, hu'.1 hlt, hv'.1 hgt⟩
        · exact ⟨1 + i, v, _, _, by simp; exact ⟨rfl, rfl⟩, rfl, by simp, by simp, hu'.1 hlt, hv'.2 hgt⟩
      · rw [w_less (by omega) (by omega)]
        simp
        refine ⟨fun hgt => ?_, fun hgt => ?_⟩
        · exact ⟨u, 1 + i, _, _, by simp; exact ⟨rfl, rfl⟩, rfl, by simp, by simp, hu'.2 hlt, hv'.1 hgt⟩
        · exact ⟨u, v, _, _, by simp; exact ⟨rfl, rfl⟩, rfl, by simp, by simp, hu'.2 hlt, hv'.2 hgt⟩
    · rintro S1 c1 ⟨u, v, x, y, rfl, rfl, hx, hy, hu, hv⟩
      rw [show 1 + (m - 1) = m by omega] at hu hv
      simp (disch := omega) [iP_dis, sizeLine_v, flD]
      exact ⟨u, v, ⟨rfl, rfl, rfl, rfl⟩, hu, hv⟩
  obtain ⟨d, k1, u, v, rfl, k2, k3⟩ := key
  exact ⟨u, v, k1, k2, k3⟩
end K62

set_option autoImplicit true
set_option relaxedAutoImplicit true
set_option Elab.async false
set_option linter.all false
set_option maxRecDepth 100000
set_option maxHeartbeats 4000000
/-! SB: drifts that are bounded, or not -/
namespace K62
open PySem L2 DL
theorem q_one : D.tup [.int 1, .int 1] = qD 1 := by
  rw [q_int]; rfl
/-- the first far year -/
def FF (f : Rat) (m b c t : Nat) : Prop := 1 < (Dr f m b c t).abs ∧ ∀ y, y < t → ¬ 1 < (Dr f m b c y).abs
theorem w_far {f : Rat} {m b c t most : Nat} (h : Ru m b c) (hf : f.den < 2 ^ 20) (ht : FF f m b c t) (hm : t ≤ most) (h2 : most ≤ 1000000 - 1) : m_first_far [rD m b c, qD f, .int most] = some (.int t) := by
  refine of_runF (by rfl) ?_
  show wS b_first_far [.val (rD m b c), .val (qD f), .val (.int most), .no] none _ .mk
  unfold b_first_far
  simp (disch := omega) [iP_dis]
  refine for_rng (fun i S1 c1 => i ≤ t ∧ c1 = none ∧ ∃ x : Sl, x ≠ .cst ∧ S1 = [.val (rD m b c), .val (qD f), .val (.int most), x]) ⟨by omega, rfl, .no, by simp, rfl⟩ ?_ ?_
  · rintro i S1 c1 hi ⟨hit, rfl, x, hx, rfl⟩
    have wi := w_drift (f := f) (y := i) h hf (by omega)
    have d1 := den_Dr (f := f) (m := m) (b := b) (c := c) (y := i)
    simp [notCst_of hx, wi, w_abs]
    rw [q_one, w_less (by decide) (by rw [den_abs]; omega)]
    simp
    refine ⟨fun hl => ?_, fun hl => ?_⟩
    · have : i = t := by
        by_cases e : i < t
        · exact absurd hl (ht.2 i e)
        · omega
      subst this
      simp [flD]
    · have : i ≠ t := fun e => hl (e ▸ ht.1)
      omega
  · rintro S1 c1 ⟨hit, _⟩
    omega
/-- texts that the law knows -/
theorem okU {k : Nat} : Ok k (.str "unbounded") := Ok.str (by decide +kernel)
theorem okB {k : Nat} : Ok k (.str "bounded") := Ok.str (by decide +kernel)
theorem eq_s {a b : Str} {k : Bool} (ha : PyData.strOk a = true) (hb : PyData.strOk b = true) (h : k = true ↔ a = b) : oEq (.str a) (.str b) = some (.bl k) := oEq_iff (Ok.str ha) (Ok.str hb) (by simp) (by simp) (by rw [h]; simp)
theorem ne_s {a b : Str} {k : Bool} (ha : PyData.strOk a = true) (hb : PyData.strOk b = true) (h : k = true ↔ a ≠ b) : oNe (.str a) (.str b) = some (.bl k) := oNe_iff (Ok.str ha) (Ok.str hb) (by simp) (by simp) (by rw [h]; simp)
theorem sU : PyData.strOk "unbounded" = true := by decide +kernel
theorem sB : PyData.strOk "bounded" = true := by decide +kernel
theorem e_uu : oEq (.str "unbounded") (.str "unbounded") = some (.bl true) := eq_s sU sU (by simp)
theorem e_ub : oEq (.str "unbounded") (.str "bounded") = some (.bl false) := eq_s sU sB (by simp; decide)
theorem e_bb : oEq (.str "bounded") (.str "bounded") = some (.bl true) := eq_s sB sB (by simp)
theorem n_uu : oNe (.str "unbounded") (.str "unbounded") = some (.bl false) := ne_s sU sU (by simp)
theorem oAddT_14 {a b c d e : D} : oAdd (.tup [a]) (.tup [b, c, d, e]) = some (.tup [a, b, c, d, e]) := by
  unfold oAdd orD oAddI oInt oAddS oAddT
  simp only []
  rw [if_pos ⟨by simp, by rw [sizeLine_v]; simp⟩]
  rfl
theorem w_dpB {f : Rat} {m b c : Nat} (h : Ru m b c) (hf : f.den < 2 ^ 20) (he : f = mkRat b m) {u v : Nat} (hx : m_extremes [rD m b c, qD f] = some (.tup [qD (Dr f m b c u), qD (Dr f m b c v), .int u, .int v])) :
    m_drift_paper [rD m b c, qD f] = some (.tup [.str "bounded", qD (Dr f m b c u), qD (Dr f m b c v), .int u, .int v]) := by
  have h1 := h.m1; have h2 := h.m2
  refine of_runF (by rfl) ?_
  unfold b_drift_paper
  simp [List.replicate]
  rw [w_ratio (by omega) (by omega), divInt_mk, ← he]
  simp (disch := omega) [hx, iP_dis, sizeLine_v]
  rw [oAddT_14]
  simp [flD]
theorem w_dpU {f : Rat} {m b c t : Nat} (h : Ru m b c) (hf : f.den < 2 ^ 20) (he : f ≠ mkRat b m) (ht : FF f m b c t) (hm : t ≤ 100000) :
    m_drift_paper [rD m b c, qD f] = some (.tup [.str "unbounded", .int t]) := by
  have h1 := h.m1; have h2 := h.m2
  refine of_runF (by rfl) ?_
  unfold b_drift_paper
  have w := w_far (most := 100000) h hf ht hm (by omega)
  simp at w
  simp [List.replicate]
  rw [w_ratio (by omega) (by omega), divInt_mk]
  simp (disch := omega) [he, w, iP_dis, sizeLine_v, flD]
theorem ni25 {n : Nat} {k : Bool} (h : k = true ↔ ¬ (n = 2 ∨ n = 5)) : oNi (.int n) (.tup [.int 2, .int 5]) = some (.bl k) := by
  have := oNi_of (oIn_iff (b := decide (n = 2 ∨ n = 5)) (x := .int n) (y := .tup [.int 2, .int 5]) (ds := [.int 2, .int 5]) rfl Ok.int (Ok.lst (k := 63) (by simp; exact ⟨Ok.int, Ok.int⟩)) (by simp) (by simp) (by simp; omega))
  rw [this]
  congr 2
  rw [Bool.eq_iff_iff, h]
  simp
theorem w_jdB {f : Rat} {m b c : Nat} (h : Ru m b c) (hf : f.den < 2 ^ 20) (he : f = mkRat b m) {u v : Nat} (hx : m_extremes [rD m b c, qD f] = some (.tup [qD (Dr f m b c u), qD (Dr f m b c v), .int u, .int v])) :
    m_judge_drift [rD m b c, qD f, .tup [.str "bounded", qD (Dr f m b c u), qD (Dr f m b c v), .int u, .int v]] = some (.bl true) := by
  have h1 := h.m1; have h2 := h.m2
  have d2 := den_Dr (f := f) (m := m) (b := b) (c := c) (y := u)
  have d3 := den_Dr (f := f) (m := m) (b := b) (c := c) (y := v)
  have n5 : oNi (.int 5) (.tup [.int 2, .int 5]) = some (.bl false) := ni25 (n := 5) (by simp)
  have i0 : ixD (.tup [.str "bounded", qD (Dr f m b c u), qD (Dr f m b c v), .int u, .int v]) (.int 0) = some (.str "bounded") := (rfl)
  have i1 : ixD (.tup [.str "bounded", qD (Dr f m b c u), qD (Dr f m b c v), .int u, .int v]) (.int 1) = some (qD (Dr f m b c u)) := (rfl)
  have i2 : ixD (.tup [.str "bounded", qD (Dr f m b c u), qD (Dr f m b c v), .int u, .int v]) (.int 2) = some (qD (Dr f m b c v)) := (rfl)
  have i3 : ixD (.tup [.str "bounded", qD (Dr f m b c u), qD (Dr f m b c v), .int u, .int v]) (.int 3) = some (.int u) := (rfl)
  have i4 : ixD (.tup [.str "bounded", qD (Dr f m b c u), qD (Dr f m b c v), .int u, .int v]) (.int 4) = some (.int v) := (rfl)
  have cc : cutD [D.str "bounded", qD (Dr f m b c u), qD (Dr f m b c v), .int u, .int v] (some 1) none = [qD (Dr f m b c u), qD (Dr f m b c v), .int u, .int v] := (rfl)
  refine of_runF (by rfl) ?_
  unfold b_judge_drift
  simp (disch := omega) [List.replicate, isiD, iP_dis, sizeLine_v, n5, i0]
  rw [w_ratio (by omega) (by omega), divInt_mk, ← he]
  simp (disch := omega) [i0, i1, i2, i3, i4, e_bb, w_isratio, d2, d3]
  simp [hx, cc]
  rw [eq_same (Ok.tup (k := 63) (by simp; exact ⟨ok_q, ok_q, Ok.int, Ok.int⟩))]
  simp [flD]
theorem w_jdU {f : Rat} {m b c t z : Nat} (h : Ru m b c) (hf : f.den < 2 ^ 20) (he : f ≠ mkRat b m) (ht : FF f m b c t) (hz : t ≤ z) (hm : z ≤ 100000) :
    m_judge_drift [rD m b c, qD f, .tup [.str "unbounded", .int z]] = some (.bl (decide (z = t))) := by
  have h1 := h.m1; have h2 := h.m2
  have n2 : oNi (.int 2) (.tup [.int 2, .int 5]) = some (.bl false) := ni25 (n := 2) (by simp)
  have w := w_far (most := z) h hf ht hz (by omega)
  refine of_runF (by rfl) ?_
  unfold b_judge_drift
  simp (disch := omega) [List.replicate, isiD, iP_dis, sizeLine_v, n2]
  rw [w_ratio (by omega) (by omega), divInt_mk]
  simp (disch := omega) [e_ub, n_uu, he, w, flD]
  refine ⟨fun h => ?_, fun h => by omega⟩
  omega
theorem w_jdE {f : Rat} {m b c : Nat} {z : Int} (h : Ru m b c) (hf : f.den < 2 ^ 20) (he : f = mkRat b m) :
    m_judge_drift [rD m b c, qD f, .tup [.str "unbounded", .int z]] = some (.bl false) := by
  have h1 := h.m1; have h2 := h.m2
  have n2 : oNi (.int 2) (.tup [.int 2, .int 5]) = some (.bl false) := ni25 (n := 2) (by simp)
  refine of_runF (by rfl) ?_
  unfold b_judge_drift
  simp (disch := omega) [List.replicate, isiD, iP_dis, sizeLine_v, n2]
  rw [w_ratio (by omega) (by omega), divInt_mk, ← he]
  simp (disch := omega) [e_ub, n_uu, flD]
theorem w_jd1 {x y : D} {a : D} : m_judge_drift [x, y, .tup [a]] = some (.bl false) := by
  have n1 : oNi (.int 1) (.tup [.int 2, .int 5]) = some (.bl true) := ni25 (n := 1) (by simp)
  refine of_runF (by rfl) ?_
  unfold b_judge_drift
  simp (disch := omega) [List.replicate, isiD, iP_dis, sizeLine_v, n1, flD]
theorem w_jd4 {x y : D} {a b c d : D} : m_judge_drift [x, y, .tup [a, b, c, d]] = some (.bl false) := by
  have n1 : oNi (.int 4) (.tup [.int 2, .int 5]) = some (.bl true) := ni25 (n := 4) (by simp)
  refine of_runF (by rfl) ?_
  unfold b_judge_drift
  simp (disch := omega) [List.replicate, isiD, iP_dis, sizeLine_v, n1, flD]
end K62

set_option autoImplicit true
set_option relaxedAutoImplicit true
set_option Elab.async false
set_option linter.all false
set_option maxRecDepth 100000
set_option maxHeartbeats 4000000
/-! SC: the law's part on drift -/
namespace K62
open PySem L2 DL
theorem strOk_s (s : String) (h : ∀ c ∈ s.toList, c.toNat < 128) : PyData.strOk (Str.ofString s) = true := by
  rw [Str.ofString_eq_toList]
  unfold PyData.strOk
  simp
  intro c hc
  have := h c hc
  omega
theorem repr_i {i : Int} (h : i.natAbs < 2 ^ 100) : oRepr [.int i] = some (.str (Str.ofString (toString i))) := by
  have h2 : i.natAbs.log2 < 1920 := by
    by_cases h0 : i.natAbs = 0
    · rw [h0]; decide
    · rw [Nat.log2_lt h0]
      exact Nat.lt_of_lt_of_le h (Nat.pow_le_pow_right (by omega) (by omega))
  show (if i.natAbs.log2 < 1920 then some (D.str (toString i)) else none) = _
  rw [if_pos h2]
theorem ne_repr {i : Int} : oNe (.str (Str.ofString (toString i))) (.str (Str.ofString (toString i))) = some (.bl false) := ne_same (Ok.str (strOk_s _ (PySem.int_ascii i)))
/-- how many years ahead are leap years -/
theorem count_lp {m b c : Nat} (h : Ru m b c) (y : Nat) : ((List.range y).filter (lp m b c)).length = lb m b c y := by
  induction y with
  | zero => rw [lb_0 h]; rfl
  | succ y ih =>
    rw [List.range_succ, List.filter_append, List.length_append, ih, lb_succ h]
    simp [List.filter_cons]
    split <;> simp
/-- the drift's numerator -/
def dn (f : Rat) (m b c k : Nat) : Int := f.num * k - lb m b c k * f.den
theorem dn_eq {f : Rat} {m b c k : Nat} : mkRat (dn f m b c k) f.den = Dr f m b c k := by
  have hd := f.den_pos
  unfold dn Dr
  have e1 : f * ((k : Int) : Rat) = mkRat (f.num * k) f.den := by
    rw [Rat.mul_def', Rat.num_intCast, Rat.den_intCast, Nat.mul_one]
  have e2 : (((lb m b c k : Nat) : Int) : Rat) = mkRat (lb m b c k * f.den) f.den := by
    have := Rat.mkRat_mul_right (n := lb m b c k) (d := 1) (a := f.den) (by omega)
    rw [Nat.one_mul] at this
    rw [this, Rat.mkRat_one]
  rw [e1, e2, Rat.sub_eq_add_neg, Rat.neg_mkRat, Rat.mkRat_add_mkRat _ _ (by omega) (by omega), ← Int.add_mul, Rat.mkRat_mul_right (by omega)]
  congr 1
theorem dn_le {f : Rat} {m b c i j : Nat} : Dr f m b c i ≤ Dr f m b c j ↔ dn f m b c i ≤ dn f m b c j := by
  rw [← dn_eq, ← dn_eq, mk_le f.den_pos]
theorem dn_far {f : Rat} {m b c k : Nat} : 1 < (Dr f m b c k).abs ↔ (f.den : Int) < (dn f m b c k).natAbs := by
  have hd := f.den_pos
  have e1 : (1 : Rat) = mkRat f.den f.den := by
    have := Rat.mkRat_mul_right (n := 1) (d := 1) (a := f.den) (by omega)
    rw [Nat.one_mul, Int.one_mul] at this
    rw [this, Rat.mkRat_one]; rfl
  rw [← dn_eq]
  generalize dn f m b c k = z
  have e2 : (mkRat z f.den).abs = mkRat (z.natAbs : Nat) f.den := by
    by_cases h : 0 ≤ z
    · rw [Rat.abs_of_nonneg (by have := (mk_le (a := 0) (b := z) hd).mpr h; simpa using this)]
      congr 1; omega
    · rw [Rat.abs_of_nonpos (by have := (mk_le (a := z) (b := 0) hd).mpr (by omega); simpa using this), Rat.neg_mkRat]
      congr 1; omega
  rw [e2, e1, mk_lt hd]
theorem dn_bd {f : Rat} {m b c k : Nat} (h : Ru m b c) (hk : k ≤ 600) (hn : -100 ≤ f.num ∧ f.num ≤ 100) (hd : f.den ≤ 12) : -(2 ^ 40) < dn f m b c k ∧ dn f m b c k < 2 ^ 40 := by
  unfold dn
  have hl := lb_le h k
  have a1 : ((lb m b c k : Nat) : Int) * f.den ≤ 600 * 12 := Int.mul_le_mul (by omega) (by omega) (by omega) (by omega)
  have a2 := Int.mul_nonneg (show 0 ≤ ((lb m b c k : Nat) : Int) by omega) (show 0 ≤ (f.den : Int) by omega)
  have a3 : f.num * k ≤ 100 * k := Int.mul_le_mul_of_nonneg_right hn.2 (by omega)
  have a4 : -100 * k ≤ f.num * (k : Int) := Int.mul_le_mul_of_nonneg_right hn.1 (by omega)
  omega
/-- an unlike rate leads far away -/
theorem far_ex {f : Rat} {m b c : Nat} (h : Ru m b c) (hn : 0 ≤ f.num) (hd : f.den ≤ 12) (hne : f ≠ mkRat b m) : ∃ t, t ≤ 400 ∧ FF f m b c t := by
  have hdp := f.den_pos
  have h1 := h.m1; have h2 := h.m2
  have hx : f.num * m ≠ b * f.den := by
    intro e
    apply hne
    rw [← Rat.mkRat_self f, Rat.mkRat_eq_iff (by omega) (by omega)]
    exact e
  have far : (f.den : Int) < (dn f m b c 400).natAbs := by
    unfold dn lb
    have e := Nat.div_add_mod (b * 400 + c) m
    have e2 := Nat.mod_lt (b * 400 + c) (show m > 0 by omega)
    have hc := h.cm
    generalize (b * 400 + c) / m = q at *
    generalize (b * 400 + c) % m = r at *
    -- m times the numerator
    have key : (m : Int) * (f.num * ((400 : Nat) : Int) - q * f.den) = 400 * (f.num * m - b * f.den) + (r - c) * f.den := by
      have e' : (m : Int) * q + r = b * 400 + c := by omega
      grind
    have b1 : (r : Int) - c ≤ 11 := by omega
    have b2 : -11 ≤ (r : Int) - c := by omega
    have b3 : ((r : Int) - c) * f.den ≤ 11 * f.den := Int.mul_le_mul_of_nonneg_right b1 (by omega)
    have b4 : -11 * (f.den : Int) ≤ ((r : Int) - c) * f.den := Int.mul_le_mul_of_nonneg_right b2 (by omega)
    generalize f.num * ((400 : Nat) : Int) - (q : Int) * f.den = z at *
    by_cases hp : 0 < f.num * m - b * f.den
    · have : 400 - 11 * 12 ≤ (m : Int) * z := by omega
      by_cases hz : (f.den : Int) < z
      · omega
      · exfalso
        have : (m : Int) * z ≤ m * 12 := Int.mul_le_mul_of_nonneg_left (by omega) (by omega)
        omega
    · have : (m : Int) * z ≤ -(400 - 11 * 12) := by omega
      by_cases hz : z < -(f.den : Int)
      · omega
      · exfalso
        have : (m : Int) * (-12) ≤ m * z := Int.mul_le_mul_of_nonneg_left (by omega) (by omega)
        omega
  have ex : ∃ t, t ≤ 400 ∧ 1 < (Dr f m b c t).abs := ⟨400, Nat.le_refl _, dn_far.mpr far⟩
  have least : ∀ n, (∃ t, t ≤ n ∧ 1 < (Dr f m b c t).abs) → ∃ t, t ≤ n ∧ FF f m b c t := by
    intro n
    induction n with
    | zero => rintro ⟨t, ht, hf⟩; exact ⟨t, ht, hf, fun y hy => by omega⟩
    | succ n ih =>
      rintro ⟨t, ht, hf⟩
      by_cases h : ∃ t, t ≤ n ∧ 1 < (Dr f m b c t).abs
      · obtain ⟨t, h1, h2⟩ := ih h
        exact ⟨t, by omega, h2⟩
      · exact ⟨t, ht, hf, fun y hy hfy => h ⟨y, by omega, hfy⟩⟩
  exact least 400 ex
theorem idxD_first {x : D} : ∀ {ds : List D} {i : Nat}, ds[i]? = some x → nob x = true → (∀ d ∈ ds, nob d = true) → (∀ j, j < i → ds[j]? ≠ some x) → idxD x ds = some i
  | [], i, h, _, _, _ => by simp at h
  | z :: r, 0, h, hx, hn, _ => by
    simp at h
    subst h
    unfold idxD
    rw [if_pos ((eqD_iff hx hx).mpr rfl)]
  | z :: r, i + 1, h, hx, hn, hno => by
    unfold idxD
    have h0 : ¬ eqD z x = true := fun e => hno 0 (by omega) (by simp; exact (eqD_iff (hn z List.mem_cons_self) hx).mp e)
    rw [if_neg h0, idxD_first (i := i) (by simpa using h) hx (fun d hd => hn d (List.mem_cons_of_mem _ hd)) (fun j hj => by have := hno (j + 1) (by omega); simpa using this)]
end K62

set_option autoImplicit true
set_option relaxedAutoImplicit true
set_option Elab.async false
set_option linter.all false
set_option maxRecDepth 100000
set_option maxHeartbeats 4000000
/-! SD: the law's part on drift, its walk -/
namespace K62
open PySem L2 DL
theorem et : ∀ b : Bool, oToInt [.bl b] = some (.int (if b = true then 1 else 0)) := fun b => by cases b <;> rfl
abbrev dE (f : Rat) (m b c k : Nat) : D := .tup [.int (dn f m b c k), .int f.den]
theorem okSl_ne {x : Sl} (h : okSl x = true) : x ≠ .cst := by rintro rfl; cases h
def DI (f : Rat) (m b c : Nat) (s1 s2 s3 s4 s5 s6 s8 s12 s13 s14 s15 s16 s17 s18 : Sl) (cs : Option D) (i : Nat) (S1 : List Sl) (c1 : Option D) : Prop := ∃ x : Sl, okSl x = true ∧ c1 = cs ∧
  S1 = [.cst, s1, s2, s3, s4, s5, s6, .val (qD f), s8, .own ((List.range i).map (dE f m b c)), .val (.int (lb m b c i : Nat)), x, s12, s13, s14, s15, s16, s17, s18]
theorem tk {F : Nat → D} {m n : Nat} (h : m ≤ n) : cutD ((List.range n).map F) none (some ((m : Nat) : Int)) = (List.range m).map F := by
  rw [cut_to, ← List.map_take, List.take_range, Nat.min_eq_left h]
theorem num_mk_b {a n : Nat} (hn : 0 < n) : 0 ≤ (mkRat a n).num ∧ (mkRat a n).num ≤ a := by
  rw [Rat.num_mkRat, if_neg (by omega)]
  refine ⟨Int.ediv_nonneg (by omega) (by omega), Int.ediv_le_self _ (by omega)⟩
theorem minI_eq {F : Nat → Int} {m i : Nat} (hi : i < m) (h : ∀ y, y < m → F i ≤ F y) : minI ((List.range m).map F) = F i := by
  have hne : (List.range m).map F ≠ [] := by
    intro z
    have := congrArg List.length z
    simp at this
    omega
  have h1 := minI_mem hne
  rw [List.mem_map] at h1
  obtain ⟨j, hj, e⟩ := h1
  have h2 : minI ((List.range m).map F) ≤ F i := minI_le (List.mem_map.mpr ⟨i, List.mem_range.mpr hi, rfl⟩)
  have := h j (List.mem_range.mp hj)
  omega
theorem maxI_eq {F : Nat → Int} {m i : Nat} (hi : i < m) (h : ∀ y, y < m → F y ≤ F i) : maxI ((List.range m).map F) = F i := by
  have hne : (List.range m).map F ≠ [] := by
    intro z
    have := congrArg List.length z
    simp at this
    omega
  have h1 := maxI_mem hne
  rw [List.mem_map] at h1
  obtain ⟨j, hj, e⟩ := h1
  have h2 : F i ≤ maxI ((List.range m).map F) := maxI_ge (List.mem_map.mpr ⟨i, List.mem_range.mpr hi, rfl⟩)
  have := h j (List.mem_range.mp hj)
  omega
theorem lst_0' {x : D} {r : List D} : ixD (.lst (x :: r)) (.int 0) = some x := ixD_l (i := 0) rfl
theorem cut_drop1 {a b c d e : D} : cutD [a, b, c, d, e] none (some (-1)) = [a, b, c, d] := (rfl)
theorem cut_drop1' {a b : D} : cutD [a, b] none (some (-1)) = [a] := (rfl)
theorem w_driftR {c : D} (hc : Cell c) : ∃ d c', m__law_drift_right c [] = some (d, c') ∧ d = .bl true := by
  refine of_runC_ex (fun d c' => d = .bl true) (by rfl) ?_
  show wS b__law_drift_right [.cst, .no, .no, .no, .no, .no, .no, .no, .no, .no, .no, .no, .no, .no, .no, .no, .no, .no, .no] (some c) _ .mk
  unfold b__law_drift_right
  obtain ⟨m, b, f0, c1, h, hc1, e1⟩ := w_rule hc
  have h1 := h.m1; have h2 := h.m2; have hb := h.bm; have hf0 := h.cm
  obtain ⟨y, c2, b2, hc2, e2⟩ := w_take hc1 60 (by omega) (by omega)
  simp at e2
  refine seq_mid (fun S1 cc => S1 = [.cst, .val (rD m b f0), .no, .no, .no, .no, .no, .no, .no, .no, .no, .no, .no, .no, .no, .no, .no, .no, .no] ∧ cc = some c1) ?_ ?_
  · simp [e1]
  rintro _ _ ⟨rfl, rfl⟩
  refine seq_mid (fun S1 cc => S1 = [.cst, .val (rD m b f0), .val (.int m), .val (.int b), .val (.int f0), .no, .no, .no, .no, .no, .no, .no, .no, .no, .no, .no, .no, .no, .no] ∧ cc = some c1) ?_ ?_
  · simp (disch := omega) [iP_dis]
  rintro _ _ ⟨rfl, rfl⟩
  refine seq_mid (fun S1 cc => S1 = [.cst, .val (rD m b f0), .val (.int m), .val (.int b), .val (.int f0), .val (.int y), .no, .no, .no, .no, .no, .no, .no, .no, .no, .no, .no, .no, .no] ∧ cc = some c2) ?_ ?_
  · simp [e2]
  rintro _ _ ⟨rfl, rfl⟩
  refine seq_mid (fun S1 cc => S1 = [.cst, .val (rD m b f0), .val (.int m), .val (.int b), .val (.int f0), .val (.int y), .val (.int (lb m b f0 y : Nat)), .no, .no, .no, .no, .no, .no, .no, .no, .no, .no, .no, .no] ∧ cc = some c2) ?_ ?_
  · have hf := lc_filter (g := gdN 11) (tt := dTru (dCall m__law_leap (dCons (dVar 1) (dCons (dVar 11) dNil)))) (f := dVar 11) (S := [.cst, .val (rD m b f0), .val (.int m), .val (.int b), .val (.int f0), .val (.int y), .no, .no, .no, .no, .no, .no, .no, .no, .no, .no, .no, .no, .no]) (cs := some c2) (φ := lp m b f0) (lo := 0) (List.range y) (fun i hi => by
      have := w_lleap (y := i) h
      simp [this])
    simp (disch := omega) [iP_dis, sizeLine_v, rngD_len]
    rw [show rngD 0 y = (List.range y).map (fun (i : Nat) => D.int (0 + (i : Int))) from rfl, hf]
    simp [count_lp h]
  rintro _ _ ⟨rfl, rfl⟩
  refine seq_mid (fun S1 cc => S1 = [.cst, .val (rD m b f0), .val (.int m), .val (.int b), .val (.int f0), .val (.int y), .val (.int (lb m b f0 y : Nat)), .no, .no, .no, .no, .no, .no, .no, .no, .no, .no, .no, .no] ∧ cc = some c2) ?_ ?_
  · have hl := lb_le h y
    have hr := repr_i (i := (lb m b f0 y : Nat)) (by omega)
    have nr := ne_repr (i := (lb m b f0 y : Nat))
    simp at hr nr
    simp [w_isleap h, w_lleap h, w_said, w_leaps h]
    simp [hr, nr]
  rintro _ _ ⟨rfl, rfl⟩
  -- the rate
  have rate : ∃ (f : Rat) (c3 : D), Cell c3 ∧ 0 ≤ f.num ∧ f.num ≤ 100 ∧ f.den ≤ 12 ∧ wS (dsAsg (dIf (dTst (dOp oEq (dCallC m__law_take (dCons (dVar 0) (dCons (dC (.int 2)) dNil))) (dC (.int 0)))) (dCall m__law_fraction (dCons (dVar 3) (dCons (dVar 2) dNil))) (dCall m__law_fraction (dCons (dCallC m__law_take (dCons (dVar 0) (dCons (dC (.int 13)) dNil))) (dCons (dC (.int 12)) dNil)))) (gdN 7)) [.cst, .val (rD m b f0), .val (.int m), .val (.int b), .val (.int f0), .val (.int y), .val (.int (lb m b f0 y : Nat)), .no, .no, .no, .no, .no, .no, .no, .no, .no, .no, .no, .no] (some c2)
      (fun fl S1 cc => fl = .nx ∧ S1 = [.cst, .val (rD m b f0), .val (.int m), .val (.int b), .val (.int f0), .val (.int y), .val (.int (lb m b f0 y : Nat)), .val (qD f), .no, .no, .no, .no, .no, .no, .no, .no, .no, .no, .no] ∧ cc = some c3) .mk := by
    obtain ⟨v3, c3, b3, hc3, e3⟩ := w_take hc2 2 (by omega) (by omega)
    simp at e3
    by_cases hv : v3 = 0
    · subst hv
      have nb := num_mk_b (a := b) (n := m) (by omega)
      refine ⟨mkRat b m, c3, hc3, nb.1, by omega, Nat.le_trans ((Dv.mk (by omega)).le (by omega)) h2, ?_⟩
      simp [e3, w_frac (n := b) (d := m) (by omega) (by omega)]
    · obtain ⟨v4, c4, b4, hc4, e4⟩ := w_take hc3 13 (by omega) (by omega)
      simp at e4
      have nb := num_mk_b (a := v4) (n := 12) (by omega)
      have w := w_frac (n := v4) (d := 12) (by omega) (by omega)
      simp at w
      refine ⟨mkRat v4 12, c4, hc4, nb.1, by omega, (Dv.mk (by omega)).le (by omega), ?_⟩
      simp [e3, hv, e4, w]
  obtain ⟨f, c3, hc3, n0, n1, fd, hrate⟩ := rate
  have fdp := f.den_pos
  refine seq_mid (fun S1 cc => S1 = [.cst, .val (rD m b f0), .val (.int m), .val (.int b), .val (.int f0), .val (.int y), .val (.int (lb m b f0 y : Nat)), .val (qD f), .no, .no, .no, .no, .no, .no, .no, .no, .no, .no, .no] ∧ cc = some c3) hrate ?_
  rintro _ _ ⟨rfl, rfl⟩
  clear hrate
  obtain ⟨u, v, hx, hu, hv⟩ := w_extremes (f := f) h (by omega)
  -- what the program tells
  have told : ∃ td : D, m_drift_paper [rD m b f0, qD f] = some td ∧ ((f = mkRat b m ∧ td = .tup [.str "bounded", qD (Dr f m b f0 u), qD (Dr f m b f0 v), .int u, .int v]) ∨ (f ≠ mkRat b m ∧ ∃ t : Nat, t ≤ 400 ∧ FF f m b f0 t ∧ td = .tup [.str "unbounded", .int t])) := by
    by_cases he : f = mkRat b m
    · exact ⟨_, w_dpB h (by omega) he hx, .inl ⟨he, rfl⟩⟩
    · obtain ⟨t, t1, t2⟩ := far_ex h n0 fd he
      exact ⟨_, w_dpU h (by omega) he t2 (by omega), .inr ⟨he, t, t1, t2, rfl⟩⟩
  obtain ⟨td, htd, hcase⟩ := told
  refine seq_mid (fun S1 cc => S1 = [.cst, .val (rD m b f0), .val (.int m), .val (.int b), .val (.int f0), .val (.int y), .val (.int (lb m b f0 y : Nat)), .val (qD f), .val td, .no, .no, .no, .no, .no, .no, .no, .no, .no, .no] ∧ cc = some c3) ?_ ?_
  · simp [htd]
  rintro _ _ ⟨rfl, rfl⟩
  refine seq_mid (DI f m b f0 (.val (rD m b f0)) (.val (.int m)) (.val (.int b)) (.val (.int f0)) (.val (.int y)) (.val (.int (lb m b f0 y : Nat))) (.val td) .no .no .no .no .no .no .no (some c3) 0) ?_ ?_
  · simp (disch := omega) [iP_dis, sizeLine_v]
    exact ⟨.no, by simp, rfl, by simp [lb_0 h]⟩
  intro S1 cc hD0
  refine seq_mid (DI f m b f0 (.val (rD m b f0)) (.val (.int m)) (.val (.int b)) (.val (.int f0)) (.val (.int y)) (.val (.int (lb m b f0 y : Nat))) (.val td) .no .no .no .no .no .no .no (some c3) 600) ?_ ?_
  · obtain ⟨x, hx, rfl, rfl⟩ := hD0
    simp (disch := omega) [iP_dis]
    refine for_rng (DI f m b f0 (.val (rD m b f0)) (.val (.int m)) (.val (.int b)) (.val (.int f0)) (.val (.int y)) (.val (.int (lb m b f0 y : Nat))) (.val td) .no .no .no .no .no .no .no (some c3)) ⟨x, hx, rfl, by simp⟩ ?_ (fun S c h => ⟨rfl, h⟩)
    rintro i S1 c1 hi ⟨x, hx, rfl, rfl⟩
    have hl := lb_le h i
    simp [notCst_of (okSl_ne hx)]
    rw [oMul_i (by omega)]
    simp
    rw [oMul_i (by omega)]
    have hlen : ((List.range i).map (dE f m b f0)).length < 16777216 := by simp; omega
    simp (disch := omega) [iP_dis, sizeLine_v, w_lleap h, et]
    refine ⟨.val (.int i), by simp, rfl, ?_⟩
    rw [lb_succ h, List.range_succ, List.map_append]
    simp [dn]
    split <;> simp
  rintro S1 cc ⟨x, hx2, rfl, rfl⟩
  simp only [w_freeze, atS_s, atS_z, onOwn_o, List.set_cons_succ, List.set_cons_zero]
  have he : ((f.num * m = b * f.den) ↔ f = mkRat b m) := by
    constructor
    · intro e
      rw [← Rat.mkRat_self f, Rat.mkRat_eq_iff (by omega) (by omega)]
      exact e
    · intro e
      have e2 : mkRat f.num f.den = mkRat b m := by rw [Rat.mkRat_self]; exact e
      rw [Rat.mkRat_eq_iff (by omega) (by omega)] at e2
      exact e2
  have dD : ∀ k, (Dr f m b f0 k).den ≤ 12 := fun k => Nat.le_trans den_Dr fd
  have lenE : ∀ n, ((List.range n).map (dE f m b f0)).length = n := fun n => by simp
  have tkE : cutD ((List.range 600).map (dE f m b f0)) none (some (m : Int)) = (List.range m).map (dE f m b f0) := tk (by omega)
  have w_fr : ∀ k, m__law_fraction [.int (dn f m b f0 k), .int f.den] = some (qD (Dr f m b f0 k)) := fun k => by
    rw [w_frac fdp (by omega), dn_eq]
  have mn := minI_eq (F := dn f m b f0) (m := m) (i := u) hu.1 (fun y hy => dn_le.mp (hu.2.1 y hy))
  have mx := maxI_eq (F := dn f m b f0) (m := m) (i := v) hv.1 (fun y hy => dn_le.mp (hv.2.1 y hy))
  have nel : (List.range m).map (dn f m b f0) ≠ [] := by
    intro z
    have := congrArg List.length z
    simp at this
    omega
  refine seq_mid (fun S1 cc => ∃ (s11 s12 s13 s14 s17 s18 : Sl) (due oth : D) (c4 : D), S1 = [.cst, .val (rD m b f0), .val (.int m), .val (.int b), .val (.int f0), .val (.int y), .val (.int (lb m b f0 y : Nat)), .val (qD f), .val td, .val (.lst ((List.range 600).map (dE f m b f0))), .val (.int (lb m b f0 600 : Nat)), s11, s12, s13, s14, .val due, .val oth, s17, s18] ∧ cc = some c4 ∧
      oEq td due = some (.bl true) ∧ m_judge_drift [rD m b f0, qD f, due] = some (.bl true) ∧ m_judge_drift [rD m b f0, qD f, oth] = some (.bl false) ∧ ∃ dc, slD due none (some (-1)) = some dc ∧ m_judge_drift [rD m b f0, qD f, dc] = some (.bl false)) ?_ ?_
  · simp
    rw [oMul_i (by omega)]
    simp
    rw [oMul_i (by omega)]
    simp
    refine ⟨fun e => ?_, fun e => ?_⟩
    · have e' := he.mp e
      obtain ⟨rfl⟩ | ⟨z, _⟩ : td = .tup [.str "bounded", qD (Dr f m b f0 u), qD (Dr f m b f0 v), .int u, .int v] ∨ (f ≠ mkRat b m ∧ True) := by
        rcases hcase with ⟨_, z⟩ | ⟨z, _⟩
        · exact .inl z
        · exact .inr ⟨z, trivial⟩
      rotate_left
      · exact absurd e' z
      obtain ⟨v5, c5, b5, hc5, e5⟩ := w_take hc3 50 (by omega) (by omega)
      simp at e5
      have own : ∀ S cs, wG (gdN 18) (.non) S (fun _ => True) .mk → lcL (gdN 18) dYes (dCall m__law_fraction (dCons (dIx (dVar 18) (dC (.int 0))) (dCons (dIx (dVar 18) (dC (.int 1))) dNil))) ((List.range m).map (dE f m b f0)) S cs = some ((List.range m).map (fun k => qD (Dr f m b f0 k)), cs) := by
        intro S cs hS
        rw [lc_all (φ := fun k => qD (Dr f m b f0 k)), lenE]
        intro i d hd
        obtain ⟨k, hk, rfl⟩ := map_inv hd
        obtain ⟨hi, rfl⟩ := range_inv hk
        rw [w_gN, atS_get] at hS ⊢
        obtain ⟨s, hs, hc⟩ := hS
        refine ⟨s, hs, ?_⟩
        have hs18 : 18 < S.length := (List.getElem?_eq_some_iff.mp hs).1
        have hne : s ≠ .cst := by rintro rfl; simp [notCst] at hc
        rw [notCst_of hne]
        simp
        rw [atS_get]
        refine ⟨_, List.getElem?_set_self hs18, ?_⟩
        simp
        rw [atS_get]
        refine ⟨_, List.getElem?_set_self hs18, ?_⟩
        simp [w_fr]
      have nums : ∀ S cs, wG (gdN 18) (.non) S (fun _ => True) .mk → lcL (gdN 18) dYes (dIx (dVar 18) (dC (.int 0))) ((List.range m).map (dE f m b f0)) S cs = some (((List.range m).map (dn f m b f0)).map .int, cs) := by
        intro S cs hS
        rw [lc_all (φ := fun k => .int (dn f m b f0 k)), lenE, riD]
        intro i d hd
        obtain ⟨k, hk, rfl⟩ := map_inv hd
        obtain ⟨hi, rfl⟩ := range_inv hk
        rw [w_gN, atS_get] at hS ⊢
        obtain ⟨s, hs, hc⟩ := hS
        refine ⟨s, hs, ?_⟩
        have hs18 : 18 < S.length := (List.getElem?_eq_some_iff.mp hs).1
        have hne : s ≠ .cst := by rintro rfl; simp [notCst] at hc
        rw [notCst_of hne]
        simp
        rw [atS_get]
        refine ⟨_, List.getElem?_set_self hs18, ?_⟩
        simp
      have om := oMin_l nel
      have ox := oMax_l nel
      rw [mn] at om
      rw [mx] at ox
      have okown : okD (.lst ((List.range m).map (fun k => qD (Dr f m b f0 k)))) = true := (Ok.lst (k := 63) (fun d hd => by
        obtain ⟨k, _, rfl⟩ := List.mem_map.mp hd
        exact ok_q)).okD
      have nobown : ∀ d ∈ (List.range m).map (fun k => qD (Dr f m b f0 k)), nob d = true := fun d hd => by
        obtain ⟨k, _, rfl⟩ := List.mem_map.mp hd
        exact nob_q
      have getown : ∀ i, i < m → ((List.range m).map (fun k => qD (Dr f m b f0 k)))[i]? = some (qD (Dr f m b f0 i)) := fun i hi => by
        rw [List.getElem?_map, List.getElem?_range hi]; rfl
      have iu : idxD (qD (Dr f m b f0 u)) ((List.range m).map (fun k => qD (Dr f m b f0 k))) = some u := idxD_first (getown u hu.1) nob_q nobown (fun j hj e => by
        rw [getown j (by have := hu.1; omega)] at e
        have := qD_inj.mp (Option.some.inj e)
        have := hu.2.2 j hj
        grind)
      have iv : idxD (qD (Dr f m b f0 v)) ((List.range m).map (fun k => qD (Dr f m b f0 k))) = some v := idxD_first (getown v hv.1) nob_q nobown (fun j hj e => by
        rw [getown j (by have := hv.1; omega)] at e
        have := qD_inj.mp (Option.some.inj e)
        have := hv.2.2 j hj
        grind)
      simp (disch := omega) [tkE, lenE, iP_dis, sizeLine_v]
      rw [own _ _ (by simp [notCst_of (okSl_ne hx2)])]
      simp (disch := omega) [tkE, lenE, iP_dis, sizeLine_v]
      rw [nums _ _ (by simp [notCst_of (okSl_ne hx2)])]
      simp (disch := omega) [-List.map_map, om, tkE, lenE, iP_dis, sizeLine_v]
      rw [nums _ _ (by simp [notCst_of (okSl_ne hx2)])]
      simp (disch := omega) [-List.map_map, ox, tkE, lenE, iP_dis, sizeLine_v, w_fr, okown, (ok_q (k := 63)).okD, iu, iv, e5]
      refine ⟨_, _, _, _, _, _, _, _, ⟨rfl, rfl, rfl, rfl, rfl, rfl, rfl, rfl⟩, ?_, w_jdB h (by omega) e' hx, w_jdE h (by omega) e', .tup [.str "bounded", qD (Dr f m b f0 u), qD (Dr f m b f0 v), .int u], by rw [slD_t, cut_drop1], w_jd4⟩
      exact eq_same (Ok.tup (k := 63) (by simp; exact ⟨okB, ok_q, ok_q, Ok.int, Ok.int⟩))
    · have e' : f ≠ mkRat b m := fun z => e (he.mpr z)
      obtain ⟨t, t1, t2, rfl⟩ : ∃ t : Nat, t ≤ 400 ∧ FF f m b f0 t ∧ td = .tup [.str "unbounded", .int t] := by
        rcases hcase with ⟨z, _⟩ | ⟨_, z⟩
        · exact absurd z e'
        · exact z
      obtain ⟨rest, hr⟩ := filter_first (φ := fun k => decide ((f.den : Int) < (dn f m b f0 k).natAbs)) (n := 600) (t0 := t) (by omega) (by
        simp only [decide_eq_true_eq]
        exact dn_far.mp t2.1) (fun i hi => by
        simp only [decide_eq_false_iff_not]
        exact fun z => t2.2 i hi (dn_far.mpr z))
      have hf := lc_filter (g := gdN 11) (tt := dTst (dOp oGt (dCB oAbs (dCons (dIx (dIx (dVar 9) (dVar 11)) (dC (.int 0))) dNil)) (dIx (dVar 7) (dC (.int 1))))) (f := dVar 11) (S := [.cst, .val (rD m b f0), .val (.int m), .val (.int b), .val (.int f0), .val (.int y), .val (.int (lb m b f0 y : Nat)), .val (qD f), .val (.tup [.str "unbounded", .int t]), .val (.lst ((List.range 600).map (dE f m b f0))), .val (.int (lb m b f0 600 : Nat)), .no, .no, .no, .no, .no, .no, .no, .no]) (cs := some c3) (φ := fun k => decide ((f.den : Int) < (dn f m b f0 k).natAbs)) (lo := 0) (List.range 600) (fun i hi => by
        rw [List.mem_range] at hi
        have g : ixD (.lst ((List.range 600).map (dE f m b f0))) (.int (i : Nat)) = some (dE f m b f0 i) := ixD_l (by rw [List.getElem?_map, List.getElem?_range hi]; rfl)
        have ea : ∀ x : Int, oAbs [.int x] = some (.int (x.natAbs : Nat)) := fun x => by
          show some (D.int (if x < 0 then -x else x)) = _
          congr 2
          split <;> omega
        simp only [Int.zero_add]
        simp [g, ea])
      rw [hr] at hf
      simp (disch := omega) [iP_dis, sizeLine_v, rngD_len, hx2]
      rw [show rngD 0 600 = (List.range 600).map (fun (i : Nat) => D.int (0 + (i : Int))) from rfl, hf]
      simp (disch := omega) [lst_0', iP_dis, sizeLine_v]
      refine ⟨_, _, _, _, _, _, _, _, ⟨rfl, rfl, rfl, rfl, rfl, rfl, rfl, rfl⟩, eq_same (Ok.tup (k := 63) (by simp; exact ⟨okU, Ok.int⟩)), ?_, ?_, .tup [.str "unbounded"], by rw [slD_t, cut_drop1'], w_jd1⟩
      · rw [w_jdU h (by omega) e' t2 (Nat.le_refl t) (by omega)]; simp
      · have := w_jdU h (by omega) e' t2 (show t ≤ t + 1 by omega) (by omega)
        simp at this
        simpa using this
  · rintro S1 cc ⟨s11, s12, s13, s14, s17, s18, due, oth, c4, rfl, rfl, j1, j2, j3, dc, j4, j5⟩
    simp [j1, j2, j3, j4, j5, flD]
end K62

set_option autoImplicit true
set_option relaxedAutoImplicit true
set_option Elab.async false
set_option linter.all false
set_option maxRecDepth 100000
set_option maxHeartbeats 4000000
/-! TA: calendars: years, months, days -/
namespace K62
open PySem L2 DL
/-- a calendar -/
structure Ca where
  m : Nat
  b : Nat
  c : Nat
  ls : List Nat
  x : Nat
structure Ca.Ok (C : Ca) : Prop where
  ru : Ru C.m C.b C.c
  k1 : 1 ≤ C.ls.length
  k4 : C.ls.length ≤ 4
  l1 : ∀ l ∈ C.ls, 1 ≤ l ∧ l ≤ 5
  xk : C.x < C.ls.length
namespace Ca
variable (C : Ca)
abbrev K : Nat := C.ls.length
def cD : D := .tup [rD C.m C.b C.c, .tup (C.ls.map fun (l : Nat) => D.int (l : Int)), .int C.x]
def S : Nat := C.ls.sum
def len (k : Nat) : Nat := C.ls.getD k 0
def lpy (y : Nat) : Bool := lp C.m C.b C.c y
def dl (y k : Nat) : Nat := C.len k + (if k = C.x ∧ C.lpy y = true then 1 else 0)
def ms (C : Ca) (y : Nat) : Nat → Nat
  | 0 => 0
  | k + 1 => ms C y k + C.dl y k
def yb (y : Nat) : Nat := C.S * y + lb C.m C.b C.c y
end Ca
variable {C : Ca}
theorem len_b (h : C.Ok) {k : Nat} (hk : k < C.K) : 1 ≤ C.len k ∧ C.len k ≤ 5 := by
  have : C.len k = C.ls[k] := by simp [Ca.len, List.getD, hk]
  rw [this]
  exact h.l1 _ (List.getElem_mem hk)
theorem dl_b (h : C.Ok) {y k : Nat} (hk : k < C.K) : 1 ≤ C.dl y k ∧ C.dl y k ≤ 6 := by
  have := len_b h hk
  unfold Ca.dl
  split <;> omega
theorem sum_take (h : C.Ok) (y : Nat) : ∀ k, k ≤ C.K → C.ms y k = (C.ls.take k).sum + (if C.x < k ∧ C.lpy y = true then 1 else 0)
  | 0, _ => by simp [Ca.ms]
  | k + 1, hk => by
    have e : C.len k = C.ls[k] := by simp [Ca.len, List.getD, show k < C.ls.length from hk]
    have hs : (C.ls.take (k + 1)).sum = (C.ls.take k).sum + C.ls[k] := by
      rw [List.take_add_one, List.getElem?_eq_getElem (by exact hk)]
      rw [List.sum_append]; simp
    rw [Ca.ms, sum_take h y k (by omega), Ca.dl, hs, e]
    by_cases h1 : C.lpy y = true
    · by_cases h2 : C.x < k
      · rw [if_pos ⟨h2, h1⟩, if_neg (by omega), if_pos ⟨by omega, h1⟩]; omega
      · by_cases h3 : k = C.x
        · rw [if_neg (by omega), if_pos ⟨h3, h1⟩, if_pos ⟨by omega, h1⟩]; omega
        · rw [if_neg (by omega), if_neg (by omega), if_neg (by omega)]; omega
    · rw [if_neg (fun z => h1 z.2), if_neg (fun z => h1 z.2), if_neg (fun z => h1 z.2)]; omega
theorem ms_K (h : C.Ok) (y : Nat) : C.ms y C.K = C.S + (if C.lpy y = true then 1 else 0) := by
  rw [sum_take h y C.K (Nat.le_refl _), List.take_length]
  have := h.xk
  unfold Ca.S
  by_cases h1 : C.lpy y = true
  · rw [if_pos ⟨this, h1⟩, if_pos h1]
  · rw [if_neg (fun z => h1 z.2), if_neg h1]
theorem yb_succ (h : C.Ok) (y : Nat) : C.yb (y + 1) = C.yb y + C.ms y C.K := by
  rw [ms_K h]
  unfold Ca.yb Ca.lpy
  rw [lb_succ h.ru, Nat.mul_add]
  omega
theorem yb_0 (h : C.Ok) : C.yb 0 = 0 := by unfold Ca.yb; rw [lb_0 h.ru]; omega
theorem S_b (h : C.Ok) : 1 ≤ C.S ∧ C.S ≤ 20 := by
  have h1 := h.k1; have h4 := h.k4; have hl := h.l1
  have gen : ∀ l : List Nat, (∀ x ∈ l, 1 ≤ x ∧ x ≤ 5) → l.length ≤ l.sum ∧ l.sum ≤ 5 * l.length := by
    intro l
    induction l with
    | nil => intro _; simp
    | cons a r ih =>
      intro hr
      have := ih fun x hx => hr x (List.mem_cons_of_mem _ hx)
      have := hr a List.mem_cons_self
      simp
      omega
  have := gen C.ls hl
  unfold Ca.S
  omega
theorem yb_b (h : C.Ok) (y : Nat) : y ≤ C.yb y ∧ C.yb y ≤ 21 * y := by
  have h1 := S_b h
  have h2 := lb_le h.ru y
  unfold Ca.yb
  have a := Nat.mul_le_mul_right y h1.1
  have b := Nat.mul_le_mul_right y h1.2
  omega
theorem yb_mono (h : C.Ok) {a b : Nat} (hab : a ≤ b) : C.yb a ≤ C.yb b := by
  induction hab with
  | refl => exact Nat.le_refl _
  | step _ ih => exact Nat.le_trans ih (by rw [yb_succ h]; omega)
theorem ms_mono {y : Nat} {a b : Nat} (hab : a ≤ b) : C.ms y a ≤ C.ms y b := by
  induction hab with
  | refl => exact Nat.le_refl _
  | step _ ih => exact Nat.le_trans ih (by rw [Ca.ms]; omega)
abbrev dD (y k d : Nat) : D := .tup [.int y, .int k, .int d]
def dayL (C : Ca) (y k : Nat) : List D := (List.range (C.dl y k)).map (dD y k)
def monL (C : Ca) (y : Nat) : Nat → List D
  | 0 => []
  | k + 1 => monL C y k ++ dayL C y k
def allD (C : Ca) : Nat → List D
  | 0 => []
  | y + 1 => allD C y ++ monL C y C.K
theorem monL_len (y : Nat) : ∀ k, (monL C y k).length = C.ms y k
  | 0 => rfl
  | k + 1 => by rw [monL, List.length_append, monL_len y k, Ca.ms]; simp [dayL]
theorem allD_len (h : C.Ok) : ∀ y, (allD C y).length = C.yb y
  | 0 => by rw [yb_0 h]; rfl
  | y + 1 => by rw [allD, List.length_append, allD_len h y, monL_len, yb_succ h]
theorem monL_get {y k j d : Nat} : ∀ {n : Nat}, k < n → d < C.dl y k → (monL C y n)[C.ms y k + d]? = some (dD y k d)
  | 0, hk, _ => by omega
  | n + 1, hk, hd => by
    rw [monL]
    by_cases h : k < n
    · have hm : C.ms y (k + 1) ≤ C.ms y n := ms_mono h
      rw [Ca.ms] at hm
      rw [List.getElem?_append_left (by rw [monL_len]; omega)]
      exact monL_get (j := j) h hd
    · have : k = n := by omega
      subst this
      rw [List.getElem?_append_right (by rw [monL_len]; omega), monL_len, Nat.add_sub_cancel_left]
      simp [dayL, hd]
theorem allD_get (h : C.Ok) {y k d : Nat} : ∀ {Y : Nat}, y < Y → k < C.K → d < C.dl y k → (allD C Y)[C.yb y + C.ms y k + d]? = some (dD y k d)
  | 0, hy, _, _ => by omega
  | Y + 1, hy, hk, hd => by
    rw [allD]
    have h1 : C.ms y (k + 1) ≤ C.ms y C.K := ms_mono hk
    rw [Ca.ms] at h1
    by_cases hlt : y < Y
    · have h2 : C.yb (y + 1) ≤ C.yb Y := yb_mono h hlt
      rw [yb_succ h] at h2
      rw [List.getElem?_append_left (by rw [allD_len h]; omega)]
      exact allD_get h hlt hk hd
    · have : y = Y := by omega
      subst this
      rw [List.getElem?_append_right (by rw [allD_len h]; omega), allD_len h, show C.yb y + C.ms y k + d - C.yb y = C.ms y k + d by omega]
      exact monL_get (j := 0) hk hd
theorem ms_split {y n : Nat} : ∀ {K : Nat}, n < C.ms y K → ∃ k d, k < K ∧ d < C.dl y k ∧ n = C.ms y k + d
  | 0, h => by simp [Ca.ms] at h
  | K + 1, h => by
    rw [Ca.ms] at h
    by_cases hlt : n < C.ms y K
    · obtain ⟨k, d, h1, h2, h3⟩ := ms_split hlt
      exact ⟨k, d, by omega, h2, h3⟩
    · exact ⟨K, n - C.ms y K, by omega, by omega, by omega⟩
theorem yb_split (h : C.Ok) {n : Nat} : ∀ {Y : Nat}, n < C.yb Y → ∃ y k d, y < Y ∧ k < C.K ∧ d < C.dl y k ∧ n = C.yb y + C.ms y k + d
  | 0, hn => by rw [yb_0 h] at hn; omega
  | Y + 1, hn => by
    by_cases hlt : n < C.yb Y
    · obtain ⟨y, k, d, h1, h2⟩ := yb_split h hlt
      exact ⟨y, k, d, by omega, h2⟩
    · rw [yb_succ h] at hn
      obtain ⟨k, d, h1, h2, h3⟩ := ms_split (C := C) (y := Y) (n := n - C.yb Y) (K := C.K) (by omega)
      exact ⟨Y, k, d, by omega, h1, h2, by omega⟩
theorem allD_mem (h : C.Ok) {Y y k d : Nat} : dD y k d ∈ allD C Y ↔ y < Y ∧ k < C.K ∧ d < C.dl y k := by
  constructor
  · intro hm
    obtain ⟨n, hn⟩ := List.getElem?_of_mem hm
    have hlt : n < C.yb Y := by rw [← allD_len h]; exact (List.getElem?_eq_some_iff.mp hn).1
    obtain ⟨y', k', d', h1, h2, h3, rfl⟩ := yb_split h hlt
    rw [allD_get h h1 h2 h3] at hn
    simp at hn
    obtain ⟨e1, e2, e3⟩ := hn
    have : y' = y := by omega
    have : k' = k := by omega
    have : d' = d := by omega
    subst y' k' d'
    exact ⟨h1, h2, h3⟩
  · rintro ⟨h1, h2, h3⟩
    exact List.mem_of_getElem? (allD_get h h1 h2 h3)
theorem ms_inj {y k k' d d' : Nat} (hd : d < C.dl y k) (hd' : d' < C.dl y k') (e : C.ms y k + d = C.ms y k' + d') : k = k' ∧ d = d' := by
  by_cases h : k < k'
  · have : C.ms y (k + 1) ≤ C.ms y k' := ms_mono h
    rw [Ca.ms] at this
    omega
  · by_cases h2 : k' < k
    · have : C.ms y (k' + 1) ≤ C.ms y k := ms_mono h2
      rw [Ca.ms] at this
      omega
    · have : k = k' := by omega
      subst this
      omega
theorem yb_inj (h : C.Ok) {y y' n n' : Nat} (hn : n < C.ms y C.K) (hn' : n' < C.ms y' C.K) (e : C.yb y + n = C.yb y' + n') : y = y' ∧ n = n' := by
  by_cases h1 : y < y'
  · have : C.yb (y + 1) ≤ C.yb y' := yb_mono h h1
    rw [yb_succ h] at this
    omega
  · by_cases h2 : y' < y
    · have : C.yb (y' + 1) ≤ C.yb y := yb_mono h h2
      rw [yb_succ h] at this
      omega
    · have : y = y' := by omega
      subst this
      omega
end K62

set_option autoImplicit true
set_option relaxedAutoImplicit true
set_option Elab.async false
set_option linter.all false
set_option maxRecDepth 100000
set_option maxHeartbeats 4000000
/-! TB: calendars: the walks -/
namespace K62
open PySem L2 DL
variable {C : Ca}
@[simp] theorem c_0 : ixD C.cD (.int 0) = some (rD C.m C.b C.c) := (rfl)
@[simp] theorem c_1 : ixD C.cD (.int 1) = some (.tup (C.ls.map fun (l : Nat) => D.int (l : Int))) := (rfl)
@[simp] theorem c_it : itemsD C.cD = some [rD C.m C.b C.c, .tup (C.ls.map fun (l : Nat) => D.int (l : Int)), .int C.x] := (rfl)
theorem len_get {k : Nat} (hk : k < C.K) : ixD (.tup (C.ls.map fun (l : Nat) => D.int (l : Int))) (.int k) = some (.int (C.len k : Nat)) :=
  ixD_t (by rw [List.getElem?_map, List.getElem?_eq_getElem hk]; simp [Ca.len, List.getD, show k < C.ls.length from hk])
theorem et' (b : Bool) : oToInt [.bl b] = some (.int (if b = true then 1 else 0)) := by cases b <;> rfl
theorem w_ml (h : C.Ok) {y k : Nat} (hk : k < C.K) : m_month_length [C.cD, .int y, .int k] = some (.int (C.dl y k : Nat)) := by
  refine of_runF (by rfl) ?_
  unfold b_month_length
  simp (disch := omega) [List.replicate, iP_dis, len_get hk]
  unfold Ca.dl Ca.lpy
  refine ⟨fun e => ?_, fun e => ?_⟩
  · have e' : k = C.x := by omega
    simp [w_isleap h.ru, et', flD, e']
    split <;> simp
  · simp [et', flD, e]
    rw [if_neg (fun z => e (by omega))]; simp
theorem ints_sum {l : List Nat} : ((l.map fun (x : Nat) => (x : Int))).sum = ((l.sum : Nat) : Int) := by
  induction l with
  | nil => rfl
  | cons a r ih => simp [ih]
theorem ints_tup {l : List Nat} : intsD (l.map fun (x : Nat) => D.int (x : Int)) = some (l.map fun (x : Nat) => (x : Int)) := ints_map
theorem oSum_tn {l : List Nat} : oSum [.tup (l.map fun (x : Nat) => D.int (x : Int))] = some (.int (l.sum : Nat)) := by
  show orC oSumL oSumT _ = _
  simp only [orC, oSumL, oSumT, ints_tup, ints_sum]
theorem oSum_ln {l : List Nat} : oSum [.lst (l.map fun (x : Nat) => D.int (x : Int))] = some (.int (l.sum : Nat)) := by
  show orC oSumL oSumT _ = _
  simp only [orC, oSumL, oSumT, ints_tup, ints_sum]
theorem w_yb (h : C.Ok) {y : Nat} : m_year_begin [C.cD, .int y] = some (.int (C.yb y : Nat)) := by
  have := S_b h
  refine of_runF (by rfl) ?_
  unfold b_year_begin
  simp [List.replicate, oSum_tn]
  rw [oMul_i' (by unfold Ca.S at this; omega)]
  simp [w_leaps h.ru, flD, Ca.yb, Ca.S]
theorem ms_sum {y : Nat} : ∀ k, ((List.range k).map (C.dl y)).sum = C.ms y k
  | 0 => rfl
  | k + 1 => by rw [List.range_succ, List.map_append, List.sum_append, ms_sum k, Ca.ms]; simp
theorem w_day (h : C.Ok) {y k : Nat} {d : Int} (hk : k ≤ C.K) : m_day_of [C.cD, .tup [.int y, .int k, .int d]] = some (.int (C.yb y + C.ms y k + d)) := by
  have hk4 := h.k4
  have hk' : k ≤ 4 := Nat.le_trans hk hk4
  have y0 := w_yb (y := 0) h
  rw [yb_0 h] at y0
  simp at y0
  refine of_runF (by rfl) ?_
  unfold b_day_of
  simp (disch := omega) [List.replicate, iP_dis, w_yb h]
  simp (disch := omega) [y0, iP_dis, sizeLine_v, rngD_len]
  rw [lc_rng (φ := fun j => .int (C.dl y j : Nat))]
  · have e : (List.range k).map (fun j => D.int (C.dl y j : Nat)) = ((List.range k).map (C.dl y)).map (fun (x : Nat) => D.int (x : Int)) := by simp
    simp [e, -List.map_map, oSum_ln, ms_sum, flD]
  · intro i hi
    simp [w_ml h (show i < C.K by omega)]
theorem ge0 {n : Nat} : oGe (.int n) (.int 0) = some (.bl true) := by simp
/-- is_date of three numbers from 0 up -/
theorem w_isdate (h : C.Ok) {y k d : Nat} (hk : k < C.K) : m_is_date [C.cD, dD y k d] = some (.bl (decide (d < C.dl y k))) := by
  have hK := h.k4
  refine of_runF (by rfl) ?_
  unfold b_is_date
  simp (disch := omega) [List.replicate, isiD, iP_dis, sizeLine_v]
  rw [lc_all (φ := fun i => .bl true)]
  · have : oAll [.lst ((List.range 3).map fun i => .bl true)] = some (.bl true) := rfl
    simp [this, hk, w_ml h hk, flD]
    intro z
    exact absurd (show k < C.ls.length from hk) (by omega)
  · intro i e hd
    have : ∃ n : Nat, e = .int n := by
      match i, hd with
      | 0, hd => cases hd; exact ⟨_, rfl⟩
      | 1, hd => cases hd; exact ⟨_, rfl⟩
      | 2, hd => cases hd; exact ⟨_, rfl⟩
      | i + 3, hd => simp at hd
    obtain ⟨n, rfl⟩ := this
    simp
theorem w_idF {v : D} (hv : isiD v "tuple" = some false) : m_is_date [C.cD, v] = some (.bl false) := by
  refine of_runF (by rfl) ?_
  unfold b_is_date
  simp [List.replicate, hv, flD]
theorem w_idL {vs : List D} (hv : vs.length ≠ 3) (hs : vs.length < 1000) : m_is_date [C.cD, .tup vs] = some (.bl false) := by
  refine of_runF (by rfl) ?_
  unfold b_is_date
  have : ¬ ((vs.length : Int) = 3) := by omega
  simp [List.replicate, isiD, this, flD]
/-- a part that is no number from 0 up -/
theorem w_idN {a b c : D} {x y z : Bool} (ha : dAndV (dCall m_is_integer (dCons (dVar 2) dNil)) (dOp oGe (dVar 2) (dC (.int 0))) [.val C.cD, .val (.tup [a, b, c]), .val a] none = some (.c (.bl x), none)) (hb : dAndV (dCall m_is_integer (dCons (dVar 2) dNil)) (dOp oGe (dVar 2) (dC (.int 0))) [.val C.cD, .val (.tup [a, b, c]), .val b] none = some (.c (.bl y), none))
    (hc : dAndV (dCall m_is_integer (dCons (dVar 2) dNil)) (dOp oGe (dVar 2) (dC (.int 0))) [.val C.cD, .val (.tup [a, b, c]), .val c] none = some (.c (.bl z), none)) (h : (x && y && z) = false) : m_is_date [C.cD, .tup [a, b, c]] = some (.bl false) := by
  refine of_runF (by rfl) ?_
  unfold b_is_date
  simp (disch := omega) [List.replicate, isiD, iP_dis, sizeLine_v]
  have e : lcL (gdN 2) dYes (dAndV (dCall m_is_integer (dCons (dVar 2) dNil)) (dOp oGe (dVar 2) (dC (.int 0)))) [a, b, c] [.val C.cD, .val (.tup [a, b, c]), .no] none = some ([.bl x, .bl y, .bl z], none) := by
    have g : ∀ d, gdN 2 d [.val C.cD, .val (.tup [a, b, c]), .no] = some [.val C.cD, .val (.tup [a, b, c]), .val d] := fun d => rfl
    simp [lcL, g, dYes, ha, hb, hc]
  simp [e]
  have : oAll [.lst [.bl x, .bl y, .bl z]] = some (.bl false) := by
    cases x <;> cases y <;> cases z <;> first | rfl | cases h
  simp [this, flD]
theorem w_idBig (h : C.Ok) {k : Nat} (hk : C.K ≤ k) : m_is_date [C.cD, .tup [.int 0, .int k, .int 0]] = some (.bl false) := by
  refine of_runF (by rfl) ?_
  unfold b_is_date
  simp (disch := omega) [List.replicate, isiD, iP_dis, sizeLine_v]
  rw [lc_all (φ := fun i => .bl true)]
  · have : oAll [.lst ((List.range 3).map fun i => .bl true)] = some (.bl true) := rfl
    have hk' : C.ls.length ≤ k := hk
    simp [this, hk', flD]
  · intro i e hd
    have : ∃ n : Nat, e = .int n := by
      match i, hd with
      | 0, hd => cases hd; exact ⟨0, rfl⟩
      | 1, hd => cases hd; exact ⟨_, rfl⟩
      | 2, hd => cases hd; exact ⟨0, rfl⟩
      | i + 3, hd => simp at hd
    obtain ⟨n, rfl⟩ := this
    simp
end K62

set_option autoImplicit true
set_option relaxedAutoImplicit true
set_option Elab.async false
set_option linter.all false
set_option maxRecDepth 100000
set_option maxHeartbeats 4000000
/-! TC: dates of days, days of the week -/
namespace K62
open PySem L2 DL
variable {C : Ca}
theorem w_yday (h : C.Ok) {y : Nat} : m_day_of [C.cD, .tup [.int y, .int 0, .int 0]] = some (.int (C.yb y : Nat)) := by
  have := w_day (y := y) (k := 0) (d := 0) h (by omega)
  simpa [Ca.ms] using this
def D1 (C : Ca) (n : Nat) (fu : Nat) (S1 : List Sl) (c1 : Option D) : Prop := ∃ y : Nat, y + 1 ≤ fu ∧ y ≤ n + 1 ∧ S1 = [.val C.cD, .val (.int n), .val (.int C.m), .val (.int C.b), .val (.int C.c), .val (.int y), .no, .no] ∧ c1 = none
def D2 (C : Ca) (n : Nat) (fu : Nat) (S1 : List Sl) (c1 : Option D) : Prop := ∃ y : Nat, n + 1 ≤ fu + y ∧ C.yb y ≤ n ∧ S1 = [.val C.cD, .val (.int n), .val (.int C.m), .val (.int C.b), .val (.int C.c), .val (.int y), .no, .no] ∧ c1 = none
def D3 (C : Ca) (n y : Nat) (fu : Nat) (S1 : List Sl) (c1 : Option D) : Prop := ∃ k : Nat, k < C.K ∧ 100 ≤ fu + k ∧ C.yb y + C.ms y k ≤ n ∧ S1 = [.val C.cD, .val (.int n), .val (.int C.m), .val (.int C.b), .val (.int C.c), .val (.int y), .val (.int ((n - C.yb y - C.ms y k : Nat))), .val (.int k)] ∧ c1 = none
def D2E (C : Ca) (n : Nat) (S1 : List Sl) (c1 : Option D) : Prop := ∃ y : Nat, C.yb y ≤ n ∧ n < C.yb (y + 1) ∧ S1 = [.val C.cD, .val (.int n), .val (.int C.m), .val (.int C.b), .val (.int C.c), .val (.int y), .no, .no] ∧ c1 = none
def D3E (C : Ca) (n y : Nat) (S1 : List Sl) (c1 : Option D) : Prop := ∃ k : Nat, k < C.K ∧ C.yb y + C.ms y k ≤ n ∧ n - C.yb y - C.ms y k < C.dl y k ∧ S1 = [.val C.cD, .val (.int n), .val (.int C.m), .val (.int C.b), .val (.int C.c), .val (.int y), .val (.int ((n - C.yb y - C.ms y k : Nat))), .val (.int k)] ∧ c1 = none
theorem w_dateof (h : C.Ok) {n : Nat} (hn : n ≤ 1000) : ∃ y k d : Nat, m_date_of [C.cD, .int n] = some (dD y k d) ∧ k < C.K ∧ d < C.dl y k ∧ n = C.yb y + C.ms y k + d := by
  have hS := S_b h
  have r1 := h.ru.m1; have r2 := h.ru.m2; have r3 := h.ru.bm
  have key : ∃ dd, m_date_of [C.cD, .int n] = some dd ∧ ∃ y k d : Nat, dd = dD y k d ∧ k < C.K ∧ d < C.dl y k ∧ n = C.yb y + C.ms y k + d := by
    refine of_runF_ex _ (by rfl) ?_
    show wS b_date_of [.val C.cD, .val (.int n), .no, .no, .no, .no, .no, .no] none _ .mk
    unfold b_date_of
    refine seq_mid (fun S1 c1 => S1 = [.val C.cD, .val (.int n), .val (.int C.m), .val (.int C.b), .val (.int C.c), .no, .no, .no] ∧ c1 = none) ?_ ?_
    · simp (disch := omega) [iP_dis]
    rintro _ _ ⟨rfl, rfl⟩
    refine seq_mid (D1 C n 2000) ?_ ?_
    · simp [oSum_tn]
      rw [oMul_i (by omega)]
      simp [oSum_tn]
      rw [oMul_i (by omega)]
      simp
      have hSm : C.m ≤ C.ls.sum * C.m := Nat.le_mul_of_pos_left _ hS.1
      have hSm2 : C.ls.sum * C.m ≤ 20 * 12 := Nat.mul_le_mul hS.2 r2
      have hc : ((C.ls.sum : Int) * (C.m : Int)) = ((C.ls.sum * C.m : Nat) : Int) := by simp
      rw [hc]
      rw [if_pos ⟨by omega, by omega⟩]
      obtain ⟨q, hq⟩ : ∃ q : Nat, q = n * C.m / (C.ls.sum * C.m + C.b) := ⟨_, rfl⟩
      have hq2 : ((n : Int) * (C.m : Int)).fdiv (((C.ls.sum * C.m : Nat) : Int) + C.b) = q := by
        rw [hq, Int.fdiv_eq_ediv_of_nonneg _ (by omega), Int.natCast_ediv]
        simp
      have hqn : q ≤ n := by
        rw [hq]
        apply Nat.div_le_of_le_mul
        rw [Nat.mul_comm]
        exact Nat.mul_le_mul_right _ (by omega)
      simp [hq2]
      exact ⟨q + 1, by omega, by omega, by simp; rw [hc]; exact hq2, rfl⟩
    rintro S1 c1 ⟨y0, a1, a2, rfl, rfl⟩
    refine seq_mid (D2 C n 19000) ?_ ?_
    · refine while_all (D1 C n) 20000 ⟨y0, by omega, a2, rfl, rfl⟩ ?_
      rintro fu S1 c1 ⟨y, b1, b2, rfl, rfl⟩
      refine ⟨by omega, ?_⟩
      simp (disch := omega) [iP_dis, sizeLine_v, w_yday h]
      refine ⟨fun hlt => ?_, fun hle => ?_⟩
      · have y1 : 1 ≤ y := by
          by_cases h0 : y = 0
          · subst h0; rw [yb_0 h] at hlt; omega
          · omega
        refine ⟨y - 1, by omega, by omega, ?_, rfl⟩
        simp; omega
      · exact ⟨y, by omega, hle, rfl, rfl⟩
    rintro S1 c1 ⟨y1, a3, a4, rfl, rfl⟩
    refine seq_mid (D2E C n) ?_ ?_
    · refine while_all (D2 C n) 20000 ⟨y1, by omega, a4, rfl, rfl⟩ ?_
      rintro fu S1 c1 ⟨y, b1, b2, rfl, rfl⟩
      have hyn := (yb_b h y).1
      refine ⟨by omega, ?_⟩
      have e := w_yday (y := y + 1) h
      simp at e
      simp (disch := omega) [iP_dis, sizeLine_v, e]
      refine ⟨fun hle => ?_, fun hlt => ?_⟩
      · exact ⟨y + 1, by omega, hle, by simp, rfl⟩
      · exact ⟨y, b2, hlt, rfl, rfl⟩
    rintro S1 c1 ⟨y, a5, a6, rfl, rfl⟩
    refine seq_mid (fun S1 c1 => S1 = [.val C.cD, .val (.int n), .val (.int C.m), .val (.int C.b), .val (.int C.c), .val (.int y), .val (.int ((n - C.yb y : Nat))), .no] ∧ c1 = none) ?_ ?_
    · simp (disch := omega) [iP_dis, sizeLine_v, w_yday h]
      omega
    rintro _ _ ⟨rfl, rfl⟩
    refine seq_mid (D3 C n y 1000) ?_ ?_
    · simp
      exact ⟨0, by have := h.k1; show 0 < C.ls.length; omega, by omega, by rw [Ca.ms]; omega, by simp [Ca.ms], rfl⟩
    rintro S1 c1 ⟨k0, k1, k2, k3, rfl, rfl⟩
    rw [yb_succ h] at a6
    refine seq_mid (D3E C n y) ?_ ?_
    · refine while_all (D3 C n y) 20000 ⟨k0, k1, by omega, k3, rfl, rfl⟩ ?_
      rintro fu S1 c1 ⟨k, b1, b2, b3, rfl, rfl⟩
      have hK := h.k4
      have b1' : k < C.ls.length := b1
      refine ⟨by omega, ?_⟩
      simp [w_ml h b1]
      refine ⟨fun hle => ?_, fun hlt => ?_⟩
      · have hk1 : k + 1 < C.K := by
          by_cases hk : k + 1 < C.K
          · exact hk
          · exfalso
            have hk2 : C.K = k + 1 := by show C.ls.length = k + 1; have : ¬ k + 1 < C.ls.length := hk; omega
            rw [hk2, Ca.ms] at a6
            omega
        refine ⟨k + 1, hk1, by omega, by rw [Ca.ms]; omega, ?_, rfl⟩
        rw [Ca.ms]
        simp
        omega
      · exact ⟨k, b1, b3, by omega, rfl, rfl⟩
    rintro S1 c1 ⟨k, c1', c2, c3, rfl, rfl⟩
    simp (disch := omega) [iP_dis, sizeLine_v, flD]
    exact ⟨y, k, n - C.yb y - C.ms y k, ⟨rfl, rfl, rfl⟩, c1', c3, by omega⟩
  obtain ⟨dd, h1, y, k, d, rfl, h2⟩ := key
  exact ⟨y, k, d, h1, h2⟩
/-- a date is there, and falls on a day -/
def FO (C : Ca) (mo da w d y : Nat) : Bool := decide (da < C.dl y mo) && decide ((C.yb y + C.ms y mo + da) % w = d)
theorem w_falls (h : C.Ok) {mo da w d y : Nat} (hm : mo < C.K) (hw : 1 ≤ w) : m_falls_on [C.cD, dD y mo da, .int w, .int d] = some (.bl (FO C mo da w d y)) := by
  refine of_runF (by rfl) ?_
  unfold b_falls_on
  simp [List.replicate, w_isdate h hm]
  have wd := w_day (y := y) (k := mo) (d := da) h (Nat.le_of_lt hm)
  refine ⟨fun hlt => ?_, fun hle => ?_⟩
  · rw [wd]
    simp
    rw [if_neg (by omega)]
    have e : (((C.yb y : Nat) : Int) + (C.ms y mo : Nat) + da).fmod w = (((C.yb y + C.ms y mo + da) % w : Nat) : Int) := by
      rw [Int.fmod_eq_emod_of_nonneg _ (by omega)]; simp
    simp [e, flD, FO, hlt, -Int.natCast_emod]
    omega
  · simp [flD, FO]
    omega
theorem sY : PyData.strOk "year" = true := by decide +kernel
theorem sN : PyData.strOk "never" = true := by decide +kernel
theorem okY {k : Nat} : Ok k (.str "year") := Ok.str sY
theorem okN {k : Nat} : Ok k (.str "never") := Ok.str sN
theorem e_yy : oEq (.str "year") (.str "year") = some (.bl true) := eq_s sY sY (by simp)
theorem e_ny : oEq (.str "never") (.str "year") = some (.bl false) := eq_s sN sY (by simp; decide)
theorem n_nn : oNe (.str "never") (.str "never") = some (.bl false) := ne_s sN sN (by simp)
theorem w_weekY (h : C.Ok) {mo da w d y0 : Nat} (hm : mo < C.K) (hw : 1 ≤ w ∧ w ≤ 7) (hy : y0 < C.m * w) (f0 : FO C mo da w d y0 = true) (f1 : ∀ y, y < y0 → FO C mo da w d y = false) :
    m_week_paper [C.cD, .int mo, .int da, .int w, .int d] = some (.tup [.str "year", .int y0]) := by
  have r2 := h.ru.m2
  have hc : C.m * w ≤ 12 * 7 := Nat.mul_le_mul r2 hw.2
  refine of_runF (by rfl) ?_
  show wS b_week_paper [.val C.cD, .val (.int mo), .val (.int da), .val (.int w), .val (.int d), .no, .no] none _ .mk
  unfold b_week_paper
  have e : (C.m : Int) * (w : Int) = ((C.m * w : Nat) : Int) := by simp
  simp
  rw [oMul_i (by omega), e]
  simp (disch := omega) [iP_dis, -Int.natCast_mul]
  refine for_rng (fun i S1 c1 => i ≤ y0 ∧ c1 = none ∧ ∃ x : Sl, x ≠ .cst ∧ S1 = [.val C.cD, .val (.int mo), .val (.int da), .val (.int w), .val (.int d), .val (.int (C.m * w : Nat)), x]) ⟨by omega, rfl, .no, by simp, rfl⟩ ?_ ?_
  · rintro i S1 c1 hi ⟨hi0, rfl, x, hx, rfl⟩
    simp (disch := omega) [notCst_of hx, iP_dis, sizeLine_v]
    rw [show D.tup [.int (i : Int), .int mo, .int da] = dD i mo da from rfl, w_falls h hm hw.1]
    simp
    by_cases hlt : i < y0
    · simp [f1 i hlt]
      omega
    · have : i = y0 := by omega
      subst this
      simp (disch := omega) [f0, iP_dis, sizeLine_v, flD]
  · rintro S1 c1 ⟨hi0, _⟩
    omega
theorem w_weekN (h : C.Ok) {mo da w d : Nat} (hm : mo < C.K) (hw : 1 ≤ w ∧ w ≤ 7) (f1 : ∀ y, y < C.m * w → FO C mo da w d y = false) :
    m_week_paper [C.cD, .int mo, .int da, .int w, .int d] = some (.tup [.str "never", .int (C.m * w : Nat)]) := by
  have r2 := h.ru.m2
  have hc : C.m * w ≤ 12 * 7 := Nat.mul_le_mul r2 hw.2
  refine of_runF (by rfl) ?_
  show wS b_week_paper [.val C.cD, .val (.int mo), .val (.int da), .val (.int w), .val (.int d), .no, .no] none _ .mk
  unfold b_week_paper
  have e : (C.m : Int) * (w : Int) = ((C.m * w : Nat) : Int) := by simp
  simp
  rw [oMul_i (by omega), e]
  simp (disch := omega) [iP_dis, -Int.natCast_mul]
  refine for_rng (fun i S1 c1 => c1 = none ∧ ∃ x : Sl, x ≠ .cst ∧ S1 = [.val C.cD, .val (.int mo), .val (.int da), .val (.int w), .val (.int d), .val (.int (C.m * w : Nat)), x]) ⟨rfl, .no, by simp, rfl⟩ ?_ ?_
  · rintro i S1 c1 hi ⟨rfl, x, hx, rfl⟩
    simp (disch := omega) [notCst_of hx, iP_dis, sizeLine_v]
    rw [show D.tup [.int (i : Int), .int mo, .int da] = dD i mo da from rfl, w_falls h hm hw.1]
    simp [f1 i hi]
  · rintro S1 c1 ⟨rfl, x, hx, rfl⟩
    simp (disch := omega) [iP_dis, sizeLine_v, flD, -Int.natCast_mul]
end K62

set_option autoImplicit true
set_option relaxedAutoImplicit true
set_option Elab.async false
set_option linter.all false
set_option maxRecDepth 100000
set_option maxHeartbeats 4000000
/-! TD: the judge of weeks; the law's days -/
namespace K62
open PySem L2 DL
variable {C : Ca}
theorem p_0 {a b : D} : ixD (.tup [a, b]) (.int 0) = some a := (rfl)
theorem anyF {n : Nat} {φ : Nat → Bool} : oAny [.lst ((List.range n).map fun i => D.bl (φ i))] = some (.bl ((List.range n).any φ)) := oAny_map
theorem w_jwY (h : C.Ok) {mo da w d z : Nat} (hm : mo < C.K) (hw : 1 ≤ w ∧ w ≤ 7) (hz : z < 20000) :
    m_judge_week [C.cD, .int mo, .int da, .int w, .int d, .tup [.str "year", .int z]] = some (.bl (FO C mo da w d z && !(List.range z).any (FO C mo da w d))) := by
  refine of_runF (by rfl) ?_
  show wS b_judge_week [.val C.cD, .val (.int mo), .val (.int da), .val (.int w), .val (.int d), .val (.tup [.str "year", .int z]), .no, .no] none _ .mk
  unfold b_judge_week
  have fo := fun y => w_falls (y := y) (da := da) (d := d) h hm hw.1
  have z2 : (z : Int) < 20000 := by omega
  simp (disch := omega) [isiD, e_yy, z2, iP_dis, sizeLine_v]
  rw [show D.tup [.int (z : Int), .int mo, .int da] = dD z mo da from rfl, fo]
  simp
  cases hf : FO C mo da w d z
  · simp [flD]
  · simp (disch := omega) [iP_dis, sizeLine_v, rngD_len]
    rw [lc_rng (φ := fun y => .bl (FO C mo da w d y))]
    · simp [anyF, flD]
    · intro i hi
      simp (disch := omega) [iP_dis, sizeLine_v]
      rw [show D.tup [.int (i : Int), .int mo, .int da] = dD i mo da from rfl, fo]
      simp
theorem w_jwN (h : C.Ok) {mo da w d : Nat} (hm : mo < C.K) (hw : 1 ≤ w ∧ w ≤ 7) :
    m_judge_week [C.cD, .int mo, .int da, .int w, .int d, .tup [.str "never", .int (C.m * w : Nat)]] = some (.bl (!(List.range (C.m * w)).any (FO C mo da w d))) := by
  have r1 := h.ru.m1; have r2 := h.ru.m2
  have hc : C.m * w ≤ 12 * 7 := Nat.mul_le_mul r2 hw.2
  have hc1 : 1 * 1 ≤ C.m * w := Nat.mul_le_mul r1 hw.1
  have fo := fun y => w_falls (y := y) (da := da) (d := d) h hm hw.1
  have md : ((C.m * w : Nat) : Int).fmod C.m = 0 := by
    rw [Int.fmod_eq_emod_of_nonneg _ (by omega), ← Int.natCast_emod, Nat.mul_mod_right]; rfl
  have yd : C.yb (C.m * w) % w = 0 := by
    unfold Ca.yb lb
    have e : (C.b * (C.m * w) + C.c) / C.m = C.b * w := by
      rw [show C.b * (C.m * w) + C.c = C.c + C.m * (C.b * w) by rw [Nat.mul_left_comm]; omega, Nat.add_mul_div_left _ _ (by omega), Nat.div_eq_of_lt h.ru.cm]
      omega
    rw [e, ← Nat.mul_assoc, ← Nat.add_mul, Nat.mul_mod_left]
  have wd : ((C.yb (C.m * w) : Nat) : Int).fmod w = 0 := by
    rw [Int.fmod_eq_emod_of_nonneg _ (by omega), ← Int.natCast_emod, yd]; rfl
  refine of_runF (by rfl) ?_
  show wS b_judge_week [.val C.cD, .val (.int mo), .val (.int da), .val (.int w), .val (.int d), .val (.tup [.str "never", .int (C.m * w : Nat)]), .no, .no] none _ .mk
  unfold b_judge_week
  generalize hcy : C.m * w = cy at *
  have c1 : (1 : Int) ≤ cy := by omega
  have c2 : (cy : Int) ≤ 20000 := by omega
  simp (disch := omega) [isiD, e_ny, n_nn, c1, c2, iP_dis, sizeLine_v]
  rw [if_neg (by omega)]
  simp (disch := omega) [show 1 ≤ cy by omega, md, iP_dis, sizeLine_v, w_yday h]
  rw [if_neg (by omega)]
  simp (disch := omega) [wd, iP_dis, sizeLine_v, rngD_len]
  rw [lc_rng (φ := fun y => .bl (FO C mo da w d y))]
  · simp [anyF, flD]
  · intro i hi
    simp (disch := omega) [iP_dis, sizeLine_v]
    rw [show D.tup [.int (i : Int), .int mo, .int da] = dD i mo da from rfl, fo]
    simp
theorem oAddL_l {xs ys : List D} (h : xs.length + ys.length ≤ 10000) : oAdd (.lst xs) (.lst ys) = some (.lst (xs ++ ys)) := by
  unfold oAdd orD oAddI oInt oAddS oAddT oAddL
  simp only []
  rw [if_pos (by rw [sizeLine_v]; omega)]
def LI (C : Ca) (most Y : Nat) (s7 : Sl) (k : Nat) (S1 : List Sl) (c1 : Option D) : Prop := ∃ s8 s9 : Sl, s8 ≠ .cst ∧ s9 ≠ .cst ∧ c1 = none ∧ S1 = [.val C.cD, .val (.int most), .val (rD C.m C.b C.c), .val (.tup (C.ls.map fun (l : Nat) => D.int (l : Int))), .val (.int C.x), .val (.lst (allD C Y ++ monL C Y k)), .val (.int Y), s7, s8, s9, .no]
def LO (C : Ca) (most : Nat) (Y : Nat) (S1 : List Sl) (c1 : Option D) : Prop := ∃ s7 s8 s9 : Sl, s7 ≠ .cst ∧ s8 ≠ .cst ∧ s9 ≠ .cst ∧ c1 = none ∧ (Y = 0 ∨ C.yb (Y - 1) < most) ∧ S1 = [.val C.cD, .val (.int most), .val (rD C.m C.b C.c), .val (.tup (C.ls.map fun (l : Nat) => D.int (l : Int))), .val (.int C.x), .val (.lst (allD C Y)), .val (.int Y), s7, s8, s9, .no]
def LE (C : Ca) (most : Nat) (S1 : List Sl) (c1 : Option D) : Prop := ∃ Y, most ≤ C.yb Y ∧ LO C most Y S1 c1
theorem w_ldays (h : C.Ok) {most : Nat} (hm : most ≤ 5000) : ∃ Y, m__law_days [C.cD, .int most] = some (.lst (allD C Y)) ∧ most ≤ C.yb Y ∧ (Y = 0 ∨ C.yb (Y - 1) < most) := by
  have hS := S_b h
  have hK := h.k4
  have key : ∃ dd, m__law_days [C.cD, .int most] = some dd ∧ ∃ Y, dd = .lst (allD C Y) ∧ most ≤ C.yb Y ∧ (Y = 0 ∨ C.yb (Y - 1) < most) := by
    refine of_runF_ex _ (by rfl) ?_
    show wS b__law_days [.val C.cD, .val (.int most), .no, .no, .no, .no, .no, .no, .no, .no, .no] none _ .mk
    unfold b__law_days
    refine seq_mid (fun S1 c1 => S1 = [.val C.cD, .val (.int most), .val (rD C.m C.b C.c), .val (.tup (C.ls.map fun (l : Nat) => D.int (l : Int))), .val (.int C.x), .no, .no, .no, .no, .no, .no] ∧ c1 = none) ?_ ?_
    · simp (disch := omega) [iP_dis]
    rintro _ _ ⟨rfl, rfl⟩
    refine seq_mid (LO C most 0) ?_ ?_
    · simp (disch := omega) [iP_dis, sizeLine_v]
      exact ⟨.no, .no, .no, by simp, by simp, by simp, rfl, .inl rfl, rfl⟩
    intro S1 c1 h0
    refine seq_mid (LE C most) ?_ ?_
    · obtain ⟨s7, s8, s9, h7, h8, h9, rfl, _, rfl⟩ := h0
      simp (disch := omega) [iP_dis]
      refine for_rng (LO C most) ⟨s7, s8, s9, h7, h8, h9, rfl, .inl rfl, rfl⟩ ?_ (fun S c hq => ⟨rfl, most, (yb_b h most).1, hq⟩)
      rintro Y S1 c1 hi ⟨s7, s8, s9, h7, h8, h9, rfl, hY, rfl⟩
      have hyb : C.yb Y ≤ 6000 := by
        rcases hY with hY | hY
        · subst hY; rw [yb_0 h]; omega
        · by_cases hY0 : Y = 0
          · subst hY0; rw [yb_0 h]; omega
          · have := yb_succ h (Y - 1)
            rw [show Y - 1 + 1 = Y by omega, ms_K h] at this
            split at this <;> omega
      simp [notCst_of h7, allD_len h]
      refine ⟨fun hle => ⟨Y, hle, .val (.int Y), s8, s9, by simp, h8, h9, rfl, hY, rfl⟩, fun hgt => ?_⟩
      rw [iP_dis (by omega)]
      simp only [Int.zero_add]
      refine wS_mono (Q := fun fl S1 c1 => fl = .nx ∧ LI C most Y (.val (.int Y)) C.K S1 c1) ?_ ?_
      · refine for_rng (LI C most Y (.val (.int Y))) ⟨s8, s9, h8, h9, rfl, by simp [monL]⟩ ?_ (fun S c hq => ⟨rfl, hq⟩)
        rintro k S1 c1 hk ⟨s8, s9, h8, h9, rfl, rfl⟩
        have hdl := dl_b (y := Y) h (show k < C.K from hk)
        have hmsk : C.ms Y k ≤ C.ms Y C.K := ms_mono (Nat.le_of_lt hk)
        rw [ms_K h] at hmsk
        have hms2 : C.ms Y k ≤ 21 := by split at hmsk <;> omega
        have hdlv : ((C.len k : Nat) : Int) + (if ((k : Int) = C.x) ∧ C.lpy Y = true then 1 else 0) = (C.dl Y k : Nat) := by
          unfold Ca.dl
          by_cases hx : (k : Int) = C.x
          · by_cases hl : C.lpy Y = true
            · rw [if_pos ⟨hx, hl⟩, if_pos ⟨by omega, hl⟩]; simp
            · rw [if_neg (fun z => hl z.2), if_neg (fun z => hl z.2)]; simp
          · rw [if_neg (fun z => hx z.1), if_neg (fun z => hx (by omega))]; simp
        have hlen : (allD C Y ++ monL C Y k).length = C.yb Y + C.ms Y k := by rw [List.length_append, allD_len h, monL_len]
        have e : allD C Y ++ (monL C Y k ++ (List.range (C.dl Y k)).map (dD Y k)) = allD C Y ++ monL C Y (k + 1) := rfl
        simp [notCst_of h8, len_get (show k < C.K from hk)]
        refine ⟨fun hx => ?_, fun hx => ?_⟩
        · simp [w_lleap h.ru, et', notCst_of h9]
          have e9 : ((C.len k : Nat) : Int) + (if lp C.m C.b C.c Y = true then 1 else 0) = (C.dl Y k : Nat) := by
            rw [← hdlv]
            simp [hx, Ca.lpy]
          rw [e9]
          simp (disch := omega) [iP_dis, sizeLine_v, rngD_len]
          rw [lc_rng (φ := dD Y k)]
          · simp
            rw [oAddL_l (by rw [hlen]; simp; omega)]
            simp
            rw [e]
            exact ⟨.val (.int k), .val (.int (C.dl Y k : Nat)), by simp, by simp, rfl, rfl⟩
          · intro i hi
            simp (disch := omega) [iP_dis, sizeLine_v]
        · have e9 : C.len k = C.dl Y k := by
            have : ((C.len k : Nat) : Int) = (C.dl Y k : Nat) := by
              rw [← hdlv]
              simp [hx]
            omega
          simp [et', notCst_of h9, hx, e9]
          simp (disch := omega) [iP_dis, sizeLine_v, rngD_len]
          rw [lc_rng (φ := dD Y k)]
          · simp
            rw [oAddL_l (by rw [hlen]; simp; omega)]
            simp
            rw [e]
            exact ⟨.val (.int k), .val (.int (C.dl Y k : Nat)), by simp, by simp, rfl, rfl⟩
          · intro i hi
            simp (disch := omega) [iP_dis, sizeLine_v]
      · rintro fl S2 c2 ⟨rfl, s8, s9, h8, h9, rfl, rfl⟩
        simp
        refine ⟨.val (.int Y), s8, s9, by simp, h8, h9, rfl, .inr (by simp; omega), ?_⟩
        simp [allD]
    · rintro S1 c1 ⟨Y, hle, s7, s8, s9, h7, h8, h9, rfl, hY, rfl⟩
      simp [flD]
      exact ⟨Y, rfl, hle, hY⟩
  obtain ⟨dd, h1, Y, rfl, h2⟩ := key
  exact ⟨Y, h1, h2⟩
end K62

set_option autoImplicit true
set_option relaxedAutoImplicit true
set_option Elab.async false
set_option linter.all false
set_option maxRecDepth 100000
set_option maxHeartbeats 8000000
/-! TE: the law's part on calendars -/
namespace K62
open PySem L2 DL
theorem draws5 {s1 : Sl} : ∀ (ds : List D) {c : D}, Cell c → ∃ (ls : List Nat) (c' : D), lcL (gdN 6) dYes (dOp oAdd (dC (.int 1)) (dCallC m__law_take (dCons (dVar 0) (dCons (dC (.int 5)) dNil)))) ds [.cst, s1, .no, .no, .no, .no, .no, .no, .no, .no, .no, .no, .no, .no, .no, .no, .no, .no, .no] (some c) = some (ls.map (fun (l : Nat) => D.int (l : Int)), some c') ∧ ls.length = ds.length ∧ (∀ l ∈ ls, 1 ≤ l ∧ l ≤ 5) ∧ Cell c'
  | [], c, hc => ⟨[], c, rfl, rfl, by simp, hc⟩
  | d :: r, c, hc => by
    obtain ⟨v, c1, hv, hc1, e1⟩ := w_take hc 5 (by omega) (by omega)
    simp at e1
    obtain ⟨ls, c2, h1, h2, h3, h4⟩ := draws5 (s1 := s1) r hc1
    refine ⟨(1 + v) :: ls, c2, ?_, by simp [h2], ?_, h4⟩
    · have g : gdN 6 d [.cst, s1, .no, .no, .no, .no, .no, .no, .no, .no, .no, .no, .no, .no, .no, .no, .no, .no, .no] = some [.cst, s1, .no, .no, .no, .no, .val d, .no, .no, .no, .no, .no, .no, .no, .no, .no, .no, .no, .no] := rfl
      have f : dOp oAdd (dC (.int 1)) (dCallC m__law_take (dCons (dVar 0) (dCons (dC (.int 5)) dNil))) [.cst, s1, .no, .no, .no, .no, .val d, .no, .no, .no, .no, .no, .no, .no, .no, .no, .no, .no, .no] (some c) = some (.c (.int ((1 + v : Nat) : Int)), some c1) := by
        have : wE (dOp oAdd (dC (.int 1)) (dCallC m__law_take (dCons (dVar 0) (dCons (dC (.int 5)) dNil)))) [.cst, s1, .no, .no, .no, .no, .val d, .no, .no, .no, .no, .no, .no, .no, .no, .no, .no, .no, .no] (some c) (fun r c' => r = .c (.int ((1 + v : Nat) : Int)) ∧ c' = some c1) .mk := by
          simp [e1]
        obtain ⟨r, c', h, rfl, rfl⟩ := wE_ex.mp this
        exact h
      unfold lcL
      simp [g, dYes, f, h1]
    · intro l hl
      rcases List.mem_cons.mp hl with e | e
      · omega
      · exact h3 l e
variable {C : Ca}
theorem ok_dD {k y m d : Nat} : Ok (k + 1) (dD y m d) := Ok.tup fun x hx => by
  simp at hx
  rcases hx with rfl | rfl | rfl <;> exact Ok.int
theorem allD_all {P : D → Prop} (h : ∀ y k d, P (dD y k d)) : ∀ Y, ∀ x ∈ allD C Y, P x := by
  have hm : ∀ y k, ∀ x ∈ monL C y k, P x := by
    intro y k
    induction k with
    | zero => intro x hx; cases hx
    | succ k ih =>
      intro x hx
      rw [monL] at hx
      rcases List.mem_append.mp hx with e | e
      · exact ih x e
      · obtain ⟨d, _, rfl⟩ := List.mem_map.mp e
        exact h y k d
  intro Y
  induction Y with
  | zero => intro x hx; cases hx
  | succ Y ih =>
    intro x hx
    rw [allD] at hx
    rcases List.mem_append.mp hx with e | e
    · exact ih x e
    · exact hm Y C.K x e
/-- a row picked out of a range -/
theorem lc_fm {g : DG} {tt : DT} {f : DE} {S : List Sl} {cs : Option D} {φ : Nat → Bool} {ψ : Nat → D} {lo : Int} : ∀ (is : List Nat),
    (∀ i, i ∈ is → wG g (.int (lo + (i : Int))) S (fun S1 => wT tt S1 cs (fun b c => b = φ i ∧ c = cs ∧ (b = true → wE f S1 cs (fun r c => r = .c (ψ i) ∧ c = cs) .mk)) .mk) .mk) →
      lcL g tt f (is.map fun (i : Nat) => D.int (lo + (i : Int))) S cs = some ((is.filter φ).map ψ, cs)
  | [], _ => rfl
  | i :: r, h => by
    obtain ⟨S1, e1, q⟩ := wG_ex.mp (h i List.mem_cons_self)
    obtain ⟨b, c, e2, hb, hcc, q⟩ := wT_ex.mp q
    subst hb hcc
    have ih := lc_fm (g := g) (tt := tt) (f := f) (φ := φ) (ψ := ψ) (lo := lo) r fun i hi => h i (List.mem_cons_of_mem _ hi)
    rw [List.map_cons]
    unfold lcL
    cases hφ : φ i with
    | true =>
      obtain ⟨r1, c1, e3, hr, hc1⟩ := wE_ex.mp (q hφ)
      subst hr hc1
      simp [e1, e2, hφ, e3, ih]
    | false => simp [e1, e2, hφ, ih]
theorem L8_0 {a b c d e f g h : D} : ixD (.lst [a, b, c, d, e, f, g, h]) (.int 0) = some a := (rfl)
theorem L8_1 {a b c d e f g h : D} : ixD (.lst [a, b, c, d, e, f, g, h]) (.int 1) = some b := (rfl)
theorem L8_2 {a b c d e f g h : D} : ixD (.lst [a, b, c, d, e, f, g, h]) (.int 2) = some c := (rfl)
theorem L8_3 {a b c d e f g h : D} : ixD (.lst [a, b, c, d, e, f, g, h]) (.int 3) = some d := (rfl)
theorem L8_4 {a b c d e f g h : D} : ixD (.lst [a, b, c, d, e, f, g, h]) (.int 4) = some e := (rfl)
theorem L8_5 {a b c d e f g h : D} : ixD (.lst [a, b, c, d, e, f, g, h]) (.int 5) = some f := (rfl)
theorem L8_6 {a b c d e f g h : D} : ixD (.lst [a, b, c, d, e, f, g, h]) (.int 6) = some g := (rfl)
theorem L8_7 {a b c d e f g h : D} : ixD (.lst [a, b, c, d, e, f, g, h]) (.int 7) = some h := (rfl)
theorem bad_ex (h : C.Ok) {y k d : Nat} : ∀ v : Nat, v < 8 → ∃ b : D, ixD (.lst [.non, .tup [.int y, .int k], .lst [.int y, .int k, .int d], .tup [.int (-1), .int 0, .int 0], .tup [.int 0, .int C.ls.length, .int 0], .tup [.int 0, .int 0, .int (-1)], .tup [.bl true, .int 0, .int 0], .tup [.int 0, .int 0, .int 0, .int 0]]) (.int v) = some b ∧ m_is_date [C.cD, b] = some (.bl false) := by
  have ev : ∀ (t : D) (i : Int), dAndV (dCall m_is_integer (dCons (dVar 2) dNil)) (dOp oGe (dVar 2) (dC (.int 0))) [.val C.cD, .val t, .val (.int i)] none = some (.c (.bl (decide (0 ≤ i))), none) := fun t i => by
    have : wE (dAndV (dCall m_is_integer (dCons (dVar 2) dNil)) (dOp oGe (dVar 2) (dC (.int 0)))) [.val C.cD, .val t, .val (.int i)] none (fun r c => r = .c (.bl (decide (0 ≤ i))) ∧ c = none) .mk := by simp
    obtain ⟨r, c', h, rfl, rfl⟩ := wE_ex.mp this
    exact h
  have evb : ∀ (t : D), dAndV (dCall m_is_integer (dCons (dVar 2) dNil)) (dOp oGe (dVar 2) (dC (.int 0))) [.val C.cD, .val t, .val (.bl true)] none = some (.c (.bl false), none) := fun t => by
    have hi : m_is_integer [.bl true] = some (.bl false) := w_isint rfl
    have : wE (dAndV (dCall m_is_integer (dCons (dVar 2) dNil)) (dOp oGe (dVar 2) (dC (.int 0)))) [.val C.cD, .val t, .val (.bl true)] none (fun r c => r = .c (.bl false) ∧ c = none) .mk := by simp [hi]
    obtain ⟨r, c', h, rfl, rfl⟩ := wE_ex.mp this
    exact h
  intro v hv
  match v, hv with
  | 0, _ => exact ⟨_, L8_0, w_idF rfl⟩
  | 1, _ => exact ⟨_, L8_1, w_idL (by simp) (by simp)⟩
  | 2, _ => exact ⟨_, L8_2, w_idF rfl⟩
  | 3, _ => exact ⟨_, L8_3, w_idN (ev _ _) (ev _ _) (ev _ _) (by decide)⟩
  | 4, _ => exact ⟨_, L8_4, w_idBig h (Nat.le_refl _)⟩
  | 5, _ => exact ⟨_, L8_5, w_idN (ev _ _) (ev _ _) (ev _ _) (by decide)⟩
  | 6, _ => exact ⟨_, L8_6, w_idN (evb _) (ev _ _) (ev _ _) (by decide)⟩
  | 7, _ => exact ⟨_, L8_7, w_idL (by simp) (by simp)⟩
end K62

set_option autoImplicit true
set_option relaxedAutoImplicit true
set_option Elab.async false
set_option linter.all false
set_option maxRecDepth 100000
set_option maxHeartbeats 8000000
/-! TF: the law's part on calendars, its walk -/
namespace K62
open PySem L2 DL
theorem lst_0w {x : D} {r : List D} : ixD (.lst (x :: r)) (.int 0) = some x := ixD_l (i := 0) rfl
theorem oTuple_m {l : List D} : oTuple [.lst l] = some (.tup l) := (rfl)
theorem oList_t {l : List D} : oList [.tup l] = some l := (rfl)
theorem least_nat {P : Nat → Bool} : ∀ n, (∃ y, y < n ∧ P y = true) → ∃ y, y < n ∧ P y = true ∧ ∀ z, z < y → P z = false := by
  intro n
  induction n with
  | zero => rintro ⟨y, hy, _⟩; omega
  | succ n ih =>
    rintro ⟨y, hy, hp⟩
    by_cases h : ∃ y, y < n ∧ P y = true
    · obtain ⟨z, z1, z2, z3⟩ := ih h
      exact ⟨z, by omega, z2, z3⟩
    · refine ⟨y, hy, hp, fun z hz => ?_⟩
      cases e : P z with
      | false => rfl
      | true => exact absurd ⟨z, by omega, e⟩ h
theorem w_weekR {c : D} (hc : Cell c) : ∃ d c', m__law_week_right c [] = some (d, c') ∧ d = .bl true := by
  refine of_runC_ex (fun d c' => d = .bl true) (by rfl) ?_
  show wS b__law_week_right [.cst, .no, .no, .no, .no, .no, .no, .no, .no, .no, .no, .no, .no, .no, .no, .no, .no, .no, .no] (some c) _ .mk
  unfold b__law_week_right
  obtain ⟨m, b, f0, c1, hru, hc1, e1⟩ := w_rule hc
  refine seq_mid (fun S1 cc => S1 = [.cst, .val (rD m b f0), .no, .no, .no, .no, .no, .no, .no, .no, .no, .no, .no, .no, .no, .no, .no, .no, .no] ∧ cc = some c1) ?_ ?_
  · simp [e1]
  rintro _ _ ⟨rfl, rfl⟩
  obtain ⟨v2, c2, b2, hc2, e2⟩ := w_take hc1 4 (by omega) (by omega)
  simp at e2
  obtain ⟨ls, c3, f1, f2, f3, hc3⟩ := draws5 (s1 := .val (rD m b f0)) (rngD 0 (1 + v2)) hc2
  rw [rngD_len] at f2
  refine seq_mid (fun S1 cc => S1 = [.cst, .val (rD m b f0), .val (.tup (ls.map fun (l : Nat) => D.int (l : Int))), .no, .no, .no, .no, .no, .no, .no, .no, .no, .no, .no, .no, .no, .no, .no, .no] ∧ cc = some c3) ?_ ?_
  · simp (disch := omega) [e2, iP_dis, sizeLine_v, rngD_len]
    rw [show (1 + (v2 : Int)).toNat = 1 + v2 by omega]
    simp (disch := omega) [f1, oTuple_m, iP_dis, sizeLine_v, rngD_len]
  rintro _ _ ⟨rfl, rfl⟩
  obtain ⟨x, c4, b4, hc4, e4⟩ := w_take hc3 ls.length (by omega) (by omega)
  obtain ⟨C, hC⟩ : ∃ C : Ca, C = ⟨m, b, f0, ls, x⟩ := ⟨_, rfl⟩
  have h : C.Ok := by
    subst hC
    exact ⟨hru, by simp; omega, by simp; omega, f3, b4⟩
  have hcD : D.tup [rD m b f0, .tup (ls.map fun (l : Nat) => D.int (l : Int)), .int x] = C.cD := by subst hC; rfl
  have hls : ls = C.ls := by subst hC; rfl
  have hm0 : m = C.m := by subst hC; rfl
  have hrD : rD m b f0 = rD C.m C.b C.c := by subst hC; rfl
  rw [hrD] at hcD ⊢
  rw [hls] at hcD e4 b4 ⊢
  have k1 : 1 ≤ C.ls.length := h.k1
  have k4 : C.ls.length ≤ 4 := h.k4
  have r1 := h.ru.m1; have r2 := h.ru.m2
  clear f1 f2 f3 e1 hru
  refine seq_mid (fun S1 cc => S1 = [.cst, .val (rD C.m C.b C.c), .val (.tup (C.ls.map fun (l : Nat) => D.int (l : Int))), .val C.cD, .no, .no, .no, .no, .no, .no, .no, .no, .no, .no, .no, .no, .no, .no, .no] ∧ cc = some c4) ?_ ?_
  · simp (disch := omega) [e4, iP_dis, sizeLine_v, hcD]
  rintro _ _ ⟨rfl, rfl⟩
  obtain ⟨Y, g1, g2, g3⟩ := w_ldays (most := 900) h (by omega)
  simp at g1
  refine seq_mid (fun S1 cc => S1 = [.cst, .val (rD C.m C.b C.c), .val (.tup (C.ls.map fun (l : Nat) => D.int (l : Int))), .val C.cD, .val (.lst (allD C Y)), .no, .no, .no, .no, .no, .no, .no, .no, .no, .no, .no, .no, .no, .no] ∧ cc = some c4) ?_ ?_
  · simp [g1]
  rintro _ _ ⟨rfl, rfl⟩
  obtain ⟨n, c5, b5, hc5, e5⟩ := w_take hc4 900 (by omega) (by omega)
  simp at e5
  refine seq_mid (fun S1 cc => S1 = [.cst, .val (rD C.m C.b C.c), .val (.tup (C.ls.map fun (l : Nat) => D.int (l : Int))), .val C.cD, .val (.lst (allD C Y)), .val (.int n), .no, .no, .no, .no, .no, .no, .no, .no, .no, .no, .no, .no, .no] ∧ cc = some c5) ?_ ?_
  · simp [e5]
  rintro _ _ ⟨rfl, rfl⟩
  obtain ⟨y, k, d, d1, d2, d3, d4⟩ := w_dateof (n := n) h (by omega)
  have hyY : y < Y := by
    by_cases z : y < Y
    · exact z
    · have := yb_mono h (show Y ≤ y by omega); omega
  have get : ixD (.lst (allD C Y)) (.int n) = some (dD y k d) := ixD_l (by rw [d4]; exact allD_get h hyY d2 d3)
  refine seq_mid (fun S1 cc => S1 = [.cst, .val (rD C.m C.b C.c), .val (.tup (C.ls.map fun (l : Nat) => D.int (l : Int))), .val C.cD, .val (.lst (allD C Y)), .val (.int n), .no, .no, .no, .no, .no, .no, .no, .no, .no, .no, .no, .no, .no] ∧ cc = some c5) ?_ ?_
  · have wd := w_day (y := y) (k := k) (d := d) h (Nat.le_of_lt d2)
    have e : ((C.yb y : Nat) : Int) + (C.ms y k : Nat) + (d : Nat) = (n : Nat) := by omega
    rw [e] at wd
    have hr := repr_i (i := (n : Int)) (by omega)
    have nr := ne_repr (i := (n : Int))
    simp at hr nr
    simp [d1, get, ne_same (ok_dD (k := 63)), wd, w_isdate h d2, d3]
    simp [hr, nr, get, w_isdate h d2, d3]
  rintro _ _ ⟨rfl, rfl⟩
  obtain ⟨k', c6, b6, hc6, e6⟩ := w_take hc5 C.ls.length (by omega) (by omega)
  refine seq_mid (fun S1 cc => S1 = [.cst, .val (rD C.m C.b C.c), .val (.tup (C.ls.map fun (l : Nat) => D.int (l : Int))), .val C.cD, .val (.lst (allD C Y)), .val (.int n), .val (.int k'), .no, .no, .no, .no, .no, .no, .no, .no, .no, .no, .no, .no] ∧ cc = some c6) ?_ ?_
  · simp [e6]
  rintro _ _ ⟨rfl, rfl⟩
  obtain ⟨y9, c7, b7, hc7, e7⟩ := w_take hc6 9 (by omega) (by omega)
  obtain ⟨d8, c8, b8, hc8, e8⟩ := w_take hc7 8 (by omega) (by omega)
  simp at e7 e8
  refine seq_mid (fun S1 cc => S1 = [.cst, .val (rD C.m C.b C.c), .val (.tup (C.ls.map fun (l : Nat) => D.int (l : Int))), .val C.cD, .val (.lst (allD C Y)), .val (.int n), .val (.int k'), .val (dD y9 k' d8), .no, .no, .no, .no, .no, .no, .no, .no, .no, .no, .no] ∧ cc = some c8) ?_ ?_
  · simp (disch := omega) [e7, e8, iP_dis, sizeLine_v]
  rintro _ _ ⟨rfl, rfl⟩
  have hY9 : y9 < Y := by
    have := (yb_b h Y).2; omega
  refine seq_mid (fun S1 cc => S1 = [.cst, .val (rD C.m C.b C.c), .val (.tup (C.ls.map fun (l : Nat) => D.int (l : Int))), .val C.cD, .val (.lst (allD C Y)), .val (.int n), .val (.int k'), .val (dD y9 k' d8), .no, .no, .no, .no, .no, .no, .no, .no, .no, .no, .no] ∧ cc = some c8) ?_ ?_
  · have hin : oIn (dD y9 k' d8) (.lst (allD C Y)) = some (.bl (decide (d8 < C.dl y9 k'))) := oIn_iff (ds := allD C Y) rfl (ok_dD (k := 63)) (Ok.lst (k := 63) (allD_all (fun y k d => ok_dD) Y)) (by simp) (nobs_of (allD_all (fun y k d => by simp) Y)) (by
      rw [allD_mem h, decide_eq_true_eq]
      exact ⟨fun z => ⟨hY9, b6, z⟩, fun z => z.2.2⟩)
    simp [w_isdate h b6, hin, w_said]
  rintro _ _ ⟨rfl, rfl⟩
  obtain ⟨v9, c9, b9, hc9, e9⟩ := w_take hc8 8 (by omega) (by omega)
  obtain ⟨bd, bd1, bd2⟩ := bad_ex (y := y9) (k := k') (d := d8) h v9 b9
  simp at e9
  refine seq_mid (fun S1 cc => S1 = [.cst, .val (rD C.m C.b C.c), .val (.tup (C.ls.map fun (l : Nat) => D.int (l : Int))), .val C.cD, .val (.lst (allD C Y)), .val (.int n), .val (.int k'), .val (dD y9 k' d8), .val (.lst [.non, .tup [.int y9, .int k'], .lst [.int y9, .int k', .int d8], .tup [.int (-1), .int 0, .int 0], .tup [.int 0, .int C.ls.length, .int 0], .tup [.int 0, .int 0, .int (-1)], .tup [.bl true, .int 0, .int 0], .tup [.int 0, .int 0, .int 0, .int 0]]), .no, .no, .no, .no, .no, .no, .no, .no, .no, .no] ∧ cc = some c8) ?_ ?_
  · have cut : cutD [D.int (y9 : Nat), D.int (k' : Nat), D.int (d8 : Nat)] none (some 2) = [.int y9, .int k'] := rfl
    simp (disch := omega) [iP_dis, sizeLine_v, cut, oList_t]
  rintro _ _ ⟨rfl, rfl⟩
  refine seq_mid (fun S1 cc => S1 = [.cst, .val (rD C.m C.b C.c), .val (.tup (C.ls.map fun (l : Nat) => D.int (l : Int))), .val C.cD, .val (.lst (allD C Y)), .val (.int n), .val (.int k'), .val (dD y9 k' d8), .val (.lst [.non, .tup [.int y9, .int k'], .lst [.int y9, .int k', .int d8], .tup [.int (-1), .int 0, .int 0], .tup [.int 0, .int C.ls.length, .int 0], .tup [.int 0, .int 0, .int (-1)], .tup [.bl true, .int 0, .int 0], .tup [.int 0, .int 0, .int 0, .int 0]]), .no, .no, .no, .no, .no, .no, .no, .no, .no, .no] ∧ cc = some c9) ?_ ?_
  · simp [e9, bd1, bd2]
  rintro _ _ ⟨rfl, rfl⟩
  clear bd1 bd2
  generalize (D.lst [.non, .tup [.int y9, .int k'], .lst [.int y9, .int k', .int d8], .tup [.int (-1), .int 0, .int 0], .tup [.int 0, .int C.ls.length, .int 0], .tup [.int 0, .int 0, .int (-1)], .tup [.bl true, .int 0, .int 0], .tup [.int 0, .int 0, .int 0, .int 0]]) = bads
  obtain ⟨v10, c10, b10, hc10, e10⟩ := w_take hc9 7 (by omega) (by omega)
  simp at e10
  obtain ⟨w, hw⟩ : ∃ w : Nat, w = 1 + v10 := ⟨_, rfl⟩
  refine seq_mid (fun S1 cc => S1 = [.cst, .val (rD C.m C.b C.c), .val (.tup (C.ls.map fun (l : Nat) => D.int (l : Int))), .val C.cD, .val (.lst (allD C Y)), .val (.int n), .val (.int k'), .val (dD y9 k' d8), .val bads, .val (.int w), .no, .no, .no, .no, .no, .no, .no, .no, .no] ∧ cc = some c10) ?_ ?_
  · simp [e10, hw]
  rintro _ _ ⟨rfl, rfl⟩
  obtain ⟨mo, c11, b11, hc11, e11⟩ := w_take hc10 C.ls.length (by omega) (by omega)
  obtain ⟨da, c12, b12, hc12, e12⟩ := w_take hc11 6 (by omega) (by omega)
  obtain ⟨dd, c13, b13, hc13, e13⟩ := w_take hc12 w (by omega) (by omega)
  simp at e12
  refine seq_mid (fun S1 cc => S1 = [.cst, .val (rD C.m C.b C.c), .val (.tup (C.ls.map fun (l : Nat) => D.int (l : Int))), .val C.cD, .val (.lst (allD C Y)), .val (.int n), .val (.int k'), .val (dD y9 k' d8), .val bads, .val (.int w), .val (.int mo), .val (.int da), .val (.int dd), .no, .no, .no, .no, .no, .no] ∧ cc = some c13) ?_ ?_
  · simp (disch := omega) [e11, e12, e13, iP_dis, sizeLine_v]
  rintro _ _ ⟨rfl, rfl⟩
  have hw7 : 1 ≤ w ∧ w ≤ 7 := by omega
  have cyb : C.m * w ≤ 12 * 7 := Nat.mul_le_mul r2 hw7.2
  have cyb1 : 1 * 1 ≤ C.m * w := Nat.mul_le_mul r1 hw7.1
  have hmo : mo < C.K := b11
  have ecy : (C.m : Int) * (w : Int) = ((C.m * w : Nat) : Int) := by simp
  have wN := w_weekN (mo := mo) (da := da) (w := w) (d := dd) h hmo hw7
  have wYr := fun y0 => w_weekY (mo := mo) (da := da) (w := w) (d := dd) (y0 := y0) h hmo hw7
  have jY := fun z => w_jwY (mo := mo) (da := da) (w := w) (d := dd) (z := z) h hmo hw7
  have jN := w_jwN (mo := mo) (da := da) (w := w) (d := dd) h hmo hw7
  generalize hcy : C.m * w = cy at *
  refine seq_mid (fun S1 cc => S1 = [.cst, .val (rD C.m C.b C.c), .val (.tup (C.ls.map fun (l : Nat) => D.int (l : Int))), .val C.cD, .val (.lst (allD C Y)), .val (.int n), .val (.int k'), .val (dD y9 k' d8), .val bads, .val (.int w), .val (.int mo), .val (.int da), .val (.int dd), .val (.int cy), .no, .no, .no, .no, .no] ∧ cc = some c13) ?_ ?_
  · simp
    rw [oMul_i (by omega)]
    simp [ecy]
  rintro _ _ ⟨rfl, rfl⟩
  have hS := S_b h
  obtain ⟨Z, q1, q2, q3⟩ := w_ldays (most := (cy + 1) * (C.S + 1)) h (Nat.le_trans (Nat.mul_le_mul (show cy + 1 ≤ 85 by omega) (show C.S + 1 ≤ 21 by omega)) (by omega))
  have hZ : cy < Z := by
    by_cases z : cy < Z
    · exact z
    · exfalso
      have h1 := yb_mono h (show Z ≤ cy by omega)
      have h2 : C.yb cy ≤ cy * (C.S + 1) := by
        unfold Ca.yb
        have := lb_le h.ru cy
        rw [Nat.mul_comm, Nat.mul_add]
        omega
      rw [Nat.add_mul] at q2
      omega
  refine seq_mid (fun S1 cc => S1 = [.cst, .val (rD C.m C.b C.c), .val (.tup (C.ls.map fun (l : Nat) => D.int (l : Int))), .val C.cD, .val (.lst (allD C Y)), .val (.int n), .val (.int k'), .val (dD y9 k' d8), .val bads, .val (.int w), .val (.int mo), .val (.int da), .val (.int dd), .val (.int cy), .val (.lst (allD C Z)), .no, .no, .no, .no] ∧ cc = some c13) ?_ ?_
  · simp [oSum_tn]
    rw [show C.ls.sum = C.S from rfl, oMul_i (by omega)]
    have : ((cy : Int) + 1) * ((C.S : Int) + 1) = (((cy + 1) * (C.S + 1) : Nat) : Int) := by simp
    simp [this, q1, -Int.natCast_mul]
  rintro _ _ ⟨rfl, rfl⟩
  -- the years
  have sp : ∀ i, ∃ t : Nat × Nat × Nat, i < C.yb Z → (t.1 < Z ∧ t.2.1 < C.K ∧ t.2.2 < C.dl t.1 t.2.1 ∧ i = C.yb t.1 + C.ms t.1 t.2.1 + t.2.2) := fun i => by
    by_cases hi : i < C.yb Z
    · obtain ⟨y, k, d, h1, h2, h3, h4⟩ := yb_split h hi
      exact ⟨(y, k, d), fun _ => ⟨h1, h2, h3, h4⟩⟩
    · exact ⟨(0, 0, 0), fun z => absurd z hi⟩
  obtain ⟨T, hT⟩ := Classical.axiomOfChoice sp
  have zb : C.yb Z ≤ 6000 := by
    rcases q3 with z | z
    · subst z; rw [yb_0 h]; omega
    · have := yb_succ h (Z - 1)
      rw [show Z - 1 + 1 = Z by omega, ms_K h] at this
      have : (cy + 1) * (C.S + 1) ≤ 85 * 21 := Nat.mul_le_mul (by omega) (by omega)
      split at * <;> omega
  have hyrs : ∃ yl : List Nat, lcL (gdN 6) (dAnd (dTst (dOp oEq (dSl (dIx (dVar 14) (dVar 6)) (dPart (dC (.int 1))) dNoPart) (dTup (dCons (dVar 10) (dCons (dVar 11) dNil))))) (dAnd (dTst (dOp oEq (dOp oMod (dVar 6) (dVar 9)) (dVar 12))) (dTst (dOp oLtA (dIx (dIx (dVar 14) (dVar 6)) (dC (.int 0))) (dVar 13))))) (dIx (dIx (dVar 14) (dVar 6)) (dC (.int 0))) (rngD 0 (C.yb Z))
      [.cst, .val (rD C.m C.b C.c), .val (.tup (C.ls.map fun (l : Nat) => D.int (l : Int))), .val C.cD, .val (.lst (allD C Y)), .val (.int n), .no, .val (dD y9 k' d8), .val bads, .val (.int w), .val (.int mo), .val (.int da), .val (.int dd), .val (.int cy), .val (.lst (allD C Z)), .no, .no, .no, .no] (some c13) = some (yl.map (fun (y : Nat) => D.int (y : Int)), some c13) ∧
      ((yl = [] ∧ ∀ y, y < cy → FO C mo da w dd y = false) ∨ ∃ y0 r, yl = y0 :: r ∧ y0 < cy ∧ FO C mo da w dd y0 = true ∧ ∀ y, y < y0 → FO C mo da w dd y = false) := by
    obtain ⟨φ, hφ⟩ : ∃ φ : Nat → Bool, φ = fun i => decide (((T i).2.1 = mo ∧ (T i).2.2 = da) ∧ i % w = dd ∧ (T i).1 < cy) := ⟨_, rfl⟩
    have hl := lc_fm (g := gdN 6) (tt := dAnd (dTst (dOp oEq (dSl (dIx (dVar 14) (dVar 6)) (dPart (dC (.int 1))) dNoPart) (dTup (dCons (dVar 10) (dCons (dVar 11) dNil))))) (dAnd (dTst (dOp oEq (dOp oMod (dVar 6) (dVar 9)) (dVar 12))) (dTst (dOp oLtA (dIx (dIx (dVar 14) (dVar 6)) (dC (.int 0))) (dVar 13))))) (f := dIx (dIx (dVar 14) (dVar 6)) (dC (.int 0)))
      (S := [.cst, .val (rD C.m C.b C.c), .val (.tup (C.ls.map fun (l : Nat) => D.int (l : Int))), .val C.cD, .val (.lst (allD C Y)), .val (.int n), .no, .val (dD y9 k' d8), .val bads, .val (.int w), .val (.int mo), .val (.int da), .val (.int dd), .val (.int cy), .val (.lst (allD C Z)), .no, .no, .no, .no]) (cs := some c13) (φ := φ) (ψ := fun i => D.int ((T i).1 : Nat)) (lo := 0) (List.range (C.yb Z)) (fun i hi => by
        rw [List.mem_range] at hi
        obtain ⟨t1, t2, t3, t4⟩ := hT i hi
        have g : ixD (.lst (allD C Z)) (.int (i : Nat)) = some (dD (T i).1 (T i).2.1 (T i).2.2) := ixD_l (by
          conv => lhs; rw [t4]
          exact allD_get h t1 t2 t3)
        have cut : cutD [D.int ((T i).1 : Nat), D.int ((T i).2.1 : Nat), D.int ((T i).2.2 : Nat)] (some 1) none = [.int (T i).2.1, .int (T i).2.2] := rfl
        have md : ((i : Int)).fmod w = ((i % w : Nat) : Int) := fmod_nat
        simp only [Int.zero_add]
        simp (disch := omega) [g, cut, eq_pD, iP_dis, sizeLine_v]
        rw [iB_b]
        simp only [Bool.and_eq_true, decide_eq_true_eq, Bool.and_eq_false_iff, decide_eq_false_iff_not]
        refine ⟨fun hab => ?_, fun hab => ?_⟩
        · simp
          rw [if_neg (by omega)]
          simp (disch := omega) [md, g, -Int.natCast_emod]
          refine ⟨fun hm => ?_, fun hm => ?_⟩
          · rw [hφ]
            rw [Bool.eq_iff_iff]
            simp only [decide_eq_true_eq]
            omega
          · rw [hφ]
            simp only [decide_eq_false_iff_not]
            omega
        · rw [hφ]
          simp
          omega)
    rw [show rngD 0 (C.yb Z) = (List.range (C.yb Z)).map (fun (i : Nat) => D.int (0 + (i : Int))) from rfl, hl]
    refine ⟨((List.range (C.yb Z)).filter φ).map (fun i => (T i).1), by simp, ?_⟩
    have back : ∀ i, i < C.yb Z → φ i = true → (T i).1 < cy ∧ FO C mo da w dd (T i).1 = true ∧ i = C.yb (T i).1 + C.ms (T i).1 mo + da ∧ da < C.dl (T i).1 mo := fun i hi hp => by
      rw [hφ] at hp
      simp only [decide_eq_true_eq] at hp
      obtain ⟨⟨p1, p2⟩, p3, p4⟩ := hp
      obtain ⟨t1, t2, t3, t4⟩ := hT i hi
      rw [p1, p2] at t3 t4
      refine ⟨p4, ?_, t4, t3⟩
      unfold FO
      rw [← t4]
      simp [t3, p3]
    by_cases hex : ∃ y, y < cy ∧ FO C mo da w dd y = true
    · right
      obtain ⟨y0, y1, y2, y3⟩ := least_nat cy hex
      have hfo := y2
      unfold FO at y2
      simp only [Bool.and_eq_true, decide_eq_true_eq] at y2
      have hms : C.ms y0 (mo + 1) ≤ C.ms y0 C.K := ms_mono hmo
      rw [Ca.ms] at hms
      have hb1 : C.yb (y0 + 1) ≤ C.yb Z := yb_mono h (by omega)
      rw [yb_succ h] at hb1
      have ht0 : C.yb y0 + C.ms y0 mo + da < C.yb Z := by omega
      obtain ⟨t1, t2, t3, t4⟩ := hT _ ht0
      have hmt : C.ms (T (C.yb y0 + C.ms y0 mo + da)).1 ((T (C.yb y0 + C.ms y0 mo + da)).2.1 + 1) ≤ C.ms (T (C.yb y0 + C.ms y0 mo + da)).1 C.K := ms_mono t2
      rw [Ca.ms] at hmt
      obtain ⟨u1, u2⟩ := yb_inj h (y := y0) (n := C.ms y0 mo + da) (by omega) (y' := (T (C.yb y0 + C.ms y0 mo + da)).1) (n' := C.ms (T (C.yb y0 + C.ms y0 mo + da)).1 (T (C.yb y0 + C.ms y0 mo + da)).2.1 + (T (C.yb y0 + C.ms y0 mo + da)).2.2) (by omega) (by omega)
      rw [← u1] at u2 t3
      obtain ⟨u3, u4⟩ := ms_inj y2.1 t3 u2
      obtain ⟨rest, hr⟩ := filter_first (φ := φ) (n := C.yb Z) (t0 := C.yb y0 + C.ms y0 mo + da) ht0 (by
        rw [hφ]
        simp only [decide_eq_true_eq]
        exact ⟨⟨u3.symm, u4.symm⟩, y2.2, by omega⟩) (fun i hi => by
        cases e : φ i with
        | false => rfl
        | true =>
          exfalso
          obtain ⟨b1, b2, b3, b4⟩ := back i (by omega) e
          by_cases hlt : (T i).1 < y0
          · rw [y3 _ hlt] at b2; cases b2
          · by_cases heq : (T i).1 = y0
            · rw [heq] at b3; omega
            · have := yb_mono h (show y0 + 1 ≤ (T i).1 by omega)
              rw [yb_succ h] at this
              omega)
      rw [hr]
      exact ⟨y0, rest.map (fun i => (T i).1), by simp [u1.symm], y1, hfo, y3⟩
    · left
      refine ⟨?_, fun y hy => ?_⟩
      · have : (List.range (C.yb Z)).filter φ = [] := by
          rw [List.filter_eq_nil_iff]
          intro i hi hp
          obtain ⟨b1, b2, _⟩ := back i (List.mem_range.mp hi) hp
          exact hex ⟨_, b1, b2⟩
        rw [this]; rfl
      · cases e : FO C mo da w dd y with
        | false => rfl
        | true => exact absurd ⟨y, hy, e⟩ hex
  obtain ⟨yl, hyl, hcase⟩ := hyrs
  refine seq_mid (fun S1 cc => S1 = [.cst, .val (rD C.m C.b C.c), .val (.tup (C.ls.map fun (l : Nat) => D.int (l : Int))), .val C.cD, .val (.lst (allD C Y)), .val (.int n), .val (.int k'), .val (dD y9 k' d8), .val bads, .val (.int w), .val (.int mo), .val (.int da), .val (.int dd), .val (.int cy), .val (.lst (allD C Z)), .val (.lst (yl.map fun (y : Nat) => D.int (y : Int))), .no, .no, .no] ∧ cc = some c13) ?_ ?_
  · simp (disch := omega) [allD_len h, iP_dis, sizeLine_v, rngD_len]
    rw [hyl]
    simp
  rintro _ _ ⟨rfl, rfl⟩
  clear hyl
  obtain ⟨yy, c14, b14, hc14, e14⟩ := w_take hc13 cy (by omega) (by omega)
  have aF : ∀ z, (∀ y, y < z → FO C mo da w dd y = false) → (List.range z).any (FO C mo da w dd) = false := fun z hz => by
    rw [List.any_eq_false]
    intro y hy
    rw [hz y (List.mem_range.mp hy)]
    simp
  have aT : ∀ z y, y < z → FO C mo da w dd y = true → (List.range z).any (FO C mo da w dd) = true := fun z y hy hf => by
    rw [List.any_eq_true]
    exact ⟨y, List.mem_range.mpr hy, hf⟩
  have okl : ∀ l : List Nat, Ok 64 (.lst (l.map fun (y : Nat) => D.int (y : Int))) := fun l => Ok.lst (k := 63) fun d hd => by
    obtain ⟨_, _, rfl⟩ := List.mem_map.mp hd
    exact Ok.int
  have nobl : ∀ l : List Nat, nob (.lst (l.map fun (y : Nat) => D.int (y : Int))) = true := fun l => by
    rw [nob_lst]
    exact nobs_of fun d hd => by
      obtain ⟨_, _, rfl⟩ := List.mem_map.mp hd
      simp
  have okt : ∀ (s : Str) (i : Int), PyData.strOk s = true → Ok 64 (.tup [.str s, .int i]) := fun s i hs => Ok.tup (k := 63) (by simp; exact ⟨Ok.str hs, Ok.int⟩)
  rcases hcase with ⟨rfl, hno⟩ | ⟨y0, r, rfl, y1, y2, y3⟩
  · have w1 := wN hno
    rw [aF cy hno] at jN
    have j1 := jY yy (by omega)
    rw [hno yy b14] at j1
    simp at jN j1
    have en : oNe (.lst []) (.lst []) = some (.bl false) := ne_same (okl [])
    have ee : oEq (.lst []) (.lst []) = some (.bl true) := eq_same (okl [])
    have nt : oNe (.tup [.str "never", .int cy]) (.tup [.str "never", .int cy]) = some (.bl false) := ne_same (okt _ _ sN)
    simp (disch := omega) [w1, iP_dis, sizeLine_v, nt, jN, e14, j1, en, ee, w_said, flD]
  · have w1 := wYr y0 y1 y2 y3
    rw [aT cy y0 y1 y2] at jN
    have j0 := jY y0 (by omega)
    rw [y2, aF y0 y3] at j0
    have j1 := jY yy (by omega)
    have ej : (FO C mo da w dd yy && !(List.range yy).any (FO C mo da w dd)) = decide ((yy : Int) = y0) := by
      by_cases h1 : yy < y0
      · rw [y3 yy h1]; simp; omega
      · by_cases h2 : yy = y0
        · subst h2; rw [y2, aF yy y3]; simp
        · rw [aT yy y0 (by omega) y2]; simp; omega
    rw [ej] at j1
    simp at jN j0
    have en : oNe (.lst ((y0 :: r).map fun (y : Nat) => D.int (y : Int))) (.lst []) = some (.bl true) := oNe_iff (okl _) (okl []) (nobl _) (by simp) (by simp)
    have ee : oEq (.lst ((y0 :: r).map fun (y : Nat) => D.int (y : Int))) (.lst []) = some (.bl false) := oEq_iff (okl _) (okl []) (nobl _) (by simp) (by simp)
    have nt : oNe (.tup [.str "year", .int y0]) (.tup [.str "year", .int y0]) = some (.bl false) := ne_same (okt _ _ sY)
    simp at en ee
    simp (disch := omega) [w1, iP_dis, sizeLine_v, nt, lst_0w, j0, e14, j1, en, ee, w_said, jN, flD]
end K62

set_option autoImplicit true
set_option relaxedAutoImplicit true
set_option Elab.async false
set_option linter.all false
set_option maxRecDepth 100000
set_option maxHeartbeats 4000000
/-! UA: readings that agree: the program -/
namespace K62
open PySem L2 DL
/-- a row picked out of a row -/
theorem lc_fx {α : Type} {g : DG} {tt : DT} {f : DE} {S : List Sl} {cs : Option D} {enc : α → D} {φ : α → Bool} {ψ : α → D} : ∀ (xs : List α),
    (∀ x, x ∈ xs → wG g (enc x) S (fun S1 => wT tt S1 cs (fun b c => b = φ x ∧ c = cs ∧ (b = true → wE f S1 cs (fun r c => r = .c (ψ x) ∧ c = cs) .mk)) .mk) .mk) →
      lcL g tt f (xs.map enc) S cs = some ((xs.filter φ).map ψ, cs)
  | [], _ => rfl
  | x :: r, h => by
    obtain ⟨S1, e1, q⟩ := wG_ex.mp (h x List.mem_cons_self)
    obtain ⟨b, c, e2, hb, hcc, q⟩ := wT_ex.mp q
    subst hb hcc
    have ih := lc_fx (g := g) (tt := tt) (f := f) (enc := enc) (φ := φ) (ψ := ψ) r fun i hi => h i (List.mem_cons_of_mem _ hi)
    rw [List.map_cons]
    unfold lcL
    cases hφ : φ x with
    | true =>
      obtain ⟨r1, c1, e3, hr, hc1⟩ := wE_ex.mp (q hφ)
      subst hr hc1
      simp [e1, e2, hφ, e3, ih]
    | false => simp [e1, e2, hφ, ih]
def mu (p : Nat) (k : Int) : Rat := mkRat k p
theorem mu_le {p : Nat} (hp : 0 < p) {a b : Int} : mu p a ≤ mu p b ↔ a ≤ b := mk_le hp
theorem mu_lt {p : Nat} (hp : 0 < p) {a b : Int} : mu p a < mu p b ↔ a < b := mk_lt hp
theorem mu_den {p : Nat} (hp : 0 < p) {a : Int} : (mu p a).den ≤ p := (Dv.mk hp).le hp
theorem mu_inj {p : Nat} (hp : 0 < p) {a b : Int} (h : mu p a = mu p b) : a = b := by
  have h1 := (mu_le hp (a := a) (b := b)).mp (by rw [h]; exact Rat.le_refl)
  have h2 := (mu_le hp (a := b) (b := a)).mp (by rw [h]; exact Rat.le_refl)
  omega
abbrev mD (p : Nat) (k : Int) : D := qD (mu p k)
theorem mD_inj {p : Nat} (hp : 0 < p) {a b : Int} : mD p a = mD p b ↔ a = b := ⟨fun h => mu_inj hp (qD_inj.mp h), fun h => by rw [h]⟩
abbrev eR (p : Nat) (x : Int × Int) : D := .tup [mD p x.1, mD p x.2]
def pasD (p : Nat) (R : List (Int × Int)) : D := .tup (R.map (eR p))
def hin (k : Int) (x : Int × Int) : Bool := decide (x.1 ≤ k) && decide (k ≤ x.2)
def hold (R : List (Int × Int)) (k : Int) : Nat := (R.filter (hin k)).length
def ends : List (Int × Int) → List Int
  | [] => []
  | x :: r => x.1 :: x.2 :: ends r
theorem ends_len (R : List (Int × Int)) : (ends R).length = 2 * R.length := by
  induction R with
  | nil => rfl
  | cons x r ih => simp [ends, ih]; omega
theorem ends_app (R T : List (Int × Int)) : ends (R ++ T) = ends R ++ ends T := by
  induction R with
  | nil => rfl
  | cons x r ih => simp [ends, ih]
theorem w_hold {p : Nat} {R : List (Int × Int)} {k : Int} (hp : 0 < p) (hp3 : p ≤ 3) (hR : R.length ≤ 1000) : m_holding [pasD p R, mD p k] = some (.int (hold R k : Nat)) := by
  refine of_runF (by rfl) ?_
  show wS b_holding [.val (pasD p R), .val (mD p k), .no] none _ .mk
  unfold b_holding pasD
  have hl := lc_fx (g := gdN 2) (tt := dAnd (dTru (dCall m_at_most (dCons (dIx (dVar 2) (dC (.int 0))) (dCons (dVar 1) dNil)))) (dTru (dCall m_at_most (dCons (dVar 1) (dCons (dIx (dVar 2) (dC (.int 1))) dNil))))) (f := dVar 2) (S := [.val (.tup (R.map (eR p))), .val (mD p k), .no]) (cs := none) (enc := eR p) (φ := hin k) (ψ := eR p) R (fun x hx => by
    have d1 := mu_den hp (a := x.1)
    have d2 := mu_den hp (a := x.2)
    have d3 := mu_den hp (a := k)
    have w1 : m_at_most [mD p x.1, mD p k] = some (.bl (decide (x.1 ≤ k))) := by
      rw [w_most (by omega) (by omega)]; congr 2; exact decide_eq_decide.mpr (mu_le hp)
    have w2 : m_at_most [mD p k, mD p x.2] = some (.bl (decide (k ≤ x.2))) := by
      rw [w_most (by omega) (by omega)]; congr 2; exact decide_eq_decide.mpr (mu_le hp)
    simp [w1]
    unfold hin
    refine ⟨fun h1 => ?_, fun h1 => ?_⟩
    · simp [w2, h1]
    · simp; omega)
  have hlen : (R.map (eR p)).length < 16777216 := by simp; omega
  simp (disch := omega) [iP_dis, sizeLine_v]
  rw [hl]
  simp [flD, hold]
/-- what is known behind some ends -/
def AG (p : Nat) (R : List (Int × Int)) (en : Int) (P : List Int) (lo hi : D) (mo : Int) : Prop :=
  ((lo = .non ∧ hi = .non ∧ ∀ e ∈ P, ¬ en ≤ hold R e) ∨ ∃ a b, lo = mD p a ∧ hi = mD p b ∧ a ∈ P ∧ en ≤ hold R a ∧ b ∈ P ∧ en ≤ hold R b ∧ ∀ e ∈ P, en ≤ hold R e → a ≤ e ∧ e ≤ b) ∧
  (∀ e ∈ P, (hold R e : Int) ≤ mo) ∧ ((P = [] ∧ mo = 0) ∨ ∃ e ∈ P, (hold R e : Int) = mo)
theorem AG.step {p : Nat} {R : List (Int × Int)} {en : Int} {P : List Int} {lo hi : D} {mo : Int} (hp : 0 < p) (h : AG p R en P lo hi mo) (e : Int) :
    (¬ en ≤ hold R e → AG p R en (P ++ [e]) lo hi (if (hold R e : Int) > mo then (hold R e : Int) else mo)) ∧
    (en ≤ hold R e → ∀ lo' hi', ((lo = .non → lo' = mD p e) ∧ (∀ a, lo = mD p a → (e < a → lo' = mD p e) ∧ (¬ e < a → lo' = lo))) → ((hi = .non → hi' = mD p e) ∧ (∀ b, hi = mD p b → (b < e → hi' = mD p e) ∧ (¬ b < e → hi' = hi))) → AG p R en (P ++ [e]) lo' hi' (if (hold R e : Int) > mo then (hold R e : Int) else mo)) := by
  obtain ⟨h1, h2, h3⟩ := h
  have h2' : ∀ z ∈ P ++ [e], (hold R z : Int) ≤ (if (hold R e : Int) > mo then (hold R e : Int) else mo) := by
    intro z hz
    rcases List.mem_append.mp hz with hz | hz
    · have := h2 z hz; split <;> omega
    · have : z = e := by simpa using hz
      subst this; split <;> omega
  have h3' : ((P ++ [e] = [] ∧ (if (hold R e : Int) > mo then (hold R e : Int) else mo) = 0) ∨ ∃ z ∈ P ++ [e], (hold R z : Int) = (if (hold R e : Int) > mo then (hold R e : Int) else mo)) := by
    right
    by_cases hm : (hold R e : Int) > mo
    · exact ⟨e, by simp, by rw [if_pos hm]⟩
    · rcases h3 with ⟨rfl, rfl⟩ | ⟨z, hz, hz2⟩
      · exact ⟨e, by simp, by rw [if_neg hm]; omega⟩
      · exact ⟨z, by simp [hz], by rw [if_neg hm]; exact hz2⟩
  refine ⟨fun hn => ⟨?_, h2', h3'⟩, fun hy lo' hi' hl hh => ⟨?_, h2', h3'⟩⟩
  · rcases h1 with ⟨rfl, rfl, h⟩ | ⟨a, b, rfl, rfl, ha, ha2, hb, hb2, h⟩
    · left
      refine ⟨rfl, rfl, fun z hz => ?_⟩
      rcases List.mem_append.mp hz with hz | hz
      · exact h z hz
      · have : z = e := by simpa using hz
        subst this; exact hn
    · right
      refine ⟨a, b, rfl, rfl, by simp [ha], ha2, by simp [hb], hb2, fun z hz hzg => ?_⟩
      rcases List.mem_append.mp hz with hz | hz
      · exact h z hz hzg
      · have : z = e := by simpa using hz
        subst this; exact absurd hzg hn
  · right
    rcases h1 with ⟨rfl, rfl, h⟩ | ⟨a, b, rfl, rfl, ha, ha2, hb, hb2, h⟩
    · refine ⟨e, e, hl.1 rfl, hh.1 rfl, by simp, hy, by simp, hy, fun z hz hzg => ?_⟩
      rcases List.mem_append.mp hz with hz | hz
      · exact absurd hzg (h z hz)
      · have : z = e := by simpa using hz
        subst this; omega
    · obtain ⟨l1, l2⟩ := hl.2 a rfl
      obtain ⟨r1, r2⟩ := hh.2 b rfl
      have hlo : ∃ a', lo' = mD p a' ∧ a' ∈ P ++ [e] ∧ en ≤ hold R a' ∧ a' ≤ a ∧ a' ≤ e := by
        by_cases c : e < a
        · exact ⟨e, l1 c, by simp, hy, by omega, by omega⟩
        · exact ⟨a, l2 c, by simp [ha], ha2, by omega, by omega⟩
      have hhi : ∃ b', hi' = mD p b' ∧ b' ∈ P ++ [e] ∧ en ≤ hold R b' ∧ b ≤ b' ∧ e ≤ b' := by
        by_cases c : b < e
        · exact ⟨e, r1 c, by simp, hy, by omega, by omega⟩
        · exact ⟨b, r2 c, by simp [hb], hb2, by omega, by omega⟩
      obtain ⟨a', p1, p2, p3, p4, p5⟩ := hlo
      obtain ⟨b', q1, q2, q3, q4, q5⟩ := hhi
      refine ⟨a', b', p1, q1, p2, p3, q2, q3, fun z hz hzg => ?_⟩
      rcases List.mem_append.mp hz with hz | hz
      · have := h z hz hzg; omega
      · have : z = e := by simpa using hz
        subst this; omega
def AS (p : Nat) (R : List (Int × Int)) (f en : Int) (P : List Int) (s6 : Sl) (S1 : List Sl) (c1 : Option D) : Prop := ∃ (lo hi : D) (mo : Int) (s7 : Sl), AG p R en P lo hi mo ∧ s7 ≠ .cst ∧ c1 = none ∧ S1 = [.val (pasD p R), .val (.int f), .val (.int en), .val lo, .val hi, .val (.int mo), s6, s7]
abbrev bodyA : DS := (dsSeq (dsAsg (dCB oMax (dCons (dVar 5) (dCons (dCall m_holding (dCons (dVar 0) (dCons (dVar 7) dNil))) dNil))) (gdN 5))
  (dsIf (dTst (dOp oGe (dCall m_holding (dCons (dVar 0) (dCons (dVar 7) dNil))) (dVar 2))) (dsSeq (dsAsg (dIf (dOr (dTst (dOp oIsA (dVar 3) (dC .non))) (dTru (dCall m_is_less (dCons (dVar 7) (dCons (dVar 3) dNil))))) (dVar 7) (dVar 3)) (gdN 3))
  (dsAsg (dIf (dOr (dTst (dOp oIsA (dVar 4) (dC .non))) (dTru (dCall m_is_less (dCons (dVar 4) (dCons (dVar 7) dNil))))) (dVar 7) (dVar 4)) (gdN 4))) dsNil))
theorem w_bodyA {p : Nat} {R : List (Int × Int)} {f en mo e : Int} {P : List Int} {lo hi : D} {s6 : Sl} (hp : 0 < p) (hp3 : p ≤ 3) (hR : R.length ≤ 1000) (h : AG p R en P lo hi mo) :
    wS bodyA [.val (pasD p R), .val (.int f), .val (.int en), .val lo, .val hi, .val (.int mo), s6, .val (mD p e)] none (fun fl S1 c1 => fl = .nx ∧ AS p R f en (P ++ [e]) s6 S1 c1) .mk := by
  obtain ⟨st1, st2⟩ := h.step hp e
  have hless : ∀ x y : Int, m_is_less [mD p x, mD p y] = some (.bl (decide (x < y))) := fun x y => by
    have d1 := mu_den hp (a := x)
    have d2 := mu_den hp (a := y)
    rw [w_less (by omega) (by omega)]; congr 2; exact decide_eq_decide.mpr (mu_lt hp)
  have inn : ∀ x : Int, isNonD (mD p x) = false := fun x => rfl
  have fin : ∀ lo' hi', AG p R en (P ++ [e]) lo' hi' (if (hold R e : Int) > mo then (hold R e : Int) else mo) → AS p R f en (P ++ [e]) s6 [.val (pasD p R), .val (.int f), .val (.int en), .val lo', .val hi', .val (.int (if (hold R e : Int) > mo then (hold R e : Int) else mo)), s6, .val (mD p e)] none := fun lo' hi' h' =>
    ⟨lo', hi', _, _, h', by simp, rfl, rfl⟩
  unfold bodyA
  generalize hmo : (if (hold R e : Int) > mo then (hold R e : Int) else mo) = mo' at *
  simp [w_hold hp hp3 hR, hmo]
  refine ⟨fun hg => ?_, fun hg => fin _ _ (st1 (by omega))⟩
  rcases h.1 with ⟨rfl, rfl, _⟩ | ⟨a, b, rfl, rfl, _⟩
  · simp
    exact fin _ _ (st2 hg _ _ ⟨fun _ => rfl, fun a z => by cases z⟩ ⟨fun _ => rfl, fun a z => by cases z⟩)
  · simp [inn, hless]
    have key : ∀ lo' hi', ((e < a → lo' = mD p e) ∧ (¬ e < a → lo' = mD p a)) → ((b < e → hi' = mD p e) ∧ (¬ b < e → hi' = mD p b)) → AS p R f en (P ++ [e]) s6 [.val (pasD p R), .val (.int f), .val (.int en), .val lo', .val hi', .val (.int mo'), s6, .val (mD p e)] none := fun lo' hi' h1 h2 =>
      by
        have k1 : mD p a = D.non → lo' = mD p e := fun z => by cases z
        have k2 : mD p b = D.non → hi' = mD p e := fun z => by cases z
        have k3 : ∀ a', mD p a = mD p a' → (e < a' → lo' = mD p e) ∧ (¬ e < a' → lo' = mD p a) := fun a' z => by
          have := (mD_inj hp).mp z
          subst this; exact h1
        have k4 : ∀ b', mD p b = mD p b' → (b' < e → hi' = mD p e) ∧ (¬ b' < e → hi' = mD p b) := fun b' z => by
          have := (mD_inj hp).mp z
          subst this; exact h2
        exact fin _ _ (st2 hg _ _ ⟨k1, k3⟩ ⟨k2, k4⟩)
    refine ⟨fun h1 => ⟨fun h2 => ?_, fun h2 => ?_⟩, fun h1 => ⟨fun h2 => ?_, fun h2 => ?_⟩⟩
    · exact key _ _ ⟨fun _ => rfl, fun z => absurd h1 z⟩ ⟨fun _ => rfl, fun z => absurd h2 z⟩
    · exact key _ _ ⟨fun _ => rfl, fun z => absurd h1 z⟩ ⟨fun z => absurd z (by omega), fun _ => rfl⟩
    · exact key _ _ ⟨fun z => absurd z (by omega), fun _ => rfl⟩ ⟨fun _ => rfl, fun z => absurd h2 z⟩
    · exact key _ _ ⟨fun z => absurd z (by omega), fun _ => rfl⟩ ⟨fun z => absurd z (by omega), fun _ => rfl⟩
/-- the paper's two kinds -/
def AP (p : Nat) (R : List (Int × Int)) (en : Int) (d : D) : Prop := ∃ mo : Int, ((∀ e ∈ ends R, (hold R e : Int) ≤ mo) ∧ (R = [] ∨ ∃ e ∈ ends R, (hold R e : Int) = mo)) ∧
  ((d = .tup [.str "none", .int mo] ∧ ∀ e ∈ ends R, ¬ en ≤ hold R e) ∨ ∃ a b, d = .tup [.str "agree", mD p a, mD p b] ∧ a ∈ ends R ∧ en ≤ hold R a ∧ b ∈ ends R ∧ en ≤ hold R b ∧ ∀ e ∈ ends R, en ≤ hold R e → a ≤ e ∧ e ≤ b)
theorem w_agree {p : Nat} {R : List (Int × Int)} {f : Int} (hp : 0 < p) (hp3 : p ≤ 3) (hR : R.length ≤ 1000) : ∃ d, m_agree_paper [pasD p R, .int f] = some d ∧ AP p R (R.length - f) d := by
  refine of_runF_ex _ (by rfl) ?_
  show wS b_agree_paper [.val (pasD p R), .val (.int f), .no, .no, .no, .no, .no, .no] none _ .mk
  unfold b_agree_paper
  refine seq_mid (fun S1 c1 => S1 = [.val (pasD p R), .val (.int f), .val (.int (R.length - f)), .no, .no, .no, .no, .no] ∧ c1 = none) ?_ ?_
  · have : oLen [pasD p R] = some (.int R.length) := by unfold pasD; simp
    simp [this]
  rintro _ _ ⟨rfl, rfl⟩
  generalize (R.length : Int) - f = en
  refine seq_mid (fun S1 c1 => S1 = [.val (pasD p R), .val (.int f), .val (.int en), .val .non, .no, .no, .no, .no] ∧ c1 = none) (by simp) ?_
  rintro _ _ ⟨rfl, rfl⟩
  refine seq_mid (fun S1 c1 => S1 = [.val (pasD p R), .val (.int f), .val (.int en), .val .non, .val .non, .no, .no, .no] ∧ c1 = none) (by simp) ?_
  rintro _ _ ⟨rfl, rfl⟩
  refine seq_mid (fun S1 c1 => S1 = [.val (pasD p R), .val (.int f), .val (.int en), .val .non, .val .non, .val (.int 0), .no, .no] ∧ c1 = none) (by simp) ?_
  rintro _ _ ⟨rfl, rfl⟩
  refine seq_mid (fun S1 c1 => ∃ s6 : Sl, AS p R f en (ends R) s6 S1 c1) ?_ ?_
  · rw [w_for]
    simp
    have e1 : seqD (pasD p R) = some (R.map (eR p)) := rfl
    simp [e1]
    refine for_all (fun i S1 c1 => ∃ s6 : Sl, s6 ≠ .cst ∧ AS p R f en (ends (R.take i)) s6 S1 c1) (R.map (eR p)) 0 ⟨.no, by simp, .non, .non, 0, .no, ⟨.inl ⟨rfl, rfl, by simp [ends]⟩, by simp [ends], .inl ⟨by simp [ends], rfl⟩⟩, by simp, rfl, rfl⟩ ?_ ?_
    · rintro i d S1 c1 hd ⟨s6, h6, lo, hi, mo, s7, hag, h7, rfl, rfl⟩
      obtain ⟨x, hx, rfl⟩ := map_inv hd
      rw [Nat.zero_add] at hag ⊢
      have b1 := w_bodyA (f := f) (s6 := .val (eR p x)) (e := x.1) hp hp3 hR hag
      simp only [bodyA] at b1
      generalize hbody : (dsSeq (dsAsg (dCB oMax (dCons (dVar 5) (dCons (dCall m_holding (dCons (dVar 0) (dCons (dVar 7) dNil))) dNil))) (gdN 5)) _) = body at b1 ⊢
      have et : R.take (i + 1) = R.take i ++ [x] := by rw [List.take_add_one, hx]; rfl
      simp [notCst_of h6]
      rw [for_cons]
      simp [notCst_of h7]
      refine wS_mono b1 ?_
      rintro _ S2 c2 ⟨rfl, lo2, hi2, mo2, t7, hag2, g7, rfl, rfl⟩
      have b2 := w_bodyA (f := f) (s6 := .val (eR p x)) (e := x.2) hp hp3 hR hag2
      simp only [bodyA] at b2
      rw [hbody] at b2
      simp
      rw [for_cons]
      simp [notCst_of g7]
      refine wS_mono b2 ?_
      rintro _ S3 c3 ⟨rfl, h3⟩
      simp [for_nil]
      refine ⟨.val (eR p x), by simp, ?_⟩
      rw [et, ends_app]
      simp only [ends]
      rw [List.append_assoc] at h3
      exact h3
    · rintro S1 c1 ⟨s6, _, h⟩
      rw [Nat.zero_add, List.length_map, List.take_length] at h
      exact ⟨rfl, s6, h⟩
  · rintro S1 c1 ⟨s6, lo, hi, mo, s7, ⟨hag, hm1, hm2⟩, h7, rfl, rfl⟩
    have hm2' : R = [] ∨ ∃ e ∈ ends R, (hold R e : Int) = mo := by
      rcases hm2 with ⟨z, _⟩ | z
      · left
        cases R with
        | nil => rfl
        | cons x r => simp [ends] at z
      · exact .inr z
    rcases hag with ⟨rfl, rfl, h⟩ | ⟨a, b, rfl, rfl, h⟩
    · simp (disch := omega) [iP_dis, sizeLine_v, flD]
      exact ⟨mo, ⟨hm1, hm2'⟩, .inl ⟨rfl, h⟩⟩
    · have inn : ∀ x : Int, isNonD (mD p x) = false := fun x => rfl
      simp (disch := omega) [inn, iP_dis, sizeLine_v, flD]
      exact ⟨mo, ⟨hm1, hm2'⟩, .inr ⟨a, b, rfl, h⟩⟩
end K62

set_option autoImplicit true
set_option relaxedAutoImplicit true
set_option Elab.async false
set_option linter.all false
set_option maxRecDepth 100000
set_option maxHeartbeats 4000000
/-! UB: the judge of readings that agree -/
namespace K62
open PySem L2 DL
theorem ends_lc {p : Nat} {a f v en : D} : ∀ R : List (Int × Int), lcO (gdN 6) dYes (lcIn (diSeq (dVar 6)) (gdN 5) dYes (dVar 5) [5]) (R.map (eR p)) [.val a, .val f, .val v, .val en, .no, .no, .no] none = some ((ends R).map (mD p), none)
  | [] => rfl
  | x :: r => by
    have ih := ends_lc (p := p) (a := a) (f := f) (v := v) (en := en) r
    rw [List.map_cons]
    unfold lcO
    have g : gdN 6 (eR p x) [.val a, .val f, .val v, .val en, .no, .no, .no] = some [.val a, .val f, .val v, .val en, .no, .no, .val (eR p x)] := rfl
    have i : lcIn (diSeq (dVar 6)) (gdN 5) dYes (dVar 5) [5] [.val a, .val f, .val v, .val en, .no, .no, .val (eR p x)] none = some ([mD p x.1, mD p x.2], none) := rfl
    simp only [g, dYes, i, ih]
    simp [ends]
theorem sNo : PyData.strOk "none" = true := by decide +kernel
theorem sAg : PyData.strOk "agree" = true := by decide +kernel
theorem e_nono : oEq (.str "none") (.str "none") = some (.bl true) := eq_s sNo sNo (by simp)
theorem e_agno : oEq (.str "agree") (.str "none") = some (.bl false) := eq_s sAg sNo (by simp; decide)
theorem n_agag : oNe (.str "agree") (.str "agree") = some (.bl false) := ne_s sAg sAg (by simp)
theorem ni23 {n : Nat} {k : Bool} (h : k = true ↔ ¬ (n = 2 ∨ n = 3)) : oNi (.int n) (.tup [.int 2, .int 3]) = some (.bl k) := by
  have := oNi_of (oIn_iff (b := decide (n = 2 ∨ n = 3)) (x := .int n) (y := .tup [.int 2, .int 3]) (ds := [.int 2, .int 3]) rfl Ok.int (Ok.lst (k := 63) (by simp; exact ⟨Ok.int, Ok.int⟩)) (by simp) (by simp) (by simp; omega))
  rw [this]
  congr 2
  rw [Bool.eq_iff_iff, h]
  simp
theorem ni2 : oNi (.int 2) (.tup [.int 2, .int 3]) = some (.bl false) := ni23 (n := 2) (by simp)
theorem ni3 : oNi (.int 3) (.tup [.int 2, .int 3]) = some (.bl false) := ni23 (n := 3) (by simp)
theorem ni4 : oNi (.int 4) (.tup [.int 2, .int 3]) = some (.bl true) := ni23 (n := 4) (by simp)
theorem maxI_of {l : List Int} {M : Int} (h : ∀ x ∈ l, x ≤ M) (hm : M ∈ l) : maxI l = M := by
  have hne : l ≠ [] := fun z => by subst z; cases hm
  have h1 := h _ (maxI_mem hne)
  have h2 := maxI_ge hm
  omega
theorem oLen_pas {p : Nat} {R : List (Int × Int)} : oLen [pasD p R] = some (.int R.length) := by unfold pasD; simp
theorem w_jaN {p : Nat} {R : List (Int × Int)} {f v M : Int} (hp : 0 < p) (hp3 : p ≤ 3) (hR : R.length ≤ 100) (hM : ∀ e ∈ ends R, (hold R e : Int) ≤ M) (hM2 : ∃ e ∈ ends R, (hold R e : Int) = M) :
    m_judge_agree [pasD p R, .int f, .tup [.str "none", .int v]] = some (.bl (decide (v < R.length - f) && decide (M = v))) := by
  have hRR : R ≠ [] := by rintro rfl; obtain ⟨e, he, _⟩ := hM2; cases he
  have sq : seqD (pasD p R) = some (R.map (eR p)) := rfl
  refine of_runF (by rfl) ?_
  show wS b_judge_agree [.val (pasD p R), .val (.int f), .val (.tup [.str "none", .int v]), .no, .no, .no, .no] none _ .mk
  unfold b_judge_agree
  have el : (ends R).length ≤ 16777216 := by rw [ends_len]; omega
  have el2 : (ends R).length < 16777216 := by rw [ends_len]; omega
  simp (disch := omega) [oLen_pas, isiD, ni2, iP_dis, sizeLine_v, sq]
  rw [ends_lc]
  simp (disch := omega) [el, e_nono, iP_dis, sizeLine_v]
  refine ⟨fun hv => ?_, fun hv => ?_⟩
  · have hl : lcL (gdN 5) dYes (dCall m_holding (dCons (dVar 0) (dCons (dVar 5) dNil))) ((ends R).map (mD p)) [.val (pasD p R), .val (.int f), .val (.tup [.str "none", .int v]), .val (.int (R.length - f)), .val (.lst ((ends R).map (mD p))), .no, .no] none = some (((ends R).map fun e => (hold R e : Int)).map .int, none) := by
      have := lc_fx (g := gdN 5) (tt := dYes) (f := dCall m_holding (dCons (dVar 0) (dCons (dVar 5) dNil))) (S := [.val (pasD p R), .val (.int f), .val (.tup [.str "none", .int v]), .val (.int (R.length - f)), .val (.lst ((ends R).map (mD p))), .no, .no]) (cs := none) (enc := mD p) (φ := fun _ => true) (ψ := fun e => .int (hold R e : Nat)) (ends R) (fun e he => by
        simp [w_hold hp hp3 (show R.length ≤ 1000 by omega)])
      rw [this, List.filter_eq_self.mpr (by simp), List.map_map]; rfl
    rw [hl]
    have hne : ((ends R).map fun e => (hold R e : Int)) ≠ [] := by
      cases R with
      | nil => exact absurd rfl hRR
      | cons x r => simp [ends]
    have hmx : maxI ((ends R).map fun e => (hold R e : Int)) = M := maxI_of (fun x hx => by
      obtain ⟨e, he, rfl⟩ := List.mem_map.mp hx
      exact hM e he) (by
      obtain ⟨e, he, h2⟩ := hM2
      exact List.mem_map.mpr ⟨e, he, h2⟩)
    have om := oMax_l hne
    rw [hmx] at om
    simp [-List.map_map, om, flD, hv]
  · simp [flD]
    intro z
    omega
open Classical in
theorem w_jaA {p : Nat} {R : List (Int × Int)} {f a b : Int} (hp : 0 < p) (hp3 : p ≤ 3) (hR : R.length ≤ 100) :
    m_judge_agree [pasD p R, .int f, .tup [.str "agree", mD p a, mD p b]] = some (.bl (decide ((R.length - f ≤ hold R a ∧ R.length - f ≤ hold R b) ∧ (∀ e ∈ ends R, R.length - f ≤ hold R e → a ≤ e ∧ e ≤ b) ∧ a ∈ ends R ∧ b ∈ ends R))) := by
  have sq : seqD (pasD p R) = some (R.map (eR p)) := rfl
  have hless : ∀ x y : Int, m_is_less [mD p x, mD p y] = some (.bl (decide (x < y))) := fun x y => by
    have d1 := mu_den hp (a := x)
    have d2 := mu_den hp (a := y)
    rw [w_less (by omega) (by omega)]; congr 2; exact decide_eq_decide.mpr (mu_lt hp)
  have isr : ∀ x : Int, m_is_ratio [mD p x] = some (.bl true) := fun x => w_isratio (by have := mu_den hp (a := x); omega)
  have hh := fun k => w_hold (k := k) hp hp3 (show R.length ≤ 1000 by omega)
  have inE : ∀ x : Int, oIn (mD p x) (.lst ((ends R).map (mD p))) = some (.bl (decide (x ∈ ends R))) := fun x => oIn_iff (ds := (ends R).map (mD p)) rfl (ok_q (k := 63)) (Ok.lst (k := 63) fun d hd => by
    obtain ⟨_, _, rfl⟩ := List.mem_map.mp hd
    exact ok_q) nob_q (nobs_of fun d hd => by
    obtain ⟨_, _, rfl⟩ := List.mem_map.mp hd
    exact nob_q) (by
    rw [decide_eq_true_eq, List.mem_map]
    constructor
    · intro h; exact ⟨x, h, rfl⟩
    · rintro ⟨y, hy, e⟩
      have := (mD_inj hp).mp e
      subst this; exact hy)
  refine of_runF (by rfl) ?_
  show wS b_judge_agree [.val (pasD p R), .val (.int f), .val (.tup [.str "agree", mD p a, mD p b]), .no, .no, .no, .no] none _ .mk
  unfold b_judge_agree
  have el : (ends R).length ≤ 16777216 := by rw [ends_len]; omega
  simp (disch := omega) [oLen_pas, isiD, ni3, iP_dis, sizeLine_v, sq]
  rw [ends_lc]
  generalize hen : (R.length : Int) - f = en
  generalize hRes : decide ((en ≤ hold R a ∧ en ≤ hold R b) ∧ (∀ e ∈ ends R, en ≤ hold R e → a ≤ e ∧ e ≤ b) ∧ a ∈ ends R ∧ b ∈ ends R) = Res
  have hRes' : Res = true ↔ ((en ≤ hold R a ∧ en ≤ hold R b) ∧ (∀ e ∈ ends R, en ≤ hold R e → a ≤ e ∧ e ≤ b) ∧ a ∈ ends R ∧ b ∈ ends R) := by rw [← hRes, decide_eq_true_eq]
  simp (disch := omega) [el, e_agno, n_agag, isr, hh, iP_dis, sizeLine_v]
  have resF : ¬ ((en ≤ hold R a ∧ en ≤ hold R b) ∧ (∀ e ∈ ends R, en ≤ hold R e → a ≤ e ∧ e ≤ b) ∧ a ∈ ends R ∧ b ∈ ends R) → Res = false := fun h => by
    cases Res with
    | false => rfl
    | true => exact absurd (hRes'.mp rfl) h
  refine ⟨fun h1 => ?_, fun h1 => ⟨fun h2 => ?_, fun h2 => ?_⟩⟩
  · rw [resF (fun z => by omega)]; simp [flD]
  · rw [resF (fun z => by omega)]; simp [flD]
  · refine wS_mono (Q := fun fl S1 c1 => (fl = .nx ∧ (∀ e ∈ ends R, en ≤ hold R e → a ≤ e ∧ e ≤ b) ∧ ∃ x : Sl, S1 = [.val (pasD p R), .val (.int f), .val (.tup [.str "agree", mD p a, mD p b]), .val (.int en), .val (.lst ((ends R).map (mD p))), x, .no] ∧ c1 = none) ∨ (flD fl = some (.bl Res) ∧ fl = .rt (.bl Res))) ?_ ?_
    · refine for_all (fun i S1 c1 => (∀ e ∈ (ends R).take i, en ≤ hold R e → a ≤ e ∧ e ≤ b) ∧ ∃ x : Sl, x ≠ .cst ∧ S1 = [.val (pasD p R), .val (.int f), .val (.tup [.str "agree", mD p a, mD p b]), .val (.int en), .val (.lst ((ends R).map (mD p))), x, .no] ∧ c1 = none) ((ends R).map (mD p)) 0 ⟨by simp, .no, by simp, rfl, rfl⟩ ?_ ?_
      · rintro i d S1 c1 hd ⟨hall, x, hx, rfl, rfl⟩
        obtain ⟨e, he, rfl⟩ := map_inv hd
        rw [Nat.zero_add] at hall ⊢
        have hme := List.mem_of_getElem? he
        have tk : (ends R).take (i + 1) = (ends R).take i ++ [e] := by rw [List.take_add_one, he]; rfl
        have cont : (en ≤ hold R e → a ≤ e ∧ e ≤ b) → (∀ z ∈ (ends R).take (i + 1), en ≤ hold R z → a ≤ z ∧ z ≤ b) := fun hz z hzm => by
          rw [tk] at hzm
          rcases List.mem_append.mp hzm with q | q
          · exact hall z q
          · have : z = e := by simpa using q
            subst this; exact hz
        simp [notCst_of hx, hh, hless]
        refine ⟨fun hg => ⟨fun h3 => ?_, fun h3 => ⟨fun h4 => ?_, fun h4 => ?_⟩⟩, fun hg => ?_⟩
        · rw [resF (fun z => by have := z.2.1 e hme hg; omega)]; simp [flD]
        · rw [resF (fun z => by have := z.2.1 e hme hg; omega)]; simp [flD]
        · exact fun z hz => cont (fun _ => ⟨by omega, by omega⟩) z hz
        · exact fun z hz => cont (fun q => absurd q (by omega)) z hz
      · rintro S1 c1 ⟨hall, x, hx, rfl, rfl⟩
        rw [Nat.zero_add, List.length_map, List.take_length] at hall
        exact .inl ⟨rfl, hall, x, rfl, rfl⟩
    · rintro fl S1 c1 (⟨rfl, hall, x, rfl, rfl⟩ | ⟨h3, rfl⟩)
      · simp [inE]
        cases ha : decide (a ∈ ends R) with
        | false =>
          rw [decide_eq_false_iff_not] at ha
          rw [resF (fun z => ha z.2.2.1)]
          simp [flD, ha]
        | true =>
          rw [decide_eq_true_eq] at ha
          simp [ha]
          have : Res = decide (b ∈ ends R) := by
            rw [Bool.eq_iff_iff, hRes', decide_eq_true_eq]
            exact ⟨fun z => z.2.2.2, fun z => ⟨⟨by omega, by omega⟩, hall, ha, z⟩⟩
          rw [this]
          simp [flD]
      · simp [flD]
theorem w_ja2 {p : Nat} {R : List (Int × Int)} {f : Int} {x : D} (hR : R.length ≤ 100) : m_judge_agree [pasD p R, .int f, .tup [.str "agree", x]] = some (.bl false) := by
  have sq : seqD (pasD p R) = some (R.map (eR p)) := rfl
  have el : (ends R).length ≤ 16777216 := by rw [ends_len]; omega
  refine of_runF (by rfl) ?_
  show wS b_judge_agree [.val (pasD p R), .val (.int f), .val (.tup [.str "agree", x]), .no, .no, .no, .no] none _ .mk
  unfold b_judge_agree
  simp (disch := omega) [oLen_pas, isiD, ni2, iP_dis, sizeLine_v, sq]
  rw [ends_lc]
  simp (disch := omega) [el, e_agno, n_agag, iP_dis, sizeLine_v, flD]
theorem w_ja3 {p : Nat} {R : List (Int × Int)} {f : Int} {x y : D} (hR : R.length ≤ 100) : m_judge_agree [pasD p R, .int f, .tup [.str "none", x, y]] = some (.bl false) := by
  have sq : seqD (pasD p R) = some (R.map (eR p)) := rfl
  have el : (ends R).length ≤ 16777216 := by rw [ends_len]; omega
  refine of_runF (by rfl) ?_
  show wS b_judge_agree [.val (pasD p R), .val (.int f), .val (.tup [.str "none", x, y]), .no, .no, .no, .no] none _ .mk
  unfold b_judge_agree
  simp (disch := omega) [oLen_pas, isiD, ni3, iP_dis, sizeLine_v, sq]
  rw [ends_lc]
  simp (disch := omega) [el, e_nono, iP_dis, sizeLine_v, flD]
theorem w_ja4 {p : Nat} {R : List (Int × Int)} {f : Int} {x y z w : D} : m_judge_agree [pasD p R, .int f, .tup [x, y, z, w]] = some (.bl false) := by
  refine of_runF (by rfl) ?_
  show wS b_judge_agree [.val (pasD p R), .val (.int f), .val (.tup [x, y, z, w]), .no, .no, .no, .no] none _ .mk
  unfold b_judge_agree
  simp (disch := omega) [oLen_pas, isiD, ni4, iP_dis, sizeLine_v, flD]
theorem w_ja0 {p : Nat} {R : List (Int × Int)} {f : Int} : m_judge_agree [pasD p R, .int f, .non] = some (.bl false) := by
  refine of_runF (by rfl) ?_
  show wS b_judge_agree [.val (pasD p R), .val (.int f), .val .non, .no, .no, .no, .no] none _ .mk
  unfold b_judge_agree
  simp (disch := omega) [oLen_pas, isiD, iP_dis, sizeLine_v, flD]
end K62

set_option autoImplicit true
set_option relaxedAutoImplicit true
set_option Elab.async false
set_option linter.all false
set_option maxRecDepth 100000
set_option maxHeartbeats 4000000
/-! UC: the law's part on readings that agree -/
namespace K62
open PySem L2 DL
theorem okSl_neU {x : Sl} (h : okSl x = true) : x ≠ .cst := by rintro rfl; cases h
abbrev eI (x : Int × Int) : D := .tup [.int x.1, .int x.2]
def GR (R : List (Int × Int)) : Prop := ∀ r ∈ R, 0 ≤ r.1 ∧ r.1 < 12 ∧ r.1 ≤ r.2 ∧ r.2 < r.1 + 7
def RI (i : Nat) (S1 : List Sl) (c1 : Option D) : Prop := ∃ (R : List (Int × Int)) (c : D) (s2 s3 : Sl), R.length = i ∧ GR R ∧ Cell c ∧ okSl s2 = true ∧ okSl s3 = true ∧ c1 = some c ∧
  S1 = [.cst, .own (R.map eI), s2, s3, .no, .no, .no, .no, .no, .no, .no, .no, .no, .no, .no, .no, .no]
def mkR (R : List (Int × Int)) : List Int := setI (R.map (·.1) ++ R.map (·.2))
theorem mkR_mem {R : List (Int × Int)} {k : Int} : k ∈ mkR R ↔ k ∈ ends R := by
  unfold mkR
  rw [setI_mem]
  induction R with
  | nil => simp [ends]
  | cons x r ih =>
    simp only [List.map_cons, ends, List.mem_cons, List.mem_append] at ih ⊢
    rw [← ih]
    grind
theorem insI_len {x : Int} : ∀ {l : List Int}, (insI x l).length ≤ l.length + 1
  | [] => by simp [insI]
  | y :: r => by
    unfold insI
    split
    · simp
    · split
      · simp
      · have := insI_len (x := x) (l := r)
        simp; omega
theorem setI_len : ∀ {l : List Int}, (setI l).length ≤ l.length
  | [] => by simp [setI]
  | x :: r => by
    have := insI_len (x := x) (l := setI r)
    have := setI_len (l := r)
    simp [setI]; omega
theorem oAddL_u {xs ys : List D} (h : xs.length + ys.length ≤ 10000) : oAdd (.lst xs) (.lst ys) = some (.lst (xs ++ ys)) := by
  unfold oAdd orD oAddI oInt oAddS oAddT oAddL
  simp only []
  rw [if_pos (by rw [sizeLine_v]; omega)]
theorem intsD_i : ∀ l : List Int, intsD (l.map .int) = some l
  | [] => rfl
  | x :: r => by simp [intsD, intsD_i r]
theorem fit_eq {l : List Int} {P : Int → Bool} : ((List.range l.length).filter (fun i => P (l.getD i 0))).map (fun i => l.getD i 0) = l.filter P := by
  have e : l = (List.range l.length).map (fun i => l.getD i 0) := by
    apply List.ext_getElem
    · simp
    · intro i h1 h2
      simp at h2
      simp [h1]
  conv => rhs; rw [e]
  rw [List.filter_map]
  rfl
theorem U5_0 {a b c d e : D} : ixD (.lst [a, b, c, d, e]) (.int 0) = some a := (rfl)
theorem U5_1 {a b c d e : D} : ixD (.lst [a, b, c, d, e]) (.int 1) = some b := (rfl)
theorem U5_2 {a b c d e : D} : ixD (.lst [a, b, c, d, e]) (.int 2) = some c := (rfl)
theorem U5_3 {a b c d e : D} : ixD (.lst [a, b, c, d, e]) (.int 3) = some d := (rfl)
theorem U5_4 {a b c d e : D} : ixD (.lst [a, b, c, d, e]) (.int 4) = some e := (rfl)
theorem U2_1 {a b : D} : ixD (.tup [a, b]) (.int 1) = some b := (rfl)
theorem U3_1 {a b c : D} : ixD (.tup [a, b, c]) (.int 1) = some b := (rfl)
theorem UA_2 {a b c : D} : oAdd (.tup [a, b]) (.tup [c]) = some (.tup [a, b, c]) := (rfl)
theorem UA_3 {a b c d : D} : oAdd (.tup [a, b, c]) (.tup [d]) = some (.tup [a, b, c, d]) := (rfl)
theorem U_saidB {a b : Bool} : m__law_said [.bl a, .bl b] = some (.bl (decide (a = b))) := by
  cases a <;> cases b <;> rfl
theorem okNU {v : Int} : Ok 64 (.tup [.str "none", .int v]) := Ok.tup (k := 63) (by simp; exact ⟨Ok.str sNo, Ok.int⟩)
theorem okAU {p : Nat} {a b : Int} : Ok 64 (.tup [.str "agree", mD p a, mD p b]) := Ok.tup (k := 63) (by simp; exact ⟨Ok.str sAg, ok_q, ok_q⟩)
theorem ixm {l : List Int} {i : Nat} (h : i < l.length) : ixD (.lst (l.map .int)) (.int (i : Nat)) = some (.int (l.getD i 0)) := ixD_l (by simp [List.getD, List.getElem?_eq_getElem h])
/-- the other answers -/
def oth (p : Nat) (d : D) (m0 m1 v : Int) : Nat → D
  | 0 => .tup [.str "none", .int v]
  | 1 => .tup [.str "agree", mD p m0, mD p m1]
  | 2 => .tup [.str "agree", (match d with | .tup [_, x] => x | .tup [_, x, _] => x | _ => .non)]
  | 3 => .non
  | _ => (match d with | .tup l => .tup (l ++ [.int 1]) | _ => .non)
section
variable {p : Nat} {d x y z : D} {m0 m1 v : Int}
theorem oth0 : oth p d m0 m1 v 0 = .tup [.str "none", .int v] := rfl
theorem oth1 : oth p d m0 m1 v 1 = .tup [.str "agree", mD p m0, mD p m1] := rfl
theorem oth2N : oth p (.tup [x, y]) m0 m1 v 2 = .tup [.str "agree", y] := rfl
theorem oth2A : oth p (.tup [x, y, z]) m0 m1 v 2 = .tup [.str "agree", y] := rfl
theorem oth3 : oth p d m0 m1 v 3 = .non := rfl
theorem oth4N : oth p (.tup [x, y]) m0 m1 v 4 = .tup [x, y, .int 1] := rfl
theorem oth4A : oth p (.tup [x, y, z]) m0 m1 v 4 = .tup [x, y, z, .int 1] := rfl
end
theorem oth_ok {p : Nat} (hp : 0 < p) (hp3 : p ≤ 3) {R : List (Int × Int)} {f m0 m1 v : Int} {d : D} (hR : R.length ≤ 100) (hR1 : R ≠ []) (hd : AP p R (R.length - f) d) (e0 : m0 ∈ ends R) (e1 : m1 ∈ ends R) (lo : ∀ e ∈ ends R, m0 ≤ e) (hi : ∀ e ∈ ends R, e ≤ m1) (i : Nat) (hi5 : i < 5) : ∃ b : Bool, m_judge_agree [pasD p R, .int f, oth p d m0 m1 v i] = some (.bl b) ∧ oEq (oth p d m0 m1 v i) d = some (.bl b) := by
  obtain ⟨mo, ⟨hm1, hm2⟩, hk⟩ := hd
  have hm2' : ∃ e ∈ ends R, (hold R e : Int) = mo := by
    rcases hm2 with z | z
    · exact absurd z hR1
    · exact z
  rcases hk with ⟨rfl, hn⟩ | ⟨a, b, rfl, ha, ha2, hb, hb2, hab⟩
  · match i, hi5 with
    | 0, _ =>
      rw [oth0]
      refine ⟨_, w_jaN hp hp3 hR hm1 hm2', oEq_iff okNU okNU (by simp) (by simp) ?_⟩
      simp
      constructor
      · rintro ⟨_, h⟩; exact h.symm
      · rintro rfl
        obtain ⟨e, he, h2⟩ := hm2'
        have := hn e he
        exact ⟨by omega, rfl⟩
    | 1, _ =>
      rw [oth1]
      refine ⟨_, w_jaA hp hp3 hR, oEq_iff okAU okNU (by simp) (by simp) ?_⟩
      simp
      intro h _ _ _ _
      exact absurd h (hn _ e0)
    | 2, _ => rw [oth2N]; exact ⟨_, w_ja2 hR, oEq_iff (Ok.tup (k := 63) (by simp; exact ⟨Ok.str sAg, Ok.int⟩)) okNU (by simp) (by simp) (by simp; decide)⟩
    | 3, _ => rw [oth3]; exact ⟨_, w_ja0, oEq_iff Ok.non okNU (by simp) (by simp) (by simp)⟩
    | 4, _ => rw [oth4N]; exact ⟨_, w_ja3 hR, oEq_iff (Ok.tup (k := 63) (by simp; exact ⟨Ok.str sNo, Ok.int, Ok.int⟩)) okNU (by simp) (by simp) (by simp)⟩
  · match i, hi5 with
    | 0, _ =>
      rw [oth0]
      refine ⟨_, w_jaN hp hp3 hR hm1 hm2', oEq_iff okNU okAU (by simp) (by simp) ?_⟩
      simp
      rintro h1 rfl
      have := hm1 a ha
      omega
    | 1, _ =>
      rw [oth1]
      refine ⟨_, w_jaA hp hp3 hR, oEq_iff okAU okAU (by simp) (by simp) ?_⟩
      simp only [decide_eq_true_eq]
      constructor
      · rintro ⟨⟨h1, h2⟩, h3, _, _⟩
        have x1 := h3 a ha ha2
        have x2 := h3 b hb hb2
        have x3 := hab m0 e0 h1
        have x4 := hab m1 e1 h2
        have y1 : m0 = a := by omega
        have y2 : m1 = b := by omega
        subst y1 y2; rfl
      · intro h
        simp at h
        have y1 := (mD_inj hp).mp h.1
        have y2 := (mD_inj hp).mp h.2
        subst y1 y2
        exact ⟨⟨ha2, hb2⟩, hab, ha, hb⟩
    | 2, _ => rw [oth2A]; exact ⟨_, w_ja2 hR, oEq_iff (Ok.tup (k := 63) (by simp; exact ⟨Ok.str sAg, ok_q⟩)) okAU (by simp) (by simp) (by simp)⟩
    | 3, _ => rw [oth3]; exact ⟨_, w_ja0, oEq_iff Ok.non okAU (by simp) (by simp) (by simp)⟩
    | 4, _ => rw [oth4A]; exact ⟨_, w_ja4, oEq_iff (Ok.tup (k := 63) (by simp; exact ⟨Ok.str sAg, ok_q, ok_q, Ok.int⟩)) okAU (by simp) (by simp) (by simp)⟩
theorem ap_judge {p : Nat} (hp : 0 < p) (hp3 : p ≤ 3) {R : List (Int × Int)} {f : Int} {d : D} (hR : R.length ≤ 100) (hR1 : R ≠ []) (hd : AP p R (R.length - f) d) : m_judge_agree [pasD p R, .int f, d] = some (.bl true) := by
  obtain ⟨mo, ⟨hm1, hm2⟩, hk⟩ := hd
  have hm2' : ∃ e ∈ ends R, (hold R e : Int) = mo := by
    rcases hm2 with z | z
    · exact absurd z hR1
    · exact z
  rcases hk with ⟨rfl, hn⟩ | ⟨a, b, rfl, ha, ha2, hb, hb2, hab⟩
  · rw [w_jaN hp hp3 hR hm1 hm2']
    obtain ⟨e, he, h2⟩ := hm2'
    have := hn e he
    simp; omega
  · rw [w_jaA hp hp3 hR]
    congr 2
    rw [decide_eq_true_eq]
    exact ⟨⟨ha2, hb2⟩, hab, ha, hb⟩
theorem ap_ok {p : Nat} {R : List (Int × Int)} {en : Int} {d : D} (hd : AP p R en d) : Ok 64 d := by
  obtain ⟨mo, _, hk⟩ := hd
  rcases hk with ⟨rfl, hn⟩ | ⟨a, b, rfl, _⟩
  · exact okNU
  · exact okAU
theorem rise_first {l : List Int} {k : Int} (h : l.Pairwise (· < ·)) (hk : k ∈ l) : l.getD 0 0 ≤ k := by
  cases l with
  | nil => cases hk
  | cons x r =>
    rw [List.pairwise_cons] at h
    rcases List.mem_cons.mp hk with e | e
    · simp; omega
    · have := h.1 k e; simp; omega
theorem rise_last {l : List Int} {k : Int} (h : l.Pairwise (· < ·)) (hk : k ∈ l) : k ≤ l.getD (l.length - 1) 0 := by
  obtain ⟨i, hi, rfl⟩ := List.mem_iff_getElem.mp hk
  have : l.getD (l.length - 1) 0 = l[l.length - 1] := by simp [List.getD, List.getElem?_eq_getElem (show l.length - 1 < l.length by omega)]
  rw [this]
  by_cases e : i = l.length - 1
  · subst e; exact Int.le_refl _
  · have := List.pairwise_iff_getElem.mp h i (l.length - 1) hi (by omega) (by omega)
    omega
theorem getD_mem {l : List Int} {i : Nat} (h : i < l.length) : l.getD i 0 ∈ l := by
  simp [List.getD, List.getElem?_eq_getElem h]
/-- the law's own answer is the paper's -/
theorem due_eq {p : Nat} {R : List (Int × Int)} {en : Int} {d : D} {ms : List Int} (mem : ∀ k, k ∈ ms ↔ k ∈ ends R) (rise : ms.Pairwise (· < ·)) (hR1 : R ≠ []) (hd : AP p R en d) :
    ((ms.filter fun k => decide (en ≤ hold R k)) = [] → d = .tup [.str "none", .int (maxI (ms.map fun k => (hold R k : Int)))]) ∧
    ((ms.filter fun k => decide (en ≤ hold R k)) ≠ [] → d = .tup [.str "agree", mD p ((ms.filter fun k => decide (en ≤ hold R k)).getD 0 0), mD p ((ms.filter fun k => decide (en ≤ hold R k)).getD ((ms.filter fun k => decide (en ≤ hold R k)).length - 1) 0)]) := by
  obtain ⟨mo, ⟨hm1, hm2⟩, hk⟩ := hd
  have hm2' : ∃ e ∈ ends R, (hold R e : Int) = mo := by
    rcases hm2 with z | z
    · exact absurd z hR1
    · exact z
  have fr := rise.filter (fun k => decide (en ≤ (hold R k : Int)))
  have fm : ∀ k, k ∈ (ms.filter fun k => decide (en ≤ (hold R k : Int))) ↔ (k ∈ ends R ∧ en ≤ hold R k) := fun k => by
    rw [List.mem_filter, mem, decide_eq_true_eq]
  generalize (ms.filter fun k => decide (en ≤ (hold R k : Int))) = fs at *
  rcases hk with ⟨rfl, hn⟩ | ⟨a, b, rfl, ha, ha2, hb, hb2, hab⟩
  · refine ⟨fun _ => ?_, fun h => ?_⟩
    · have : maxI (ms.map fun k => (hold R k : Int)) = mo := maxI_of (fun x hx => by
        obtain ⟨e, he, rfl⟩ := List.mem_map.mp hx
        exact hm1 e ((mem e).mp he)) (by
        obtain ⟨e, he, h2⟩ := hm2'
        exact List.mem_map.mpr ⟨e, (mem e).mpr he, h2⟩)
      rw [this]
    · obtain ⟨x, hx⟩ := List.exists_mem_of_ne_nil _ h
      have := (fm x).mp hx
      exact absurd this.2 (hn x this.1)
  · have hfa := (fm a).mpr ⟨ha, ha2⟩
    have hfb := (fm b).mpr ⟨hb, hb2⟩
    refine ⟨fun h => (by subst h; cases hfa), fun h => ?_⟩
    have hl : 0 < fs.length := List.length_pos_iff.mpr h
    have m0 := getD_mem (l := fs) (i := 0) hl
    have m1 := getD_mem (l := fs) (i := fs.length - 1) (by omega)
    have r0 := rise_first fr hfa
    have r1 := rise_last fr hfb
    have q0 := hab _ ((fm _).mp m0).1 ((fm _).mp m0).2
    have q1 := hab _ ((fm _).mp m1).1 ((fm _).mp m1).2
    have y1 : fs.getD 0 0 = a := by omega
    have y2 : fs.getD (fs.length - 1) 0 = b := by omega
    rw [y1, y2]
def SU (R : List (Int × Int)) (f p : Int) (s6 s7 s8 s9 s10 s11 s12 s2 s3 : Sl) : List Sl := [.cst, .val (.lst (R.map eI)), s2, s3, .val (.int f), .val (.int p), s6, s7, s8, s9, s10, s11, s12, .no, .no, .no, .no]
theorem w_agreeR {c : D} (hc : Cell c) : ∃ d c', m__law_agree_right c [] = some (d, c') ∧ d = .bl true := by
  refine of_runC_ex (fun d c' => d = .bl true) (by rfl) ?_
  show wS b__law_agree_right [.cst, .no, .no, .no, .no, .no, .no, .no, .no, .no, .no, .no, .no, .no, .no, .no, .no] (some c) _ .mk
  unfold b__law_agree_right
  refine seq_mid (fun S1 cc => RI 0 S1 cc ∧ cc = some c) ?_ ?_
  · simp (disch := omega) [iP_dis, sizeLine_v]
    exact ⟨[], c, .no, .no, rfl, (fun _ h => by cases h), hc, rfl, rfl, rfl, rfl⟩
  rintro _ _ ⟨⟨R0, c0, s2, s3, hR0, hG0, hc0, h2, h3, rfl, rfl⟩, ec⟩
  cases Option.some.inj ec
  clear ec
  obtain ⟨v1, c1, b1, hc1, e1⟩ := w_take hc0 5 (by omega) (by omega)
  simp at e1
  refine seq_mid (RI (1 + v1)) ?_ ?_
  · simp (disch := omega) [e1, iP_dis, sizeLine_v]
    rw [show (1 + (v1 : Int)).toNat = 1 + v1 by omega]
    refine for_rng RI ⟨R0, c1, s2, s3, hR0, hG0, hc1, h2, h3, rfl, rfl⟩ ?_ (fun S c h => ⟨rfl, h⟩)
    rintro i S1 cc hi ⟨R, c2, t2, t3, hR, hG, hc2, g2, g3, rfl, rfl⟩
    obtain ⟨lo, c3, b3, hc3, e3⟩ := w_take hc2 12 (by omega) (by omega)
    obtain ⟨v4, c4, b4, hc4, e4⟩ := w_take hc3 7 (by omega) (by omega)
    simp at e3 e4
    simp (disch := omega) [notCst_of (okSl_neU g2), notCst_of (okSl_neU g3), e3, e4, iP_dis, sizeLine_v, hR]
    refine ⟨R ++ [((lo : Int), (lo : Int) + v4)], c4, _, _, by simp [hR], ?_, hc4, ?_, ?_, rfl, by simp; exact ⟨rfl, rfl⟩⟩
    · intro r hr
      rcases List.mem_append.mp hr with hr | hr
      · exact hG r hr
      · have : r = ((lo : Int), (lo : Int) + v4) := by simpa using hr
        subst this
        exact ⟨by dsimp only; omega, by dsimp only; omega, by dsimp only; omega, by dsimp only; omega⟩
    · simp
    · simp
  rintro S1 cc ⟨R, c2, t2, t3, hR, hG, hc2, g2, g3, rfl, rfl⟩
  have hRl : 1 ≤ R.length ∧ R.length ≤ 5 := by omega
  rw [w_freeze, atS_get]
  refine ⟨_, rfl, ?_⟩
  show wS _ [.cst, .val (.lst (R.map eI)), t2, t3, .no, .no, .no, .no, .no, .no, .no, .no, .no, .no, .no, .no, .no] (some c2) _ .mk
  clear e1 b1 hR hR0 hG0 h2 h3
  obtain ⟨f, c5, b5, hc5, e5⟩ := w_take hc2 (R.length + 1) (by omega) (by omega)
  obtain ⟨v6, c6, b6, hc6, e6⟩ := w_take hc5 3 (by omega) (by omega)
  simp at e5 e6
  obtain ⟨p, hp⟩ : ∃ p : Nat, p = 1 + v6 := ⟨_, rfl⟩
  have hp0 : 0 < p := by omega
  have hp3 : p ≤ 3 := by omega
  refine seq_mid (fun S1 cc => S1 = SU R f p .no .no .no .no .no .no .no t2 t3 ∧ cc = some c6) ?_ ?_
  · simp (disch := omega) [SU, e5, e6, iP_dis, sizeLine_v, hp]
  rintro _ _ ⟨rfl, rfl⟩
  have hfr : ∀ x : Int, m__law_fraction [.int x, .int p] = some (mD p x) := fun x => w_frac hp0 (by omega)
  refine seq_mid (fun S1 cc => S1 = SU R f p (.val (pasD p R)) .no .no .no .no .no .no t2 t3 ∧ cc = some c6) ?_ ?_
  · unfold SU
    have hl := lc_fx (g := gdT 2 (gdCons (gdN 13) (gdCons (gdN 14) gdNil))) (tt := dYes) (f := dTup (dCons (dCall m__law_fraction (dCons (dVar 13) (dCons (dVar 5) dNil))) (dCons (dCall m__law_fraction (dCons (dVar 14) (dCons (dVar 5) dNil))) dNil))) (S := [.cst, .val (.lst (R.map eI)), t2, t3, .val (.int f), .val (.int p), .no, .no, .no, .no, .no, .no, .no, .no, .no, .no, .no]) (cs := some c6) (enc := eI) (φ := fun _ => true) (ψ := eR p) R (fun x hx => by
      simp (disch := omega) [hfr, iP_dis, sizeLine_v])
    rw [List.filter_eq_self.mpr (by simp)] at hl
    have hts : (R.map (eR p)).length ≤ 16777216 := by simp; omega
    have ot : oTuple [.lst (R.map (eR p))] = some (pasD p R) := rfl
    simp (disch := omega) [hl, hts, ot, iP_dis, sizeLine_v]
  rintro _ _ ⟨rfl, rfl⟩
  have fst : lcL (gdT 2 (gdCons (gdN 13) (gdCons (gdN 14) gdNil))) dYes (dVar 13) (R.map eI) (SU R f p (.val (pasD p R)) .no .no .no .no .no .no t2 t3) (some c6) = some ((R.map (·.1)).map .int, some c6) := by
    have hl := lc_fx (g := gdT 2 (gdCons (gdN 13) (gdCons (gdN 14) gdNil))) (tt := dYes) (f := dVar 13) (S := SU R f p (.val (pasD p R)) .no .no .no .no .no .no t2 t3) (cs := some c6) (enc := eI) (φ := fun _ => true) (ψ := fun x => .int x.1) R (fun x hx => by
      unfold SU
      simp (disch := omega) [iP_dis, sizeLine_v])
    rw [List.filter_eq_self.mpr (by simp)] at hl
    rw [hl, List.map_map]; rfl
  have snd : lcL (gdT 2 (gdCons (gdN 13) (gdCons (gdN 14) gdNil))) dYes (dVar 14) (R.map eI) (SU R f p (.val (pasD p R)) .no .no .no .no .no .no t2 t3) (some c6) = some ((R.map (·.2)).map .int, some c6) := by
    have hl := lc_fx (g := gdT 2 (gdCons (gdN 13) (gdCons (gdN 14) gdNil))) (tt := dYes) (f := dVar 14) (S := SU R f p (.val (pasD p R)) .no .no .no .no .no .no t2 t3) (cs := some c6) (enc := eI) (φ := fun _ => true) (ψ := fun x => .int x.2) R (fun x hx => by
      unfold SU
      simp (disch := omega) [iP_dis, sizeLine_v])
    rw [List.filter_eq_self.mpr (by simp)] at hl
    rw [hl, List.map_map]; rfl
  have mlen : (mkR R).length ≤ 10 := by
    have := setI_len (l := R.map (·.1) ++ R.map (·.2))
    unfold mkR
    simp at this
    omega
  refine seq_mid (fun S1 cc => S1 = SU R f p (.val (pasD p R)) (.val (.lst ((mkR R).map .int))) .no .no .no .no .no t2 t3 ∧ cc = some c6) ?_ ?_
  · unfold SU at fst snd ⊢
    have h2l : (R.map (·.1) ++ R.map (·.2)).length < 64 := by simp; omega
    have oa : oAdd (.lst ((R.map (·.1)).map .int)) (.lst ((R.map (·.2)).map .int)) = some (.lst ((R.map (·.1) ++ R.map (·.2)).map .int)) := by
      rw [oAddL_u (by simp; omega), List.map_append]
    have hml : (mkR R).length ≤ 16777216 := by omega
    unfold mkR at hml ⊢
    generalize R.map (·.1) ++ R.map (·.2) = ms at *
    simp (disch := omega) [-List.map_map, fst, snd, oa, intsD_i, iP_dis, sizeLine_v]
  rintro _ _ ⟨rfl, rfl⟩
  clear fst snd
  generalize hms : mkR R = ms at *
  have mem : ∀ k, k ∈ ms ↔ k ∈ ends R := fun k => by rw [← hms]; exact mkR_mem
  have rise : ms.Pairwise (· < ·) := by rw [← hms]; exact setI_lt
  refine seq_mid (fun S1 cc => S1 = SU R f p (.val (pasD p R)) (.val (.lst (ms.map .int))) (.val (.lst (ms.map fun k => .int (hold R k : Nat)))) .no .no .no .no t2 t3 ∧ cc = some c6) ?_ ?_
  · unfold SU
    have hl := lc_fx (g := gdN 15) (tt := dYes) (f := dCB oLen (dCons (dFz (dLc (diSeq (dVar 1)) (gdT 2 (gdCons (gdN 13) (gdCons (gdN 14) gdNil))) (dTst (dChain oLe oLe (dVar 13) (dVar 15) (dVar 14))) (dC (.int 1)) [13, 14])) dNil)) (S := [.cst, .val (.lst (R.map eI)), t2, t3, .val (.int f), .val (.int p), .val (pasD p R), .val (.lst (ms.map .int)), .no, .no, .no, .no, .no, .no, .no, .no, .no]) (cs := some c6) (enc := D.int) (φ := fun _ => true) (ψ := fun k => .int (hold R k : Nat)) ms (fun k hk => by
      have hl2 := lc_fx (g := gdT 2 (gdCons (gdN 13) (gdCons (gdN 14) gdNil))) (tt := dTst (dChain oLe oLe (dVar 13) (dVar 15) (dVar 14))) (f := dC (.int 1)) (S := [.cst, .val (.lst (R.map eI)), t2, t3, .val (.int f), .val (.int p), .val (pasD p R), .val (.lst (ms.map .int)), .no, .no, .no, .no, .no, .no, .no, .val (.int k), .no]) (cs := some c6) (enc := eI) (φ := hin k) (ψ := fun _ => .int 1) R (fun x hx => by
        unfold hin
        simp (disch := omega) [iP_dis, sizeLine_v]
        refine ⟨fun h1 => ?_, fun h1 => ?_⟩
        · omega
        · omega)
      have hfl : (R.filter (hin k)).length ≤ R.length := List.length_filter_le _ _
      simp (disch := omega) [hl2, iP_dis, sizeLine_v]
      rfl)
    rw [List.filter_eq_self.mpr (by simp)] at hl
    simp (disch := omega) [-List.map_map, hl, iP_dis, sizeLine_v]
  rintro _ _ ⟨rfl, rfl⟩
  generalize hen : (R.length : Int) - f = en
  obtain ⟨fs, hfs⟩ : ∃ fs : List Int, fs = ms.filter (fun k => decide (en ≤ hold R k)) := ⟨_, rfl⟩
  refine seq_mid (fun S1 cc => S1 = SU R f p (.val (pasD p R)) (.val (.lst (ms.map .int))) (.val (.lst (ms.map fun k => .int (hold R k : Nat)))) (.val (.lst (fs.map .int))) .no .no .no t2 t3 ∧ cc = some c6) ?_ ?_
  · unfold SU
    have g1 : ∀ i, i < ms.length → ixD (.lst (ms.map .int)) (.int (i : Nat)) = some (.int (ms.getD i 0)) := fun i hi => ixD_l (by simp [hi])
    have g2 : ∀ i, i < ms.length → ixD (.lst (ms.map fun k => D.int (hold R k : Nat))) (.int (i : Nat)) = some (.int (hold R (ms.getD i 0) : Nat)) := fun i hi => ixD_l (by simp [hi])
    have hl := lc_fx (g := gdN 16) (tt := dTst (dOp oGe (dIx (dVar 8) (dVar 16)) (dOp oSub (dCB oLen (dCons (dVar 1) dNil)) (dVar 4)))) (f := dIx (dVar 7) (dVar 16)) (S := SU R f p (.val (pasD p R)) (.val (.lst (ms.map .int))) (.val (.lst (ms.map fun k => .int (hold R k : Nat)))) .no .no .no .no t2 t3) (cs := some c6) (enc := fun i : Nat => D.int (0 + (i : Int))) (φ := fun i => decide (en ≤ hold R (ms.getD i 0))) (ψ := fun i => .int (ms.getD i 0)) (List.range ms.length) (fun i hi => by
      rw [List.mem_range] at hi
      unfold SU
      simp (disch := omega) [g1 i hi, g2 i hi, hen, iP_dis, sizeLine_v])
    have hl3 : lcL (gdN 16) (dTst (dOp oGe (dIx (dVar 8) (dVar 16)) (dOp oSub (dCB oLen (dCons (dVar 1) dNil)) (dVar 4)))) (dIx (dVar 7) (dVar 16)) (rngD 0 ms.length) (SU R f p (.val (pasD p R)) (.val (.lst (ms.map .int))) (.val (.lst (ms.map fun k => .int (hold R k : Nat)))) .no .no .no .no t2 t3) (some c6) = some (fs.map .int, some c6) := by
      refine hl.trans ?_
      rw [hfs, ← fit_eq (l := ms) (P := fun k => decide (en ≤ hold R k)), List.map_map]
      rfl
    unfold SU at hl3
    have flen : fs.length ≤ 16777216 := by
      have := List.length_filter_le (fun k => decide (en ≤ (hold R k : Int))) ms
      rw [hfs]; omega
    simp (disch := omega) [-List.map_map, rngD_len, hl3, flen, iP_dis, sizeLine_v]
  rintro _ _ ⟨rfl, rfl⟩
  have hR1 : R ≠ [] := by intro z; subst z; simp at hRl
  obtain ⟨d, hd1, hd2⟩ := w_agree (f := f) hp0 hp3 (show R.length ≤ 1000 by omega)
  refine seq_mid (fun S1 cc => S1 = SU R f p (.val (pasD p R)) (.val (.lst (ms.map .int))) (.val (.lst (ms.map fun k => .int (hold R k : Nat)))) (.val (.lst (fs.map .int))) (.val d) .no .no t2 t3 ∧ cc = some c6) ?_ ?_
  · unfold SU
    simp [hd1]
  rintro _ _ ⟨rfl, rfl⟩
  have jd := ap_judge hp0 hp3 (show R.length ≤ 100 by omega) hR1 hd2
  have okd := ap_ok hd2
  by_cases hfl : (f : Int) = R.length
  · unfold SU
    simp [hfl]
    rw [hfl] at jd
    simp [jd, flD]
  refine seq_mid (fun S1 cc => S1 = SU R f p (.val (pasD p R)) (.val (.lst (ms.map .int))) (.val (.lst (ms.map fun k => .int (hold R k : Nat)))) (.val (.lst (fs.map .int))) (.val d) .no .no t2 t3 ∧ cc = some c6) ?_ ?_
  · unfold SU
    simp [hfl]
  rintro _ _ ⟨rfl, rfl⟩
  have hne : ms ≠ [] := by
    intro z
    subst z
    cases R with
    | nil => exact hR1 rfl
    | cons x r =>
      have := (mem x.1).mpr (by simp [ends])
      cases this
  have hml : 0 < ms.length := List.length_pos_iff.mpr hne
  refine seq_mid (fun S1 cc => S1 = SU R f p (.val (pasD p R)) (.val (.lst (ms.map .int))) (.val (.lst (ms.map fun k => .int (hold R k : Nat)))) (.val (.lst (fs.map .int))) (.val d) (.val d) .no t2 t3 ∧ cc = some c6) ?_ ?_
  · rw [hen] at hd2
    obtain ⟨q1, q2⟩ := due_eq mem rise hR1 hd2
    rw [← hfs] at q1 q2
    unfold SU
    by_cases hz : fs = []
    · have om := oMax_l (vs := ms.map fun k => (hold R k : Int)) (by simp [hne])
      rw [List.map_map] at om
      have om' : oMax [.lst (ms.map fun k => D.int (hold R k : Nat))] = some (.int (maxI (ms.map fun k => (hold R k : Int)))) := om
      subst hz
      simp (disch := omega) [om', iP_dis, sizeLine_v]
      exact (q1 rfl).symm
    · have hfl : 0 < fs.length := List.length_pos_iff.mpr hz
      have i0 : ixD (.lst (fs.map .int)) (.int 0) = some (.int (fs.getD 0 0)) := ixm (i := 0) hfl
      have i1 : ixD (.lst (fs.map .int)) (.int ((fs.length : Int) - 1)) = some (.int (fs.getD (fs.length - 1) 0)) := by
        rw [show (fs.length : Int) - 1 = ((fs.length - 1 : Nat) : Int) by omega]
        exact ixm (by omega)
      have hie : fs.isEmpty = false := by
        cases fs with
        | nil => exact absurd rfl hz
        | cons _ _ => rfl
      simp (disch := omega) [hz, hie, i0, i1, hfr, q2 hz, iP_dis, sizeLine_v]
  rintro _ _ ⟨rfl, rfl⟩
  refine seq_mid (fun S1 cc => S1 = SU R f p (.val (pasD p R)) (.val (.lst (ms.map .int))) (.val (.lst (ms.map fun k => .int (hold R k : Nat)))) (.val (.lst (fs.map .int))) (.val d) (.val d) .no t2 t3 ∧ cc = some c6) ?_ ?_
  · unfold SU
    simp [ne_same okd, jd]
  rintro _ _ ⟨rfl, rfl⟩
  obtain ⟨v7, c7, b7, hc7, e7⟩ := w_take hc6 7 (by omega) (by omega)
  obtain ⟨v8, c8, b8, hc8, e8⟩ := w_take hc7 5 (by omega) (by omega)
  simp at e7 e8
  have i0 : ixD (.lst (ms.map .int)) (.int 0) = some (.int (ms.getD 0 0)) := ixm (i := 0) hml
  have i1 : ixD (.lst (ms.map .int)) (.int ((ms.length : Int) - 1)) = some (.int (ms.getD (ms.length - 1) 0)) := by
    rw [show (ms.length : Int) - 1 = ((ms.length - 1 : Nat) : Int) by omega]
    exact ixm (by omega)
  refine seq_mid (fun S1 cc => S1 = SU R f p (.val (pasD p R)) (.val (.lst (ms.map .int))) (.val (.lst (ms.map fun k => .int (hold R k : Nat)))) (.val (.lst (fs.map .int))) (.val d) (.val d) (.val (oth p d (ms.getD 0 0) (ms.getD (ms.length - 1) 0) v7 v8)) t2 t3 ∧ cc = some c8) ?_ ?_
  · unfold SU
    rcases hd2 with ⟨mo, _, ⟨rfl, _⟩ | ⟨a, b, rfl, _⟩⟩
    · match v8, b8, e8 with
      | 0, _, e8 => simp at e8; simp (disch := omega) [e7, e8, i0, i1, hfr, U5_0, U2_1, UA_2, oth0, iP_dis, sizeLine_v]
      | 1, _, e8 => simp at e8; simp (disch := omega) [e7, e8, i0, i1, hfr, U5_1, U2_1, UA_2, oth1, iP_dis, sizeLine_v]
      | 2, _, e8 => simp at e8; simp (disch := omega) [e7, e8, i0, i1, hfr, U5_2, U2_1, UA_2, oth2N, iP_dis, sizeLine_v]
      | 3, _, e8 => simp at e8; simp (disch := omega) [e7, e8, i0, i1, hfr, U5_3, U2_1, UA_2, oth3, iP_dis, sizeLine_v]
      | 4, _, e8 => simp at e8; simp (disch := omega) [e7, e8, i0, i1, hfr, U5_4, U2_1, UA_2, oth4N, iP_dis, sizeLine_v]
    · match v8, b8, e8 with
      | 0, _, e8 => simp at e8; simp (disch := omega) [e7, e8, i0, i1, hfr, U5_0, U3_1, UA_3, oth0, iP_dis, sizeLine_v]
      | 1, _, e8 => simp at e8; simp (disch := omega) [e7, e8, i0, i1, hfr, U5_1, U3_1, UA_3, oth1, iP_dis, sizeLine_v]
      | 2, _, e8 => simp at e8; simp (disch := omega) [e7, e8, i0, i1, hfr, U5_2, U3_1, UA_3, oth2A, iP_dis, sizeLine_v]
      | 3, _, e8 => simp at e8; simp (disch := omega) [e7, e8, i0, i1, hfr, U5_3, U3_1, UA_3, oth3, iP_dis, sizeLine_v]
      | 4, _, e8 => simp at e8; simp (disch := omega) [e7, e8, i0, i1, hfr, U5_4, U3_1, UA_3, oth4A, iP_dis, sizeLine_v]
  rintro _ _ ⟨rfl, rfl⟩
  obtain ⟨b, y1, y2⟩ := oth_ok (v := v7) hp0 hp3 (show R.length ≤ 100 by omega) hR1 hd2 ((mem _).mp (getD_mem (i := 0) hml)) ((mem _).mp (getD_mem (i := ms.length - 1) (by omega))) (fun e he => rise_first rise ((mem e).mpr he)) (fun e he => rise_last rise ((mem e).mpr he)) v8 b8
  unfold SU
  generalize oth p d (ms.getD 0 0) (ms.getD (ms.length - 1) 0) v7 v8 = o at *
  simp [y1, y2, U_saidB, flD]
end K62

set_option autoImplicit true
set_option relaxedAutoImplicit true
set_option Elab.async false
set_option linter.all false
set_option maxRecDepth 100000
set_option maxHeartbeats 8000000
/-! the walk of k62; printed by gen.py -/
namespace K62
open PySem PySem.Spec PyProof.Rows L2 DL
def topS (i : Nat) : Stmt := PySem.Challenge.pw_longhours_k62_calendars_and_near_meeting.main.body.getD i (.Pass ⟨0, 0, 0, 0⟩)
abbrev s_common_divisor : Stmt := topS 2
theorem sc_common_divisor : FnScope ["first", "second"] ["first", "second"] (defScope s_common_divisor) := ⟨rfl, rfl, rfl, by decide +kernel, rfl, by decide +kernel, by decide +kernel⟩
abbrev s_ratio : Stmt := topS 3
theorem sc_ratio : FnScope ["above", "below", "both"] ["above", "below"] (defScope s_ratio) := ⟨rfl, rfl, rfl, by decide +kernel, rfl, by decide +kernel, by decide +kernel⟩
abbrev s_plus : Stmt := topS 4
theorem sc_plus : FnScope ["first", "second"] ["first", "second"] (defScope s_plus) := ⟨rfl, rfl, rfl, by decide +kernel, rfl, by decide +kernel, by decide +kernel⟩
abbrev s_times : Stmt := topS 5
theorem sc_times : FnScope ["first", "second"] ["first", "second"] (defScope s_times) := ⟨rfl, rfl, rfl, by decide +kernel, rfl, by decide +kernel, by decide +kernel⟩
abbrev s_negative : Stmt := topS 6
theorem sc_negative : FnScope ["one"] ["one"] (defScope s_negative) := ⟨rfl, rfl, rfl, by decide +kernel, rfl, by decide +kernel, by decide +kernel⟩
abbrev s_minus : Stmt := topS 7
theorem sc_minus : FnScope ["first", "second"] ["first", "second"] (defScope s_minus) := ⟨rfl, rfl, rfl, by decide +kernel, rfl, by decide +kernel, by decide +kernel⟩
abbrev s_is_less : Stmt := topS 8
theorem sc_is_less : FnScope ["first", "second"] ["first", "second"] (defScope s_is_less) := ⟨rfl, rfl, rfl, by decide +kernel, rfl, by decide +kernel, by decide +kernel⟩
abbrev s_at_most : Stmt := topS 9
theorem sc_at_most : FnScope ["first", "second"] ["first", "second"] (defScope s_at_most) := ⟨rfl, rfl, rfl, by decide +kernel, rfl, by decide +kernel, by decide +kernel⟩
abbrev s_is_integer : Stmt := topS 10
theorem sc_is_integer : FnScope ["value"] ["value"] (defScope s_is_integer) := ⟨rfl, rfl, rfl, by decide +kernel, rfl, by decide +kernel, by decide +kernel⟩
abbrev s_is_ratio : Stmt := topS 11
theorem sc_is_ratio : FnScope ["value"] ["value"] (defScope s_is_ratio) := ⟨rfl, rfl, rfl, by decide +kernel, rfl, by decide +kernel, by decide +kernel⟩
abbrev s_floor_of : Stmt := topS 13
theorem sc_floor_of : FnScope ["x"] ["x"] (defScope s_floor_of) := ⟨rfl, rfl, rfl, by decide +kernel, rfl, by decide +kernel, by decide +kernel⟩
abbrev s_absolute : Stmt := topS 14
theorem sc_absolute : FnScope ["x"] ["x"] (defScope s_absolute) := ⟨rfl, rfl, rfl, by decide +kernel, rfl, by decide +kernel, by decide +kernel⟩
abbrev s_nearest_whole : Stmt := topS 15
theorem sc_nearest_whole : FnScope ["x", "k"] ["x"] (defScope s_nearest_whole) := ⟨rfl, rfl, rfl, by decide +kernel, rfl, by decide +kernel, by decide +kernel⟩
abbrev s_away : Stmt := topS 16
theorem sc_away : FnScope ["x"] ["x"] (defScope s_away) := ⟨rfl, rfl, rfl, by decide +kernel, rfl, by decide +kernel, by decide +kernel⟩
abbrev s_below_by : Stmt := topS 17
theorem sc_below_by : FnScope ["a", "low"] ["a", "low"] (defScope s_below_by) := ⟨rfl, rfl, rfl, by decide +kernel, rfl, by decide +kernel, by decide +kernel⟩
abbrev s_above_by : Stmt := topS 18
theorem sc_above_by : FnScope ["a", "high"] ["a", "high"] (defScope s_above_by) := ⟨rfl, rfl, rfl, by decide +kernel, rfl, by decide +kernel, by decide +kernel⟩
abbrev s_steps_within : Stmt := topS 19
theorem sc_steps_within : FnScope ["gap", "step", "most"] ["gap", "step", "most"] (defScope s_steps_within) := ⟨rfl, rfl, rfl, by decide +kernel, rfl, by decide +kernel, by decide +kernel⟩
abbrev s_steps_above : Stmt := topS 20
theorem sc_steps_above : FnScope ["gap", "step", "most", "one"] ["gap", "step", "most"] (defScope s_steps_above) := ⟨rfl, rfl, rfl, by decide +kernel, rfl, by decide +kernel, by decide +kernel⟩
abbrev s_neighbours : Stmt := topS 21
theorem sc_neighbours : FnScope ["a", "n", "low", "high", "below", "above", "k"] ["a", "n"] (defScope s_neighbours) := ⟨rfl, rfl, rfl, by decide +kernel, rfl, by decide +kernel, by decide +kernel⟩
abbrev s_steps_to : Stmt := topS 22
theorem sc_steps_to : FnScope ["gap", "step", "e", "more"] ["gap", "step", "e"] (defScope s_steps_to) := ⟨rfl, rfl, rfl, by decide +kernel, rfl, by decide +kernel, by decide +kernel⟩
abbrev s_added : Stmt := topS 23
theorem sc_added : FnScope ["pair", "other", "k"] ["pair", "other", "k"] (defScope s_added) := ⟨rfl, rfl, rfl, by decide +kernel, rfl, by decide +kernel, by decide +kernel⟩
abbrev s_near_paper : Stmt := topS 24
theorem sc_near_paper : FnScope ["a", "e", "low", "high", "below", "above", "k", "both", "gap"] ["a", "e"] (defScope s_near_paper) := ⟨rfl, rfl, rfl, by decide +kernel, rfl, by decide +kernel, by decide +kernel⟩
abbrev s_is_pair : Stmt := topS 25
theorem sc_is_pair : FnScope ["value"] ["value"] (defScope s_is_pair) := ⟨rfl, rfl, rfl, by decide +kernel, rfl, by decide +kernel, by decide +kernel⟩
abbrev s_are_neighbours : Stmt := topS 26
theorem sc_are_neighbours : FnScope ["a", "low", "high"] ["a", "low", "high"] (defScope s_are_neighbours) := ⟨rfl, rfl, rfl, by decide +kernel, rfl, by decide +kernel, by decide +kernel⟩
abbrev s_judge_near : Stmt := topS 27
theorem sc_judge_near : FnScope ["a", "e", "value", "m", "k", "low", "high"] ["a", "e", "value"] (defScope s_judge_near) := ⟨rfl, rfl, rfl, by decide +kernel, rfl, by decide +kernel, by decide +kernel⟩
abbrev s_nearer : Stmt := topS 28
theorem sc_nearer : FnScope ["a", "low", "high", "below", "above"] ["a", "low", "high"] (defScope s_nearer) := ⟨rfl, rfl, rfl, by decide +kernel, rfl, by decide +kernel, by decide +kernel⟩
abbrev s_best_paper : Stmt := topS 29
theorem sc_best_paper : FnScope ["a", "n", "low", "high"] ["a", "n"] (defScope s_best_paper) := ⟨rfl, rfl, rfl, by decide +kernel, rfl, by decide +kernel, by decide +kernel⟩
abbrev s_judge_best_fraction : Stmt := topS 30
theorem sc_judge_best_fraction : FnScope ["a", "n", "value", "low", "high"] ["a", "n", "value"] (defScope s_judge_best_fraction) := ⟨rfl, rfl, rfl, by decide +kernel, rfl, by decide +kernel, by decide +kernel⟩
abbrev s_holding : Stmt := topS 32
theorem sc_holding : FnScope ["readings", "moment", "one"] ["readings", "moment"] (defScope s_holding) := ⟨rfl, rfl, rfl, by decide +kernel, rfl, by decide +kernel, by decide +kernel⟩
abbrev s_agree_paper : Stmt := topS 33
theorem sc_agree_paper : FnScope ["readings", "f", "enough", "low", "high", "most", "one", "moment"] ["readings", "f"] (defScope s_agree_paper) := ⟨rfl, rfl, rfl, by decide +kernel, rfl, by decide +kernel, by decide +kernel⟩
abbrev s_judge_agree : Stmt := topS 34
theorem sc_judge_agree : FnScope ["readings", "f", "value", "enough", "ends", "moment", "one"] ["readings", "f", "value"] (defScope s_judge_agree) := ⟨rfl, rfl, rfl, by decide +kernel, rfl, by decide +kernel, by decide +kernel⟩
abbrev s_leaps_before : Stmt := topS 41
theorem sc_leaps_before : FnScope ["rule", "y", "m", "b", "c"] ["rule", "y"] (defScope s_leaps_before) := ⟨rfl, rfl, rfl, by decide +kernel, rfl, by decide +kernel, by decide +kernel⟩
abbrev s_is_leap : Stmt := topS 42
theorem sc_is_leap : FnScope ["rule", "y", "m", "b", "c"] ["rule", "y"] (defScope s_is_leap) := ⟨rfl, rfl, rfl, by decide +kernel, rfl, by decide +kernel, by decide +kernel⟩
abbrev s_drift : Stmt := topS 43
theorem sc_drift : FnScope ["rule", "f", "y"] ["rule", "f", "y"] (defScope s_drift) := ⟨rfl, rfl, rfl, by decide +kernel, rfl, by decide +kernel, by decide +kernel⟩
abbrev s_extremes : Stmt := topS 44
theorem sc_extremes : FnScope ["rule", "f", "low", "high", "first", "last", "y", "one"] ["rule", "f"] (defScope s_extremes) := ⟨rfl, rfl, rfl, by decide +kernel, rfl, by decide +kernel, by decide +kernel⟩
abbrev s_first_far : Stmt := topS 45
theorem sc_first_far : FnScope ["rule", "f", "most", "y"] ["rule", "f", "most"] (defScope s_first_far) := ⟨rfl, rfl, rfl, by decide +kernel, rfl, by decide +kernel, by decide +kernel⟩
abbrev s_drift_paper : Stmt := topS 46
theorem sc_drift_paper : FnScope ["rule", "f", "y"] ["rule", "f"] (defScope s_drift_paper) := ⟨rfl, rfl, rfl, by decide +kernel, rfl, by decide +kernel, by decide +kernel⟩
abbrev s_judge_drift : Stmt := topS 47
theorem sc_judge_drift : FnScope ["rule", "f", "value", "is_even"] ["rule", "f", "value"] (defScope s_judge_drift) := ⟨rfl, rfl, rfl, by decide +kernel, rfl, by decide +kernel, by decide +kernel⟩
abbrev s_month_length : Stmt := topS 48
theorem sc_month_length : FnScope ["calendar", "y", "month", "rule", "lengths", "extra"] ["calendar", "y", "month"] (defScope s_month_length) := ⟨rfl, rfl, rfl, by decide +kernel, rfl, by decide +kernel, by decide +kernel⟩
abbrev s_is_date : Stmt := topS 49
theorem sc_is_date : FnScope ["calendar", "value", "one"] ["calendar", "value"] (defScope s_is_date) := ⟨rfl, rfl, rfl, by decide +kernel, rfl, by decide +kernel, by decide +kernel⟩
abbrev s_year_begin : Stmt := topS 50
theorem sc_year_begin : FnScope ["calendar", "y"] ["calendar", "y"] (defScope s_year_begin) := ⟨rfl, rfl, rfl, by decide +kernel, rfl, by decide +kernel, by decide +kernel⟩
abbrev s_day_of : Stmt := topS 51
theorem sc_day_of : FnScope ["calendar", "date", "y", "month", "day", "found", "k"] ["calendar", "date"] (defScope s_day_of) := ⟨rfl, rfl, rfl, by decide +kernel, rfl, by decide +kernel, by decide +kernel⟩
abbrev s_date_of : Stmt := topS 52
theorem sc_date_of : FnScope ["calendar", "n", "m", "b", "c", "y", "left", "month"] ["calendar", "n"] (defScope s_date_of) := ⟨rfl, rfl, rfl, by decide +kernel, rfl, by decide +kernel, by decide +kernel⟩
abbrev s_falls_on : Stmt := topS 53
theorem sc_falls_on : FnScope ["calendar", "date", "w", "d"] ["calendar", "date", "w", "d"] (defScope s_falls_on) := ⟨rfl, rfl, rfl, by decide +kernel, rfl, by decide +kernel, by decide +kernel⟩
abbrev s_week_paper : Stmt := topS 54
theorem sc_week_paper : FnScope ["calendar", "month", "day", "w", "d", "cycle", "y"] ["calendar", "month", "day", "w", "d"] (defScope s_week_paper) := ⟨rfl, rfl, rfl, by decide +kernel, rfl, by decide +kernel, by decide +kernel⟩
abbrev s_judge_week : Stmt := topS 55
theorem sc_judge_week : FnScope ["calendar", "month", "day", "w", "d", "value", "cycle", "y"] ["calendar", "month", "day", "w", "d", "value"] (defScope s_judge_week) := ⟨rfl, rfl, rfl, by decide +kernel, rfl, by decide +kernel, by decide +kernel⟩
abbrev s__law_start : Stmt := topS 57
theorem sc__law_start : FnScope ["script", "cell"] ["script"] (defScope s__law_start) := ⟨rfl, rfl, rfl, by decide +kernel, rfl, by decide +kernel, by decide +kernel⟩
abbrev s__law_fill : Stmt := topS 58
theorem sc__law_fill : FnScope ["c", "number"] ["c"] (defScope s__law_fill) := ⟨rfl, rfl, rfl, by decide +kernel, rfl, by decide +kernel, by decide +kernel⟩
abbrev s__law_take : Stmt := topS 59
theorem sc__law_take : FnScope ["c", "many", "digit"] ["c", "many"] (defScope s__law_take) := ⟨rfl, rfl, rfl, by decide +kernel, rfl, by decide +kernel, by decide +kernel⟩
abbrev s__law_divisor : Stmt := topS 60
theorem sc__law_divisor : FnScope ["a", "b", "turn"] ["a", "b"] (defScope s__law_divisor) := ⟨rfl, rfl, rfl, by decide +kernel, rfl, by decide +kernel, by decide +kernel⟩
abbrev s__law_fraction : Stmt := topS 61
theorem sc__law_fraction : FnScope ["n", "d", "many"] ["n", "d"] (defScope s__law_fraction) := ⟨rfl, rfl, rfl, by decide +kernel, rfl, by decide +kernel, by decide +kernel⟩
abbrev s__law_plus : Stmt := topS 62
theorem sc__law_plus : FnScope ["a", "b"] ["a", "b"] (defScope s__law_plus) := ⟨rfl, rfl, rfl, by decide +kernel, rfl, by decide +kernel, by decide +kernel⟩
abbrev s__law_times : Stmt := topS 63
theorem sc__law_times : FnScope ["a", "b"] ["a", "b"] (defScope s__law_times) := ⟨rfl, rfl, rfl, by decide +kernel, rfl, by decide +kernel, by decide +kernel⟩
abbrev s__law_said : Stmt := topS 64
theorem sc__law_said : FnScope ["said", "due"] ["said", "due"] (defScope s__law_said) := ⟨rfl, rfl, rfl, by decide +kernel, rfl, by decide +kernel, by decide +kernel⟩
abbrev s__law_less : Stmt := topS 65
theorem sc__law_less : FnScope ["a", "b"] ["a", "b"] (defScope s__law_less) := ⟨rfl, rfl, rfl, by decide +kernel, rfl, by decide +kernel, by decide +kernel⟩
abbrev s__law_minus : Stmt := topS 66
theorem sc__law_minus : FnScope ["a", "b"] ["a", "b"] (defScope s__law_minus) := ⟨rfl, rfl, rfl, by decide +kernel, rfl, by decide +kernel, by decide +kernel⟩
abbrev s__law_away : Stmt := topS 67
theorem sc__law_away : FnScope ["x", "rest"] ["x"] (defScope s__law_away) := ⟨rfl, rfl, rfl, by decide +kernel, rfl, by decide +kernel, by decide +kernel⟩
abbrev s__law_far : Stmt := topS 68
theorem sc__law_far : FnScope ["a", "b", "less"] ["a", "b"] (defScope s__law_far) := ⟨rfl, rfl, rfl, by decide +kernel, rfl, by decide +kernel, by decide +kernel⟩
abbrev s__law_around : Stmt := topS 69
theorem sc__law_around : FnScope ["a", "n", "low", "high", "q", "p"] ["a", "n"] (defScope s__law_around) := ⟨rfl, rfl, rfl, by decide +kernel, rfl, by decide +kernel, by decide +kernel⟩
abbrev s__law_near_right : Stmt := topS 70
theorem sc__law_near_right : FnScope ["c", "a", "e", "m", "told", "x", "bent", "right", "n", "p", "q", "r", "s", "low", "high", "best", "b", "top", "one", "far", "paper"] ["c"] (defScope s__law_near_right) := ⟨rfl, rfl, rfl, by decide +kernel, rfl, by decide +kernel, by decide +kernel⟩
abbrev s__law_rule : Stmt := topS 71
theorem sc__law_rule : FnScope ["c", "m"] ["c"] (defScope s__law_rule) := ⟨rfl, rfl, rfl, by decide +kernel, rfl, by decide +kernel, by decide +kernel⟩
abbrev s__law_leap : Stmt := topS 72
theorem sc__law_leap : FnScope ["rule", "y", "m", "b", "first"] ["rule", "y"] (defScope s__law_leap) := ⟨rfl, rfl, rfl, by decide +kernel, rfl, by decide +kernel, by decide +kernel⟩
abbrev s__law_drift_right : Stmt := topS 73
theorem sc__law_drift_right : FnScope ["c", "rule", "m", "b", "first", "y", "count", "f", "told", "drifts", "leaps", "k", "own", "low", "high", "due", "other", "far", "one"] ["c"] (defScope s__law_drift_right) := ⟨rfl, rfl, rfl, by decide +kernel, rfl, by decide +kernel, by decide +kernel⟩
abbrev s__law_days : Stmt := topS 74
theorem sc__law_days : FnScope ["calendar", "most", "rule", "lengths", "extra", "found", "y", "turn", "k", "many", "d"] ["calendar", "most"] (defScope s__law_days) := ⟨rfl, rfl, rfl, by decide +kernel, rfl, by decide +kernel, by decide +kernel⟩
abbrev s__law_week_right : Stmt := topS 75
theorem sc__law_week_right : FnScope ["c", "rule", "lengths", "calendar", "dates", "n", "k", "drawn", "bad", "w", "month", "day", "d", "cycle", "whole", "years", "told", "due", "y"] ["c"] (defScope s__law_week_right) := ⟨rfl, rfl, rfl, by decide +kernel, rfl, by decide +kernel, by decide +kernel⟩
abbrev s__law_agree_right : Stmt := topS 76
theorem sc__law_agree_right : FnScope ["c", "readings", "turn", "low", "f", "part", "passed", "marks", "counts", "fits", "told", "due", "other", "a", "b", "mark", "k"] ["c"] (defScope s__law_agree_right) := ⟨rfl, rfl, rfl, by decide +kernel, rfl, by decide +kernel, by decide +kernel⟩
abbrev s_law : Stmt := topS 77
theorem sc_law : FnScope ["script", "c"] ["script"] (defScope s_law) := ⟨rfl, rfl, rfl, by decide +kernel, rfl, by decide +kernel, by decide +kernel⟩
structure Txt (K : PySem.W.Frag) (mg : Str → Option Value) (cA : Nat → Addr) (f : Nat → Addr) (fd : Nat → FuncData) : Prop where
  F_common_divisor : Fun K "common_divisor" "common_divisor" s_common_divisor (f 0) (fd 0)
  B_common_divisor : Binds K (fd 0) ["first", "second"] []
  G_common_divisor : mg "common_divisor" = some (.ref (f 0))
  F_ratio : Fun K "ratio" "ratio" s_ratio (f 1) (fd 1)
  B_ratio : Binds K (fd 1) ["above", "below"] []
  G_ratio : mg "ratio" = some (.ref (f 1))
  F_plus : Fun K "plus" "plus" s_plus (f 2) (fd 2)
  B_plus : Binds K (fd 2) ["first", "second"] []
  G_plus : mg "plus" = some (.ref (f 2))
  F_times : Fun K "times" "times" s_times (f 3) (fd 3)
  B_times : Binds K (fd 3) ["first", "second"] []
  G_times : mg "times" = some (.ref (f 3))
  F_negative : Fun K "negative" "negative" s_negative (f 4) (fd 4)
  B_negative : Binds K (fd 4) ["one"] []
  G_negative : mg "negative" = some (.ref (f 4))
  F_minus : Fun K "minus" "minus" s_minus (f 5) (fd 5)
  B_minus : Binds K (fd 5) ["first", "second"] []
  G_minus : mg "minus" = some (.ref (f 5))
  F_is_less : Fun K "is_less" "is_less" s_is_less (f 6) (fd 6)
  B_is_less : Binds K (fd 6) ["first", "second"] []
  G_is_less : mg "is_less" = some (.ref (f 6))
  F_at_most : Fun K "at_most" "at_most" s_at_most (f 7) (fd 7)
  B_at_most : Binds K (fd 7) ["first", "second"] []
  G_at_most : mg "at_most" = some (.ref (f 7))
  F_is_integer : Fun K "is_integer" "is_integer" s_is_integer (f 8) (fd 8)
  B_is_integer : Binds K (fd 8) ["value"] []
  G_is_integer : mg "is_integer" = some (.ref (f 8))
  F_is_ratio : Fun K "is_ratio" "is_ratio" s_is_ratio (f 9) (fd 9)
  B_is_ratio : Binds K (fd 9) ["value"] []
  G_is_ratio : mg "is_ratio" = some (.ref (f 9))
  F_floor_of : Fun K "floor_of" "floor_of" s_floor_of (f 10) (fd 10)
  B_floor_of : Binds K (fd 10) ["x"] []
  G_floor_of : mg "floor_of" = some (.ref (f 10))
  F_absolute : Fun K "absolute" "absolute" s_absolute (f 11) (fd 11)
  B_absolute : Binds K (fd 11) ["x"] []
  G_absolute : mg "absolute" = some (.ref (f 11))
  F_nearest_whole : Fun K "nearest_whole" "nearest_whole" s_nearest_whole (f 12) (fd 12)
  B_nearest_whole : Binds K (fd 12) ["x"] []
  G_nearest_whole : mg "nearest_whole" = some (.ref (f 12))
  F_away : Fun K "away" "away" s_away (f 13) (fd 13)
  B_away : Binds K (fd 13) ["x"] []
  G_away : mg "away" = some (.ref (f 13))
  F_below_by : Fun K "below_by" "below_by" s_below_by (f 14) (fd 14)
  B_below_by : Binds K (fd 14) ["a", "low"] []
  G_below_by : mg "below_by" = some (.ref (f 14))
  F_above_by : Fun K "above_by" "above_by" s_above_by (f 15) (fd 15)
  B_above_by : Binds K (fd 15) ["a", "high"] []
  G_above_by : mg "above_by" = some (.ref (f 15))
  F_steps_within : Fun K "steps_within" "steps_within" s_steps_within (f 16) (fd 16)
  B_steps_within : Binds K (fd 16) ["gap", "step", "most"] []
  G_steps_within : mg "steps_within" = some (.ref (f 16))
  F_steps_above : Fun K "steps_above" "steps_above" s_steps_above (f 17) (fd 17)
  B_steps_above : Binds K (fd 17) ["gap", "step", "most"] []
  G_steps_above : mg "steps_above" = some (.ref (f 17))
  F_neighbours : Fun K "neighbours" "neighbours" s_neighbours (f 18) (fd 18)
  B_neighbours : Binds K (fd 18) ["a", "n"] []
  G_neighbours : mg "neighbours" = some (.ref (f 18))
  F_steps_to : Fun K "steps_to" "steps_to" s_steps_to (f 19) (fd 19)
  B_steps_to : Binds K (fd 19) ["gap", "step", "e"] []
  G_steps_to : mg "steps_to" = some (.ref (f 19))
  F_added : Fun K "added" "added" s_added (f 20) (fd 20)
  B_added : Binds K (fd 20) ["pair", "other", "k"] []
  G_added : mg "added" = some (.ref (f 20))
  F_near_paper : Fun K "near_paper" "near_paper" s_near_paper (f 21) (fd 21)
  B_near_paper : Binds K (fd 21) ["a", "e"] []
  G_near_paper : mg "near_paper" = some (.ref (f 21))
  F_is_pair : Fun K "is_pair" "is_pair" s_is_pair (f 22) (fd 22)
  B_is_pair : Binds K (fd 22) ["value"] []
  G_is_pair : mg "is_pair" = some (.ref (f 22))
  F_are_neighbours : Fun K "are_neighbours" "are_neighbours" s_are_neighbours (f 23) (fd 23)
  B_are_neighbours : Binds K (fd 23) ["a", "low", "high"] []
  G_are_neighbours : mg "are_neighbours" = some (.ref (f 23))
  F_judge_near : Fun K "judge_near" "judge_near" s_judge_near (f 24) (fd 24)
  B_judge_near : Binds K (fd 24) ["a", "e", "value"] []
  G_judge_near : mg "judge_near" = some (.ref (f 24))
  F_nearer : Fun K "nearer" "nearer" s_nearer (f 25) (fd 25)
  B_nearer : Binds K (fd 25) ["a", "low", "high"] []
  G_nearer : mg "nearer" = some (.ref (f 25))
  F_best_paper : Fun K "best_paper" "best_paper" s_best_paper (f 26) (fd 26)
  B_best_paper : Binds K (fd 26) ["a", "n"] []
  G_best_paper : mg "best_paper" = some (.ref (f 26))
  F_judge_best_fraction : Fun K "judge_best_fraction" "judge_best_fraction" s_judge_best_fraction (f 27) (fd 27)
  B_judge_best_fraction : Binds K (fd 27) ["a", "n", "value"] []
  G_judge_best_fraction : mg "judge_best_fraction" = some (.ref (f 27))
  F_holding : Fun K "holding" "holding" s_holding (f 28) (fd 28)
  B_holding : Binds K (fd 28) ["readings", "moment"] []
  G_holding : mg "holding" = some (.ref (f 28))
  F_agree_paper : Fun K "agree_paper" "agree_paper" s_agree_paper (f 29) (fd 29)
  B_agree_paper : Binds K (fd 29) ["readings", "f"] []
  G_agree_paper : mg "agree_paper" = some (.ref (f 29))
  F_judge_agree : Fun K "judge_agree" "judge_agree" s_judge_agree (f 30) (fd 30)
  B_judge_agree : Binds K (fd 30) ["readings", "f", "value"] []
  G_judge_agree : mg "judge_agree" = some (.ref (f 30))
  F_leaps_before : Fun K "leaps_before" "leaps_before" s_leaps_before (f 31) (fd 31)
  B_leaps_before : Binds K (fd 31) ["rule", "y"] []
  G_leaps_before : mg "leaps_before" = some (.ref (f 31))
  F_is_leap : Fun K "is_leap" "is_leap" s_is_leap (f 32) (fd 32)
  B_is_leap : Binds K (fd 32) ["rule", "y"] []
  G_is_leap : mg "is_leap" = some (.ref (f 32))
  F_drift : Fun K "drift" "drift" s_drift (f 33) (fd 33)
  B_drift : Binds K (fd 33) ["rule", "f", "y"] []
  G_drift : mg "drift" = some (.ref (f 33))
  F_extremes : Fun K "extremes" "extremes" s_extremes (f 34) (fd 34)
  B_extremes : Binds K (fd 34) ["rule", "f"] []
  G_extremes : mg "extremes" = some (.ref (f 34))
  F_first_far : Fun K "first_far" "first_far" s_first_far (f 35) (fd 35)
  B_first_far : Binds K (fd 35) ["rule", "f", "most"] []
  G_first_far : mg "first_far" = some (.ref (f 35))
  F_drift_paper : Fun K "drift_paper" "drift_paper" s_drift_paper (f 36) (fd 36)
  B_drift_paper : Binds K (fd 36) ["rule", "f"] []
  G_drift_paper : mg "drift_paper" = some (.ref (f 36))
  F_judge_drift : Fun K "judge_drift" "judge_drift" s_judge_drift (f 37) (fd 37)
  B_judge_drift : Binds K (fd 37) ["rule", "f", "value"] []
  G_judge_drift : mg "judge_drift" = some (.ref (f 37))
  F_month_length : Fun K "month_length" "month_length" s_month_length (f 38) (fd 38)
  B_month_length : Binds K (fd 38) ["calendar", "y", "month"] []
  G_month_length : mg "month_length" = some (.ref (f 38))
  F_is_date : Fun K "is_date" "is_date" s_is_date (f 39) (fd 39)
  B_is_date : Binds K (fd 39) ["calendar", "value"] []
  G_is_date : mg "is_date" = some (.ref (f 39))
  F_year_begin : Fun K "year_begin" "year_begin" s_year_begin (f 40) (fd 40)
  B_year_begin : Binds K (fd 40) ["calendar", "y"] []
  G_year_begin : mg "year_begin" = some (.ref (f 40))
  F_day_of : Fun K "day_of" "day_of" s_day_of (f 41) (fd 41)
  B_day_of : Binds K (fd 41) ["calendar", "date"] []
  G_day_of : mg "day_of" = some (.ref (f 41))
  F_date_of : Fun K "date_of" "date_of" s_date_of (f 42) (fd 42)
  B_date_of : Binds K (fd 42) ["calendar", "n"] []
  G_date_of : mg "date_of" = some (.ref (f 42))
  F_falls_on : Fun K "falls_on" "falls_on" s_falls_on (f 43) (fd 43)
  B_falls_on : Binds K (fd 43) ["calendar", "date", "w", "d"] []
  G_falls_on : mg "falls_on" = some (.ref (f 43))
  F_week_paper : Fun K "week_paper" "week_paper" s_week_paper (f 44) (fd 44)
  B_week_paper : Binds K (fd 44) ["calendar", "month", "day", "w", "d"] []
  G_week_paper : mg "week_paper" = some (.ref (f 44))
  F_judge_week : Fun K "judge_week" "judge_week" s_judge_week (f 45) (fd 45)
  B_judge_week : Binds K (fd 45) ["calendar", "month", "day", "w", "d", "value"] []
  G_judge_week : mg "judge_week" = some (.ref (f 45))
  F__law_start : Fun K "_law_start" "_law_start" s__law_start (f 46) (fd 46)
  B__law_start : Binds K (fd 46) ["script"] []
  G__law_start : mg "_law_start" = some (.ref (f 46))
  F__law_fill : Fun K "_law_fill" "_law_fill" s__law_fill (f 47) (fd 47)
  B__law_fill : Binds K (fd 47) ["c"] []
  G__law_fill : mg "_law_fill" = some (.ref (f 47))
  F__law_take : Fun K "_law_take" "_law_take" s__law_take (f 48) (fd 48)
  B__law_take : Binds K (fd 48) ["c", "many"] []
  G__law_take : mg "_law_take" = some (.ref (f 48))
  F__law_divisor : Fun K "_law_divisor" "_law_divisor" s__law_divisor (f 49) (fd 49)
  B__law_divisor : Binds K (fd 49) ["a", "b"] []
  G__law_divisor : mg "_law_divisor" = some (.ref (f 49))
  F__law_fraction : Fun K "_law_fraction" "_law_fraction" s__law_fraction (f 50) (fd 50)
  B__law_fraction : Binds K (fd 50) ["n", "d"] []
  G__law_fraction : mg "_law_fraction" = some (.ref (f 50))
  F__law_plus : Fun K "_law_plus" "_law_plus" s__law_plus (f 51) (fd 51)
  B__law_plus : Binds K (fd 51) ["a", "b"] []
  G__law_plus : mg "_law_plus" = some (.ref (f 51))
  F__law_times : Fun K "_law_times" "_law_times" s__law_times (f 52) (fd 52)
  B__law_times : Binds K (fd 52) ["a", "b"] []
  G__law_times : mg "_law_times" = some (.ref (f 52))
  F__law_said : Fun K "_law_said" "_law_said" s__law_said (f 53) (fd 53)
  B__law_said : Binds K (fd 53) ["said", "due"] []
  G__law_said : mg "_law_said" = some (.ref (f 53))
  F__law_less : Fun K "_law_less" "_law_less" s__law_less (f 54) (fd 54)
  B__law_less : Binds K (fd 54) ["a", "b"] []
  G__law_less : mg "_law_less" = some (.ref (f 54))
  F__law_minus : Fun K "_law_minus" "_law_minus" s__law_minus (f 55) (fd 55)
  B__law_minus : Binds K (fd 55) ["a", "b"] []
  G__law_minus : mg "_law_minus" = some (.ref (f 55))
  F__law_away : Fun K "_law_away" "_law_away" s__law_away (f 56) (fd 56)
  B__law_away : Binds K (fd 56) ["x"] []
  G__law_away : mg "_law_away" = some (.ref (f 56))
  F__law_far : Fun K "_law_far" "_law_far" s__law_far (f 57) (fd 57)
  B__law_far : Binds K (fd 57) ["a", "b"] []
  G__law_far : mg "_law_far" = some (.ref (f 57))
  F__law_around : Fun K "_law_around" "_law_around" s__law_around (f 58) (fd 58)
  B__law_around : Binds K (fd 58) ["a", "n"] []
  G__law_around : mg "_law_around" = some (.ref (f 58))
  F__law_near_right : Fun K "_law_near_right" "_law_near_right" s__law_near_right (f 59) (fd 59)
  B__law_near_right : Binds K (fd 59) ["c"] []
  G__law_near_right : mg "_law_near_right" = some (.ref (f 59))
  F__law_rule : Fun K "_law_rule" "_law_rule" s__law_rule (f 60) (fd 60)
  B__law_rule : Binds K (fd 60) ["c"] []
  G__law_rule : mg "_law_rule" = some (.ref (f 60))
  F__law_leap : Fun K "_law_leap" "_law_leap" s__law_leap (f 61) (fd 61)
  B__law_leap : Binds K (fd 61) ["rule", "y"] []
  G__law_leap : mg "_law_leap" = some (.ref (f 61))
  F__law_drift_right : Fun K "_law_drift_right" "_law_drift_right" s__law_drift_right (f 62) (fd 62)
  B__law_drift_right : Binds K (fd 62) ["c"] []
  G__law_drift_right : mg "_law_drift_right" = some (.ref (f 62))
  F__law_days : Fun K "_law_days" "_law_days" s__law_days (f 63) (fd 63)
  B__law_days : Binds K (fd 63) ["calendar", "most"] []
  G__law_days : mg "_law_days" = some (.ref (f 63))
  F__law_week_right : Fun K "_law_week_right" "_law_week_right" s__law_week_right (f 64) (fd 64)
  B__law_week_right : Binds K (fd 64) ["c"] []
  G__law_week_right : mg "_law_week_right" = some (.ref (f 64))
  F__law_agree_right : Fun K "_law_agree_right" "_law_agree_right" s__law_agree_right (f 65) (fd 65)
  B__law_agree_right : Binds K (fd 65) ["c"] []
  G__law_agree_right : mg "_law_agree_right" = some (.ref (f 65))
  F_law : Fun K "law" "law" s_law (f 66) (fd 66)
  B_law : Binds K (fd 66) ["script"] []
  G_law : mg "law" = some (.ref (f 66))
  gi_MOST_CYCLE : ∃ t, mg "MOST_CYCLE" = some (.int 20000 t)
  gi_MOST_YEAR : ∃ t, mg "MOST_YEAR" = some (.int 100000 t)
  gt_ONE : ∃ a, mg "ONE" = some (.ref a) ∧ GObj K cA (.tup [(.int 1), (.int 1)]) a
  z_abs : mg "abs" = none
  z_all : mg "all" = none
  z_any : mg "any" = none
  z_bool : mg "bool" = none
  z_int : mg "int" = none
  z_isinstance : mg "isinstance" = none
  z_len : mg "len" = none
  z_list : mg "list" = none
  z_max : mg "max" = none
  z_min : mg "min" = none
  z_range : mg "range" = none
  z_repr : mg "repr" = none
  z_set : mg "set" = none
  z_sorted : mg "sorted" = none
  z_str : mg "str" = none
  z_sum : mg "sum" = none
  z_tuple : mg "tuple" = none
section
variable {P : Program} {w : World} {K : PySem.W.Frag} {mg : Str → Option Value} {base : Heap} {cA : Nat → Addr} {f : Nat → Addr} {fd : Nat → FuncData}
theorem ok_common_divisor (T : Txt K mg cA f fd) : FnOk P w K mg base CX0 1 (f 0) (fd 0) ["first", "second"] (spF ⟨K, cA⟩ m_common_divisor) := by
  exact fn_F (k := 0) T.F_common_divisor sc_common_divisor (b := b_common_divisor) (fun cdv A outer s H E hr => have sc := sc_common_divisor; ⟨_, (db_cons (ds_par 0 1 rfl sc.nd (da_cons (dx_abs T.z_abs (da_cons (dx_var 0) da_nil)) (da_cons (dx_abs T.z_abs (da_cons (dx_var 1) da_nil)) da_nil)))
  (db_cons (ds_while 20000 PassesOwn.never (dt_ne hr.units (dx_var 1) dx_int) (db_one (ds_par 0 1 rfl sc.nd (da_cons (dx_var 1) (da_cons (dx_mod (dx_var 0) (dx_var 1)) da_nil)))))
  (db_one (ds_ret (dx_var 0)))))⟩)
theorem ok_ratio (T : Txt K mg cA f fd) : FnOk P w K mg base CX0 2 (f 1) (fd 1) ["above", "below"] (spF ⟨K, cA⟩ m_ratio) := by
  exact fn_F (k := 1) T.F_ratio sc_ratio (b := b_ratio) (fun cdv A outer s H E hr => have sc := sc_ratio; ⟨_, (db_cons (ds_if (dt_ltA hr.units0 (dx_var 1) dx_int) (db_one (ds_par 0 1 rfl sc.nd (da_cons (dx_neg (dx_var 0)) (da_cons (dx_neg (dx_var 1)) da_nil)))) db_nil)
  (db_cons (ds_if (dt_ne hr.units (dx_var 1) dx_int) (db_cons (ds_set 2 sc.nd (dx_call (ok_common_divisor T) hr T.G_common_divisor T.F_common_divisor.kp T.B_common_divisor (da_cons (dx_var 0) (da_cons (dx_var 1) da_nil))))
  (db_one (ds_par 0 1 rfl sc.nd (da_cons (dx_fdiv (dx_var 0) (dx_var 2)) (da_cons (dx_fdiv (dx_var 1) (dx_var 2)) da_nil))))) db_nil)
  (db_one (ds_ret (dx_tup (da_cons (dx_var 0) (da_cons (dx_var 1) da_nil)))))))⟩)
theorem ok_plus (T : Txt K mg cA f fd) : FnOk P w K mg base CX0 3 (f 2) (fd 2) ["first", "second"] (spF ⟨K, cA⟩ m_plus) := by
  exact fn_F (k := 2) T.F_plus sc_plus (b := b_plus) (fun cdv A outer s H E hr => have sc := sc_plus; ⟨_, (db_cons (ds_if (dt_chain (do_eq hr.units) (do_eq hr.units) (dx_ix (dx_var 0) dx_int) (dx_ix (dx_var 1) dx_int) dx_int) (db_one (ds_ret (dx_tup (da_cons (dx_add (dx_ix (dx_var 0) dx_int) (dx_ix (dx_var 1) dx_int)) (da_cons dx_int da_nil))))) db_nil)
  (db_one (ds_ret (dx_call (ok_ratio T) hr T.G_ratio T.F_ratio.kp T.B_ratio (da_cons (dx_add (dx_mul (dx_ix (dx_var 0) dx_int) (dx_ix (dx_var 1) dx_int)) (dx_mul (dx_ix (dx_var 1) dx_int) (dx_ix (dx_var 0) dx_int))) (da_cons (dx_mul (dx_ix (dx_var 0) dx_int) (dx_ix (dx_var 1) dx_int)) da_nil))))))⟩)
theorem ok_times (T : Txt K mg cA f fd) : FnOk P w K mg base CX0 3 (f 3) (fd 3) ["first", "second"] (spF ⟨K, cA⟩ m_times) := by
  exact fn_F (k := 2) T.F_times sc_times (b := b_times) (fun cdv A outer s H E hr => have sc := sc_times; ⟨_, (db_one (ds_ret (dx_call (ok_ratio T) hr T.G_ratio T.F_ratio.kp T.B_ratio (da_cons (dx_mul (dx_ix (dx_var 0) dx_int) (dx_ix (dx_var 1) dx_int)) (da_cons (dx_mul (dx_ix (dx_var 0) dx_int) (dx_ix (dx_var 1) dx_int)) da_nil)))))⟩)
theorem ok_negative (T : Txt K mg cA f fd) : FnOk P w K mg base CX0 1 (f 4) (fd 4) ["one"] (spF ⟨K, cA⟩ m_negative) := by
  exact fn_F (k := 0) T.F_negative sc_negative (b := b_negative) (fun cdv A outer s H E hr => have sc := sc_negative; ⟨_, (db_one (ds_ret (dx_tup (da_cons (dx_neg (dx_ix (dx_var 0) dx_int)) (da_cons (dx_ix (dx_var 0) dx_int) da_nil)))))⟩)
theorem ok_minus (T : Txt K mg cA f fd) : FnOk P w K mg base CX0 4 (f 5) (fd 5) ["first", "second"] (spF ⟨K, cA⟩ m_minus) := by
  exact fn_F (k := 3) T.F_minus sc_minus (b := b_minus) (fun cdv A outer s H E hr => have sc := sc_minus; ⟨_, (db_one (ds_ret (dx_call (ok_plus T) hr T.G_plus T.F_plus.kp T.B_plus (da_cons (dx_var 0) (da_cons (dx_call (ok_negative T) (hr.mono (by decide)) T.G_negative T.F_negative.kp T.B_negative (da_cons (dx_var 1) da_nil)) da_nil)))))⟩)
theorem ok_is_less (T : Txt K mg cA f fd) : FnOk P w K mg base CX0 1 (f 6) (fd 6) ["first", "second"] (spF ⟨K, cA⟩ m_is_less) := by
  exact fn_F (k := 0) T.F_is_less sc_is_less (b := b_is_less) (fun cdv A outer s H E hr => have sc := sc_is_less; ⟨_, (db_one (ds_ret (dx_ltA hr.units0 (dx_mul (dx_ix (dx_var 0) dx_int) (dx_ix (dx_var 1) dx_int)) (dx_mul (dx_ix (dx_var 1) dx_int) (dx_ix (dx_var 0) dx_int)))))⟩)
theorem ok_at_most (T : Txt K mg cA f fd) : FnOk P w K mg base CX0 1 (f 7) (fd 7) ["first", "second"] (spF ⟨K, cA⟩ m_at_most) := by
  exact fn_F (k := 0) T.F_at_most sc_at_most (b := b_at_most) (fun cdv A outer s H E hr => have sc := sc_at_most; ⟨_, (db_one (ds_ret (dx_le (dx_mul (dx_ix (dx_var 0) dx_int) (dx_ix (dx_var 1) dx_int)) (dx_mul (dx_ix (dx_var 1) dx_int) (dx_ix (dx_var 0) dx_int)))))⟩)
theorem ok_is_integer (T : Txt K mg cA f fd) : FnOk P w K mg base CX0 1 (f 8) (fd 8) ["value"] (spF ⟨K, cA⟩ m_is_integer) := by
  exact fn_F (k := 0) T.F_is_integer sc_is_integer (b := b_is_integer) (fun cdv A outer s H E hr => have sc := sc_is_integer; ⟨_, (db_one (ds_ret (dx_and (dx_isi T.z_isinstance T.z_int bb_int (dx_var 0)) (dx_one (dx_not (dx_isi T.z_isinstance T.z_bool bb_bool (dx_var 0)))))))⟩)
theorem ok_is_ratio (T : Txt K mg cA f fd) : FnOk P w K mg base CX0 2 (f 9) (fd 9) ["value"] (spF ⟨K, cA⟩ m_is_ratio) := by
  exact fn_F (k := 1) T.F_is_ratio sc_is_ratio (b := b_is_ratio) (fun cdv A outer s H E hr => have sc := sc_is_ratio; ⟨_, (db_cons (ds_if (dw_or (dt_not (dt_tru (dx_isi T.z_isinstance T.z_tuple bb_tuple (dx_var 0)))) (dw_or (dt_ne hr.units (dx_len T.z_len (da_cons (dx_var 0) da_nil)) dx_int) (dw_or (dt_not (dt_tru (dx_call (ok_is_integer T) hr T.G_is_integer T.F_is_integer.kp T.B_is_integer (da_cons (dx_ix (dx_var 0) dx_int) da_nil)))) (dw_or1 (dt_not (dt_tru (dx_call (ok_is_integer T) hr T.G_is_integer T.F_is_integer.kp T.B_is_integer (da_cons (dx_ix (dx_var 0) dx_int) da_nil)))))))).tst (db_one (ds_ret dx_bl)) db_nil)
  (db_one (ds_ret (dx_and (dx_gt (dx_ix (dx_var 0) dx_int) dx_int) (dx_one (dx_eq hr.units (dx_call (ok_common_divisor T) hr T.G_common_divisor T.F_common_divisor.kp T.B_common_divisor (da_cons (dx_ix (dx_var 0) dx_int) (da_cons (dx_ix (dx_var 0) dx_int) da_nil))) dx_int))))))⟩)
theorem ok_floor_of (T : Txt K mg cA f fd) : FnOk P w K mg base CX0 1 (f 10) (fd 10) ["x"] (spF ⟨K, cA⟩ m_floor_of) := by
  exact fn_F (k := 0) T.F_floor_of sc_floor_of (b := b_floor_of) (fun cdv A outer s H E hr => have sc := sc_floor_of; ⟨_, (db_one (ds_ret (dx_fdiv (dx_ix (dx_var 0) dx_int) (dx_ix (dx_var 0) dx_int))))⟩)
theorem ok_absolute (T : Txt K mg cA f fd) : FnOk P w K mg base CX0 1 (f 11) (fd 11) ["x"] (spF ⟨K, cA⟩ m_absolute) := by
  exact fn_F (k := 0) T.F_absolute sc_absolute (b := b_absolute) (fun cdv A outer s H E hr => have sc := sc_absolute; ⟨_, (db_one (ds_ret (dx_tup (da_cons (dx_abs T.z_abs (da_cons (dx_ix (dx_var 0) dx_int) da_nil)) (da_cons (dx_ix (dx_var 0) dx_int) da_nil)))))⟩)
theorem ok_nearest_whole (T : Txt K mg cA f fd) : FnOk P w K mg base CX0 5 (f 12) (fd 12) ["x"] (spF ⟨K, cA⟩ m_nearest_whole) := by
  exact fn_F (k := 4) T.F_nearest_whole sc_nearest_whole (b := b_nearest_whole) (fun cdv A outer s H E hr => have sc := sc_nearest_whole; ⟨_, (db_cons (ds_set 1 sc.nd (dx_call (ok_floor_of T) (hr.mono (by decide)) T.G_floor_of T.F_floor_of.kp T.B_floor_of (da_cons (dx_var 0) da_nil)))
  (db_one (ds_ret (dx_if (dt_tru (dx_call (ok_at_most T) (hr.mono (by decide)) T.G_at_most T.F_at_most.kp T.B_at_most (da_cons (dx_call (ok_minus T) hr T.G_minus T.F_minus.kp T.B_minus (da_cons (dx_var 0) (da_cons (dx_tup (da_cons (dx_var 1) (da_cons dx_int da_nil))) da_nil))) (da_cons (dx_call (ok_minus T) hr T.G_minus T.F_minus.kp T.B_minus (da_cons (dx_tup (da_cons (dx_add (dx_var 1) dx_int) (da_cons dx_int da_nil))) (da_cons (dx_var 0) da_nil))) da_nil)))) (dx_var 1) (dx_add (dx_var 1) dx_int)))))⟩)
theorem ok_away (T : Txt K mg cA f fd) : FnOk P w K mg base CX0 6 (f 13) (fd 13) ["x"] (spF ⟨K, cA⟩ m_away) := by
  exact fn_F (k := 5) T.F_away sc_away (b := b_away) (fun cdv A outer s H E hr => have sc := sc_away; ⟨_, (db_one (ds_ret (dx_call (ok_absolute T) (hr.mono (by decide)) T.G_absolute T.F_absolute.kp T.B_absolute (da_cons (dx_call (ok_minus T) (hr.mono (by decide)) T.G_minus T.F_minus.kp T.B_minus (da_cons (dx_var 0) (da_cons (dx_tup (da_cons (dx_call (ok_nearest_whole T) hr T.G_nearest_whole T.F_nearest_whole.kp T.B_nearest_whole (da_cons (dx_var 0) da_nil)) (da_cons dx_int da_nil))) da_nil))) da_nil))))⟩)
theorem ok_below_by (T : Txt K mg cA f fd) : FnOk P w K mg base CX0 5 (f 14) (fd 14) ["a", "low"] (spF ⟨K, cA⟩ m_below_by) := by
  exact fn_F (k := 4) T.F_below_by sc_below_by (b := b_below_by) (fun cdv A outer s H E hr => have sc := sc_below_by; ⟨_, (db_one (ds_ret (dx_call (ok_minus T) hr T.G_minus T.F_minus.kp T.B_minus (da_cons (dx_call (ok_times T) (hr.mono (by decide)) T.G_times T.F_times.kp T.B_times (da_cons (dx_var 0) (da_cons (dx_tup (da_cons (dx_ix (dx_var 1) dx_int) (da_cons dx_int da_nil))) da_nil))) (da_cons (dx_tup (da_cons (dx_ix (dx_var 1) dx_int) (da_cons dx_int da_nil))) da_nil)))))⟩)
theorem ok_above_by (T : Txt K mg cA f fd) : FnOk P w K mg base CX0 5 (f 15) (fd 15) ["a", "high"] (spF ⟨K, cA⟩ m_above_by) := by
  exact fn_F (k := 4) T.F_above_by sc_above_by (b := b_above_by) (fun cdv A outer s H E hr => have sc := sc_above_by; ⟨_, (db_one (ds_ret (dx_call (ok_minus T) hr T.G_minus T.F_minus.kp T.B_minus (da_cons (dx_tup (da_cons (dx_ix (dx_var 1) dx_int) (da_cons dx_int da_nil))) (da_cons (dx_call (ok_times T) (hr.mono (by decide)) T.G_times T.F_times.kp T.B_times (da_cons (dx_var 0) (da_cons (dx_tup (da_cons (dx_ix (dx_var 1) dx_int) (da_cons dx_int da_nil))) da_nil))) da_nil)))))⟩)
theorem ok_steps_within (T : Txt K mg cA f fd) : FnOk P w K mg base CX0 3 (f 16) (fd 16) ["gap", "step", "most"] (spF ⟨K, cA⟩ m_steps_within) := by
  exact fn_F (k := 2) T.F_steps_within sc_steps_within (b := b_steps_within) (fun cdv A outer s H E hr => have sc := sc_steps_within; ⟨_, (db_cons (ds_if (dt_eq hr.units (dx_ix (dx_var 1) dx_int) dx_int) (db_one (ds_ret (dx_var 2))) db_nil)
  (db_one (ds_ret (dx_min rfl T.z_min (da_cons (dx_var 2) (da_cons (dx_call (ok_floor_of T) (hr.mono (by decide)) T.G_floor_of T.F_floor_of.kp T.B_floor_of (da_cons (dx_call (ok_ratio T) hr T.G_ratio T.F_ratio.kp T.B_ratio (da_cons (dx_mul (dx_ix (dx_var 0) dx_int) (dx_ix (dx_var 1) dx_int)) (da_cons (dx_mul (dx_ix (dx_var 0) dx_int) (dx_ix (dx_var 1) dx_int)) da_nil))) da_nil)) da_nil))))))⟩)
theorem ok_steps_above (T : Txt K mg cA f fd) : FnOk P w K mg base CX0 3 (f 17) (fd 17) ["gap", "step", "most"] (spF ⟨K, cA⟩ m_steps_above) := by
  exact fn_F (k := 2) T.F_steps_above sc_steps_above (b := b_steps_above) (fun cdv A outer s H E hr => have sc := sc_steps_above; ⟨_, (db_cons (ds_if (dt_eq hr.units (dx_ix (dx_var 1) dx_int) dx_int) (db_one (ds_ret (dx_var 2))) db_nil)
  (db_cons (ds_set 3 sc.nd (dx_call (ok_ratio T) hr T.G_ratio T.F_ratio.kp T.B_ratio (da_cons (dx_mul (dx_ix (dx_var 0) dx_int) (dx_ix (dx_var 1) dx_int)) (da_cons (dx_mul (dx_ix (dx_var 0) dx_int) (dx_ix (dx_var 1) dx_int)) da_nil))))
  (db_one (ds_ret (dx_min rfl T.z_min (da_cons (dx_var 2) (da_cons (dx_sub (dx_call (ok_floor_of T) (hr.mono (by decide)) T.G_floor_of T.F_floor_of.kp T.B_floor_of (da_cons (dx_var 3) da_nil)) (dx_toint T.z_int (da_cons (dx_eq hr.units (dx_ix (dx_var 3) dx_int) dx_int) da_nil))) da_nil)))))))⟩)
theorem ok_neighbours (T : Txt K mg cA f fd) : FnOk P w K mg base CX0 6 (f 18) (fd 18) ["a", "n"] (spF ⟨K, cA⟩ m_neighbours) := by
  exact fn_F (k := 5) T.F_neighbours sc_neighbours (b := b_neighbours) (fun cdv A outer s H E hr => have sc := sc_neighbours; ⟨_, (db_cons (ds_par 2 3 rfl sc.nd (da_cons (dx_tup (da_cons (dx_call (ok_floor_of T) (hr.mono (by decide)) T.G_floor_of T.F_floor_of.kp T.B_floor_of (da_cons (dx_var 0) da_nil)) (da_cons dx_int da_nil))) (da_cons (dx_tup (da_cons dx_int (da_cons dx_int da_nil))) da_nil)))
  (db_cons (ds_while 20000 PassesOwn.never (dt_le (dx_add (dx_ix (dx_var 2) dx_int) (dx_ix (dx_var 3) dx_int)) (dx_var 1)) (db_cons (ds_par 4 5 rfl sc.nd (da_cons (dx_call (ok_below_by T) hr T.G_below_by T.F_below_by.kp T.B_below_by (da_cons (dx_var 0) (da_cons (dx_var 2) da_nil))) (da_cons (dx_call (ok_above_by T) hr T.G_above_by T.F_above_by.kp T.B_above_by (da_cons (dx_var 0) (da_cons (dx_var 3) da_nil))) da_nil)))
  (db_cons (ds_set 6 sc.nd (dx_call (ok_steps_above T) (hr.mono (by decide)) T.G_steps_above T.F_steps_above.kp T.B_steps_above (da_cons (dx_var 5) (da_cons (dx_var 4) (da_cons (dx_fdiv (dx_sub (dx_var 1) (dx_ix (dx_var 3) dx_int)) (dx_ix (dx_var 2) dx_int)) da_nil)))))
  (db_one (ds_if (dt_gt (dx_var 6) dx_int) (db_one (ds_set 3 sc.nd (dx_tup (da_cons (dx_add (dx_ix (dx_var 3) dx_int) (dx_mul (dx_var 6) (dx_ix (dx_var 2) dx_int))) (da_cons (dx_add (dx_ix (dx_var 3) dx_int) (dx_mul (dx_var 6) (dx_ix (dx_var 2) dx_int))) da_nil))))) (db_cons (ds_set 6 sc.nd (dx_call (ok_steps_within T) (hr.mono (by decide)) T.G_steps_within T.F_steps_within.kp T.B_steps_within (da_cons (dx_var 4) (da_cons (dx_var 5) (da_cons (dx_fdiv (dx_sub (dx_var 1) (dx_ix (dx_var 2) dx_int)) (dx_ix (dx_var 3) dx_int)) da_nil)))))
  (db_one (ds_set 2 sc.nd (dx_tup (da_cons (dx_add (dx_ix (dx_var 2) dx_int) (dx_mul (dx_var 6) (dx_ix (dx_var 3) dx_int))) (da_cons (dx_add (dx_ix (dx_var 2) dx_int) (dx_mul (dx_var 6) (dx_ix (dx_var 3) dx_int))) da_nil)))))))))))
  (db_one (ds_ret (dx_tup (da_cons (dx_var 2) (da_cons (dx_var 3) da_nil)))))))⟩)
theorem ok_steps_to (T : Txt K mg cA f fd) : FnOk P w K mg base CX0 5 (f 19) (fd 19) ["gap", "step", "e"] (spF ⟨K, cA⟩ m_steps_to) := by
  exact fn_F (k := 4) T.F_steps_to sc_steps_to (b := b_steps_to) (fun cdv A outer s H E hr => have sc := sc_steps_to; ⟨_, (db_cons (ds_set 3 sc.nd (dx_call (ok_minus T) hr T.G_minus T.F_minus.kp T.B_minus (da_cons (dx_var 0) (da_cons (dx_var 2) da_nil))))
  (db_one (ds_ret (dx_max rfl T.z_max (da_cons dx_int (da_cons (dx_sub dx_int (dx_fdiv (dx_sub dx_int (dx_mul (dx_ix (dx_var 3) dx_int) (dx_ix (dx_var 1) dx_int))) (dx_mul (dx_ix (dx_var 3) dx_int) (dx_ix (dx_var 1) dx_int)))) da_nil))))))⟩)
theorem ok_added (T : Txt K mg cA f fd) : FnOk P w K mg base CX0 1 (f 20) (fd 20) ["pair", "other", "k"] (spF ⟨K, cA⟩ m_added) := by
  exact fn_F (k := 0) T.F_added sc_added (b := b_added) (fun cdv A outer s H E hr => have sc := sc_added; ⟨_, (db_one (ds_ret (dx_tup (da_cons (dx_add (dx_ix (dx_var 0) dx_int) (dx_mul (dx_var 2) (dx_ix (dx_var 1) dx_int))) (da_cons (dx_add (dx_ix (dx_var 0) dx_int) (dx_mul (dx_var 2) (dx_ix (dx_var 1) dx_int))) da_nil)))))⟩)
theorem ok_near_paper (T : Txt K mg cA f fd) : FnOk P w K mg base CX0 7 (f 21) (fd 21) ["a", "e"] (spF ⟨K, cA⟩ m_near_paper) := by
  exact fn_F (k := 6) T.F_near_paper sc_near_paper (b := b_near_paper) (fun cdv A outer s H E hr => have sc := sc_near_paper; ⟨_, (db_cons (ds_if (dt_tru (dx_call (ok_at_most T) (hr.mono (by decide)) T.G_at_most T.F_at_most.kp T.B_at_most (da_cons (dx_call (ok_away T) hr T.G_away T.F_away.kp T.B_away (da_cons (dx_var 0) da_nil)) (da_cons (dx_var 1) da_nil)))) (db_one (ds_ret (dx_tup (da_cons dx_int (da_cons (dx_call (ok_nearest_whole T) (hr.mono (by decide)) T.G_nearest_whole T.F_nearest_whole.kp T.B_nearest_whole (da_cons (dx_var 0) da_nil)) (da_cons dx_non (da_cons dx_non da_nil))))))) db_nil)
  (db_cons (ds_par 2 3 rfl sc.nd (da_cons (dx_tup (da_cons (dx_call (ok_floor_of T) (hr.mono (by decide)) T.G_floor_of T.F_floor_of.kp T.B_floor_of (da_cons (dx_var 0) da_nil)) (da_cons dx_int da_nil))) (da_cons (dx_tup (da_cons dx_int (da_cons dx_int da_nil))) da_nil)))
  (db_one (ds_while 20000 PassesOwn.never (dt_tru dx_bl) (db_cons (ds_par 4 5 rfl sc.nd (da_cons (dx_call (ok_below_by T) (hr.mono (by decide)) T.G_below_by T.F_below_by.kp T.B_below_by (da_cons (dx_var 0) (da_cons (dx_var 2) da_nil))) (da_cons (dx_call (ok_above_by T) (hr.mono (by decide)) T.G_above_by T.F_above_by.kp T.B_above_by (da_cons (dx_var 0) (da_cons (dx_var 3) da_nil))) da_nil)))
  (db_cons (ds_if (dt_tru (dx_call (ok_is_less T) (hr.mono (by decide)) T.G_is_less T.F_is_less.kp T.B_is_less (da_cons (dx_var 4) (da_cons (dx_var 5) da_nil)))) (db_cons (ds_set 6 sc.nd (dx_call (ok_steps_to T) (hr.mono (by decide)) T.G_steps_to T.F_steps_to.kp T.B_steps_to (da_cons (dx_var 5) (da_cons (dx_var 4) (da_cons (dx_var 1) da_nil)))))
  (db_one (ds_set 3 sc.nd (dx_call (ok_added T) (hr.mono (by decide)) T.G_added T.F_added.kp T.B_added (da_cons (dx_var 3) (da_cons (dx_var 2) (da_cons (dx_sub (dx_var 6) dx_int) da_nil))))))) (db_cons (ds_set 6 sc.nd (dx_call (ok_steps_to T) (hr.mono (by decide)) T.G_steps_to T.F_steps_to.kp T.B_steps_to (da_cons (dx_var 4) (da_cons (dx_var 5) (da_cons (dx_var 1) da_nil)))))
  (db_one (ds_set 2 sc.nd (dx_call (ok_added T) (hr.mono (by decide)) T.G_added T.F_added.kp T.B_added (da_cons (dx_var 2) (da_cons (dx_var 3) (da_cons (dx_sub (dx_var 6) dx_int) da_nil))))))))
  (db_cons (ds_set 7 sc.nd (dx_call (ok_added T) (hr.mono (by decide)) T.G_added T.F_added.kp T.B_added (da_cons (dx_var 2) (da_cons (dx_var 3) (da_cons dx_int da_nil)))))
  (db_cons (ds_set 8 sc.nd (dx_call (ok_minus T) (hr.mono (by decide)) T.G_minus T.F_minus.kp T.B_minus (da_cons (dx_call (ok_times T) (hr.mono (by decide)) T.G_times T.F_times.kp T.B_times (da_cons (dx_var 0) (da_cons (dx_tup (da_cons (dx_ix (dx_var 7) dx_int) (da_cons dx_int da_nil))) da_nil))) (da_cons (dx_tup (da_cons (dx_ix (dx_var 7) dx_int) (da_cons dx_int da_nil))) da_nil))))
  (db_cons (ds_if (dt_tru (dx_call (ok_at_most T) (hr.mono (by decide)) T.G_at_most T.F_at_most.kp T.B_at_most (da_cons (dx_call (ok_absolute T) (hr.mono (by decide)) T.G_absolute T.F_absolute.kp T.B_absolute (da_cons (dx_var 8) da_nil)) (da_cons (dx_var 1) da_nil)))) (db_one (ds_ret (dx_tup (da_cons (dx_ix (dx_var 7) dx_int) (da_cons (dx_ix (dx_var 7) dx_int) (da_cons (dx_var 2) (da_cons (dx_var 3) da_nil))))))) db_nil)
  (db_one (ds_if (dt_ltA hr.units0 (dx_ix (dx_var 8) dx_int) dx_int) (db_one (ds_set 3 sc.nd (dx_var 7))) (db_one (ds_set 2 sc.nd (dx_var 7))))))))))))))⟩)
theorem ok_is_pair (T : Txt K mg cA f fd) : FnOk P w K mg base CX0 2 (f 22) (fd 22) ["value"] (spF ⟨K, cA⟩ m_is_pair) := by
  exact fn_F (k := 1) T.F_is_pair sc_is_pair (b := b_is_pair) (fun cdv A outer s H E hr => have sc := sc_is_pair; ⟨_, (db_one (ds_ret (dx_and (dx_isi T.z_isinstance T.z_tuple bb_tuple (dx_var 0)) (dx_and (dx_eq hr.units (dx_len T.z_len (da_cons (dx_var 0) da_nil)) dx_int) (dx_and (dx_call (ok_is_integer T) hr T.G_is_integer T.F_is_integer.kp T.B_is_integer (da_cons (dx_ix (dx_var 0) dx_int) da_nil)) (dx_one (dx_call (ok_is_integer T) hr T.G_is_integer T.F_is_integer.kp T.B_is_integer (da_cons (dx_ix (dx_var 0) dx_int) da_nil))))))))⟩)
theorem ok_are_neighbours (T : Txt K mg cA f fd) : FnOk P w K mg base CX0 6 (f 23) (fd 23) ["a", "low", "high"] (spF ⟨K, cA⟩ m_are_neighbours) := by
  exact fn_F (k := 5) T.F_are_neighbours sc_are_neighbours (b := b_are_neighbours) (fun cdv A outer s H E hr => have sc := sc_are_neighbours; ⟨_, (db_cons (ds_if (dw_or (dt_not (dt_tru (dx_call (ok_is_pair T) (hr.mono (by decide)) T.G_is_pair T.F_is_pair.kp T.B_is_pair (da_cons (dx_var 1) da_nil)))) (dw_or (dt_not (dt_tru (dx_call (ok_is_pair T) (hr.mono (by decide)) T.G_is_pair T.F_is_pair.kp T.B_is_pair (da_cons (dx_var 2) da_nil)))) (dw_or (dt_ltA hr.units0 (dx_ix (dx_var 1) dx_int) dx_int) (dw_or1 (dt_ltA hr.units0 (dx_ix (dx_var 2) dx_int) dx_int))))).tst (db_one (ds_ret dx_bl)) db_nil)
  (db_cons (ds_if (dt_ne hr.units (dx_sub (dx_mul (dx_ix (dx_var 2) dx_int) (dx_ix (dx_var 1) dx_int)) (dx_mul (dx_ix (dx_var 1) dx_int) (dx_ix (dx_var 2) dx_int))) dx_int) (db_one (ds_ret dx_bl)) db_nil)
  (db_one (ds_ret (dx_and (dx_ge (dx_ix (dx_call (ok_below_by T) hr T.G_below_by T.F_below_by.kp T.B_below_by (da_cons (dx_var 0) (da_cons (dx_var 1) da_nil))) dx_int) dx_int) (dx_one (dx_gt (dx_ix (dx_call (ok_above_by T) hr T.G_above_by T.F_above_by.kp T.B_above_by (da_cons (dx_var 0) (da_cons (dx_var 2) da_nil))) dx_int) dx_int)))))))⟩)
theorem ok_judge_near (T : Txt K mg cA f fd) : FnOk P w K mg base CX0 7 (f 24) (fd 24) ["a", "e", "value"] (spF ⟨K, cA⟩ m_judge_near) := by
  exact fn_F (k := 6) T.F_judge_near sc_judge_near (b := b_judge_near) (fun cdv A outer s H E hr => have sc := sc_judge_near; ⟨_, (db_cons (ds_if (dw_or (dt_not (dt_tru (dx_isi T.z_isinstance T.z_tuple bb_tuple (dx_var 2)))) (dw_or (dt_ne hr.units (dx_len T.z_len (da_cons (dx_var 2) da_nil)) dx_int) (dw_or (dt_not (dt_tru (dx_call (ok_is_integer T) (hr.mono (by decide)) T.G_is_integer T.F_is_integer.kp T.B_is_integer (da_cons (dx_ix (dx_var 2) dx_int) da_nil)))) (dw_or1 (dt_not (dt_tru (dx_call (ok_is_integer T) (hr.mono (by decide)) T.G_is_integer T.F_is_integer.kp T.B_is_integer (da_cons (dx_ix (dx_var 2) dx_int) da_nil)))))))).tst (db_one (ds_ret dx_bl)) db_nil)
  (db_cons (ds_asg (dg_tup 4 rfl (dgs_cons (dg_name 3 sc.nd) (dgs_cons (dg_name 4 sc.nd) (dgs_cons (dg_name 5 sc.nd) (dgs_cons (dg_name 6 sc.nd) dgs_nil))))) (dx_var 2))
  (db_cons (ds_if (dw_or (dt_ltA hr.units0 (dx_var 3) dx_int) (dw_or1 (dt_not (dt_tru (dx_call (ok_at_most T) (hr.mono (by decide)) T.G_at_most T.F_at_most.kp T.B_at_most (da_cons (dx_call (ok_absolute T) (hr.mono (by decide)) T.G_absolute T.F_absolute.kp T.B_absolute (da_cons (dx_call (ok_minus T) (hr.mono (by decide)) T.G_minus T.F_minus.kp T.B_minus (da_cons (dx_call (ok_times T) (hr.mono (by decide)) T.G_times T.F_times.kp T.B_times (da_cons (dx_var 0) (da_cons (dx_tup (da_cons (dx_var 3) (da_cons dx_int da_nil))) da_nil))) (da_cons (dx_tup (da_cons (dx_var 4) (da_cons dx_int da_nil))) da_nil))) da_nil)) (da_cons (dx_var 1) da_nil))))))).tst (db_one (ds_ret dx_bl)) db_nil)
  (db_cons (ds_if (dt_eq hr.units (dx_var 3) dx_int) (db_one (ds_ret (dx_and (dx_isA (dx_var 5) dx_non) (dx_one (dx_isA (dx_var 6) dx_non))))) db_nil)
  (db_cons (ds_if (dw_or (dt_not (dt_tru (dx_call (ok_are_neighbours T) hr T.G_are_neighbours T.F_are_neighbours.kp T.B_are_neighbours (da_cons (dx_var 0) (da_cons (dx_var 5) (da_cons (dx_var 6) da_nil)))))) (dw_or1 (dt_ltA hr.units0 (dx_add (dx_ix (dx_var 5) dx_int) (dx_ix (dx_var 6) dx_int)) (dx_var 3)))).tst (db_one (ds_ret dx_bl)) db_nil)
  (db_one (ds_ret (dx_and (dx_call (ok_is_less T) (hr.mono (by decide)) T.G_is_less T.F_is_less.kp T.B_is_less (da_cons (dx_var 1) (da_cons (dx_call (ok_below_by T) (hr.mono (by decide)) T.G_below_by T.F_below_by.kp T.B_below_by (da_cons (dx_var 0) (da_cons (dx_var 5) da_nil))) da_nil))) (dx_one (dx_call (ok_is_less T) (hr.mono (by decide)) T.G_is_less T.F_is_less.kp T.B_is_less (da_cons (dx_var 1) (da_cons (dx_call (ok_above_by T) (hr.mono (by decide)) T.G_above_by T.F_above_by.kp T.B_above_by (da_cons (dx_var 0) (da_cons (dx_var 6) da_nil))) da_nil))))))))))))⟩)
theorem ok_nearer (T : Txt K mg cA f fd) : FnOk P w K mg base CX0 5 (f 25) (fd 25) ["a", "low", "high"] (spF ⟨K, cA⟩ m_nearer) := by
  exact fn_F (k := 4) T.F_nearer sc_nearer (b := b_nearer) (fun cdv A outer s H E hr => have sc := sc_nearer; ⟨_, (db_cons (ds_if (dt_eq hr.units (dx_ix (dx_var 2) dx_int) dx_int) (db_one (ds_ret (dx_var 1))) db_nil)
  (db_cons (ds_set 3 sc.nd (dx_call (ok_minus T) hr T.G_minus T.F_minus.kp T.B_minus (da_cons (dx_var 0) (da_cons (dx_call (ok_ratio T) (hr.mono (by decide)) T.G_ratio T.F_ratio.kp T.B_ratio (da_cons (dx_ix (dx_var 1) dx_int) (da_cons (dx_ix (dx_var 1) dx_int) da_nil))) da_nil))))
  (db_cons (ds_set 4 sc.nd (dx_call (ok_minus T) hr T.G_minus T.F_minus.kp T.B_minus (da_cons (dx_call (ok_ratio T) (hr.mono (by decide)) T.G_ratio T.F_ratio.kp T.B_ratio (da_cons (dx_ix (dx_var 2) dx_int) (da_cons (dx_ix (dx_var 2) dx_int) da_nil))) (da_cons (dx_var 0) da_nil))))
  (db_cons (ds_if (dt_tru (dx_call (ok_is_less T) (hr.mono (by decide)) T.G_is_less T.F_is_less.kp T.B_is_less (da_cons (dx_var 3) (da_cons (dx_var 4) da_nil)))) (db_one (ds_ret (dx_var 1))) db_nil)
  (db_cons (ds_if (dt_tru (dx_call (ok_is_less T) (hr.mono (by decide)) T.G_is_less T.F_is_less.kp T.B_is_less (da_cons (dx_var 4) (da_cons (dx_var 3) da_nil)))) (db_one (ds_ret (dx_var 2))) db_nil)
  (db_one (ds_ret (dx_if (dt_ltA hr.units0 (dx_ix (dx_var 2) dx_int) (dx_ix (dx_var 1) dx_int)) (dx_var 2) (dx_var 1)))))))))⟩)
theorem ok_best_paper (T : Txt K mg cA f fd) : FnOk P w K mg base CX0 7 (f 26) (fd 26) ["a", "n"] (spF ⟨K, cA⟩ m_best_paper) := by
  exact fn_F (k := 6) T.F_best_paper sc_best_paper (b := b_best_paper) (fun cdv A outer s H E hr => have sc := sc_best_paper; ⟨_, (db_cons (ds_asg (dg_tup 2 rfl (dgs_cons (dg_name 2 sc.nd) (dgs_cons (dg_name 3 sc.nd) dgs_nil))) (dx_call (ok_neighbours T) hr T.G_neighbours T.F_neighbours.kp T.B_neighbours (da_cons (dx_var 0) (da_cons (dx_var 1) da_nil))))
  (db_one (ds_ret (dx_add (dx_call (ok_nearer T) (hr.mono (by decide)) T.G_nearer T.F_nearer.kp T.B_nearer (da_cons (dx_var 0) (da_cons (dx_var 2) (da_cons (dx_var 3) da_nil)))) (dx_tup (da_cons (dx_var 2) (da_cons (dx_var 3) da_nil)))))))⟩)
theorem ok_judge_best_fraction (T : Txt K mg cA f fd) : FnOk P w K mg base CX0 7 (f 27) (fd 27) ["a", "n", "value"] (spF ⟨K, cA⟩ m_judge_best_fraction) := by
  exact fn_F (k := 6) T.F_judge_best_fraction sc_judge_best_fraction (b := b_judge_best_fraction) (fun cdv A outer s H E hr => have sc := sc_judge_best_fraction; ⟨_, (db_cons (ds_if (dw_or (dt_not (dt_tru (dx_isi T.z_isinstance T.z_tuple bb_tuple (dx_var 2)))) (dw_or (dt_ne hr.units (dx_len T.z_len (da_cons (dx_var 2) da_nil)) dx_int) (dw_or1 (dt_not (dt_tru (dx_call (ok_is_pair T) (hr.mono (by decide)) T.G_is_pair T.F_is_pair.kp T.B_is_pair (da_cons (dx_sl (dx_var 2) do_none (do_some dx_int)) da_nil))))))).tst (db_one (ds_ret dx_bl)) db_nil)
  (db_cons (ds_asg (dg_tup 2 rfl (dgs_cons (dg_name 3 sc.nd) (dgs_cons (dg_name 4 sc.nd) dgs_nil))) (dx_sl (dx_var 2) (do_some dx_int) do_none))
  (db_cons (ds_if (dw_or (dt_not (dt_tru (dx_call (ok_are_neighbours T) hr T.G_are_neighbours T.F_are_neighbours.kp T.B_are_neighbours (da_cons (dx_var 0) (da_cons (dx_var 3) (da_cons (dx_var 4) da_nil)))))) (dw_or (dt_gt (dx_ix (dx_var 3) dx_int) (dx_var 1)) (dw_or (dt_gt (dx_ix (dx_var 4) dx_int) (dx_var 1)) (dw_or1 (dt_le (dx_add (dx_ix (dx_var 3) dx_int) (dx_ix (dx_var 4) dx_int)) (dx_var 1)))))).tst (db_one (ds_ret dx_bl)) db_nil)
  (db_one (ds_ret (dx_eq hr.units (dx_sl (dx_var 2) do_none (do_some dx_int)) (dx_call (ok_nearer T) (hr.mono (by decide)) T.G_nearer T.F_nearer.kp T.B_nearer (da_cons (dx_var 0) (da_cons (dx_var 3) (da_cons (dx_var 4) da_nil))))))))))⟩)
theorem ok_holding (T : Txt K mg cA f fd) : FnOk P w K mg base CX0 2 (f 28) (fd 28) ["readings", "moment"] (spF ⟨K, cA⟩ m_holding) := by
  exact fn_F (k := 1) T.F_holding sc_holding (b := b_holding) (fun cdv A outer s H E hr => have sc := sc_holding; ⟨_, (db_one (ds_ret (dx_len T.z_len (da_cons (df_lc [("one", 2)] rfl sc.nd (di_seq (dx_var 0)) (blkOk_by (by kernel_rfl)) (fun _ _ _ _ _ => (dg_name 2 sc.nd)) (by decide) (fun _ _ _ _ _ => (dts_one (dw_and (dt_tru (dx_call (ok_at_most T) hr T.G_at_most T.F_at_most.kp T.B_at_most (da_cons (dx_ix (dx_var 2) dx_int) (da_cons (dx_var 1) da_nil)))) (dw_and1 (dt_tru (dx_call (ok_at_most T) hr T.G_at_most T.F_at_most.kp T.B_at_most (da_cons (dx_var 1) (da_cons (dx_ix (dx_var 2) dx_int) da_nil)))))).tst)) (fun _ _ _ _ _ => (dx_var 2))).fz da_nil))))⟩)
theorem ok_agree_paper (T : Txt K mg cA f fd) : FnOk P w K mg base CX0 3 (f 29) (fd 29) ["readings", "f"] (spF ⟨K, cA⟩ m_agree_paper) := by
  exact fn_F (k := 2) T.F_agree_paper sc_agree_paper (b := b_agree_paper) (fun cdv A outer s H E hr => have sc := sc_agree_paper; ⟨_, (db_cons (ds_set 2 sc.nd (dx_sub (dx_len T.z_len (da_cons (dx_var 0) da_nil)) (dx_var 1)))
  (db_cons (ds_set 3 sc.nd dx_non)
  (db_cons (ds_set 4 sc.nd dx_non)
  (db_cons (ds_set 5 sc.nd dx_int)
  (db_cons (ds_for PassesOwn.never rfl (di_seq (dx_var 0)) (dg_name 6 sc.nd) (db_one (ds_for PassesOwn.never rfl (di_seq (dx_var 6)) (dg_name 7 sc.nd) (db_cons (ds_set 5 sc.nd (dx_max rfl T.z_max (da_cons (dx_var 5) (da_cons (dx_call (ok_holding T) hr T.G_holding T.F_holding.kp T.B_holding (da_cons (dx_var 0) (da_cons (dx_var 7) da_nil))) da_nil))))
  (db_one (ds_if (dt_ge (dx_call (ok_holding T) hr T.G_holding T.F_holding.kp T.B_holding (da_cons (dx_var 0) (da_cons (dx_var 7) da_nil))) (dx_var 2)) (db_cons (ds_set 3 sc.nd (dx_if (dw_or (dt_isA (dx_var 3) dx_non) (dw_or1 (dt_tru (dx_call (ok_is_less T) (hr.mono (by decide)) T.G_is_less T.F_is_less.kp T.B_is_less (da_cons (dx_var 7) (da_cons (dx_var 3) da_nil)))))).tst (dx_var 7) (dx_var 3)))
  (db_one (ds_set 4 sc.nd (dx_if (dw_or (dt_isA (dx_var 4) dx_non) (dw_or1 (dt_tru (dx_call (ok_is_less T) (hr.mono (by decide)) T.G_is_less T.F_is_less.kp T.B_is_less (da_cons (dx_var 4) (da_cons (dx_var 7) da_nil)))))).tst (dx_var 7) (dx_var 4))))) db_nil))))))
  (db_one (ds_ret (dx_if (dt_isA (dx_var 3) dx_non) (dx_tup (da_cons dx_str (da_cons (dx_var 5) da_nil))) (dx_tup (da_cons dx_str (da_cons (dx_var 3) (da_cons (dx_var 4) da_nil))))))))))))⟩)
theorem ok_judge_agree (T : Txt K mg cA f fd) : FnOk P w K mg base CX0 3 (f 30) (fd 30) ["readings", "f", "value"] (spF ⟨K, cA⟩ m_judge_agree) := by
  exact fn_F (k := 2) T.F_judge_agree sc_judge_agree (b := b_judge_agree) (fun cdv A outer s H E hr => have sc := sc_judge_agree; ⟨_, (db_cons (ds_set 3 sc.nd (dx_sub (dx_len T.z_len (da_cons (dx_var 0) da_nil)) (dx_var 1)))
  (db_cons (ds_if (dw_or (dt_not (dt_tru (dx_isi T.z_isinstance T.z_tuple bb_tuple (dx_var 2)))) (dw_or (dt_nin (units65 hr) (dx_len T.z_len (da_cons (dx_var 2) da_nil)) (dx_tup (da_cons dx_int (da_cons dx_int da_nil)))) (dw_or1 (dt_not (dt_tru (dx_isi T.z_isinstance T.z_str bb_str (dx_ix (dx_var 2) dx_int))))))).tst (db_one (ds_ret dx_bl)) db_nil)
  (db_cons (ds_lc2 4 [("one", 6), ("moment", 5)] [5] rfl sc.nd (di_seq (dx_var 0)) (blkOk_by (by kernel_rfl)) (fun _ _ _ _ _ => (dg_name 6 sc.nd)) (by decide) (fun _ _ _ _ _ => dts_nil) (fun _ _ _ _ _ => (di_seq (dx_var 6))) (fun _ _ _ _ _ => (dg_name 5 sc.nd)) (by decide) (fun _ _ _ _ _ => dts_nil) (fun _ _ _ _ _ => (dx_var 5)))
  (db_cons (ds_if (dt_eq hr.units (dx_ix (dx_var 2) dx_int) dx_str) (db_cons (ds_if (dw_or (dt_ne hr.units (dx_len T.z_len (da_cons (dx_var 2) da_nil)) dx_int) (dw_or1 (dt_not (dt_tru (dx_call (ok_is_integer T) (hr.mono (by decide)) T.G_is_integer T.F_is_integer.kp T.B_is_integer (da_cons (dx_ix (dx_var 2) dx_int) da_nil)))))).tst (db_one (ds_ret dx_bl)) db_nil)
  (db_one (ds_ret (dx_and (dx_ltA hr.units0 (dx_ix (dx_var 2) dx_int) (dx_var 3)) (dx_one (dx_eq hr.units (dx_max rfl T.z_max (da_cons (df_lc [("moment", 5)] rfl sc.nd (di_seq (dx_var 4)) (blkOk_by (by kernel_rfl)) (fun _ _ _ _ _ => (dg_name 5 sc.nd)) (by decide) (fun _ _ _ _ _ => dts_nil) (fun _ _ _ _ _ => (dx_call (ok_holding T) hr T.G_holding T.F_holding.kp T.B_holding (da_cons (dx_var 0) (da_cons (dx_var 5) da_nil))))).fz da_nil)) (dx_ix (dx_var 2) dx_int))))))) db_nil)
  (db_cons (ds_if (dw_or (dt_ne hr.units (dx_ix (dx_var 2) dx_int) dx_str) (dw_or (dt_ne hr.units (dx_len T.z_len (da_cons (dx_var 2) da_nil)) dx_int) (dw_or (dt_not (dt_tru (dx_call (ok_is_ratio T) hr T.G_is_ratio T.F_is_ratio.kp T.B_is_ratio (da_cons (dx_ix (dx_var 2) dx_int) da_nil)))) (dw_or1 (dt_not (dt_tru (dx_call (ok_is_ratio T) hr T.G_is_ratio T.F_is_ratio.kp T.B_is_ratio (da_cons (dx_ix (dx_var 2) dx_int) da_nil)))))))).tst (db_one (ds_ret dx_bl)) db_nil)
  (db_cons (ds_if (dw_or (dt_ltA hr.units0 (dx_call (ok_holding T) hr T.G_holding T.F_holding.kp T.B_holding (da_cons (dx_var 0) (da_cons (dx_ix (dx_var 2) dx_int) da_nil))) (dx_var 3)) (dw_or1 (dt_ltA hr.units0 (dx_call (ok_holding T) hr T.G_holding T.F_holding.kp T.B_holding (da_cons (dx_var 0) (da_cons (dx_ix (dx_var 2) dx_int) da_nil))) (dx_var 3)))).tst (db_one (ds_ret dx_bl)) db_nil)
  (db_cons (ds_for PassesOwn.never rfl (di_seq (dx_var 4)) (dg_name 5 sc.nd) (db_one (ds_if (dw_and (dt_ge (dx_call (ok_holding T) hr T.G_holding T.F_holding.kp T.B_holding (da_cons (dx_var 0) (da_cons (dx_var 5) da_nil))) (dx_var 3)) (dw_and1 (dw_or (dt_tru (dx_call (ok_is_less T) (hr.mono (by decide)) T.G_is_less T.F_is_less.kp T.B_is_less (da_cons (dx_var 5) (da_cons (dx_ix (dx_var 2) dx_int) da_nil)))) (dw_or1 (dt_tru (dx_call (ok_is_less T) (hr.mono (by decide)) T.G_is_less T.F_is_less.kp T.B_is_less (da_cons (dx_ix (dx_var 2) dx_int) (da_cons (dx_var 5) da_nil)))))).tst)).tst (db_one (ds_ret dx_bl)) db_nil)))
  (db_one (ds_ret (dx_and (dx_in (units65 hr) (dx_ix (dx_var 2) dx_int) (dx_var 4)) (dx_one (dx_in (units65 hr) (dx_ix (dx_var 2) dx_int) (dx_var 4)))))))))))))⟩)
theorem ok_leaps_before (T : Txt K mg cA f fd) : FnOk P w K mg base CX0 1 (f 31) (fd 31) ["rule", "y"] (spF ⟨K, cA⟩ m_leaps_before) := by
  exact fn_F (k := 0) T.F_leaps_before sc_leaps_before (b := b_leaps_before) (fun cdv A outer s H E hr => have sc := sc_leaps_before; ⟨_, (db_cons (ds_asg (dg_tup 3 rfl (dgs_cons (dg_name 2 sc.nd) (dgs_cons (dg_name 3 sc.nd) (dgs_cons (dg_name 4 sc.nd) dgs_nil)))) (dx_var 0))
  (db_one (ds_ret (dx_fdiv (dx_add (dx_mul (dx_var 3) (dx_var 1)) (dx_var 4)) (dx_var 2)))))⟩)
theorem ok_is_leap (T : Txt K mg cA f fd) : FnOk P w K mg base CX0 1 (f 32) (fd 32) ["rule", "y"] (spF ⟨K, cA⟩ m_is_leap) := by
  exact fn_F (k := 0) T.F_is_leap sc_is_leap (b := b_is_leap) (fun cdv A outer s H E hr => have sc := sc_is_leap; ⟨_, (db_cons (ds_asg (dg_tup 3 rfl (dgs_cons (dg_name 2 sc.nd) (dgs_cons (dg_name 3 sc.nd) (dgs_cons (dg_name 4 sc.nd) dgs_nil)))) (dx_var 0))
  (db_one (ds_ret (dx_ge (dx_mod (dx_add (dx_mul (dx_var 3) (dx_var 1)) (dx_var 4)) (dx_var 2)) (dx_sub (dx_var 2) (dx_var 3))))))⟩)
theorem ok_drift (T : Txt K mg cA f fd) : FnOk P w K mg base CX0 5 (f 33) (fd 33) ["rule", "f", "y"] (spF ⟨K, cA⟩ m_drift) := by
  exact fn_F (k := 4) T.F_drift sc_drift (b := b_drift) (fun cdv A outer s H E hr => have sc := sc_drift; ⟨_, (db_one (ds_ret (dx_call (ok_minus T) hr T.G_minus T.F_minus.kp T.B_minus (da_cons (dx_call (ok_times T) (hr.mono (by decide)) T.G_times T.F_times.kp T.B_times (da_cons (dx_var 1) (da_cons (dx_tup (da_cons (dx_var 2) (da_cons dx_int da_nil))) da_nil))) (da_cons (dx_tup (da_cons (dx_call (ok_leaps_before T) (hr.mono (by decide)) T.G_leaps_before T.F_leaps_before.kp T.B_leaps_before (da_cons (dx_var 0) (da_cons (dx_var 2) da_nil))) (da_cons dx_int da_nil))) da_nil)))))⟩)
theorem ok_extremes (T : Txt K mg cA f fd) : FnOk P w K mg base CX0 6 (f 34) (fd 34) ["rule", "f"] (spF ⟨K, cA⟩ m_extremes) := by
  exact fn_F (k := 5) T.F_extremes sc_extremes (b := b_extremes) (fun cdv A outer s H E hr => have sc := sc_extremes; ⟨_, (db_cons (ds_par 2 3 rfl sc.nd (da_cons (dx_call (ok_drift T) hr T.G_drift T.F_drift.kp T.B_drift (da_cons (dx_var 0) (da_cons (dx_var 1) (da_cons dx_int da_nil)))) (da_cons (dx_call (ok_drift T) hr T.G_drift T.F_drift.kp T.B_drift (da_cons (dx_var 0) (da_cons (dx_var 1) (da_cons dx_int da_nil)))) da_nil)))
  (db_cons (ds_asg (dg_tup 2 rfl (dgs_cons (dg_name 4 sc.nd) (dgs_cons (dg_name 5 sc.nd) dgs_nil))) (dx_tup (da_cons dx_int (da_cons dx_int da_nil))))
  (db_cons (ds_for PassesOwn.never rfl (di_rng2 T.z_range (da_cons dx_int (da_cons (dx_ix (dx_var 0) dx_int) da_nil))) (dg_name 6 sc.nd) (db_cons (ds_set 7 sc.nd (dx_call (ok_drift T) hr T.G_drift T.F_drift.kp T.B_drift (da_cons (dx_var 0) (da_cons (dx_var 1) (da_cons (dx_var 6) da_nil)))))
  (db_cons (ds_if (dt_tru (dx_call (ok_is_less T) (hr.mono (by decide)) T.G_is_less T.F_is_less.kp T.B_is_less (da_cons (dx_var 7) (da_cons (dx_var 2) da_nil)))) (db_one (ds_par 2 4 rfl sc.nd (da_cons (dx_var 7) (da_cons (dx_var 6) da_nil)))) db_nil)
  (db_one (ds_if (dt_tru (dx_call (ok_is_less T) (hr.mono (by decide)) T.G_is_less T.F_is_less.kp T.B_is_less (da_cons (dx_var 3) (da_cons (dx_var 7) da_nil)))) (db_one (ds_par 3 5 rfl sc.nd (da_cons (dx_var 7) (da_cons (dx_var 6) da_nil)))) db_nil)))))
  (db_one (ds_ret (dx_tup (da_cons (dx_var 2) (da_cons (dx_var 3) (da_cons (dx_var 4) (da_cons (dx_var 5) da_nil))))))))))⟩)
theorem ok_first_far (T : Txt K mg cA f fd) : FnOk P w K mg base CX0 6 (f 35) (fd 35) ["rule", "f", "most"] (spF ⟨K, cA⟩ m_first_far) := by
  obtain ⟨a_g_ONE, m_g_ONE, h_g_ONE⟩ := T.gt_ONE
  exact fn_F (k := 5) T.F_first_far sc_first_far (b := b_first_far) (fun cdv A outer s H E hr => have sc := sc_first_far; ⟨_, (db_cons (ds_for PassesOwn.never rfl (di_rng1 T.z_range (da_cons (dx_add (dx_var 2) dx_int) da_nil)) (dg_name 3 sc.nd) (db_one (ds_if (dt_tru (dx_call (ok_is_less T) (hr.mono (by decide)) T.G_is_less T.F_is_less.kp T.B_is_less (da_cons (dx_gobj m_g_ONE h_g_ONE) (da_cons (dx_call (ok_absolute T) (hr.mono (by decide)) T.G_absolute T.F_absolute.kp T.B_absolute (da_cons (dx_call (ok_drift T) hr T.G_drift T.F_drift.kp T.B_drift (da_cons (dx_var 0) (da_cons (dx_var 1) (da_cons (dx_var 3) da_nil)))) da_nil)) da_nil)))) (db_one (ds_ret (dx_var 3))) db_nil)))
  (db_one (ds_ret dx_non)))⟩)
theorem ok_drift_paper (T : Txt K mg cA f fd) : FnOk P w K mg base CX0 7 (f 36) (fd 36) ["rule", "f"] (spF ⟨K, cA⟩ m_drift_paper) := by
  obtain ⟨t_MOST_YEAR, h_MOST_YEAR⟩ := T.gi_MOST_YEAR
  exact fn_F (k := 6) T.F_drift_paper sc_drift_paper (b := b_drift_paper) (fun cdv A outer s H E hr => have sc := sc_drift_paper; ⟨_, (db_cons (ds_if (dt_eq hr.units (dx_var 1) (dx_call (ok_ratio T) (hr.mono (by decide)) T.G_ratio T.F_ratio.kp T.B_ratio (da_cons (dx_ix (dx_var 0) dx_int) (da_cons (dx_ix (dx_var 0) dx_int) da_nil)))) (db_one (ds_ret (dx_add (dx_tup (da_cons dx_str da_nil)) (dx_call (ok_extremes T) hr T.G_extremes T.F_extremes.kp T.B_extremes (da_cons (dx_var 0) (da_cons (dx_var 1) da_nil)))))) db_nil)
  (db_cons (ds_set 2 sc.nd (dx_call (ok_first_far T) hr T.G_first_far T.F_first_far.kp T.B_first_far (da_cons (dx_var 0) (da_cons (dx_var 1) (da_cons (dx_gint h_MOST_YEAR) da_nil)))))
  (db_cons (ds_if (dt_isA (dx_var 2) dx_non) (db_one ds_never) db_nil)
  (db_one (ds_ret (dx_tup (da_cons dx_str (da_cons (dx_var 2) da_nil))))))))⟩)
theorem ok_judge_drift (T : Txt K mg cA f fd) : FnOk P w K mg base CX0 7 (f 37) (fd 37) ["rule", "f", "value"] (spF ⟨K, cA⟩ m_judge_drift) := by
  obtain ⟨t_MOST_YEAR, h_MOST_YEAR⟩ := T.gi_MOST_YEAR
  exact fn_F (k := 6) T.F_judge_drift sc_judge_drift (b := b_judge_drift) (fun cdv A outer s H E hr => have sc := sc_judge_drift; ⟨_, (db_cons (ds_if (dw_or (dt_not (dt_tru (dx_isi T.z_isinstance T.z_tuple bb_tuple (dx_var 2)))) (dw_or (dt_nin (units65 hr) (dx_len T.z_len (da_cons (dx_var 2) da_nil)) (dx_tup (da_cons dx_int (da_cons dx_int da_nil)))) (dw_or1 (dt_not (dt_tru (dx_isi T.z_isinstance T.z_str bb_str (dx_ix (dx_var 2) dx_int))))))).tst (db_one (ds_ret dx_bl)) db_nil)
  (db_cons (ds_set 3 sc.nd (dx_eq hr.units (dx_var 1) (dx_call (ok_ratio T) (hr.mono (by decide)) T.G_ratio T.F_ratio.kp T.B_ratio (da_cons (dx_ix (dx_var 0) dx_int) (da_cons (dx_ix (dx_var 0) dx_int) da_nil)))))
  (db_cons (ds_if (dt_eq hr.units (dx_ix (dx_var 2) dx_int) dx_str) (db_cons (ds_if (dw_or (dt_ne hr.units (dx_len T.z_len (da_cons (dx_var 2) da_nil)) dx_int) (dw_or (dt_not (dt_tru (dx_var 3))) (dw_or (dt_not (dt_tru (dx_call (ok_is_ratio T) (hr.mono (by decide)) T.G_is_ratio T.F_is_ratio.kp T.B_is_ratio (da_cons (dx_ix (dx_var 2) dx_int) da_nil)))) (dw_or1 (dt_not (dt_tru (dx_call (ok_is_ratio T) (hr.mono (by decide)) T.G_is_ratio T.F_is_ratio.kp T.B_is_ratio (da_cons (dx_ix (dx_var 2) dx_int) da_nil)))))))).tst (db_one (ds_ret dx_bl)) db_nil)
  (db_cons (ds_if (dw_or (dt_not (dt_tru (dx_call (ok_is_integer T) (hr.mono (by decide)) T.G_is_integer T.F_is_integer.kp T.B_is_integer (da_cons (dx_ix (dx_var 2) dx_int) da_nil)))) (dw_or1 (dt_not (dt_tru (dx_call (ok_is_integer T) (hr.mono (by decide)) T.G_is_integer T.F_is_integer.kp T.B_is_integer (da_cons (dx_ix (dx_var 2) dx_int) da_nil)))))).tst (db_one (ds_ret dx_bl)) db_nil)
  (db_one (ds_ret (dx_eq hr.units (dx_sl (dx_var 2) (do_some dx_int) do_none) (dx_call (ok_extremes T) hr T.G_extremes T.F_extremes.kp T.B_extremes (da_cons (dx_var 0) (da_cons (dx_var 1) da_nil)))))))) db_nil)
  (db_cons (ds_if (dw_or (dt_ne hr.units (dx_ix (dx_var 2) dx_int) dx_str) (dw_or (dt_ne hr.units (dx_len T.z_len (da_cons (dx_var 2) da_nil)) dx_int) (dw_or (dt_tru (dx_var 3)) (dw_or1 (dt_not (dt_tru (dx_call (ok_is_integer T) (hr.mono (by decide)) T.G_is_integer T.F_is_integer.kp T.B_is_integer (da_cons (dx_ix (dx_var 2) dx_int) da_nil)))))))).tst (db_one (ds_ret dx_bl)) db_nil)
  (db_one (ds_ret (dx_and (dx_chain do_le do_le dx_int (dx_ix (dx_var 2) dx_int) (dx_gint h_MOST_YEAR)) (dx_one (dx_eq hr.units (dx_call (ok_first_far T) hr T.G_first_far T.F_first_far.kp T.B_first_far (da_cons (dx_var 0) (da_cons (dx_var 1) (da_cons (dx_ix (dx_var 2) dx_int) da_nil)))) (dx_ix (dx_var 2) dx_int))))))))))⟩)
theorem ok_month_length (T : Txt K mg cA f fd) : FnOk P w K mg base CX0 2 (f 38) (fd 38) ["calendar", "y", "month"] (spF ⟨K, cA⟩ m_month_length) := by
  exact fn_F (k := 1) T.F_month_length sc_month_length (b := b_month_length) (fun cdv A outer s H E hr => have sc := sc_month_length; ⟨_, (db_cons (ds_asg (dg_tup 3 rfl (dgs_cons (dg_name 3 sc.nd) (dgs_cons (dg_name 4 sc.nd) (dgs_cons (dg_name 5 sc.nd) dgs_nil)))) (dx_var 0))
  (db_one (ds_ret (dx_add (dx_ix (dx_var 4) (dx_var 2)) (dx_toint T.z_int (da_cons (dx_and (dx_eq hr.units (dx_var 2) (dx_var 5)) (dx_one (dx_call (ok_is_leap T) hr T.G_is_leap T.F_is_leap.kp T.B_is_leap (da_cons (dx_var 3) (da_cons (dx_var 1) da_nil))))) da_nil))))))⟩)
theorem ok_is_date (T : Txt K mg cA f fd) : FnOk P w K mg base CX0 3 (f 39) (fd 39) ["calendar", "value"] (spF ⟨K, cA⟩ m_is_date) := by
  exact fn_F (k := 2) T.F_is_date sc_is_date (b := b_is_date) (fun cdv A outer s H E hr => have sc := sc_is_date; ⟨_, (db_cons (ds_if (dw_or (dt_not (dt_tru (dx_isi T.z_isinstance T.z_tuple bb_tuple (dx_var 1)))) (dw_or (dt_ne hr.units (dx_len T.z_len (da_cons (dx_var 1) da_nil)) dx_int) (dw_or1 (dt_not (dt_tru (dx_all rfl T.z_all (da_cons (df_lc [("one", 2)] rfl sc.nd (di_seq (dx_var 1)) (blkOk_by (by kernel_rfl)) (fun _ _ _ _ _ => (dg_name 2 sc.nd)) (by decide) (fun _ _ _ _ _ => dts_nil) (fun _ _ _ _ _ => (dx_and (dx_call (ok_is_integer T) (hr.mono (by decide)) T.G_is_integer T.F_is_integer.kp T.B_is_integer (da_cons (dx_var 2) da_nil)) (dx_one (dx_ge (dx_var 2) dx_int))))).fz da_nil))))))).tst (db_one (ds_ret dx_bl)) db_nil)
  (db_cons (ds_if (dt_ge (dx_ix (dx_var 1) dx_int) (dx_len T.z_len (da_cons (dx_ix (dx_var 0) dx_int) da_nil))) (db_one (ds_ret dx_bl)) db_nil)
  (db_one (ds_ret (dx_ltA hr.units0 (dx_ix (dx_var 1) dx_int) (dx_call (ok_month_length T) hr T.G_month_length T.F_month_length.kp T.B_month_length (da_cons (dx_var 0) (da_cons (dx_ix (dx_var 1) dx_int) (da_cons (dx_ix (dx_var 1) dx_int) da_nil)))))))))⟩)
theorem ok_year_begin (T : Txt K mg cA f fd) : FnOk P w K mg base CX0 2 (f 40) (fd 40) ["calendar", "y"] (spF ⟨K, cA⟩ m_year_begin) := by
  exact fn_F (k := 1) T.F_year_begin sc_year_begin (b := b_year_begin) (fun cdv A outer s H E hr => have sc := sc_year_begin; ⟨_, (db_one (ds_ret (dx_add (dx_mul (dx_sum rfl T.z_sum (da_cons (dx_ix (dx_var 0) dx_int) da_nil)) (dx_var 1)) (dx_call (ok_leaps_before T) hr T.G_leaps_before T.F_leaps_before.kp T.B_leaps_before (da_cons (dx_ix (dx_var 0) dx_int) (da_cons (dx_var 1) da_nil))))))⟩)
theorem ok_day_of (T : Txt K mg cA f fd) : FnOk P w K mg base CX0 3 (f 41) (fd 41) ["calendar", "date"] (spF ⟨K, cA⟩ m_day_of) := by
  exact fn_F (k := 2) T.F_day_of sc_day_of (b := b_day_of) (fun cdv A outer s H E hr => have sc := sc_day_of; ⟨_, (db_cons (ds_asg (dg_tup 3 rfl (dgs_cons (dg_name 2 sc.nd) (dgs_cons (dg_name 3 sc.nd) (dgs_cons (dg_name 4 sc.nd) dgs_nil)))) (dx_var 1))
  (db_cons (ds_set 5 sc.nd (dx_sub (dx_call (ok_year_begin T) hr T.G_year_begin T.F_year_begin.kp T.B_year_begin (da_cons (dx_var 0) (da_cons (dx_var 2) da_nil))) (dx_call (ok_year_begin T) hr T.G_year_begin T.F_year_begin.kp T.B_year_begin (da_cons (dx_var 0) (da_cons dx_int da_nil)))))
  (db_one (ds_ret (dx_add (dx_add (dx_var 5) (dx_sum rfl T.z_sum (da_cons (df_lc [("k", 6)] rfl sc.nd (di_rng1 T.z_range (da_cons (dx_var 3) da_nil)) (blkOk_by (by kernel_rfl)) (fun _ _ _ _ _ => (dg_name 6 sc.nd)) (by decide) (fun _ _ _ _ _ => dts_nil) (fun _ _ _ _ _ => (dx_call (ok_month_length T) hr T.G_month_length T.F_month_length.kp T.B_month_length (da_cons (dx_var 0) (da_cons (dx_var 2) (da_cons (dx_var 6) da_nil)))))).fz da_nil))) (dx_var 4))))))⟩)
theorem ok_date_of (T : Txt K mg cA f fd) : FnOk P w K mg base CX0 4 (f 42) (fd 42) ["calendar", "n"] (spF ⟨K, cA⟩ m_date_of) := by
  exact fn_F (k := 3) T.F_date_of sc_date_of (b := b_date_of) (fun cdv A outer s H E hr => have sc := sc_date_of; ⟨_, (db_cons (ds_asg (dg_tup 3 rfl (dgs_cons (dg_name 2 sc.nd) (dgs_cons (dg_name 3 sc.nd) (dgs_cons (dg_name 4 sc.nd) dgs_nil)))) (dx_ix (dx_var 0) dx_int))
  (db_cons (ds_set 5 sc.nd (dx_add (dx_fdiv (dx_mul (dx_var 1) (dx_var 2)) (dx_add (dx_mul (dx_sum rfl T.z_sum (da_cons (dx_ix (dx_var 0) dx_int) da_nil)) (dx_var 2)) (dx_var 3))) dx_int))
  (db_cons (ds_while 20000 PassesOwn.never (dt_gt (dx_call (ok_day_of T) hr T.G_day_of T.F_day_of.kp T.B_day_of (da_cons (dx_var 0) (da_cons (dx_tup (da_cons (dx_var 5) (da_cons dx_int (da_cons dx_int da_nil)))) da_nil))) (dx_var 1)) (db_one (ds_augS 5 sc.nd dx_int)))
  (db_cons (ds_while 20000 PassesOwn.never (dt_le (dx_call (ok_day_of T) hr T.G_day_of T.F_day_of.kp T.B_day_of (da_cons (dx_var 0) (da_cons (dx_tup (da_cons (dx_add (dx_var 5) dx_int) (da_cons dx_int (da_cons dx_int da_nil)))) da_nil))) (dx_var 1)) (db_one (ds_augA 5 sc.nd dx_int)))
  (db_cons (ds_set 6 sc.nd (dx_sub (dx_var 1) (dx_call (ok_day_of T) hr T.G_day_of T.F_day_of.kp T.B_day_of (da_cons (dx_var 0) (da_cons (dx_tup (da_cons (dx_var 5) (da_cons dx_int (da_cons dx_int da_nil)))) da_nil)))))
  (db_cons (ds_set 7 sc.nd dx_int)
  (db_cons (ds_while 20000 PassesOwn.never (dt_ge (dx_var 6) (dx_call (ok_month_length T) (hr.mono (by decide)) T.G_month_length T.F_month_length.kp T.B_month_length (da_cons (dx_var 0) (da_cons (dx_var 5) (da_cons (dx_var 7) da_nil))))) (db_cons (ds_augS 6 sc.nd (dx_call (ok_month_length T) (hr.mono (by decide)) T.G_month_length T.F_month_length.kp T.B_month_length (da_cons (dx_var 0) (da_cons (dx_var 5) (da_cons (dx_var 7) da_nil)))))
  (db_one (ds_augA 7 sc.nd dx_int))))
  (db_one (ds_ret (dx_tup (da_cons (dx_var 5) (da_cons (dx_var 7) (da_cons (dx_var 6) da_nil)))))))))))))⟩)
theorem ok_falls_on (T : Txt K mg cA f fd) : FnOk P w K mg base CX0 4 (f 43) (fd 43) ["calendar", "date", "w", "d"] (spF ⟨K, cA⟩ m_falls_on) := by
  exact fn_F (k := 3) T.F_falls_on sc_falls_on (b := b_falls_on) (fun cdv A outer s H E hr => have sc := sc_falls_on; ⟨_, (db_one (ds_ret (dx_and (dx_call (ok_is_date T) hr T.G_is_date T.F_is_date.kp T.B_is_date (da_cons (dx_var 0) (da_cons (dx_var 1) da_nil))) (dx_one (dx_eq hr.units (dx_mod (dx_call (ok_day_of T) hr T.G_day_of T.F_day_of.kp T.B_day_of (da_cons (dx_var 0) (da_cons (dx_var 1) da_nil))) (dx_var 2)) (dx_var 3))))))⟩)
theorem ok_week_paper (T : Txt K mg cA f fd) : FnOk P w K mg base CX0 5 (f 44) (fd 44) ["calendar", "month", "day", "w", "d"] (spF ⟨K, cA⟩ m_week_paper) := by
  exact fn_F (k := 4) T.F_week_paper sc_week_paper (b := b_week_paper) (fun cdv A outer s H E hr => have sc := sc_week_paper; ⟨_, (db_cons (ds_set 5 sc.nd (dx_mul (dx_ix (dx_ix (dx_var 0) dx_int) dx_int) (dx_var 3)))
  (db_cons (ds_for PassesOwn.never rfl (di_rng1 T.z_range (da_cons (dx_var 5) da_nil)) (dg_name 6 sc.nd) (db_one (ds_if (dt_tru (dx_call (ok_falls_on T) hr T.G_falls_on T.F_falls_on.kp T.B_falls_on (da_cons (dx_var 0) (da_cons (dx_tup (da_cons (dx_var 6) (da_cons (dx_var 1) (da_cons (dx_var 2) da_nil)))) (da_cons (dx_var 3) (da_cons (dx_var 4) da_nil)))))) (db_one (ds_ret (dx_tup (da_cons dx_str (da_cons (dx_var 6) da_nil))))) db_nil)))
  (db_one (ds_ret (dx_tup (da_cons dx_str (da_cons (dx_var 5) da_nil)))))))⟩)
theorem ok_judge_week (T : Txt K mg cA f fd) : FnOk P w K mg base CX0 5 (f 45) (fd 45) ["calendar", "month", "day", "w", "d", "value"] (spF ⟨K, cA⟩ m_judge_week) := by
  obtain ⟨t_MOST_CYCLE, h_MOST_CYCLE⟩ := T.gi_MOST_CYCLE
  exact fn_F (k := 4) T.F_judge_week sc_judge_week (b := b_judge_week) (fun cdv A outer s H E hr => have sc := sc_judge_week; ⟨_, (db_cons (ds_if (dw_or (dt_not (dt_tru (dx_isi T.z_isinstance T.z_tuple bb_tuple (dx_var 5)))) (dw_or (dt_ne hr.units (dx_len T.z_len (da_cons (dx_var 5) da_nil)) dx_int) (dw_or (dt_not (dt_tru (dx_isi T.z_isinstance T.z_str bb_str (dx_ix (dx_var 5) dx_int)))) (dw_or1 (dt_not (dt_tru (dx_call (ok_is_integer T) (hr.mono (by decide)) T.G_is_integer T.F_is_integer.kp T.B_is_integer (da_cons (dx_ix (dx_var 5) dx_int) da_nil)))))))).tst (db_one (ds_ret dx_bl)) db_nil)
  (db_cons (ds_if (dt_eq hr.units (dx_ix (dx_var 5) dx_int) dx_str) (db_cons (ds_if (dw_or (dt_not (dt_chain do_le do_lt dx_int (dx_ix (dx_var 5) dx_int) (dx_gint h_MOST_CYCLE))) (dw_or1 (dt_not (dt_tru (dx_call (ok_falls_on T) hr T.G_falls_on T.F_falls_on.kp T.B_falls_on (da_cons (dx_var 0) (da_cons (dx_tup (da_cons (dx_ix (dx_var 5) dx_int) (da_cons (dx_var 1) (da_cons (dx_var 2) da_nil)))) (da_cons (dx_var 3) (da_cons (dx_var 4) da_nil))))))))).tst (db_one (ds_ret dx_bl)) db_nil)
  (db_one (ds_ret (dx_not (dx_any rfl T.z_any (da_cons (df_lc [("y", 7)] rfl sc.nd (di_rng1 T.z_range (da_cons (dx_ix (dx_var 5) dx_int) da_nil)) (blkOk_by (by kernel_rfl)) (fun _ _ _ _ _ => (dg_name 7 sc.nd)) (by decide) (fun _ _ _ _ _ => dts_nil) (fun _ _ _ _ _ => (dx_call (ok_falls_on T) hr T.G_falls_on T.F_falls_on.kp T.B_falls_on (da_cons (dx_var 0) (da_cons (dx_tup (da_cons (dx_var 7) (da_cons (dx_var 1) (da_cons (dx_var 2) da_nil)))) (da_cons (dx_var 3) (da_cons (dx_var 4) da_nil))))))).fz da_nil)))))) db_nil)
  (db_cons (ds_set 6 sc.nd (dx_ix (dx_var 5) dx_int))
  (db_cons (ds_if (dw_or (dt_ne hr.units (dx_ix (dx_var 5) dx_int) dx_str) (dw_or (dt_not (dt_chain do_le do_le dx_int (dx_var 6) (dx_gint h_MOST_CYCLE))) (dw_or1 (dt_ne hr.units (dx_mod (dx_var 6) (dx_ix (dx_ix (dx_var 0) dx_int) dx_int)) dx_int)))).tst (db_one (ds_ret dx_bl)) db_nil)
  (db_cons (ds_if (dt_ne hr.units (dx_mod (dx_call (ok_day_of T) (hr.mono (by decide)) T.G_day_of T.F_day_of.kp T.B_day_of (da_cons (dx_var 0) (da_cons (dx_tup (da_cons (dx_var 6) (da_cons dx_int (da_cons dx_int da_nil)))) da_nil))) (dx_var 3)) dx_int) (db_one (ds_ret dx_bl)) db_nil)
  (db_one (ds_ret (dx_not (dx_any rfl T.z_any (da_cons (df_lc [("y", 7)] rfl sc.nd (di_rng1 T.z_range (da_cons (dx_var 6) da_nil)) (blkOk_by (by kernel_rfl)) (fun _ _ _ _ _ => (dg_name 7 sc.nd)) (by decide) (fun _ _ _ _ _ => dts_nil) (fun _ _ _ _ _ => (dx_call (ok_falls_on T) hr T.G_falls_on T.F_falls_on.kp T.B_falls_on (da_cons (dx_var 0) (da_cons (dx_tup (da_cons (dx_var 7) (da_cons (dx_var 1) (da_cons (dx_var 2) da_nil)))) (da_cons (dx_var 3) (da_cons (dx_var 4) da_nil))))))).fz da_nil))))))))))⟩)
theorem ok__law_start (T : Txt K mg cA f fd) : FnOk P w K mg base CX0 1 (f 46) (fd 46) ["script"] (spN ⟨K, cA⟩ m__law_start) := by
  exact fn_N (k := 0) T.F__law_start sc__law_start (b := b__law_start) (fun cdv A outer s H E hr => have sc := sc__law_start; ⟨_, (db_one (ds_retF (df_lst (da_cons (df_lc [("cell", 1)] rfl sc.nd (di_seq (dx_sl (dx_var 0) do_none (do_some dx_int))) (blkOk_by (by kernel_rfl)) (fun _ _ _ _ _ => (dg_name 1 sc.nd)) (by decide) (fun _ _ _ _ _ => dts_nil) (fun _ _ _ _ _ => (dx_toint T.z_int (da_cons (dx_var 1) da_nil)))).fz (da_cons dx_int (da_cons dx_int (da_cons dx_int (da_cons dx_int da_nil))))))))⟩)
theorem ok__law_fill (T : Txt K mg cA f fd) : FnOk P w K mg base CX0 1 (f 47) (fd 47) ["c"] (spC ⟨K, cA⟩ m__law_fill) := by
  exact fn_C (k := 0) T.F__law_fill sc__law_fill (b := b__law_fill) (fun cdv A outer s H E hr => have sc := sc__law_fill; ⟨_, (db_cons (ds_setix 0 dx_int (dx_add (dx_ix (dx_var 0) dx_int) dx_int))
  (db_cons (ds_set 1 sc.nd (dx_add (dx_mul (dx_ix (dx_var 0) dx_int) dx_int) dx_int))
  (db_cons (ds_if (dt_ltA hr.units0 (dx_ix (dx_var 0) dx_int) (dx_len T.z_len (da_cons (dx_ix (dx_var 0) dx_int) da_nil))) (db_cons (ds_set 1 sc.nd (dx_max rfl T.z_max (da_cons (dx_ix (dx_ix (dx_var 0) dx_int) (dx_ix (dx_var 0) dx_int)) (da_cons (dx_sub (dx_sub dx_int dx_int) (dx_ix (dx_ix (dx_var 0) dx_int) (dx_ix (dx_var 0) dx_int))) da_nil))))
  (db_cons (ds_setix 0 dx_int (dx_add (dx_ix (dx_var 0) dx_int) dx_int))
  (db_one (ds_if (dt_ge (dx_var 1) (dx_pow dx_int dx_int)) (db_one (ds_ret (dx_var 1))) db_nil)))) db_nil)
  (db_cons (ds_if (dw_and (dt_tru (dx_ix (dx_var 0) dx_int)) (dw_and1 (dt_ge (dx_ix (dx_var 0) dx_int) (dx_len T.z_len (da_cons (dx_ix (dx_var 0) dx_int) da_nil))))).tst (db_one (ds_set 1 sc.nd (dx_add (dx_var 1) (dx_mod (dx_toint T.z_int (da_cons (dx_ix (dx_ix (dx_var 0) dx_int) (dx_neg dx_int)) da_nil)) dx_int)))) db_nil)
  (db_cons (ds_set 1 sc.nd (dx_mod (dx_toint T.z_int (da_cons (dx_add (dx_mul (dx_var 1) dx_int) (dx_mul (dx_ix (dx_var 0) dx_int) dx_int)) da_nil)) dx_int))
  (db_one (ds_ret (dx_add (dx_fdiv (dx_toint T.z_int (da_cons (dx_add (dx_add (dx_mul (dx_var 1) (dx_var 1)) (dx_mul (dx_ix (dx_var 0) dx_int) dx_int)) dx_int) da_nil)) dx_int) dx_int))))))))⟩)
theorem ok__law_take (T : Txt K mg cA f fd) : FnOk P w K mg base CX0 2 (f 48) (fd 48) ["c", "many"] (spC ⟨K, cA⟩ m__law_take) := by
  exact fn_C (k := 1) T.F__law_take sc__law_take (b := b__law_take) (fun cdv A outer s H E hr => have sc := sc__law_take; ⟨_, (db_cons (ds_if (dt_ltA hr.units0 (dx_ix (dx_var 0) dx_int) (dx_var 1)) (db_one (ds_setix 0 dx_int (dx_callC (ok__law_fill T) hr T.G__law_fill T.F__law_fill.kp T.B__law_fill (da_cons (dx_var 0) da_nil)))) db_nil)
  (db_cons (ds_set 2 sc.nd (dx_mod (dx_toint T.z_int (da_cons (dx_ix (dx_var 0) dx_int) da_nil)) (dx_var 1)))
  (db_cons (ds_setix 0 dx_int (dx_fdiv (dx_ix (dx_var 0) dx_int) (dx_var 1)))
  (db_one (ds_ret (dx_var 2))))))⟩)
theorem ok__law_divisor (T : Txt K mg cA f fd) : FnOk P w K mg base CX0 1 (f 49) (fd 49) ["a", "b"] (spF ⟨K, cA⟩ m__law_divisor) := by
  exact fn_F (k := 0) T.F__law_divisor sc__law_divisor (b := b__law_divisor) (fun cdv A outer s H E hr => have sc := sc__law_divisor; ⟨_, (db_cons (ds_for PassesOwn.never rfl (di_rng1 T.z_range (da_cons dx_int da_nil)) (dg_name 2 sc.nd) (db_cons (ds_if (dt_eq hr.units (dx_var 1) dx_int) (db_one (ds_ret (dx_abs T.z_abs (da_cons (dx_var 0) da_nil)))) db_nil)
  (db_one (ds_par 0 1 rfl sc.nd (da_cons (dx_var 1) (da_cons (dx_mod (dx_var 0) (dx_var 1)) da_nil))))))
  (db_one (ds_ret dx_int)))⟩)
theorem ok__law_fraction (T : Txt K mg cA f fd) : FnOk P w K mg base CX0 2 (f 50) (fd 50) ["n", "d"] (spF ⟨K, cA⟩ m__law_fraction) := by
  exact fn_F (k := 1) T.F__law_fraction sc__law_fraction (b := b__law_fraction) (fun cdv A outer s H E hr => have sc := sc__law_fraction; ⟨_, (db_cons (ds_set 2 sc.nd (dx_call (ok__law_divisor T) hr T.G__law_divisor T.F__law_divisor.kp T.B__law_divisor (da_cons (dx_var 0) (da_cons (dx_var 1) da_nil))))
  (db_cons (ds_set 2 sc.nd (dx_if (dt_gt (dx_var 1) dx_int) (dx_var 2) (dx_sub dx_int (dx_var 2))))
  (db_one (ds_ret (dx_tup (da_cons (dx_fdiv (dx_var 0) (dx_var 2)) (da_cons (dx_fdiv (dx_var 1) (dx_var 2)) da_nil)))))))⟩)
theorem ok__law_plus (T : Txt K mg cA f fd) : FnOk P w K mg base CX0 3 (f 51) (fd 51) ["a", "b"] (spF ⟨K, cA⟩ m__law_plus) := by
  exact fn_F (k := 2) T.F__law_plus sc__law_plus (b := b__law_plus) (fun cdv A outer s H E hr => have sc := sc__law_plus; ⟨_, (db_one (ds_ret (dx_call (ok__law_fraction T) hr T.G__law_fraction T.F__law_fraction.kp T.B__law_fraction (da_cons (dx_add (dx_mul (dx_ix (dx_var 0) dx_int) (dx_ix (dx_var 1) dx_int)) (dx_mul (dx_ix (dx_var 1) dx_int) (dx_ix (dx_var 0) dx_int))) (da_cons (dx_mul (dx_ix (dx_var 0) dx_int) (dx_ix (dx_var 1) dx_int)) da_nil)))))⟩)
theorem ok__law_times (T : Txt K mg cA f fd) : FnOk P w K mg base CX0 3 (f 52) (fd 52) ["a", "b"] (spF ⟨K, cA⟩ m__law_times) := by
  exact fn_F (k := 2) T.F__law_times sc__law_times (b := b__law_times) (fun cdv A outer s H E hr => have sc := sc__law_times; ⟨_, (db_one (ds_ret (dx_call (ok__law_fraction T) hr T.G__law_fraction T.F__law_fraction.kp T.B__law_fraction (da_cons (dx_mul (dx_ix (dx_var 0) dx_int) (dx_ix (dx_var 1) dx_int)) (da_cons (dx_mul (dx_ix (dx_var 0) dx_int) (dx_ix (dx_var 1) dx_int)) da_nil)))))⟩)
theorem ok__law_said (T : Txt K mg cA f fd) : FnOk P w K mg base CX0 1 (f 53) (fd 53) ["said", "due"] (spF ⟨K, cA⟩ m__law_said) := by
  exact fn_F (k := 0) T.F__law_said sc__law_said (b := b__law_said) (fun cdv A outer s H E hr => have sc := sc__law_said; ⟨_, (db_one (ds_ret (dx_and (dx_isi T.z_isinstance T.z_bool bb_bool (dx_var 0)) (dx_one (dx_eq hr.units (dx_var 0) (dx_var 1))))))⟩)
theorem ok__law_less (T : Txt K mg cA f fd) : FnOk P w K mg base CX0 1 (f 54) (fd 54) ["a", "b"] (spF ⟨K, cA⟩ m__law_less) := by
  exact fn_F (k := 0) T.F__law_less sc__law_less (b := b__law_less) (fun cdv A outer s H E hr => have sc := sc__law_less; ⟨_, (db_one (ds_ret (dx_ltA hr.units0 (dx_mul (dx_ix (dx_var 0) dx_int) (dx_ix (dx_var 1) dx_int)) (dx_mul (dx_ix (dx_var 1) dx_int) (dx_ix (dx_var 0) dx_int)))))⟩)
theorem ok__law_minus (T : Txt K mg cA f fd) : FnOk P w K mg base CX0 4 (f 55) (fd 55) ["a", "b"] (spF ⟨K, cA⟩ m__law_minus) := by
  exact fn_F (k := 3) T.F__law_minus sc__law_minus (b := b__law_minus) (fun cdv A outer s H E hr => have sc := sc__law_minus; ⟨_, (db_one (ds_ret (dx_call (ok__law_plus T) hr T.G__law_plus T.F__law_plus.kp T.B__law_plus (da_cons (dx_var 0) (da_cons (dx_tup (da_cons (dx_sub dx_int (dx_ix (dx_var 1) dx_int)) (da_cons (dx_ix (dx_var 1) dx_int) da_nil))) da_nil)))))⟩)
theorem ok__law_away (T : Txt K mg cA f fd) : FnOk P w K mg base CX0 3 (f 56) (fd 56) ["x"] (spF ⟨K, cA⟩ m__law_away) := by
  exact fn_F (k := 2) T.F__law_away sc__law_away (b := b__law_away) (fun cdv A outer s H E hr => have sc := sc__law_away; ⟨_, (db_cons (ds_set 1 sc.nd (dx_mod (dx_ix (dx_var 0) dx_int) (dx_ix (dx_var 0) dx_int)))
  (db_one (ds_ret (dx_call (ok__law_fraction T) hr T.G__law_fraction T.F__law_fraction.kp T.B__law_fraction (da_cons (dx_min rfl T.z_min (da_cons (dx_var 1) (da_cons (dx_sub (dx_ix (dx_var 0) dx_int) (dx_var 1)) da_nil))) (da_cons (dx_ix (dx_var 0) dx_int) da_nil))))))⟩)
theorem ok__law_far (T : Txt K mg cA f fd) : FnOk P w K mg base CX0 5 (f 57) (fd 57) ["a", "b"] (spF ⟨K, cA⟩ m__law_far) := by
  exact fn_F (k := 4) T.F__law_far sc__law_far (b := b__law_far) (fun cdv A outer s H E hr => have sc := sc__law_far; ⟨_, (db_cons (ds_set 2 sc.nd (dx_call (ok__law_minus T) hr T.G__law_minus T.F__law_minus.kp T.B__law_minus (da_cons (dx_var 0) (da_cons (dx_var 1) da_nil))))
  (db_one (ds_ret (dx_tup (da_cons (dx_abs T.z_abs (da_cons (dx_ix (dx_var 2) dx_int) da_nil)) (da_cons (dx_ix (dx_var 2) dx_int) da_nil))))))⟩)
theorem ok__law_around (T : Txt K mg cA f fd) : FnOk P w K mg base CX0 3 (f 58) (fd 58) ["a", "n"] (spF ⟨K, cA⟩ m__law_around) := by
  exact fn_F (k := 2) T.F__law_around sc__law_around (b := b__law_around) (fun cdv A outer s H E hr => have sc := sc__law_around; ⟨_, (db_cons (ds_par 2 3 rfl sc.nd (da_cons (dx_tup (da_cons (dx_fdiv (dx_ix (dx_var 0) dx_int) (dx_ix (dx_var 0) dx_int)) (da_cons dx_int da_nil))) (da_cons (dx_tup (da_cons dx_int (da_cons dx_int da_nil))) da_nil)))
  (db_cons (ds_for PassesOwn.never rfl (di_rng2 T.z_range (da_cons dx_int (da_cons (dx_add (dx_var 1) dx_int) da_nil))) (dg_name 4 sc.nd) (db_cons (ds_set 5 sc.nd (dx_fdiv (dx_mul (dx_ix (dx_var 0) dx_int) (dx_var 4)) (dx_ix (dx_var 0) dx_int)))
  (db_cons (ds_if (dt_gt (dx_mul (dx_var 5) (dx_ix (dx_var 2) dx_int)) (dx_mul (dx_ix (dx_var 2) dx_int) (dx_var 4))) (db_one (ds_set 2 sc.nd (dx_tup (da_cons (dx_var 5) (da_cons (dx_var 4) da_nil))))) db_nil)
  (db_one (ds_if (dw_or (dt_ltA hr.units0 (dx_mul (dx_add (dx_var 5) dx_int) (dx_ix (dx_var 3) dx_int)) (dx_mul (dx_ix (dx_var 3) dx_int) (dx_var 4))) (dw_or1 (dt_eq hr.units (dx_ix (dx_var 3) dx_int) dx_int))).tst (db_one (ds_set 3 sc.nd (dx_tup (da_cons (dx_add (dx_var 5) dx_int) (da_cons (dx_var 4) da_nil))))) db_nil)))))
  (db_one (ds_retF (df_lst (da_cons (dx_call (ok__law_fraction T) hr T.G__law_fraction T.F__law_fraction.kp T.B__law_fraction (da_cons (dx_ix (dx_var 2) dx_int) (da_cons (dx_ix (dx_var 2) dx_int) da_nil))) (da_cons (dx_call (ok__law_fraction T) hr T.G__law_fraction T.F__law_fraction.kp T.B__law_fraction (da_cons (dx_ix (dx_var 3) dx_int) (da_cons (dx_ix (dx_var 3) dx_int) da_nil))) da_nil)))))))⟩)
theorem ok__law_near_right (T : Txt K mg cA f fd) : FnOk P w K mg base CX0 8 (f 59) (fd 59) ["c"] (spC ⟨K, cA⟩ m__law_near_right) := by
  exact fn_C (k := 7) T.F__law_near_right sc__law_near_right (b := b__law_near_right) (fun cdv A outer s H E hr => have sc := sc__law_near_right; ⟨_, (db_cons (ds_asg (dg_tup 2 rfl (dgs_cons (dg_name 1 sc.nd) (dgs_cons (dg_name 2 sc.nd) dgs_nil))) (dx_tup (da_cons (dx_call (ok__law_fraction T) (hr.mono (by decide)) T.G__law_fraction T.F__law_fraction.kp T.B__law_fraction (da_cons (dx_callC (ok__law_take T) (hr.mono (by decide)) T.G__law_take T.F__law_take.kp T.B__law_take (da_cons (dx_var 0) (da_cons dx_int da_nil))) (da_cons (dx_add dx_int (dx_callC (ok__law_take T) (hr.mono (by decide)) T.G__law_take T.F__law_take.kp T.B__law_take (da_cons (dx_var 0) (da_cons dx_int da_nil)))) da_nil))) (da_cons (dx_call (ok__law_fraction T) (hr.mono (by decide)) T.G__law_fraction T.F__law_fraction.kp T.B__law_fraction (da_cons (dx_callC (ok__law_take T) (hr.mono (by decide)) T.G__law_take T.F__law_take.kp T.B__law_take (da_cons (dx_var 0) (da_cons dx_int da_nil))) (da_cons (dx_add dx_int (dx_callC (ok__law_take T) (hr.mono (by decide)) T.G__law_take T.F__law_take.kp T.B__law_take (da_cons (dx_var 0) (da_cons dx_int da_nil)))) da_nil))) da_nil))))
  (db_cons (ds_set 3 sc.nd (dx_ix (df_lc [("m", 3)] rfl sc.nd (di_rng2 T.z_range (da_cons dx_int (da_cons dx_int da_nil))) (blkOk_by (by kernel_rfl)) (fun _ _ _ _ _ => (dg_name 3 sc.nd)) (by decide) (fun _ _ _ _ _ => (dts_one (dt_not (dt_tru (dx_call (ok__law_less T) (hr.mono (by decide)) T.G__law_less T.F__law_less.kp T.B__law_less (da_cons (dx_var 2) (da_cons (dx_call (ok__law_away T) (hr.mono (by decide)) T.G__law_away T.F__law_away.kp T.B__law_away (da_cons (dx_call (ok__law_times T) (hr.mono (by decide)) T.G__law_times T.F__law_times.kp T.B__law_times (da_cons (dx_var 1) (da_cons (dx_tup (da_cons (dx_var 3) (da_cons dx_int da_nil))) da_nil))) da_nil)) da_nil))))))) (fun _ _ _ _ _ => (dx_var 3))).fz dx_int))
  (db_cons (ds_set 4 sc.nd (dx_call (ok_near_paper T) hr T.G_near_paper T.F_near_paper.kp T.B_near_paper (da_cons (dx_var 1) (da_cons (dx_var 2) da_nil))))
  (db_cons (ds_set 5 sc.nd (dx_call (ok__law_fraction T) (hr.mono (by decide)) T.G__law_fraction T.F__law_fraction.kp T.B__law_fraction (da_cons (dx_sub (dx_callC (ok__law_take T) (hr.mono (by decide)) T.G__law_take T.F__law_take.kp T.B__law_take (da_cons (dx_var 0) (da_cons dx_int da_nil))) dx_int) (da_cons (dx_add dx_int (dx_callC (ok__law_take T) (hr.mono (by decide)) T.G__law_take T.F__law_take.kp T.B__law_take (da_cons (dx_var 0) (da_cons dx_int da_nil)))) da_nil))))
  (db_cons (ds_if (dw_or (dt_ne hr.units (dx_call (ok_away T) (hr.mono (by decide)) T.G_away T.F_away.kp T.B_away (da_cons (dx_var 5) da_nil)) (dx_call (ok__law_away T) (hr.mono (by decide)) T.G__law_away T.F__law_away.kp T.B__law_away (da_cons (dx_var 5) da_nil))) (dw_or (dt_ne hr.units (dx_ix (dx_var 4) dx_int) (dx_var 3)) (dw_or (dt_isnotA (dx_call (ok_judge_near T) hr T.G_judge_near T.F_judge_near.kp T.B_judge_near (da_cons (dx_var 1) (da_cons (dx_var 2) (da_cons (dx_var 4) da_nil)))) dx_bl) (dw_or1 (dt_tru (dx_call (ok__law_less T) (hr.mono (by decide)) T.G__law_less T.F__law_less.kp T.B__law_less (da_cons (dx_var 2) (da_cons (dx_call (ok__law_far T) (hr.mono (by decide)) T.G__law_far T.F__law_far.kp T.B__law_far (da_cons (dx_call (ok__law_times T) (hr.mono (by decide)) T.G__law_times T.F__law_times.kp T.B__law_times (da_cons (dx_var 1) (da_cons (dx_tup (da_cons (dx_var 3) (da_cons dx_int da_nil))) da_nil))) (da_cons (dx_tup (da_cons (dx_ix (dx_var 4) dx_int) (da_cons dx_int da_nil))) da_nil))) da_nil)))))))).tst (db_one (ds_ret dx_bl)) db_nil)
  (db_cons (ds_set 6 sc.nd (dx_ix (df_lst (da_cons (dx_add (dx_tup (da_cons (dx_add (dx_ix (dx_var 4) dx_int) dx_int) da_nil)) (dx_sl (dx_var 4) (do_some dx_int) do_none)) (da_cons (dx_add (dx_tup (da_cons (dx_ix (dx_var 4) dx_int) (da_cons (dx_add (dx_ix (dx_var 4) dx_int) dx_int) da_nil))) (dx_sl (dx_var 4) (do_some dx_int) do_none)) (da_cons (dx_sl (dx_var 4) do_none (do_some dx_int)) (da_cons dx_non (da_cons (dx_add (dx_tup (da_cons (dx_mul (dx_ix (dx_var 4) dx_int) dx_int) da_nil)) (dx_sl (dx_var 4) (do_some dx_int) do_none)) da_nil)))))).fz (dx_callC (ok__law_take T) (hr.mono (by decide)) T.G__law_take T.F__law_take.kp T.B__law_take (da_cons (dx_var 0) (da_cons dx_int da_nil)))))
  (db_cons (ds_set 7 sc.nd dx_bl)
  (db_cons (ds_if (dw_and (dt_isnotA (dx_var 6) dx_non) (dw_and (dt_eq hr.units (dx_len T.z_len (da_cons (dx_var 6) da_nil)) dx_int) (dw_and1 (dt_eq hr.units (dx_ix (dx_var 6) dx_int) (dx_var 3))))).tst (db_one (ds_set 7 sc.nd (dx_not (dx_call (ok__law_less T) (hr.mono (by decide)) T.G__law_less T.F__law_less.kp T.B__law_less (da_cons (dx_var 2) (da_cons (dx_call (ok__law_far T) (hr.mono (by decide)) T.G__law_far T.F__law_far.kp T.B__law_far (da_cons (dx_call (ok__law_times T) (hr.mono (by decide)) T.G__law_times T.F__law_times.kp T.B__law_times (da_cons (dx_var 1) (da_cons (dx_tup (da_cons (dx_var 3) (da_cons dx_int da_nil))) da_nil))) (da_cons (dx_tup (da_cons (dx_ix (dx_var 6) dx_int) (da_cons dx_int da_nil))) da_nil))) da_nil)))))) db_nil)
  (db_cons (ds_if (dw_and (dt_not (dt_tru (dx_call (ok__law_said T) (hr.mono (by decide)) T.G__law_said T.F__law_said.kp T.B__law_said (da_cons (dx_call (ok_judge_near T) hr T.G_judge_near T.F_judge_near.kp T.B_judge_near (da_cons (dx_var 1) (da_cons (dx_var 2) (da_cons (dx_var 6) da_nil)))) (da_cons (dx_var 7) da_nil))))) (dw_and (dt_isnotA (dx_var 6) dx_non) (dw_and (dt_eq hr.units (dx_len T.z_len (da_cons (dx_var 6) da_nil)) dx_int) (dw_and1 (dt_eq hr.units (dx_ix (dx_var 6) dx_int) (dx_var 3)))))).tst (db_one (ds_ret dx_bl)) db_nil)
  (db_cons (ds_set 8 sc.nd (dx_add dx_int (dx_callC (ok__law_take T) (hr.mono (by decide)) T.G__law_take T.F__law_take.kp T.B__law_take (da_cons (dx_var 0) (da_cons dx_int da_nil)))))
  (db_cons (ds_asg (dg_tup 2 rfl (dgs_cons (dg_tup 2 rfl (dgs_cons (dg_name 9 sc.nd) (dgs_cons (dg_name 10 sc.nd) dgs_nil))) (dgs_cons (dg_tup 2 rfl (dgs_cons (dg_name 11 sc.nd) (dgs_cons (dg_name 12 sc.nd) dgs_nil))) dgs_nil))) (dx_call (ok_neighbours T) (hr.mono (by decide)) T.G_neighbours T.F_neighbours.kp T.B_neighbours (da_cons (dx_var 1) (da_cons (dx_var 8) da_nil))))
  (db_cons (ds_asg (dg_tup 2 rfl (dgs_cons (dg_name 13 sc.nd) (dgs_cons (dg_name 14 sc.nd) dgs_nil))) (dx_call (ok__law_around T) (hr.mono (by decide)) T.G__law_around T.F__law_around.kp T.B__law_around (da_cons (dx_var 1) (da_cons (dx_var 8) da_nil))))
  (db_cons (ds_if (dw_or (dt_ne hr.units (dx_sub (dx_mul (dx_var 11) (dx_var 10)) (dx_mul (dx_var 9) (dx_var 12))) dx_int) (dw_or (dt_gt (dx_var 10) (dx_var 8)) (dw_or (dt_gt (dx_var 12) (dx_var 8)) (dw_or (dt_le (dx_add (dx_var 10) (dx_var 12)) (dx_var 8)) (dw_or (dt_gt (dx_mul (dx_var 9) (dx_ix (dx_var 1) dx_int)) (dx_mul (dx_ix (dx_var 1) dx_int) (dx_var 10))) (dw_or (dw_and (dt_gt (dx_var 12) dx_int) (dw_and1 (dt_le (dx_mul (dx_var 11) (dx_ix (dx_var 1) dx_int)) (dx_mul (dx_ix (dx_var 1) dx_int) (dx_var 12))))).tst (dw_or (dt_ne hr.units (dx_tup (da_cons (dx_var 9) (da_cons (dx_var 10) da_nil))) (dx_var 13)) (dw_or1 (dw_and (dt_gt (dx_var 12) dx_int) (dw_and1 (dt_ne hr.units (dx_tup (da_cons (dx_var 11) (da_cons (dx_var 12) da_nil))) (dx_var 14)))).tst)))))))).tst (db_one (ds_ret dx_bl)) db_nil)
  (db_cons (ds_set 15 sc.nd dx_non)
  (db_cons (ds_for PassesOwn.never rfl (di_rng2 T.z_range (da_cons dx_int (da_cons (dx_add (dx_var 8) dx_int) da_nil))) (dg_name 16 sc.nd) (db_one (ds_for PassesOwn.never rfl (di_seq (df_lst (da_cons (dx_fdiv (dx_mul (dx_ix (dx_var 1) dx_int) (dx_var 16)) (dx_ix (dx_var 1) dx_int)) (da_cons (dx_add (dx_fdiv (dx_mul (dx_ix (dx_var 1) dx_int) (dx_var 16)) (dx_ix (dx_var 1) dx_int)) dx_int) da_nil))).fz) (dg_name 17 sc.nd) (db_cons (ds_set 18 sc.nd (dx_call (ok__law_fraction T) (hr.mono (by decide)) T.G__law_fraction T.F__law_fraction.kp T.B__law_fraction (da_cons (dx_var 17) (da_cons (dx_var 16) da_nil))))
  (db_cons (ds_set 19 sc.nd (dx_call (ok__law_far T) (hr.mono (by decide)) T.G__law_far T.F__law_far.kp T.B__law_far (da_cons (dx_var 1) (da_cons (dx_var 18) da_nil))))
  (db_one (ds_if (dw_or (dt_isA (dx_var 15) dx_non) (dw_or (dt_tru (dx_call (ok__law_less T) (hr.mono (by decide)) T.G__law_less T.F__law_less.kp T.B__law_less (da_cons (dx_var 19) (da_cons (dx_ix (dx_var 15) dx_int) da_nil)))) (dw_or1 (dw_and (dt_eq hr.units (dx_var 19) (dx_ix (dx_var 15) dx_int)) (dw_and1 (dt_ltA hr.units0 (dx_tup (da_cons (dx_ix (dx_var 18) dx_int) (da_cons (dx_ix (dx_var 18) dx_int) da_nil))) (dx_tup (da_cons (dx_ix (dx_ix (dx_var 15) dx_int) dx_int) (da_cons (dx_ix (dx_ix (dx_var 15) dx_int) dx_int) da_nil)))))).tst))).tst (db_one (ds_set 15 sc.nd (dx_tup (da_cons (dx_var 19) (da_cons (dx_var 18) da_nil))))) db_nil)))))))
  (db_cons (ds_set 20 sc.nd (dx_call (ok_best_paper T) hr T.G_best_paper T.F_best_paper.kp T.B_best_paper (da_cons (dx_var 1) (da_cons (dx_var 8) da_nil))))
  (db_cons (ds_if (dw_or (dt_ne hr.units (dx_sl (dx_var 20) do_none (do_some dx_int)) (dx_ix (dx_var 15) dx_int)) (dw_or1 (dt_isnotA (dx_call (ok_judge_best_fraction T) hr T.G_judge_best_fraction T.F_judge_best_fraction.kp T.B_judge_best_fraction (da_cons (dx_var 1) (da_cons (dx_var 8) (da_cons (dx_var 20) da_nil)))) dx_bl))).tst (db_one (ds_ret dx_bl)) db_nil)
  (db_one (ds_ret (dx_and (dx_isA (dx_call (ok_judge_best_fraction T) hr T.G_judge_best_fraction T.F_judge_best_fraction.kp T.B_judge_best_fraction (da_cons (dx_var 1) (da_cons (dx_var 8) (da_cons (dx_add (dx_tup (da_cons (dx_add (dx_ix (dx_var 20) dx_int) dx_int) da_nil)) (dx_sl (dx_var 20) (do_some dx_int) do_none)) da_nil)))) dx_bl) (dx_one (dx_eq hr.units (dx_sl (dx_call (ok_best_paper T) hr T.G_best_paper T.F_best_paper.kp T.B_best_paper (da_cons (dx_var 1) (da_cons (dx_ix (dx_var 1) dx_int) da_nil))) do_none (do_some dx_int)) (dx_var 1)))))))))))))))))))))))⟩)
theorem ok__law_rule (T : Txt K mg cA f fd) : FnOk P w K mg base CX0 3 (f 60) (fd 60) ["c"] (spC ⟨K, cA⟩ m__law_rule) := by
  exact fn_C (k := 2) T.F__law_rule sc__law_rule (b := b__law_rule) (fun cdv A outer s H E hr => have sc := sc__law_rule; ⟨_, (db_cons (ds_set 1 sc.nd (dx_add dx_int (dx_callC (ok__law_take T) hr T.G__law_take T.F__law_take.kp T.B__law_take (da_cons (dx_var 0) (da_cons dx_int da_nil)))))
  (db_one (ds_ret (dx_tup (da_cons (dx_var 1) (da_cons (dx_callC (ok__law_take T) hr T.G__law_take T.F__law_take.kp T.B__law_take (da_cons (dx_var 0) (da_cons (dx_add (dx_var 1) dx_int) da_nil))) (da_cons (dx_callC (ok__law_take T) hr T.G__law_take T.F__law_take.kp T.B__law_take (da_cons (dx_var 0) (da_cons (dx_var 1) da_nil))) da_nil)))))))⟩)
theorem ok__law_leap (T : Txt K mg cA f fd) : FnOk P w K mg base CX0 1 (f 61) (fd 61) ["rule", "y"] (spF ⟨K, cA⟩ m__law_leap) := by
  exact fn_F (k := 0) T.F__law_leap sc__law_leap (b := b__law_leap) (fun cdv A outer s H E hr => have sc := sc__law_leap; ⟨_, (db_cons (ds_asg (dg_tup 3 rfl (dgs_cons (dg_name 2 sc.nd) (dgs_cons (dg_name 3 sc.nd) (dgs_cons (dg_name 4 sc.nd) dgs_nil)))) (dx_var 0))
  (db_one (ds_ret (dx_ge (dx_mod (dx_add (dx_mul (dx_var 3) (dx_var 1)) (dx_var 4)) (dx_var 2)) (dx_sub (dx_var 2) (dx_var 3))))))⟩)
theorem ok__law_drift_right (T : Txt K mg cA f fd) : FnOk P w K mg base CX0 8 (f 62) (fd 62) ["c"] (spC ⟨K, cA⟩ m__law_drift_right) := by
  exact fn_C (k := 7) T.F__law_drift_right sc__law_drift_right (b := b__law_drift_right) (fun cdv A outer s H E hr => have sc := sc__law_drift_right; ⟨_, (db_cons (ds_set 1 sc.nd (dx_callC (ok__law_rule T) (hr.mono (by decide)) T.G__law_rule T.F__law_rule.kp T.B__law_rule (da_cons (dx_var 0) da_nil)))
  (db_cons (ds_asg (dg_tup 3 rfl (dgs_cons (dg_name 2 sc.nd) (dgs_cons (dg_name 3 sc.nd) (dgs_cons (dg_name 4 sc.nd) dgs_nil)))) (dx_var 1))
  (db_cons (ds_set 5 sc.nd (dx_callC (ok__law_take T) (hr.mono (by decide)) T.G__law_take T.F__law_take.kp T.B__law_take (da_cons (dx_var 0) (da_cons dx_int da_nil))))
  (db_cons (ds_set 6 sc.nd (dx_len T.z_len (da_cons (df_lc [("k", 11)] rfl sc.nd (di_rng1 T.z_range (da_cons (dx_var 5) da_nil)) (blkOk_by (by kernel_rfl)) (fun _ _ _ _ _ => (dg_name 11 sc.nd)) (by decide) (fun _ _ _ _ _ => (dts_one (dt_tru (dx_call (ok__law_leap T) (hr.mono (by decide)) T.G__law_leap T.F__law_leap.kp T.B__law_leap (da_cons (dx_var 1) (da_cons (dx_var 11) da_nil)))))) (fun _ _ _ _ _ => (dx_var 11))).fz da_nil)))
  (db_cons (ds_if (dw_or (dt_not (dt_tru (dx_call (ok__law_said T) (hr.mono (by decide)) T.G__law_said T.F__law_said.kp T.B__law_said (da_cons (dx_call (ok_is_leap T) (hr.mono (by decide)) T.G_is_leap T.F_is_leap.kp T.B_is_leap (da_cons (dx_var 1) (da_cons (dx_var 5) da_nil))) (da_cons (dx_call (ok__law_leap T) (hr.mono (by decide)) T.G__law_leap T.F__law_leap.kp T.B__law_leap (da_cons (dx_var 1) (da_cons (dx_var 5) da_nil))) da_nil))))) (dw_or1 (dt_ne hr.units (dx_repr T.z_repr (da_cons (dx_call (ok_leaps_before T) (hr.mono (by decide)) T.G_leaps_before T.F_leaps_before.kp T.B_leaps_before (da_cons (dx_var 1) (da_cons (dx_var 5) da_nil))) da_nil)) (dx_repr T.z_repr (da_cons (dx_var 6) da_nil))))).tst (db_one (ds_ret dx_bl)) db_nil)
  (db_cons (ds_set 7 sc.nd (dx_if (dt_eq hr.units (dx_callC (ok__law_take T) (hr.mono (by decide)) T.G__law_take T.F__law_take.kp T.B__law_take (da_cons (dx_var 0) (da_cons dx_int da_nil))) dx_int) (dx_call (ok__law_fraction T) (hr.mono (by decide)) T.G__law_fraction T.F__law_fraction.kp T.B__law_fraction (da_cons (dx_var 3) (da_cons (dx_var 2) da_nil))) (dx_call (ok__law_fraction T) (hr.mono (by decide)) T.G__law_fraction T.F__law_fraction.kp T.B__law_fraction (da_cons (dx_callC (ok__law_take T) (hr.mono (by decide)) T.G__law_take T.F__law_take.kp T.B__law_take (da_cons (dx_var 0) (da_cons dx_int da_nil))) (da_cons dx_int da_nil)))))
  (db_cons (ds_set 8 sc.nd (dx_call (ok_drift_paper T) hr T.G_drift_paper T.F_drift_paper.kp T.B_drift_paper (da_cons (dx_var 1) (da_cons (dx_var 7) da_nil))))
  (db_cons (ds_asgO 9 10 (dg_tup 2 rfl (dgs_cons (dg_name 9 sc.nd) (dgs_cons (dg_name 10 sc.nd) dgs_nil))) (df_lst da_nil) dx_int)
  (db_cons (ds_for PassesOwn.never rfl (di_rng1 T.z_range (da_cons dx_int da_nil)) (dg_name 11 sc.nd) (db_cons (ds_append 9 (dx_tup (da_cons (dx_sub (dx_mul (dx_ix (dx_var 7) dx_int) (dx_var 11)) (dx_mul (dx_var 10) (dx_ix (dx_var 7) dx_int))) (da_cons (dx_ix (dx_var 7) dx_int) da_nil))))
  (db_one (ds_set 10 sc.nd (dx_add (dx_var 10) (dx_toint T.z_int (da_cons (dx_call (ok__law_leap T) (hr.mono (by decide)) T.G__law_leap T.F__law_leap.kp T.B__law_leap (da_cons (dx_var 1) (da_cons (dx_var 11) da_nil))) da_nil)))))))
  (db_freeze 9
  (db_cons (ds_if (dt_eq hr.units (dx_mul (dx_ix (dx_var 7) dx_int) (dx_var 2)) (dx_mul (dx_var 3) (dx_ix (dx_var 7) dx_int))) (db_cons (ds_lc 12 [("one", 18)] rfl sc.nd (di_seq (dx_sl (dx_var 9) do_none (do_some (dx_var 2)))) (blkOk_by (by kernel_rfl)) (fun _ _ _ _ _ => (dg_name 18 sc.nd)) (by decide) (fun _ _ _ _ _ => dts_nil) (fun _ _ _ _ _ => (dx_call (ok__law_fraction T) (hr.mono (by decide)) T.G__law_fraction T.F__law_fraction.kp T.B__law_fraction (da_cons (dx_ix (dx_var 18) dx_int) (da_cons (dx_ix (dx_var 18) dx_int) da_nil)))))
  (db_cons (ds_par 13 14 rfl sc.nd (da_cons (dx_min rfl T.z_min (da_cons (df_lc [("one", 18)] rfl sc.nd (di_seq (dx_sl (dx_var 9) do_none (do_some (dx_var 2)))) (blkOk_by (by kernel_rfl)) (fun _ _ _ _ _ => (dg_name 18 sc.nd)) (by decide) (fun _ _ _ _ _ => dts_nil) (fun _ _ _ _ _ => (dx_ix (dx_var 18) dx_int))).fz da_nil)) (da_cons (dx_max rfl T.z_max (da_cons (df_lc [("one", 18)] rfl sc.nd (di_seq (dx_sl (dx_var 9) do_none (do_some (dx_var 2)))) (blkOk_by (by kernel_rfl)) (fun _ _ _ _ _ => (dg_name 18 sc.nd)) (by decide) (fun _ _ _ _ _ => dts_nil) (fun _ _ _ _ _ => (dx_ix (dx_var 18) dx_int))).fz da_nil)) da_nil)))
  (db_cons (ds_set 15 sc.nd (dx_tup (da_cons dx_str (da_cons (dx_call (ok__law_fraction T) (hr.mono (by decide)) T.G__law_fraction T.F__law_fraction.kp T.B__law_fraction (da_cons (dx_var 13) (da_cons (dx_ix (dx_var 7) dx_int) da_nil))) (da_cons (dx_call (ok__law_fraction T) (hr.mono (by decide)) T.G__law_fraction T.F__law_fraction.kp T.B__law_fraction (da_cons (dx_var 14) (da_cons (dx_ix (dx_var 7) dx_int) da_nil))) (da_cons (dx_idxD (units65 hr) (dx_var 12) (dx_call (ok__law_fraction T) (hr.mono (by decide)) T.G__law_fraction T.F__law_fraction.kp T.B__law_fraction (da_cons (dx_var 13) (da_cons (dx_ix (dx_var 7) dx_int) da_nil)))) (da_cons (dx_idxD (units65 hr) (dx_var 12) (dx_call (ok__law_fraction T) (hr.mono (by decide)) T.G__law_fraction T.F__law_fraction.kp T.B__law_fraction (da_cons (dx_var 14) (da_cons (dx_ix (dx_var 7) dx_int) da_nil)))) da_nil)))))))
  (db_one (ds_set 16 sc.nd (dx_tup (da_cons dx_str (da_cons (dx_add dx_int (dx_callC (ok__law_take T) (hr.mono (by decide)) T.G__law_take T.F__law_take.kp T.B__law_take (da_cons (dx_var 0) (da_cons dx_int da_nil)))) da_nil)))))))) (db_cons (ds_lc 17 [("k", 11)] rfl sc.nd (di_rng1 T.z_range (da_cons dx_int da_nil)) (blkOk_by (by kernel_rfl)) (fun _ _ _ _ _ => (dg_name 11 sc.nd)) (by decide) (fun _ _ _ _ _ => (dts_one (dt_gt (dx_abs T.z_abs (da_cons (dx_ix (dx_ix (dx_var 9) (dx_var 11)) dx_int) da_nil)) (dx_ix (dx_var 7) dx_int)))) (fun _ _ _ _ _ => (dx_var 11)))
  (db_cons (ds_if (dt_not (dt_tru (dx_var 17))) (db_one (ds_ret (dx_and (dx_eq hr.units (dx_ix (dx_var 8) dx_int) dx_str) (dx_one (dx_isA (dx_call (ok_judge_drift T) hr T.G_judge_drift T.F_judge_drift.kp T.B_judge_drift (da_cons (dx_var 1) (da_cons (dx_var 7) (da_cons (dx_var 8) da_nil)))) dx_bl))))) db_nil)
  (db_cons (ds_set 15 sc.nd (dx_tup (da_cons dx_str (da_cons (dx_ix (dx_var 17) dx_int) da_nil))))
  (db_one (ds_set 16 sc.nd (dx_tup (da_cons dx_str (da_cons (dx_add (dx_ix (dx_var 17) dx_int) dx_int) da_nil)))))))))
  (db_one (ds_ret (dx_and (dx_eq hr.units (dx_var 8) (dx_var 15)) (dx_and (dx_isA (dx_call (ok_judge_drift T) hr T.G_judge_drift T.F_judge_drift.kp T.B_judge_drift (da_cons (dx_var 1) (da_cons (dx_var 7) (da_cons (dx_var 15) da_nil)))) dx_bl) (dx_and (dx_isA (dx_call (ok_judge_drift T) hr T.G_judge_drift T.F_judge_drift.kp T.B_judge_drift (da_cons (dx_var 1) (da_cons (dx_var 7) (da_cons (dx_var 16) da_nil)))) dx_bl) (dx_one (dx_isA (dx_call (ok_judge_drift T) hr T.G_judge_drift T.F_judge_drift.kp T.B_judge_drift (da_cons (dx_var 1) (da_cons (dx_var 7) (da_cons (dx_sl (dx_var 15) do_none (do_some (dx_sub dx_int dx_int))) da_nil)))) dx_bl))))))))))))))))))⟩)
theorem ok__law_days (T : Txt K mg cA f fd) : FnOk P w K mg base CX0 2 (f 63) (fd 63) ["calendar", "most"] (spF ⟨K, cA⟩ m__law_days) := by
  exact fn_F (k := 1) T.F__law_days sc__law_days (b := b__law_days) (fun cdv A outer s H E hr => have sc := sc__law_days; ⟨_, (db_cons (ds_asg (dg_tup 3 rfl (dgs_cons (dg_name 2 sc.nd) (dgs_cons (dg_name 3 sc.nd) (dgs_cons (dg_name 4 sc.nd) dgs_nil)))) (dx_var 0))
  (db_cons (ds_asg (dg_tup 2 rfl (dgs_cons (dg_name 5 sc.nd) (dgs_cons (dg_name 6 sc.nd) dgs_nil))) (dx_tup (da_cons (df_lst da_nil).fz (da_cons dx_int da_nil))))
  (db_cons (ds_for PassesOwn.never rfl (di_rng1 T.z_range (da_cons (dx_var 1) da_nil)) (dg_name 7 sc.nd) (db_cons (ds_if (dt_ge (dx_len T.z_len (da_cons (dx_var 5) da_nil)) (dx_var 1)) (db_one ds_break) db_nil)
  (db_cons (ds_for PassesOwn.never rfl (di_rng1 T.z_range (da_cons (dx_len T.z_len (da_cons (dx_var 3) da_nil)) da_nil)) (dg_name 8 sc.nd) (db_cons (ds_set 9 sc.nd (dx_add (dx_ix (dx_var 3) (dx_var 8)) (dx_toint T.z_int (da_cons (dx_and (dx_eq hr.units (dx_var 8) (dx_var 4)) (dx_one (dx_call (ok__law_leap T) hr T.G__law_leap T.F__law_leap.kp T.B__law_leap (da_cons (dx_var 2) (da_cons (dx_var 6) da_nil))))) da_nil))))
  (db_one (ds_set 5 sc.nd (dx_add (dx_var 5) (df_lc [("d", 10)] rfl sc.nd (di_rng1 T.z_range (da_cons (dx_var 9) da_nil)) (blkOk_by (by kernel_rfl)) (fun _ _ _ _ _ => (dg_name 10 sc.nd)) (by decide) (fun _ _ _ _ _ => dts_nil) (fun _ _ _ _ _ => (dx_tup (da_cons (dx_var 6) (da_cons (dx_var 8) (da_cons (dx_var 10) da_nil)))))).fz)))))
  (db_one (ds_set 6 sc.nd (dx_add (dx_var 6) dx_int))))))
  (db_one (ds_ret (dx_var 5))))))⟩)
theorem ok__law_week_right (T : Txt K mg cA f fd) : FnOk P w K mg base CX0 6 (f 64) (fd 64) ["c"] (spC ⟨K, cA⟩ m__law_week_right) := by
  exact fn_C (k := 5) T.F__law_week_right sc__law_week_right (b := b__law_week_right) (fun cdv A outer s H E hr => have sc := sc__law_week_right; ⟨_, (db_cons (ds_set 1 sc.nd (dx_callC (ok__law_rule T) (hr.mono (by decide)) T.G__law_rule T.F__law_rule.kp T.B__law_rule (da_cons (dx_var 0) da_nil)))
  (db_cons (ds_set 2 sc.nd (dx_totup T.z_tuple (da_cons (df_lc [("k", 6)] rfl sc.nd (di_rng1 T.z_range (da_cons (dx_add dx_int (dx_callC (ok__law_take T) (hr.mono (by decide)) T.G__law_take T.F__law_take.kp T.B__law_take (da_cons (dx_var 0) (da_cons dx_int da_nil)))) da_nil)) (blkOk_by (by kernel_rfl)) (fun _ _ _ _ _ => (dg_name 6 sc.nd)) (by decide) (fun _ _ _ _ _ => dts_nil) (fun _ _ _ _ _ => (dx_add dx_int (dx_callC (ok__law_take T) (hr.mono (by decide)) T.G__law_take T.F__law_take.kp T.B__law_take (da_cons (dx_var 0) (da_cons dx_int da_nil)))))).fz da_nil)))
  (db_cons (ds_set 3 sc.nd (dx_tup (da_cons (dx_var 1) (da_cons (dx_var 2) (da_cons (dx_callC (ok__law_take T) (hr.mono (by decide)) T.G__law_take T.F__law_take.kp T.B__law_take (da_cons (dx_var 0) (da_cons (dx_len T.z_len (da_cons (dx_var 2) da_nil)) da_nil))) da_nil)))))
  (db_cons (ds_set 4 sc.nd (dx_call (ok__law_days T) (hr.mono (by decide)) T.G__law_days T.F__law_days.kp T.B__law_days (da_cons (dx_var 3) (da_cons dx_int da_nil))))
  (db_cons (ds_set 5 sc.nd (dx_callC (ok__law_take T) (hr.mono (by decide)) T.G__law_take T.F__law_take.kp T.B__law_take (da_cons (dx_var 0) (da_cons dx_int da_nil))))
  (db_cons (ds_if (dw_or (dt_ne hr.units (dx_call (ok_date_of T) (hr.mono (by decide)) T.G_date_of T.F_date_of.kp T.B_date_of (da_cons (dx_var 3) (da_cons (dx_var 5) da_nil))) (dx_ix (dx_var 4) (dx_var 5))) (dw_or (dt_ne hr.units (dx_repr T.z_repr (da_cons (dx_call (ok_day_of T) (hr.mono (by decide)) T.G_day_of T.F_day_of.kp T.B_day_of (da_cons (dx_var 3) (da_cons (dx_ix (dx_var 4) (dx_var 5)) da_nil))) da_nil)) (dx_repr T.z_repr (da_cons (dx_var 5) da_nil))) (dw_or1 (dt_isnotA (dx_call (ok_is_date T) (hr.mono (by decide)) T.G_is_date T.F_is_date.kp T.B_is_date (da_cons (dx_var 3) (da_cons (dx_ix (dx_var 4) (dx_var 5)) da_nil))) dx_bl)))).tst (db_one (ds_ret dx_bl)) db_nil)
  (db_cons (ds_set 6 sc.nd (dx_callC (ok__law_take T) (hr.mono (by decide)) T.G__law_take T.F__law_take.kp T.B__law_take (da_cons (dx_var 0) (da_cons (dx_len T.z_len (da_cons (dx_var 2) da_nil)) da_nil))))
  (db_cons (ds_set 7 sc.nd (dx_tup (da_cons (dx_callC (ok__law_take T) (hr.mono (by decide)) T.G__law_take T.F__law_take.kp T.B__law_take (da_cons (dx_var 0) (da_cons dx_int da_nil))) (da_cons (dx_var 6) (da_cons (dx_callC (ok__law_take T) (hr.mono (by decide)) T.G__law_take T.F__law_take.kp T.B__law_take (da_cons (dx_var 0) (da_cons dx_int da_nil))) da_nil)))))
  (db_cons (ds_if (dt_not (dt_tru (dx_call (ok__law_said T) (hr.mono (by decide)) T.G__law_said T.F__law_said.kp T.B__law_said (da_cons (dx_call (ok_is_date T) (hr.mono (by decide)) T.G_is_date T.F_is_date.kp T.B_is_date (da_cons (dx_var 3) (da_cons (dx_var 7) da_nil))) (da_cons (dx_in (units65 hr) (dx_var 7) (dx_var 4)) da_nil))))) (db_one (ds_ret dx_bl)) db_nil)
  (db_cons (ds_set 8 sc.nd (df_lst (da_cons dx_non (da_cons (dx_sl (dx_var 7) do_none (do_some dx_int)) (da_cons (df_list T.z_list (da_cons (dx_var 7) da_nil)).fz (da_cons (dx_tup (da_cons (dx_sub dx_int dx_int) (da_cons dx_int (da_cons dx_int da_nil)))) (da_cons (dx_tup (da_cons dx_int (da_cons (dx_len T.z_len (da_cons (dx_var 2) da_nil)) (da_cons dx_int da_nil)))) (da_cons (dx_tup (da_cons dx_int (da_cons dx_int (da_cons (dx_sub dx_int dx_int) da_nil)))) (da_cons (dx_tup (da_cons dx_bl (da_cons dx_int (da_cons dx_int da_nil)))) (da_cons (dx_tup (da_cons dx_int (da_cons dx_int (da_cons dx_int (da_cons dx_int da_nil))))) da_nil))))))))).fz)
  (db_cons (ds_if (dt_isnotA (dx_call (ok_is_date T) (hr.mono (by decide)) T.G_is_date T.F_is_date.kp T.B_is_date (da_cons (dx_var 3) (da_cons (dx_ix (dx_var 8) (dx_callC (ok__law_take T) (hr.mono (by decide)) T.G__law_take T.F__law_take.kp T.B__law_take (da_cons (dx_var 0) (da_cons dx_int da_nil)))) da_nil))) dx_bl) (db_one (ds_ret dx_bl)) db_nil)
  (db_cons (ds_set 9 sc.nd (dx_add dx_int (dx_callC (ok__law_take T) (hr.mono (by decide)) T.G__law_take T.F__law_take.kp T.B__law_take (da_cons (dx_var 0) (da_cons dx_int da_nil)))))
  (db_cons (ds_asg (dg_tup 3 rfl (dgs_cons (dg_name 10 sc.nd) (dgs_cons (dg_name 11 sc.nd) (dgs_cons (dg_name 12 sc.nd) dgs_nil)))) (dx_tup (da_cons (dx_callC (ok__law_take T) (hr.mono (by decide)) T.G__law_take T.F__law_take.kp T.B__law_take (da_cons (dx_var 0) (da_cons (dx_len T.z_len (da_cons (dx_var 2) da_nil)) da_nil))) (da_cons (dx_callC (ok__law_take T) (hr.mono (by decide)) T.G__law_take T.F__law_take.kp T.B__law_take (da_cons (dx_var 0) (da_cons dx_int da_nil))) (da_cons (dx_callC (ok__law_take T) (hr.mono (by decide)) T.G__law_take T.F__law_take.kp T.B__law_take (da_cons (dx_var 0) (da_cons (dx_var 9) da_nil))) da_nil)))))
  (db_cons (ds_set 13 sc.nd (dx_mul (dx_ix (dx_var 1) dx_int) (dx_var 9)))
  (db_cons (ds_set 14 sc.nd (dx_call (ok__law_days T) (hr.mono (by decide)) T.G__law_days T.F__law_days.kp T.B__law_days (da_cons (dx_var 3) (da_cons (dx_mul (dx_add (dx_var 13) dx_int) (dx_add (dx_sum rfl T.z_sum (da_cons (dx_var 2) da_nil)) dx_int)) da_nil))))
  (db_cons (ds_lc 15 [("k", 6)] rfl sc.nd (di_rng1 T.z_range (da_cons (dx_len T.z_len (da_cons (dx_var 14) da_nil)) da_nil)) (blkOk_by (by kernel_rfl)) (fun _ _ _ _ _ => (dg_name 6 sc.nd)) (by decide) (fun _ _ _ _ _ => (dts_one (dw_and (dt_eq hr.units (dx_sl (dx_ix (dx_var 14) (dx_var 6)) (do_some dx_int) do_none) (dx_tup (da_cons (dx_var 10) (da_cons (dx_var 11) da_nil)))) (dw_and (dt_eq hr.units (dx_mod (dx_var 6) (dx_var 9)) (dx_var 12)) (dw_and1 (dt_ltA hr.units0 (dx_ix (dx_ix (dx_var 14) (dx_var 6)) dx_int) (dx_var 13))))).tst)) (fun _ _ _ _ _ => (dx_ix (dx_ix (dx_var 14) (dx_var 6)) dx_int)))
  (db_cons (ds_set 16 sc.nd (dx_call (ok_week_paper T) hr T.G_week_paper T.F_week_paper.kp T.B_week_paper (da_cons (dx_var 3) (da_cons (dx_var 10) (da_cons (dx_var 11) (da_cons (dx_var 9) (da_cons (dx_var 12) da_nil)))))))
  (db_cons (ds_set 17 sc.nd (dx_if (dt_tru (dx_var 15)) (dx_tup (da_cons dx_str (da_cons (dx_ix (dx_var 15) dx_int) da_nil))) (dx_tup (da_cons dx_str (da_cons (dx_var 13) da_nil)))))
  (db_cons (ds_if (dw_or (dt_ne hr.units (dx_var 16) (dx_var 17)) (dw_or1 (dt_isnotA (dx_call (ok_judge_week T) hr T.G_judge_week T.F_judge_week.kp T.B_judge_week (da_cons (dx_var 3) (da_cons (dx_var 10) (da_cons (dx_var 11) (da_cons (dx_var 9) (da_cons (dx_var 12) (da_cons (dx_var 17) da_nil))))))) dx_bl))).tst (db_one (ds_ret dx_bl)) db_nil)
  (db_cons (ds_set 18 sc.nd (dx_callC (ok__law_take T) (hr.mono (by decide)) T.G__law_take T.F__law_take.kp T.B__law_take (da_cons (dx_var 0) (da_cons (dx_var 13) da_nil))))
  (db_one (ds_ret (dx_and (dx_call (ok__law_said T) (hr.mono (by decide)) T.G__law_said T.F__law_said.kp T.B__law_said (da_cons (dx_call (ok_judge_week T) hr T.G_judge_week T.F_judge_week.kp T.B_judge_week (da_cons (dx_var 3) (da_cons (dx_var 10) (da_cons (dx_var 11) (da_cons (dx_var 9) (da_cons (dx_var 12) (da_cons (dx_tup (da_cons dx_str (da_cons (dx_var 18) da_nil))) da_nil))))))) (da_cons (dx_and (dx_ne hr.units (dx_var 15) (df_lst da_nil).fz) (dx_one (dx_eq hr.units (dx_var 18) (dx_ix (dx_var 15) dx_int)))) da_nil))) (dx_one (dx_or (dx_eq hr.units (dx_var 15) (df_lst da_nil).fz) (dx_one (dx_isA (dx_call (ok_judge_week T) hr T.G_judge_week T.F_judge_week.kp T.B_judge_week (da_cons (dx_var 3) (da_cons (dx_var 10) (da_cons (dx_var 11) (da_cons (dx_var 9) (da_cons (dx_var 12) (da_cons (dx_tup (da_cons dx_str (da_cons (dx_var 13) da_nil))) da_nil))))))) dx_bl)))))))))))))))))))))))))))⟩)
theorem ok__law_agree_right (T : Txt K mg cA f fd) : FnOk P w K mg base CX0 4 (f 65) (fd 65) ["c"] (spC ⟨K, cA⟩ m__law_agree_right) := by
  exact fn_C (k := 3) T.F__law_agree_right sc__law_agree_right (b := b__law_agree_right) (fun cdv A outer s H E hr => have sc := sc__law_agree_right; ⟨_, (db_cons (ds_own 1 sc.nd (df_lst da_nil))
  (db_cons (ds_for PassesOwn.never rfl (di_rng1 T.z_range (da_cons (dx_add dx_int (dx_callC (ok__law_take T) (hr.mono (by decide)) T.G__law_take T.F__law_take.kp T.B__law_take (da_cons (dx_var 0) (da_cons dx_int da_nil)))) da_nil)) (dg_name 2 sc.nd) (db_cons (ds_set 3 sc.nd (dx_callC (ok__law_take T) (hr.mono (by decide)) T.G__law_take T.F__law_take.kp T.B__law_take (da_cons (dx_var 0) (da_cons dx_int da_nil))))
  (db_one (ds_append 1 (dx_tup (da_cons (dx_var 3) (da_cons (dx_add (dx_var 3) (dx_callC (ok__law_take T) (hr.mono (by decide)) T.G__law_take T.F__law_take.kp T.B__law_take (da_cons (dx_var 0) (da_cons dx_int da_nil)))) da_nil)))))))
  (db_freeze 1
  (db_cons (ds_asg (dg_tup 2 rfl (dgs_cons (dg_name 4 sc.nd) (dgs_cons (dg_name 5 sc.nd) dgs_nil))) (dx_tup (da_cons (dx_callC (ok__law_take T) (hr.mono (by decide)) T.G__law_take T.F__law_take.kp T.B__law_take (da_cons (dx_var 0) (da_cons (dx_add (dx_len T.z_len (da_cons (dx_var 1) da_nil)) dx_int) da_nil))) (da_cons (dx_add dx_int (dx_callC (ok__law_take T) (hr.mono (by decide)) T.G__law_take T.F__law_take.kp T.B__law_take (da_cons (dx_var 0) (da_cons dx_int da_nil)))) da_nil))))
  (db_cons (ds_set 6 sc.nd (dx_totup T.z_tuple (da_cons (df_lc [("a", 13), ("b", 14)] rfl sc.nd (di_seq (dx_var 1)) (blkOk_by (by kernel_rfl)) (fun _ _ _ _ _ => (dg_tup 2 rfl (dgs_cons (dg_name 13 sc.nd) (dgs_cons (dg_name 14 sc.nd) dgs_nil)))) (by decide) (fun _ _ _ _ _ => dts_nil) (fun _ _ _ _ _ => (dx_tup (da_cons (dx_call (ok__law_fraction T) (hr.mono (by decide)) T.G__law_fraction T.F__law_fraction.kp T.B__law_fraction (da_cons (dx_var 13) (da_cons (dx_var 5) da_nil))) (da_cons (dx_call (ok__law_fraction T) (hr.mono (by decide)) T.G__law_fraction T.F__law_fraction.kp T.B__law_fraction (da_cons (dx_var 14) (da_cons (dx_var 5) da_nil))) da_nil))))).fz da_nil)))
  (db_cons (ds_set 7 sc.nd (df_sortSet rfl T.z_sorted T.z_set (dx_add (df_lc [("a", 13), ("b", 14)] rfl sc.nd (di_seq (dx_var 1)) (blkOk_by (by kernel_rfl)) (fun _ _ _ _ _ => (dg_tup 2 rfl (dgs_cons (dg_name 13 sc.nd) (dgs_cons (dg_name 14 sc.nd) dgs_nil)))) (by decide) (fun _ _ _ _ _ => dts_nil) (fun _ _ _ _ _ => (dx_var 13))).fz (df_lc [("a", 13), ("b", 14)] rfl sc.nd (di_seq (dx_var 1)) (blkOk_by (by kernel_rfl)) (fun _ _ _ _ _ => (dg_tup 2 rfl (dgs_cons (dg_name 13 sc.nd) (dgs_cons (dg_name 14 sc.nd) dgs_nil)))) (by decide) (fun _ _ _ _ _ => dts_nil) (fun _ _ _ _ _ => (dx_var 14))).fz)).fz)
  (db_cons (ds_set 8 sc.nd (df_lc [("mark", 15)] rfl sc.nd (di_seq (dx_var 7)) (blkOk_by (by kernel_rfl)) (fun _ _ _ _ _ => (dg_name 15 sc.nd)) (by decide) (fun _ _ _ _ _ => dts_nil) (fun _ _ _ _ _ => (dx_len T.z_len (da_cons (df_lc [("a", 13), ("b", 14)] rfl sc.nd (di_seq (dx_var 1)) (blkOk_by (by kernel_rfl)) (fun _ _ _ _ _ => (dg_tup 2 rfl (dgs_cons (dg_name 13 sc.nd) (dgs_cons (dg_name 14 sc.nd) dgs_nil)))) (by decide) (fun _ _ _ _ _ => (dts_one (dt_chain do_le do_le (dx_var 13) (dx_var 15) (dx_var 14)))) (fun _ _ _ _ _ => dx_int)).fz da_nil)))).fz)
  (db_cons (ds_lc 9 [("k", 16)] rfl sc.nd (di_rng1 T.z_range (da_cons (dx_len T.z_len (da_cons (dx_var 7) da_nil)) da_nil)) (blkOk_by (by kernel_rfl)) (fun _ _ _ _ _ => (dg_name 16 sc.nd)) (by decide) (fun _ _ _ _ _ => (dts_one (dt_ge (dx_ix (dx_var 8) (dx_var 16)) (dx_sub (dx_len T.z_len (da_cons (dx_var 1) da_nil)) (dx_var 4))))) (fun _ _ _ _ _ => (dx_ix (dx_var 7) (dx_var 16))))
  (db_cons (ds_set 10 sc.nd (dx_call (ok_agree_paper T) hr T.G_agree_paper T.F_agree_paper.kp T.B_agree_paper (da_cons (dx_var 6) (da_cons (dx_var 4) da_nil))))
  (db_cons (ds_if (dt_eq hr.units (dx_var 4) (dx_len T.z_len (da_cons (dx_var 1) da_nil))) (db_one (ds_ret (dx_isA (dx_call (ok_judge_agree T) hr T.G_judge_agree T.F_judge_agree.kp T.B_judge_agree (da_cons (dx_var 6) (da_cons (dx_var 4) (da_cons (dx_var 10) da_nil)))) dx_bl))) db_nil)
  (db_cons (ds_set 11 sc.nd (dx_if (dt_tru (dx_var 9)) (dx_tup (da_cons dx_str (da_cons (dx_call (ok__law_fraction T) (hr.mono (by decide)) T.G__law_fraction T.F__law_fraction.kp T.B__law_fraction (da_cons (dx_ix (dx_var 9) dx_int) (da_cons (dx_var 5) da_nil))) (da_cons (dx_call (ok__law_fraction T) (hr.mono (by decide)) T.G__law_fraction T.F__law_fraction.kp T.B__law_fraction (da_cons (dx_ix (dx_var 9) (dx_sub (dx_len T.z_len (da_cons (dx_var 9) da_nil)) dx_int)) (da_cons (dx_var 5) da_nil))) da_nil)))) (dx_tup (da_cons dx_str (da_cons (dx_max rfl T.z_max (da_cons (dx_var 8) da_nil)) da_nil)))))
  (db_cons (ds_if (dw_or (dt_ne hr.units (dx_var 10) (dx_var 11)) (dw_or1 (dt_isnotA (dx_call (ok_judge_agree T) hr T.G_judge_agree T.F_judge_agree.kp T.B_judge_agree (da_cons (dx_var 6) (da_cons (dx_var 4) (da_cons (dx_var 11) da_nil)))) dx_bl))).tst (db_one (ds_ret dx_bl)) db_nil)
  (db_cons (ds_set 12 sc.nd (dx_ix (df_lst (da_cons (dx_tup (da_cons dx_str (da_cons (dx_callC (ok__law_take T) (hr.mono (by decide)) T.G__law_take T.F__law_take.kp T.B__law_take (da_cons (dx_var 0) (da_cons dx_int da_nil))) da_nil))) (da_cons (dx_tup (da_cons dx_str (da_cons (dx_call (ok__law_fraction T) (hr.mono (by decide)) T.G__law_fraction T.F__law_fraction.kp T.B__law_fraction (da_cons (dx_ix (dx_var 7) dx_int) (da_cons (dx_var 5) da_nil))) (da_cons (dx_call (ok__law_fraction T) (hr.mono (by decide)) T.G__law_fraction T.F__law_fraction.kp T.B__law_fraction (da_cons (dx_ix (dx_var 7) (dx_sub (dx_len T.z_len (da_cons (dx_var 7) da_nil)) dx_int)) (da_cons (dx_var 5) da_nil))) da_nil)))) (da_cons (dx_tup (da_cons dx_str (da_cons (dx_ix (dx_var 11) dx_int) da_nil))) (da_cons dx_non (da_cons (dx_add (dx_var 11) (dx_tup (da_cons dx_int da_nil))) da_nil)))))).fz (dx_callC (ok__law_take T) (hr.mono (by decide)) T.G__law_take T.F__law_take.kp T.B__law_take (da_cons (dx_var 0) (da_cons dx_int da_nil)))))
  (db_one (ds_ret (dx_call (ok__law_said T) (hr.mono (by decide)) T.G__law_said T.F__law_said.kp T.B__law_said (da_cons (dx_call (ok_judge_agree T) hr T.G_judge_agree T.F_judge_agree.kp T.B_judge_agree (da_cons (dx_var 6) (da_cons (dx_var 4) (da_cons (dx_var 12) da_nil)))) (da_cons (dx_eq hr.units (dx_var 12) (dx_var 11)) da_nil))))))))))))))))))⟩)
theorem ok_law (T : Txt K mg cA f fd) : FnOk P w K mg base CX0 9 (f 66) (fd 66) ["script"] (spF ⟨K, cA⟩ m_law) := by
  exact fn_F (k := 8) T.F_law sc_law (b := b_law) (fun cdv A outer s H E hr => have sc := sc_law; ⟨_, (db_cell 1 sc.nd (df_call (ok__law_start T) (hr.mono (by decide)) T.G__law_start T.F__law_start.kp T.B__law_start (da_cons (dx_var 0) da_nil))
  (db_one (ds_ret (dx_sel (k := 8) (sel_cons (ok__law_near_right T) (by decide) T.G__law_near_right T.F__law_near_right.kp T.B__law_near_right (sel_cons (ok__law_drift_right T) (by decide) T.G__law_drift_right T.F__law_drift_right.kp T.B__law_drift_right (sel_cons (ok__law_week_right T) (by decide) T.G__law_week_right T.F__law_week_right.kp T.B__law_week_right (sel_cons (ok__law_agree_right T) (by decide) T.G__law_agree_right T.F__law_agree_right.kp T.B__law_agree_right sel_nil)))) hr (dx_callC (ok__law_take T) (hr.mono (by decide)) T.G__law_take T.F__law_take.kp T.B__law_take (da_cons (dx_var 1) (da_cons dx_int da_nil))) (da_cons (dx_var 1) da_nil)))))⟩)
end
end K62

set_option autoImplicit true
set_option relaxedAutoImplicit true
set_option Elab.async false
set_option linter.all false
set_option maxRecDepth 100000
set_option maxHeartbeats 4000000
namespace K62
open PySem L2 DL
theorem law_true (ns : List Int) (hl : ns.length ≤ 63) : m_law [.scr ns] = some (.bl true) := by
  refine of_runF (by rfl) ?_
  unfold b_law
  rw [w_cell]
  simp [List.replicate, w_start hl]
  have hc0 : Cell (.lst [.lst (ns.map .int), .int 0, .int 0, .int 0, .int 20]) := ⟨ns, 0, 0, 0, rfl⟩
  generalize (D.lst [.lst (ns.map .int), .int 0, .int 0, .int 0, .int 20]) = c0 at *
  obtain ⟨v1, c1, b1, hc1, e1⟩ := w_take hc0 4 (by omega) (by omega)
  simp at e1
  obtain ⟨d0, x0, f0, rfl⟩ := w_nearR hc1
  obtain ⟨d1, x1, f1, rfl⟩ := w_driftR hc1
  obtain ⟨d2, x2, f2, rfl⟩ := w_weekR hc1
  obtain ⟨d3, x3, f3, rfl⟩ := w_agreeR hc1
  have n0 : ixN 4 0 = some 0 := rfl
  have n1 : ixN 4 1 = some 1 := rfl
  have n2 : ixN 4 2 = some 2 := rfl
  have n3 : ixN 4 3 = some 3 := rfl
  match v1, b1, e1 with
  | 0, _, e1 => simp at e1; simp [e1, n0, f0, flD]
  | 1, _, e1 => simp at e1; simp [e1, n1, f1, flD]
  | 2, _, e1 => simp at e1; simp [e1, n2, f2, flD]
  | 3, _, e1 => simp at e1; simp [e1, n3, f3, flD]
end K62

set_option autoImplicit true
set_option relaxedAutoImplicit true
set_option Elab.async false
set_option linter.all false
set_option maxRecDepth 100000
set_option maxHeartbeats 8000000
namespace K62
open PySem PySem.Spec PyProof.Rows L2 DL
def spLaw (K : PySem.W.Frag) : Sp := fun vs H Q _ => ∃ (a : Addr) (ns : List Int), vs = [.ref a] ∧ SqL K H a (ns.map V.int) ∧ ns.length ≤ 63 ∧ ∀ H2, Q (.bl true) H2
theorem spLaw_ok {K : PySem.W.Frag} {cA : Nat → Addr} {vs : List V} {H : Hp} {Q : VK} {E : XK} (h : spLaw K vs H Q E) : spF ⟨K, cA⟩ m_law vs H Q E := by
  obtain ⟨a, ns, rfl, hS, hl, q⟩ := h
  refine ⟨H, [.scr ns], .bl true, Same.refl _, Rps.cons (show Rp _ H (.scr ns) _ by unfold Rp; exact ⟨a, rfl, hS⟩) Rps.nil, law_true ns hl, fun v H0 H2 g rp => ?_⟩
  unfold Rp at rp
  subst rp
  exact q H2
theorem all_mk {l : PySem.W.OpenLaw} {w : World} {K : PySem.W.Frag} {h : Heap} {mg : Str → Option Value} {fa : Addr} {f0 : Addr} {od0 an0 : Option Addr} {sl0 : Array (Option Value)} {oc0 kV0 dc0 pm0 cd0 ct0 : Value}
    {f1 : Addr} {od1 an1 : Option Addr} {sl1 : Array (Option Value)} {oc1 kV1 dc1 pm1 cd1 ct1 : Value}
    {f2 : Addr} {od2 an2 : Option Addr} {sl2 : Array (Option Value)} {oc2 kV2 dc2 pm2 cd2 ct2 : Value}
    {f3 : Addr} {od3 an3 : Option Addr} {sl3 : Array (Option Value)} {oc3 kV3 dc3 pm3 cd3 ct3 : Value}
    {f4 : Addr} {od4 an4 : Option Addr} {sl4 : Array (Option Value)} {oc4 kV4 dc4 pm4 cd4 ct4 : Value}
    {f5 : Addr} {od5 an5 : Option Addr} {sl5 : Array (Option Value)} {oc5 kV5 dc5 pm5 cd5 ct5 : Value}
    {f6 : Addr} {od6 an6 : Option Addr} {sl6 : Array (Option Value)} {oc6 kV6 dc6 pm6 cd6 ct6 : Value}
    {f7 : Addr} {od7 an7 : Option Addr} {sl7 : Array (Option Value)} {oc7 kV7 dc7 pm7 cd7 ct7 : Value}
    {f8 : Addr} {od8 an8 : Option Addr} {sl8 : Array (Option Value)} {oc8 kV8 dc8 pm8 cd8 ct8 : Value}
    {f9 : Addr} {od9 an9 : Option Addr} {sl9 : Array (Option Value)} {oc9 kV9 dc9 pm9 cd9 ct9 : Value}
    {f10 : Addr} {od10 an10 : Option Addr} {sl10 : Array (Option Value)} {oc10 kV10 dc10 pm10 cd10 ct10 : Value}
    {f11 : Addr} {od11 an11 : Option Addr} {sl11 : Array (Option Value)} {oc11 kV11 dc11 pm11 cd11 ct11 : Value}
    {f12 : Addr} {od12 an12 : Option Addr} {sl12 : Array (Option Value)} {oc12 kV12 dc12 pm12 cd12 ct12 : Value}
    {f13 : Addr} {od13 an13 : Option Addr} {sl13 : Array (Option Value)} {oc13 kV13 dc13 pm13 cd13 ct13 : Value}
    {f14 : Addr} {od14 an14 : Option Addr} {sl14 : Array (Option Value)} {oc14 kV14 dc14 pm14 cd14 ct14 : Value}
    {f15 : Addr} {od15 an15 : Option Addr} {sl15 : Array (Option Value)} {oc15 kV15 dc15 pm15 cd15 ct15 : Value}
    {f16 : Addr} {od16 an16 : Option Addr} {sl16 : Array (Option Value)} {oc16 kV16 dc16 pm16 cd16 ct16 : Value}
    {f17 : Addr} {od17 an17 : Option Addr} {sl17 : Array (Option Value)} {oc17 kV17 dc17 pm17 cd17 ct17 : Value}
    {f18 : Addr} {od18 an18 : Option Addr} {sl18 : Array (Option Value)} {oc18 kV18 dc18 pm18 cd18 ct18 : Value}
    {f19 : Addr} {od19 an19 : Option Addr} {sl19 : Array (Option Value)} {oc19 kV19 dc19 pm19 cd19 ct19 : Value}
    {f20 : Addr} {od20 an20 : Option Addr} {sl20 : Array (Option Value)} {oc20 kV20 dc20 pm20 cd20 ct20 : Value}
    {f21 : Addr} {od21 an21 : Option Addr} {sl21 : Array (Option Value)} {oc21 kV21 dc21 pm21 cd21 ct21 : Value}
    {f22 : Addr} {od22 an22 : Option Addr} {sl22 : Array (Option Value)} {oc22 kV22 dc22 pm22 cd22 ct22 : Value}
    {f23 : Addr} {od23 an23 : Option Addr} {sl23 : Array (Option Value)} {oc23 kV23 dc23 pm23 cd23 ct23 : Value}
    {f24 : Addr} {od24 an24 : Option Addr} {sl24 : Array (Option Value)} {oc24 kV24 dc24 pm24 cd24 ct24 : Value}
    {f25 : Addr} {od25 an25 : Option Addr} {sl25 : Array (Option Value)} {oc25 kV25 dc25 pm25 cd25 ct25 : Value}
    {f26 : Addr} {od26 an26 : Option Addr} {sl26 : Array (Option Value)} {oc26 kV26 dc26 pm26 cd26 ct26 : Value}
    {f27 : Addr} {od27 an27 : Option Addr} {sl27 : Array (Option Value)} {oc27 kV27 dc27 pm27 cd27 ct27 : Value}
    {f28 : Addr} {od28 an28 : Option Addr} {sl28 : Array (Option Value)} {oc28 kV28 dc28 pm28 cd28 ct28 : Value}
    {f29 : Addr} {od29 an29 : Option Addr} {sl29 : Array (Option Value)} {oc29 kV29 dc29 pm29 cd29 ct29 : Value}
    {f30 : Addr} {od30 an30 : Option Addr} {sl30 : Array (Option Value)} {oc30 kV30 dc30 pm30 cd30 ct30 : Value}
    {f31 : Addr} {od31 an31 : Option Addr} {sl31 : Array (Option Value)} {oc31 kV31 dc31 pm31 cd31 ct31 : Value}
    {f32 : Addr} {od32 an32 : Option Addr} {sl32 : Array (Option Value)} {oc32 kV32 dc32 pm32 cd32 ct32 : Value}
    {f33 : Addr} {od33 an33 : Option Addr} {sl33 : Array (Option Value)} {oc33 kV33 dc33 pm33 cd33 ct33 : Value}
    {f34 : Addr} {od34 an34 : Option Addr} {sl34 : Array (Option Value)} {oc34 kV34 dc34 pm34 cd34 ct34 : Value}
    {f35 : Addr} {od35 an35 : Option Addr} {sl35 : Array (Option Value)} {oc35 kV35 dc35 pm35 cd35 ct35 : Value}
    {f36 : Addr} {od36 an36 : Option Addr} {sl36 : Array (Option Value)} {oc36 kV36 dc36 pm36 cd36 ct36 : Value}
    {f37 : Addr} {od37 an37 : Option Addr} {sl37 : Array (Option Value)} {oc37 kV37 dc37 pm37 cd37 ct37 : Value}
    {f38 : Addr} {od38 an38 : Option Addr} {sl38 : Array (Option Value)} {oc38 kV38 dc38 pm38 cd38 ct38 : Value}
    {f39 : Addr} {od39 an39 : Option Addr} {sl39 : Array (Option Value)} {oc39 kV39 dc39 pm39 cd39 ct39 : Value}
    {f40 : Addr} {od40 an40 : Option Addr} {sl40 : Array (Option Value)} {oc40 kV40 dc40 pm40 cd40 ct40 : Value}
    {f41 : Addr} {od41 an41 : Option Addr} {sl41 : Array (Option Value)} {oc41 kV41 dc41 pm41 cd41 ct41 : Value}
    {f42 : Addr} {od42 an42 : Option Addr} {sl42 : Array (Option Value)} {oc42 kV42 dc42 pm42 cd42 ct42 : Value}
    {f43 : Addr} {od43 an43 : Option Addr} {sl43 : Array (Option Value)} {oc43 kV43 dc43 pm43 cd43 ct43 : Value}
    {f44 : Addr} {od44 an44 : Option Addr} {sl44 : Array (Option Value)} {oc44 kV44 dc44 pm44 cd44 ct44 : Value}
    {f45 : Addr} {od45 an45 : Option Addr} {sl45 : Array (Option Value)} {oc45 kV45 dc45 pm45 cd45 ct45 : Value}
    {f46 : Addr} {od46 an46 : Option Addr} {sl46 : Array (Option Value)} {oc46 kV46 dc46 pm46 cd46 ct46 : Value}
    {f47 : Addr} {od47 an47 : Option Addr} {sl47 : Array (Option Value)} {oc47 kV47 dc47 pm47 cd47 ct47 : Value}
    {f48 : Addr} {od48 an48 : Option Addr} {sl48 : Array (Option Value)} {oc48 kV48 dc48 pm48 cd48 ct48 : Value}
    {f49 : Addr} {od49 an49 : Option Addr} {sl49 : Array (Option Value)} {oc49 kV49 dc49 pm49 cd49 ct49 : Value}
    {f50 : Addr} {od50 an50 : Option Addr} {sl50 : Array (Option Value)} {oc50 kV50 dc50 pm50 cd50 ct50 : Value}
    {f51 : Addr} {od51 an51 : Option Addr} {sl51 : Array (Option Value)} {oc51 kV51 dc51 pm51 cd51 ct51 : Value}
    {f52 : Addr} {od52 an52 : Option Addr} {sl52 : Array (Option Value)} {oc52 kV52 dc52 pm52 cd52 ct52 : Value}
    {f53 : Addr} {od53 an53 : Option Addr} {sl53 : Array (Option Value)} {oc53 kV53 dc53 pm53 cd53 ct53 : Value}
    {f54 : Addr} {od54 an54 : Option Addr} {sl54 : Array (Option Value)} {oc54 kV54 dc54 pm54 cd54 ct54 : Value}
    {f55 : Addr} {od55 an55 : Option Addr} {sl55 : Array (Option Value)} {oc55 kV55 dc55 pm55 cd55 ct55 : Value}
    {f56 : Addr} {od56 an56 : Option Addr} {sl56 : Array (Option Value)} {oc56 kV56 dc56 pm56 cd56 ct56 : Value}
    {f57 : Addr} {od57 an57 : Option Addr} {sl57 : Array (Option Value)} {oc57 kV57 dc57 pm57 cd57 ct57 : Value}
    {f58 : Addr} {od58 an58 : Option Addr} {sl58 : Array (Option Value)} {oc58 kV58 dc58 pm58 cd58 ct58 : Value}
    {f59 : Addr} {od59 an59 : Option Addr} {sl59 : Array (Option Value)} {oc59 kV59 dc59 pm59 cd59 ct59 : Value}
    {f60 : Addr} {od60 an60 : Option Addr} {sl60 : Array (Option Value)} {oc60 kV60 dc60 pm60 cd60 ct60 : Value}
    {f61 : Addr} {od61 an61 : Option Addr} {sl61 : Array (Option Value)} {oc61 kV61 dc61 pm61 cd61 ct61 : Value}
    {f62 : Addr} {od62 an62 : Option Addr} {sl62 : Array (Option Value)} {oc62 kV62 dc62 pm62 cd62 ct62 : Value}
    {f63 : Addr} {od63 an63 : Option Addr} {sl63 : Array (Option Value)} {oc63 kV63 dc63 pm63 cd63 ct63 : Value}
    {f64 : Addr} {od64 an64 : Option Addr} {sl64 : Array (Option Value)} {oc64 kV64 dc64 pm64 cd64 ct64 : Value}
    {f65 : Addr} {od65 an65 : Option Addr} {sl65 : Array (Option Value)} {oc65 kV65 dc65 pm65 cd65 ct65 : Value}
    {f66 : Addr} {od66 an66 : Option Addr} {sl66 : Array (Option Value)} {oc66 kV66 dc66 pm66 cd66 ct66 : Value}
    {tg_ONE_0 : Tok}
    {tg_ONE_1 : Tok}
    {ag_ONE : Addr} {dxg_ONE : Option Addr} {ng_ONE : Nat} {slg_ONE : Array (Option Value)}
    {tk_MOST_CYCLE : Tok}
    {tk_MOST_YEAR : Tok}
    (X : K.In h) (G : h.Ns mainGlobals mg) (hfa : mg "law" = some (.ref fa))
    (a0 : PySem.W.nsIn K mainGlobals "common_divisor" = some (some (.ref f0)))
    (l0 : K.lookup f0 = some ⟨oc0, od0, .func (PySem.W.fnOf "common_divisor" "common_divisor" (defArgs s_common_divisor) (defBody s_common_divisor) (defScope s_common_divisor) .none kV0 dc0 pm0 an0 cd0 ct0), sl0⟩) (c0 : PySem.W.codeIn K cd0 "common_divisor" = true) (k0 : PySem.W.keepIn K (.ref f0) = true)
    (a1 : PySem.W.nsIn K mainGlobals "ratio" = some (some (.ref f1)))
    (l1 : K.lookup f1 = some ⟨oc1, od1, .func (PySem.W.fnOf "ratio" "ratio" (defArgs s_ratio) (defBody s_ratio) (defScope s_ratio) .none kV1 dc1 pm1 an1 cd1 ct1), sl1⟩) (c1 : PySem.W.codeIn K cd1 "ratio" = true) (k1 : PySem.W.keepIn K (.ref f1) = true)
    (a2 : PySem.W.nsIn K mainGlobals "plus" = some (some (.ref f2)))
    (l2 : K.lookup f2 = some ⟨oc2, od2, .func (PySem.W.fnOf "plus" "plus" (defArgs s_plus) (defBody s_plus) (defScope s_plus) .none kV2 dc2 pm2 an2 cd2 ct2), sl2⟩) (c2 : PySem.W.codeIn K cd2 "plus" = true) (k2 : PySem.W.keepIn K (.ref f2) = true)
    (a3 : PySem.W.nsIn K mainGlobals "times" = some (some (.ref f3)))
    (l3 : K.lookup f3 = some ⟨oc3, od3, .func (PySem.W.fnOf "times" "times" (defArgs s_times) (defBody s_times) (defScope s_times) .none kV3 dc3 pm3 an3 cd3 ct3), sl3⟩) (c3 : PySem.W.codeIn K cd3 "times" = true) (k3 : PySem.W.keepIn K (.ref f3) = true)
    (a4 : PySem.W.nsIn K mainGlobals "negative" = some (some (.ref f4)))
    (l4 : K.lookup f4 = some ⟨oc4, od4, .func (PySem.W.fnOf "negative" "negative" (defArgs s_negative) (defBody s_negative) (defScope s_negative) .none kV4 dc4 pm4 an4 cd4 ct4), sl4⟩) (c4 : PySem.W.codeIn K cd4 "negative" = true) (k4 : PySem.W.keepIn K (.ref f4) = true)
    (a5 : PySem.W.nsIn K mainGlobals "minus" = some (some (.ref f5)))
    (l5 : K.lookup f5 = some ⟨oc5, od5, .func (PySem.W.fnOf "minus" "minus" (defArgs s_minus) (defBody s_minus) (defScope s_minus) .none kV5 dc5 pm5 an5 cd5 ct5), sl5⟩) (c5 : PySem.W.codeIn K cd5 "minus" = true) (k5 : PySem.W.keepIn K (.ref f5) = true)
    (a6 : PySem.W.nsIn K mainGlobals "is_less" = some (some (.ref f6)))
    (l6 : K.lookup f6 = some ⟨oc6, od6, .func (PySem.W.fnOf "is_less" "is_less" (defArgs s_is_less) (defBody s_is_less) (defScope s_is_less) .none kV6 dc6 pm6 an6 cd6 ct6), sl6⟩) (c6 : PySem.W.codeIn K cd6 "is_less" = true) (k6 : PySem.W.keepIn K (.ref f6) = true)
    (a7 : PySem.W.nsIn K mainGlobals "at_most" = some (some (.ref f7)))
    (l7 : K.lookup f7 = some ⟨oc7, od7, .func (PySem.W.fnOf "at_most" "at_most" (defArgs s_at_most) (defBody s_at_most) (defScope s_at_most) .none kV7 dc7 pm7 an7 cd7 ct7), sl7⟩) (c7 : PySem.W.codeIn K cd7 "at_most" = true) (k7 : PySem.W.keepIn K (.ref f7) = true)
    (a8 : PySem.W.nsIn K mainGlobals "is_integer" = some (some (.ref f8)))
    (l8 : K.lookup f8 = some ⟨oc8, od8, .func (PySem.W.fnOf "is_integer" "is_integer" (defArgs s_is_integer) (defBody s_is_integer) (defScope s_is_integer) .none kV8 dc8 pm8 an8 cd8 ct8), sl8⟩) (c8 : PySem.W.codeIn K cd8 "is_integer" = true) (k8 : PySem.W.keepIn K (.ref f8) = true)
    (a9 : PySem.W.nsIn K mainGlobals "is_ratio" = some (some (.ref f9)))
    (l9 : K.lookup f9 = some ⟨oc9, od9, .func (PySem.W.fnOf "is_ratio" "is_ratio" (defArgs s_is_ratio) (defBody s_is_ratio) (defScope s_is_ratio) .none kV9 dc9 pm9 an9 cd9 ct9), sl9⟩) (c9 : PySem.W.codeIn K cd9 "is_ratio" = true) (k9 : PySem.W.keepIn K (.ref f9) = true)
    (a10 : PySem.W.nsIn K mainGlobals "floor_of" = some (some (.ref f10)))
    (l10 : K.lookup f10 = some ⟨oc10, od10, .func (PySem.W.fnOf "floor_of" "floor_of" (defArgs s_floor_of) (defBody s_floor_of) (defScope s_floor_of) .none kV10 dc10 pm10 an10 cd10 ct10), sl10⟩) (c10 : PySem.W.codeIn K cd10 "floor_of" = true) (k10 : PySem.W.keepIn K (.ref f10) = true)
    (a11 : PySem.W.nsIn K mainGlobals "absolute" = some (some (.ref f11)))
    (l11 : K.lookup f11 = some ⟨oc11, od11, .func (PySem.W.fnOf "absolute" "absolute" (defArgs s_absolute) (defBody s_absolute) (defScope s_absolute) .none kV11 dc11 pm11 an11 cd11 ct11), sl11⟩) (c11 : PySem.W.codeIn K cd11 "absolute" = true) (k11 : PySem.W.keepIn K (.ref f11) = true)
    (a12 : PySem.W.nsIn K mainGlobals "nearest_whole" = some (some (.ref f12)))
    (l12 : K.lookup f12 = some ⟨oc12, od12, .func (PySem.W.fnOf "nearest_whole" "nearest_whole" (defArgs s_nearest_whole) (defBody s_nearest_whole) (defScope s_nearest_whole) .none kV12 dc12 pm12 an12 cd12 ct12), sl12⟩) (c12 : PySem.W.codeIn K cd12 "nearest_whole" = true) (k12 : PySem.W.keepIn K (.ref f12) = true)
    (a13 : PySem.W.nsIn K mainGlobals "away" = some (some (.ref f13)))
    (l13 : K.lookup f13 = some ⟨oc13, od13, .func (PySem.W.fnOf "away" "away" (defArgs s_away) (defBody s_away) (defScope s_away) .none kV13 dc13 pm13 an13 cd13 ct13), sl13⟩) (c13 : PySem.W.codeIn K cd13 "away" = true) (k13 : PySem.W.keepIn K (.ref f13) = true)
    (a14 : PySem.W.nsIn K mainGlobals "below_by" = some (some (.ref f14)))
    (l14 : K.lookup f14 = some ⟨oc14, od14, .func (PySem.W.fnOf "below_by" "below_by" (defArgs s_below_by) (defBody s_below_by) (defScope s_below_by) .none kV14 dc14 pm14 an14 cd14 ct14), sl14⟩) (c14 : PySem.W.codeIn K cd14 "below_by" = true) (k14 : PySem.W.keepIn K (.ref f14) = true)
    (a15 : PySem.W.nsIn K mainGlobals "above_by" = some (some (.ref f15)))
    (l15 : K.lookup f15 = some ⟨oc15, od15, .func (PySem.W.fnOf "above_by" "above_by" (defArgs s_above_by) (defBody s_above_by) (defScope s_above_by) .none kV15 dc15 pm15 an15 cd15 ct15), sl15⟩) (c15 : PySem.W.codeIn K cd15 "above_by" = true) (k15 : PySem.W.keepIn K (.ref f15) = true)
    (a16 : PySem.W.nsIn K mainGlobals "steps_within" = some (some (.ref f16)))
    (l16 : K.lookup f16 = some ⟨oc16, od16, .func (PySem.W.fnOf "steps_within" "steps_within" (defArgs s_steps_within) (defBody s_steps_within) (defScope s_steps_within) .none kV16 dc16 pm16 an16 cd16 ct16), sl16⟩) (c16 : PySem.W.codeIn K cd16 "steps_within" = true) (k16 : PySem.W.keepIn K (.ref f16) = true)
    (a17 : PySem.W.nsIn K mainGlobals "steps_above" = some (some (.ref f17)))
    (l17 : K.lookup f17 = some ⟨oc17, od17, .func (PySem.W.fnOf "steps_above" "steps_above" (defArgs s_steps_above) (defBody s_steps_above) (defScope s_steps_above) .none kV17 dc17 pm17 an17 cd17 ct17), sl17⟩) (c17 : PySem.W.codeIn K cd17 "steps_above" = true) (k17 : PySem.W.keepIn K (.ref f17) = true)
    (a18 : PySem.W.nsIn K mainGlobals "neighbours" = some (some (.ref f18)))
    (l18 : K.lookup f18 = some ⟨oc18, od18, .func (PySem.W.fnOf "neighbours" "neighbours" (defArgs s_neighbours) (defBody s_neighbours) (defScope s_neighbours) .none kV18 dc18 pm18 an18 cd18 ct18), sl18⟩) (c18 : PySem.W.codeIn K cd18 "neighbours" = true) (k18 : PySem.W.keepIn K (.ref f18) = true)
    (a19 : PySem.W.nsIn K mainGlobals "steps_to" = some (some (.ref f19)))
    (l19 : K.lookup f19 = some ⟨oc19, od19, .func (PySem.W.fnOf "steps_to" "steps_to" (defArgs s_steps_to) (defBody s_steps_to) (defScope s_steps_to) .none kV19 dc19 pm19 an19 cd19 ct19), sl19⟩) (c19 : PySem.W.codeIn K cd19 "steps_to" = true) (k19 : PySem.W.keepIn K (.ref f19) = true)
    (a20 : PySem.W.nsIn K mainGlobals "added" = some (some (.ref f20)))
    (l20 : K.lookup f20 = some ⟨oc20, od20, .func (PySem.W.fnOf "added" "added" (defArgs s_added) (defBody s_added) (defScope s_added) .none kV20 dc20 pm20 an20 cd20 ct20), sl20⟩) (c20 : PySem.W.codeIn K cd20 "added" = true) (k20 : PySem.W.keepIn K (.ref f20) = true)
    (a21 : PySem.W.nsIn K mainGlobals "near_paper" = some (some (.ref f21)))
    (l21 : K.lookup f21 = some ⟨oc21, od21, .func (PySem.W.fnOf "near_paper" "near_paper" (defArgs s_near_paper) (defBody s_near_paper) (defScope s_near_paper) .none kV21 dc21 pm21 an21 cd21 ct21), sl21⟩) (c21 : PySem.W.codeIn K cd21 "near_paper" = true) (k21 : PySem.W.keepIn K (.ref f21) = true)
    (a22 : PySem.W.nsIn K mainGlobals "is_pair" = some (some (.ref f22)))
    (l22 : K.lookup f22 = some ⟨oc22, od22, .func (PySem.W.fnOf "is_pair" "is_pair" (defArgs s_is_pair) (defBody s_is_pair) (defScope s_is_pair) .none kV22 dc22 pm22 an22 cd22 ct22), sl22⟩) (c22 : PySem.W.codeIn K cd22 "is_pair" = true) (k22 : PySem.W.keepIn K (.ref f22) = true)
    (a23 : PySem.W.nsIn K mainGlobals "are_neighbours" = some (some (.ref f23)))
    (l23 : K.lookup f23 = some ⟨oc23, od23, .func (PySem.W.fnOf "are_neighbours" "are_neighbours" (defArgs s_are_neighbours) (defBody s_are_neighbours) (defScope s_are_neighbours) .none kV23 dc23 pm23 an23 cd23 ct23), sl23⟩) (c23 : PySem.W.codeIn K cd23 "are_neighbours" = true) (k23 : PySem.W.keepIn K (.ref f23) = true)
    (a24 : PySem.W.nsIn K mainGlobals "judge_near" = some (some (.ref f24)))
    (l24 : K.lookup f24 = some ⟨oc24, od24, .func (PySem.W.fnOf "judge_near" "judge_near" (defArgs s_judge_near) (defBody s_judge_near) (defScope s_judge_near) .none kV24 dc24 pm24 an24 cd24 ct24), sl24⟩) (c24 : PySem.W.codeIn K cd24 "judge_near" = true) (k24 : PySem.W.keepIn K (.ref f24) = true)
    (a25 : PySem.W.nsIn K mainGlobals "nearer" = some (some (.ref f25)))
    (l25 : K.lookup f25 = some ⟨oc25, od25, .func (PySem.W.fnOf "nearer" "nearer" (defArgs s_nearer) (defBody s_nearer) (defScope s_nearer) .none kV25 dc25 pm25 an25 cd25 ct25), sl25⟩) (c25 : PySem.W.codeIn K cd25 "nearer" = true) (k25 : PySem.W.keepIn K (.ref f25) = true)
    (a26 : PySem.W.nsIn K mainGlobals "best_paper" = some (some (.ref f26)))
    (l26 : K.lookup f26 = some ⟨oc26, od26, .func (PySem.W.fnOf "best_paper" "best_paper" (defArgs s_best_paper) (defBody s_best_paper) (defScope s_best_paper) .none kV26 dc26 pm26 an26 cd26 ct26), sl26⟩) (c26 : PySem.W.codeIn K cd26 "best_paper" = true) (k26 : PySem.W.keepIn K (.ref f26) = true)
    (a27 : PySem.W.nsIn K mainGlobals "judge_best_fraction" = some (some (.ref f27)))
    (l27 : K.lookup f27 = some ⟨oc27, od27, .func (PySem.W.fnOf "judge_best_fraction" "judge_best_fraction" (defArgs s_judge_best_fraction) (defBody s_judge_best_fraction) (defScope s_judge_best_fraction) .none kV27 dc27 pm27 an27 cd27 ct27), sl27⟩) (c27 : PySem.W.codeIn K cd27 "judge_best_fraction" = true) (k27 : PySem.W.keepIn K (.ref f27) = true)
    (a28 : PySem.W.nsIn K mainGlobals "holding" = some (some (.ref f28)))
    (l28 : K.lookup f28 = some ⟨oc28, od28, .func (PySem.W.fnOf "holding" "holding" (defArgs s_holding) (defBody s_holding) (defScope s_holding) .none kV28 dc28 pm28 an28 cd28 ct28), sl28⟩) (c28 : PySem.W.codeIn K cd28 "holding" = true) (k28 : PySem.W.keepIn K (.ref f28) = true)
    (a29 : PySem.W.nsIn K mainGlobals "agree_paper" = some (some (.ref f29)))
    (l29 : K.lookup f29 = some ⟨oc29, od29, .func (PySem.W.fnOf "agree_paper" "agree_paper" (defArgs s_agree_paper) (defBody s_agree_paper) (defScope s_agree_paper) .none kV29 dc29 pm29 an29 cd29 ct29), sl29⟩) (c29 : PySem.W.codeIn K cd29 "agree_paper" = true) (k29 : PySem.W.keepIn K (.ref f29) = true)
    (a30 : PySem.W.nsIn K mainGlobals "judge_agree" = some (some (.ref f30)))
    (l30 : K.lookup f30 = some ⟨oc30, od30, .func (PySem.W.fnOf "judge_agree" "judge_agree" (defArgs s_judge_agree) (defBody s_judge_agree) (defScope s_judge_agree) .none kV30 dc30 pm30 an30 cd30 ct30), sl30⟩) (c30 : PySem.W.codeIn K cd30 "judge_agree" = true) (k30 : PySem.W.keepIn K (.ref f30) = true)
    (a31 : PySem.W.nsIn K mainGlobals "leaps_before" = some (some (.ref f31)))
    (l31 : K.lookup f31 = some ⟨oc31, od31, .func (PySem.W.fnOf "leaps_before" "leaps_before" (defArgs s_leaps_before) (defBody s_leaps_before) (defScope s_leaps_before) .none kV31 dc31 pm31 an31 cd31 ct31), sl31⟩) (c31 : PySem.W.codeIn K cd31 "leaps_before" = true) (k31 : PySem.W.keepIn K (.ref f31) = true)
    (a32 : PySem.W.nsIn K mainGlobals "is_leap" = some (some (.ref f32)))
    (l32 : K.lookup f32 = some ⟨oc32, od32, .func (PySem.W.fnOf "is_leap" "is_leap" (defArgs s_is_leap) (defBody s_is_leap) (defScope s_is_leap) .none kV32 dc32 pm32 an32 cd32 ct32), sl32⟩) (c32 : PySem.W.codeIn K cd32 "is_leap" = true) (k32 : PySem.W.keepIn K (.ref f32) = true)
    (a33 : PySem.W.nsIn K mainGlobals "drift" = some (some (.ref f33)))
    (l33 : K.lookup f33 = some ⟨oc33, od33, .func (PySem.W.fnOf "drift" "drift" (defArgs s_drift) (defBody s_drift) (defScope s_drift) .none kV33 dc33 pm33 an33 cd33 ct33), sl33⟩) (c33 : PySem.W.codeIn K cd33 "drift" = true) (k33 : PySem.W.keepIn K (.ref f33) = true)
    (a34 : PySem.W.nsIn K mainGlobals "extremes" = some (some (.ref f34)))
    (l34 : K.lookup f34 = some ⟨oc34, od34, .func (PySem.W.fnOf "extremes" "extremes" (defArgs s_extremes) (defBody s_extremes) (defScope s_extremes) .none kV34 dc34 pm34 an34 cd34 ct34), sl34⟩) (c34 : PySem.W.codeIn K cd34 "extremes" = true) (k34 : PySem.W.keepIn K (.ref f34) = true)
    (a35 : PySem.W.nsIn K mainGlobals "first_far" = some (some (.ref f35)))
    (l35 : K.lookup f35 = some ⟨oc35, od35, .func (PySem.W.fnOf "first_far" "first_far" (defArgs s_first_far) (defBody s_first_far) (defScope s_first_far) .none kV35 dc35 pm35 an35 cd35 ct35), sl35⟩) (c35 : PySem.W.codeIn K cd35 "first_far" = true) (k35 : PySem.W.keepIn K (.ref f35) = true)
    (a36 : PySem.W.nsIn K mainGlobals "drift_paper" = some (some (.ref f36)))
    (l36 : K.lookup f36 = some ⟨oc36, od36, .func (PySem.W.fnOf "drift_paper" "drift_paper" (defArgs s_drift_paper) (defBody s_drift_paper) (defScope s_drift_paper) .none kV36 dc36 pm36 an36 cd36 ct36), sl36⟩) (c36 : PySem.W.codeIn K cd36 "drift_paper" = true) (k36 : PySem.W.keepIn K (.ref f36) = true)
    (a37 : PySem.W.nsIn K mainGlobals "judge_drift" = some (some (.ref f37)))
    (l37 : K.lookup f37 = some ⟨oc37, od37, .func (PySem.W.fnOf "judge_drift" "judge_drift" (defArgs s_judge_drift) (defBody s_judge_drift) (defScope s_judge_drift) .none kV37 dc37 pm37 an37 cd37 ct37), sl37⟩) (c37 : PySem.W.codeIn K cd37 "judge_drift" = true) (k37 : PySem.W.keepIn K (.ref f37) = true)
    (a38 : PySem.W.nsIn K mainGlobals "month_length" = some (some (.ref f38)))
    (l38 : K.lookup f38 = some ⟨oc38, od38, .func (PySem.W.fnOf "month_length" "month_length" (defArgs s_month_length) (defBody s_month_length) (defScope s_month_length) .none kV38 dc38 pm38 an38 cd38 ct38), sl38⟩) (c38 : PySem.W.codeIn K cd38 "month_length" = true) (k38 : PySem.W.keepIn K (.ref f38) = true)
    (a39 : PySem.W.nsIn K mainGlobals "is_date" = some (some (.ref f39)))
    (l39 : K.lookup f39 = some ⟨oc39, od39, .func (PySem.W.fnOf "is_date" "is_date" (defArgs s_is_date) (defBody s_is_date) (defScope s_is_date) .none kV39 dc39 pm39 an39 cd39 ct39), sl39⟩) (c39 : PySem.W.codeIn K cd39 "is_date" = true) (k39 : PySem.W.keepIn K (.ref f39) = true)
    (a40 : PySem.W.nsIn K mainGlobals "year_begin" = some (some (.ref f40)))
    (l40 : K.lookup f40 = some ⟨oc40, od40, .func (PySem.W.fnOf "year_begin" "year_begin" (defArgs s_year_begin) (defBody s_year_begin) (defScope s_year_begin) .none kV40 dc40 pm40 an40 cd40 ct40), sl40⟩) (c40 : PySem.W.codeIn K cd40 "year_begin" = true) (k40 : PySem.W.keepIn K (.ref f40) = true)
    (a41 : PySem.W.nsIn K mainGlobals "day_of" = some (some (.ref f41)))
    (l41 : K.lookup f41 = some ⟨oc41, od41, .func (PySem.W.fnOf "day_of" "day_of" (defArgs s_day_of) (defBody s_day_of) (defScope s_day_of) .none kV41 dc41 pm41 an41 cd41 ct41), sl41⟩) (c41 : PySem.W.codeIn K cd41 "day_of" = true) (k41 : PySem.W.keepIn K (.ref f41) = true)
    (a42 : PySem.W.nsIn K mainGlobals "date_of" = some (some (.ref f42)))
    (l42 : K.lookup f42 = some ⟨oc42, od42, .func (PySem.W.fnOf "date_of" "date_of" (defArgs s_date_of) (defBody s_date_of) (defScope s_date_of) .none kV42 dc42 pm42 an42 cd42 ct42), sl42⟩) (c42 : PySem.W.codeIn K cd42 "date_of" = true) (k42 : PySem.W.keepIn K (.ref f42) = true)
    (a43 : PySem.W.nsIn K mainGlobals "falls_on" = some (some (.ref f43)))
    (l43 : K.lookup f43 = some ⟨oc43, od43, .func (PySem.W.fnOf "falls_on" "falls_on" (defArgs s_falls_on) (defBody s_falls_on) (defScope s_falls_on) .none kV43 dc43 pm43 an43 cd43 ct43), sl43⟩) (c43 : PySem.W.codeIn K cd43 "falls_on" = true) (k43 : PySem.W.keepIn K (.ref f43) = true)
    (a44 : PySem.W.nsIn K mainGlobals "week_paper" = some (some (.ref f44)))
    (l44 : K.lookup f44 = some ⟨oc44, od44, .func (PySem.W.fnOf "week_paper" "week_paper" (defArgs s_week_paper) (defBody s_week_paper) (defScope s_week_paper) .none kV44 dc44 pm44 an44 cd44 ct44), sl44⟩) (c44 : PySem.W.codeIn K cd44 "week_paper" = true) (k44 : PySem.W.keepIn K (.ref f44) = true)
    (a45 : PySem.W.nsIn K mainGlobals "judge_week" = some (some (.ref f45)))
    (l45 : K.lookup f45 = some ⟨oc45, od45, .func (PySem.W.fnOf "judge_week" "judge_week" (defArgs s_judge_week) (defBody s_judge_week) (defScope s_judge_week) .none kV45 dc45 pm45 an45 cd45 ct45), sl45⟩) (c45 : PySem.W.codeIn K cd45 "judge_week" = true) (k45 : PySem.W.keepIn K (.ref f45) = true)
    (a46 : PySem.W.nsIn K mainGlobals "_law_start" = some (some (.ref f46)))
    (l46 : K.lookup f46 = some ⟨oc46, od46, .func (PySem.W.fnOf "_law_start" "_law_start" (defArgs s__law_start) (defBody s__law_start) (defScope s__law_start) .none kV46 dc46 pm46 an46 cd46 ct46), sl46⟩) (c46 : PySem.W.codeIn K cd46 "_law_start" = true) (k46 : PySem.W.keepIn K (.ref f46) = true)
    (a47 : PySem.W.nsIn K mainGlobals "_law_fill" = some (some (.ref f47)))
    (l47 : K.lookup f47 = some ⟨oc47, od47, .func (PySem.W.fnOf "_law_fill" "_law_fill" (defArgs s__law_fill) (defBody s__law_fill) (defScope s__law_fill) .none kV47 dc47 pm47 an47 cd47 ct47), sl47⟩) (c47 : PySem.W.codeIn K cd47 "_law_fill" = true) (k47 : PySem.W.keepIn K (.ref f47) = true)
    (a48 : PySem.W.nsIn K mainGlobals "_law_take" = some (some (.ref f48)))
    (l48 : K.lookup f48 = some ⟨oc48, od48, .func (PySem.W.fnOf "_law_take" "_law_take" (defArgs s__law_take) (defBody s__law_take) (defScope s__law_take) .none kV48 dc48 pm48 an48 cd48 ct48), sl48⟩) (c48 : PySem.W.codeIn K cd48 "_law_take" = true) (k48 : PySem.W.keepIn K (.ref f48) = true)
    (a49 : PySem.W.nsIn K mainGlobals "_law_divisor" = some (some (.ref f49)))
    (l49 : K.lookup f49 = some ⟨oc49, od49, .func (PySem.W.fnOf "_law_divisor" "_law_divisor" (defArgs s__law_divisor) (defBody s__law_divisor) (defScope s__law_divisor) .none kV49 dc49 pm49 an49 cd49 ct49), sl49⟩) (c49 : PySem.W.codeIn K cd49 "_law_divisor" = true) (k49 : PySem.W.keepIn K (.ref f49) = true)
    (a50 : PySem.W.nsIn K mainGlobals "_law_fraction" = some (some (.ref f50)))
    (l50 : K.lookup f50 = some ⟨oc50, od50, .func (PySem.W.fnOf "_law_fraction" "_law_fraction" (defArgs s__law_fraction) (defBody s__law_fraction) (defScope s__law_fraction) .none kV50 dc50 pm50 an50 cd50 ct50), sl50⟩) (c50 : PySem.W.codeIn K cd50 "_law_fraction" = true) (k50 : PySem.W.keepIn K (.ref f50) = true)
    (a51 : PySem.W.nsIn K mainGlobals "_law_plus" = some (some (.ref f51)))
    (l51 : K.lookup f51 = some ⟨oc51, od51, .func (PySem.W.fnOf "_law_plus" "_law_plus" (defArgs s__law_plus) (defBody s__law_plus) (defScope s__law_plus) .none kV51 dc51 pm51 an51 cd51 ct51), sl51⟩) (c51 : PySem.W.codeIn K cd51 "_law_plus" = true) (k51 : PySem.W.keepIn K (.ref f51) = true)
    (a52 : PySem.W.nsIn K mainGlobals "_law_times" = some (some (.ref f52)))
    (l52 : K.lookup f52 = some ⟨oc52, od52, .func (PySem.W.fnOf "_law_times" "_law_times" (defArgs s__law_times) (defBody s__law_times) (defScope s__law_times) .none kV52 dc52 pm52 an52 cd52 ct52), sl52⟩) (c52 : PySem.W.codeIn K cd52 "_law_times" = true) (k52 : PySem.W.keepIn K (.ref f52) = true)
    (a53 : PySem.W.nsIn K mainGlobals "_law_said" = some (some (.ref f53)))
    (l53 : K.lookup f53 = some ⟨oc53, od53, .func (PySem.W.fnOf "_law_said" "_law_said" (defArgs s__law_said) (defBody s__law_said) (defScope s__law_said) .none kV53 dc53 pm53 an53 cd53 ct53), sl53⟩) (c53 : PySem.W.codeIn K cd53 "_law_said" = true) (k53 : PySem.W.keepIn K (.ref f53) = true)
    (a54 : PySem.W.nsIn K mainGlobals "_law_less" = some (some (.ref f54)))
    (l54 : K.lookup f54 = some ⟨oc54, od54, .func (PySem.W.fnOf "_law_less" "_law_less" (defArgs s__law_less) (defBody s__law_less) (defScope s__law_less) .none kV54 dc54 pm54 an54 cd54 ct54), sl54⟩) (c54 : PySem.W.codeIn K cd54 "_law_less" = true) (k54 : PySem.W.keepIn K (.ref f54) = true)
    (a55 : PySem.W.nsIn K mainGlobals "_law_minus" = some (some (.ref f55)))
    (l55 : K.lookup f55 = some ⟨oc55, od55, .func (PySem.W.fnOf "_law_minus" "_law_minus" (defArgs s__law_minus) (defBody s__law_minus) (defScope s__law_minus) .none kV55 dc55 pm55 an55 cd55 ct55), sl55⟩) (c55 : PySem.W.codeIn K cd55 "_law_minus" = true) (k55 : PySem.W.keepIn K (.ref f55) = true)
    (a56 : PySem.W.nsIn K mainGlobals "_law_away" = some (some (.ref f56)))
    (l56 : K.lookup f56 = some ⟨oc56, od56, .func (PySem.W.fnOf "_law_away" "_law_away" (defArgs s__law_away) (defBody s__law_away) (defScope s__law_away) .none kV56 dc56 pm56 an56 cd56 ct56), sl56⟩) (c56 : PySem.W.codeIn K cd56 "_law_away" = true) (k56 : PySem.W.keepIn K (.ref f56) = true)
    (a57 : PySem.W.nsIn K mainGlobals "_law_far" = some (some (.ref f57)))
    (l57 : K.lookup f57 = some ⟨oc57, od57, .func (PySem.W.fnOf "_law_far" "_law_far" (defArgs s__law_far) (defBody s__law_far) (defScope s__law_far) .none kV57 dc57 pm57 an57 cd57 ct57), sl57⟩) (c57 : PySem.W.codeIn K cd57 "_law_far" = true) (k57 : PySem.W.keepIn K (.ref f57) = true)
    (a58 : PySem.W.nsIn K mainGlobals "_law_around" = some (some (.ref f58)))
    (l58 : K.lookup f58 = some ⟨oc58, od58, .func (PySem.W.fnOf "_law_around" "_law_around" (defArgs s__law_around) (defBody s__law_around) (defScope s__law_around) .none kV58 dc58 pm58 an58 cd58 ct58), sl58⟩) (c58 : PySem.W.codeIn K cd58 "_law_around" = true) (k58 : PySem.W.keepIn K (.ref f58) = true)
    (a59 : PySem.W.nsIn K mainGlobals "_law_near_right" = some (some (.ref f59)))
    (l59 : K.lookup f59 = some ⟨oc59, od59, .func (PySem.W.fnOf "_law_near_right" "_law_near_right" (defArgs s__law_near_right) (defBody s__law_near_right) (defScope s__law_near_right) .none kV59 dc59 pm59 an59 cd59 ct59), sl59⟩) (c59 : PySem.W.codeIn K cd59 "_law_near_right" = true) (k59 : PySem.W.keepIn K (.ref f59) = true)
    (a60 : PySem.W.nsIn K mainGlobals "_law_rule" = some (some (.ref f60)))
    (l60 : K.lookup f60 = some ⟨oc60, od60, .func (PySem.W.fnOf "_law_rule" "_law_rule" (defArgs s__law_rule) (defBody s__law_rule) (defScope s__law_rule) .none kV60 dc60 pm60 an60 cd60 ct60), sl60⟩) (c60 : PySem.W.codeIn K cd60 "_law_rule" = true) (k60 : PySem.W.keepIn K (.ref f60) = true)
    (a61 : PySem.W.nsIn K mainGlobals "_law_leap" = some (some (.ref f61)))
    (l61 : K.lookup f61 = some ⟨oc61, od61, .func (PySem.W.fnOf "_law_leap" "_law_leap" (defArgs s__law_leap) (defBody s__law_leap) (defScope s__law_leap) .none kV61 dc61 pm61 an61 cd61 ct61), sl61⟩) (c61 : PySem.W.codeIn K cd61 "_law_leap" = true) (k61 : PySem.W.keepIn K (.ref f61) = true)
    (a62 : PySem.W.nsIn K mainGlobals "_law_drift_right" = some (some (.ref f62)))
    (l62 : K.lookup f62 = some ⟨oc62, od62, .func (PySem.W.fnOf "_law_drift_right" "_law_drift_right" (defArgs s__law_drift_right) (defBody s__law_drift_right) (defScope s__law_drift_right) .none kV62 dc62 pm62 an62 cd62 ct62), sl62⟩) (c62 : PySem.W.codeIn K cd62 "_law_drift_right" = true) (k62 : PySem.W.keepIn K (.ref f62) = true)
    (a63 : PySem.W.nsIn K mainGlobals "_law_days" = some (some (.ref f63)))
    (l63 : K.lookup f63 = some ⟨oc63, od63, .func (PySem.W.fnOf "_law_days" "_law_days" (defArgs s__law_days) (defBody s__law_days) (defScope s__law_days) .none kV63 dc63 pm63 an63 cd63 ct63), sl63⟩) (c63 : PySem.W.codeIn K cd63 "_law_days" = true) (k63 : PySem.W.keepIn K (.ref f63) = true)
    (a64 : PySem.W.nsIn K mainGlobals "_law_week_right" = some (some (.ref f64)))
    (l64 : K.lookup f64 = some ⟨oc64, od64, .func (PySem.W.fnOf "_law_week_right" "_law_week_right" (defArgs s__law_week_right) (defBody s__law_week_right) (defScope s__law_week_right) .none kV64 dc64 pm64 an64 cd64 ct64), sl64⟩) (c64 : PySem.W.codeIn K cd64 "_law_week_right" = true) (k64 : PySem.W.keepIn K (.ref f64) = true)
    (a65 : PySem.W.nsIn K mainGlobals "_law_agree_right" = some (some (.ref f65)))
    (l65 : K.lookup f65 = some ⟨oc65, od65, .func (PySem.W.fnOf "_law_agree_right" "_law_agree_right" (defArgs s__law_agree_right) (defBody s__law_agree_right) (defScope s__law_agree_right) .none kV65 dc65 pm65 an65 cd65 ct65), sl65⟩) (c65 : PySem.W.codeIn K cd65 "_law_agree_right" = true) (k65 : PySem.W.keepIn K (.ref f65) = true)
    (a66 : PySem.W.nsIn K mainGlobals "law" = some (some (.ref f66)))
    (l66 : K.lookup f66 = some ⟨oc66, od66, .func (PySem.W.fnOf "law" "law" (defArgs s_law) (defBody s_law) (defScope s_law) .none kV66 dc66 pm66 an66 cd66 ct66), sl66⟩) (c66 : PySem.W.codeIn K cd66 "law" = true) (k66 : PySem.W.keepIn K (.ref f66) = true)
    (z_abs : PySem.W.nsIn K mainGlobals "abs" = some none)
    (z_all : PySem.W.nsIn K mainGlobals "all" = some none)
    (z_any : PySem.W.nsIn K mainGlobals "any" = some none)
    (z_bool : PySem.W.nsIn K mainGlobals "bool" = some none)
    (z_int : PySem.W.nsIn K mainGlobals "int" = some none)
    (z_isinstance : PySem.W.nsIn K mainGlobals "isinstance" = some none)
    (z_len : PySem.W.nsIn K mainGlobals "len" = some none)
    (z_list : PySem.W.nsIn K mainGlobals "list" = some none)
    (z_max : PySem.W.nsIn K mainGlobals "max" = some none)
    (z_min : PySem.W.nsIn K mainGlobals "min" = some none)
    (z_range : PySem.W.nsIn K mainGlobals "range" = some none)
    (z_repr : PySem.W.nsIn K mainGlobals "repr" = some none)
    (z_set : PySem.W.nsIn K mainGlobals "set" = some none)
    (z_sorted : PySem.W.nsIn K mainGlobals "sorted" = some none)
    (z_str : PySem.W.nsIn K mainGlobals "str" = some none)
    (z_sum : PySem.W.nsIn K mainGlobals "sum" = some none)
    (z_tuple : PySem.W.nsIn K mainGlobals "tuple" = some none)
    (mg_ONE : PySem.W.nsIn K mainGlobals "ONE" = some (some (.ref ag_ONE)))
    (kg_ONE : K.lookup ag_ONE = some ⟨.type "tuple", dxg_ONE, .seq #[.int 1 tg_ONE_0, .int 1 tg_ONE_1] ng_ONE, slg_ONE⟩)
    (g_MOST_CYCLE : PySem.W.nsIn K mainGlobals "MOST_CYCLE" = some (some (.int 20000 tk_MOST_CYCLE)))
    (g_MOST_YEAR : PySem.W.nsIn K mainGlobals "MOST_YEAR" = some (some (.int 100000 tk_MOST_YEAR))) :
    ∃ fd : FuncData, (∀ (s : Shared) (v : Value), BindsTo s fd ⟨[v], []⟩ [("script", v)]) ∧ ∀ base : Heap, K.In base → base.Ns mainGlobals mg → FnOk l.prog w K mg base CX0 9 fa fd ["script"] (spLaw K) := by
  have e := hfa.symm.trans (PySem.W.mg_of X G a66)
  cases e
  let cA : Nat → Addr := fun i => match i with

  | _ => 0
  let f : Nat → Addr := fun i => match i with
  | 0 => f0
  | 1 => f1
  | 2 => f2
  | 3 => f3
  | 4 => f4
  | 5 => f5
  | 6 => f6
  | 7 => f7
  | 8 => f8
  | 9 => f9
  | 10 => f10
  | 11 => f11
  | 12 => f12
  | 13 => f13
  | 14 => f14
  | 15 => f15
  | 16 => f16
  | 17 => f17
  | 18 => f18
  | 19 => f19
  | 20 => f20
  | 21 => f21
  | 22 => f22
  | 23 => f23
  | 24 => f24
  | 25 => f25
  | 26 => f26
  | 27 => f27
  | 28 => f28
  | 29 => f29
  | 30 => f30
  | 31 => f31
  | 32 => f32
  | 33 => f33
  | 34 => f34
  | 35 => f35
  | 36 => f36
  | 37 => f37
  | 38 => f38
  | 39 => f39
  | 40 => f40
  | 41 => f41
  | 42 => f42
  | 43 => f43
  | 44 => f44
  | 45 => f45
  | 46 => f46
  | 47 => f47
  | 48 => f48
  | 49 => f49
  | 50 => f50
  | 51 => f51
  | 52 => f52
  | 53 => f53
  | 54 => f54
  | 55 => f55
  | 56 => f56
  | 57 => f57
  | 58 => f58
  | 59 => f59
  | 60 => f60
  | 61 => f61
  | 62 => f62
  | 63 => f63
  | 64 => f64
  | 65 => f65
  | 66 => fa
  | _ => 0
  let fd : Nat → FuncData := fun i => match i with
  | 0 => PySem.W.fnOf "common_divisor" "common_divisor" (defArgs s_common_divisor) (defBody s_common_divisor) (defScope s_common_divisor) .none kV0 dc0 pm0 an0 cd0 ct0
  | 1 => PySem.W.fnOf "ratio" "ratio" (defArgs s_ratio) (defBody s_ratio) (defScope s_ratio) .none kV1 dc1 pm1 an1 cd1 ct1
  | 2 => PySem.W.fnOf "plus" "plus" (defArgs s_plus) (defBody s_plus) (defScope s_plus) .none kV2 dc2 pm2 an2 cd2 ct2
  | 3 => PySem.W.fnOf "times" "times" (defArgs s_times) (defBody s_times) (defScope s_times) .none kV3 dc3 pm3 an3 cd3 ct3
  | 4 => PySem.W.fnOf "negative" "negative" (defArgs s_negative) (defBody s_negative) (defScope s_negative) .none kV4 dc4 pm4 an4 cd4 ct4
  | 5 => PySem.W.fnOf "minus" "minus" (defArgs s_minus) (defBody s_minus) (defScope s_minus) .none kV5 dc5 pm5 an5 cd5 ct5
  | 6 => PySem.W.fnOf "is_less" "is_less" (defArgs s_is_less) (defBody s_is_less) (defScope s_is_less) .none kV6 dc6 pm6 an6 cd6 ct6
  | 7 => PySem.W.fnOf "at_most" "at_most" (defArgs s_at_most) (defBody s_at_most) (defScope s_at_most) .none kV7 dc7 pm7 an7 cd7 ct7
  | 8 => PySem.W.fnOf "is_integer" "is_integer" (defArgs s_is_integer) (defBody s_is_integer) (defScope s_is_integer) .none kV8 dc8 pm8 an8 cd8 ct8
  | 9 => PySem.W.fnOf "is_ratio" "is_ratio" (defArgs s_is_ratio) (defBody s_is_ratio) (defScope s_is_ratio) .none kV9 dc9 pm9 an9 cd9 ct9
  | 10 => PySem.W.fnOf "floor_of" "floor_of" (defArgs s_floor_of) (defBody s_floor_of) (defScope s_floor_of) .none kV10 dc10 pm10 an10 cd10 ct10
  | 11 => PySem.W.fnOf "absolute" "absolute" (defArgs s_absolute) (defBody s_absolute) (defScope s_absolute) .none kV11 dc11 pm11 an11 cd11 ct11
  | 12 => PySem.W.fnOf "nearest_whole" "nearest_whole" (defArgs s_nearest_whole) (defBody s_nearest_whole) (defScope s_nearest_whole) .none kV12 dc12 pm12 an12 cd12 ct12
  | 13 => PySem.W.fnOf "away" "away" (defArgs s_away) (defBody s_away) (defScope s_away) .none kV13 dc13 pm13 an13 cd13 ct13
  | 14 => PySem.W.fnOf "below_by" "below_by" (defArgs s_below_by) (defBody s_below_by) (defScope s_below_by) .none kV14 dc14 pm14 an14 cd14 ct14
  | 15 => PySem.W.fnOf "above_by" "above_by" (defArgs s_above_by) (defBody s_above_by) (defScope s_above_by) .none kV15 dc15 pm15 an15 cd15 ct15
  | 16 => PySem.W.fnOf "steps_within" "steps_within" (defArgs s_steps_within) (defBody s_steps_within) (defScope s_steps_within) .none kV16 dc16 pm16 an16 cd16 ct16
  | 17 => PySem.W.fnOf "steps_above" "steps_above" (defArgs s_steps_above) (defBody s_steps_above) (defScope s_steps_above) .none kV17 dc17 pm17 an17 cd17 ct17
  | 18 => PySem.W.fnOf "neighbours" "neighbours" (defArgs s_neighbours) (defBody s_neighbours) (defScope s_neighbours) .none kV18 dc18 pm18 an18 cd18 ct18
  | 19 => PySem.W.fnOf "steps_to" "steps_to" (defArgs s_steps_to) (defBody s_steps_to) (defScope s_steps_to) .none kV19 dc19 pm19 an19 cd19 ct19
  | 20 => PySem.W.fnOf "added" "added" (defArgs s_added) (defBody s_added) (defScope s_added) .none kV20 dc20 pm20 an20 cd20 ct20
  | 21 => PySem.W.fnOf "near_paper" "near_paper" (defArgs s_near_paper) (defBody s_near_paper) (defScope s_near_paper) .none kV21 dc21 pm21 an21 cd21 ct21
  | 22 => PySem.W.fnOf "is_pair" "is_pair" (defArgs s_is_pair) (defBody s_is_pair) (defScope s_is_pair) .none kV22 dc22 pm22 an22 cd22 ct22
  | 23 => PySem.W.fnOf "are_neighbours" "are_neighbours" (defArgs s_are_neighbours) (defBody s_are_neighbours) (defScope s_are_neighbours) .none kV23 dc23 pm23 an23 cd23 ct23
  | 24 => PySem.W.fnOf "judge_near" "judge_near" (defArgs s_judge_near) (defBody s_judge_near) (defScope s_judge_near) .none kV24 dc24 pm24 an24 cd24 ct24
  | 25 => PySem.W.fnOf "nearer" "nearer" (defArgs s_nearer) (defBody s_nearer) (defScope s_nearer) .none kV25 dc25 pm25 an25 cd25 ct25
  | 26 => PySem.W.fnOf "best_paper" "best_paper" (defArgs s_best_paper) (defBody s_best_paper) (defScope s_best_paper) .none kV26 dc26 pm26 an26 cd26 ct26
  | 27 => PySem.W.fnOf "judge_best_fraction" "judge_best_fraction" (defArgs s_judge_best_fraction) (defBody s_judge_best_fraction) (defScope s_judge_best_fraction) .none kV27 dc27 pm27 an27 cd27 ct27
  | 28 => PySem.W.fnOf "holding" "holding" (defArgs s_holding) (defBody s_holding) (defScope s_holding) .none kV28 dc28 pm28 an28 cd28 ct28
  | 29 => PySem.W.fnOf "agree_paper" "agree_paper" (defArgs s_agree_paper) (defBody s_agree_paper) (defScope s_agree_paper) .none kV29 dc29 pm29 an29 cd29 ct29
  | 30 => PySem.W.fnOf "judge_agree" "judge_agree" (defArgs s_judge_agree) (defBody s_judge_agree) (defScope s_judge_agree) .none kV30 dc30 pm30 an30 cd30 ct30
  | 31 => PySem.W.fnOf "leaps_before" "leaps_before" (defArgs s_leaps_before) (defBody s_leaps_before) (defScope s_leaps_before) .none kV31 dc31 pm31 an31 cd31 ct31
  | 32 => PySem.W.fnOf "is_leap" "is_leap" (defArgs s_is_leap) (defBody s_is_leap) (defScope s_is_leap) .none kV32 dc32 pm32 an32 cd32 ct32
  | 33 => PySem.W.fnOf "drift" "drift" (defArgs s_drift) (defBody s_drift) (defScope s_drift) .none kV33 dc33 pm33 an33 cd33 ct33
  | 34 => PySem.W.fnOf "extremes" "extremes" (defArgs s_extremes) (defBody s_extremes) (defScope s_extremes) .none kV34 dc34 pm34 an34 cd34 ct34
  | 35 => PySem.W.fnOf "first_far" "first_far" (defArgs s_first_far) (defBody s_first_far) (defScope s_first_far) .none kV35 dc35 pm35 an35 cd35 ct35
  | 36 => PySem.W.fnOf "drift_paper" "drift_paper" (defArgs s_drift_paper) (defBody s_drift_paper) (defScope s_drift_paper) .none kV36 dc36 pm36 an36 cd36 ct36
  | 37 => PySem.W.fnOf "judge_drift" "judge_drift" (defArgs s_judge_drift) (defBody s_judge_drift) (defScope s_judge_drift) .none kV37 dc37 pm37 an37 cd37 ct37
  | 38 => PySem.W.fnOf "month_length" "month_length" (defArgs s_month_length) (defBody s_month_length) (defScope s_month_length) .none kV38 dc38 pm38 an38 cd38 ct38
  | 39 => PySem.W.fnOf "is_date" "is_date" (defArgs s_is_date) (defBody s_is_date) (defScope s_is_date) .none kV39 dc39 pm39 an39 cd39 ct39
  | 40 => PySem.W.fnOf "year_begin" "year_begin" (defArgs s_year_begin) (defBody s_year_begin) (defScope s_year_begin) .none kV40 dc40 pm40 an40 cd40 ct40
  | 41 => PySem.W.fnOf "day_of" "day_of" (defArgs s_day_of) (defBody s_day_of) (defScope s_day_of) .none kV41 dc41 pm41 an41 cd41 ct41
  | 42 => PySem.W.fnOf "date_of" "date_of" (defArgs s_date_of) (defBody s_date_of) (defScope s_date_of) .none kV42 dc42 pm42 an42 cd42 ct42
  | 43 => PySem.W.fnOf "falls_on" "falls_on" (defArgs s_falls_on) (defBody s_falls_on) (defScope s_falls_on) .none kV43 dc43 pm43 an43 cd43 ct43
  | 44 => PySem.W.fnOf "week_paper" "week_paper" (defArgs s_week_paper) (defBody s_week_paper) (defScope s_week_paper) .none kV44 dc44 pm44 an44 cd44 ct44
  | 45 => PySem.W.fnOf "judge_week" "judge_week" (defArgs s_judge_week) (defBody s_judge_week) (defScope s_judge_week) .none kV45 dc45 pm45 an45 cd45 ct45
  | 46 => PySem.W.fnOf "_law_start" "_law_start" (defArgs s__law_start) (defBody s__law_start) (defScope s__law_start) .none kV46 dc46 pm46 an46 cd46 ct46
  | 47 => PySem.W.fnOf "_law_fill" "_law_fill" (defArgs s__law_fill) (defBody s__law_fill) (defScope s__law_fill) .none kV47 dc47 pm47 an47 cd47 ct47
  | 48 => PySem.W.fnOf "_law_take" "_law_take" (defArgs s__law_take) (defBody s__law_take) (defScope s__law_take) .none kV48 dc48 pm48 an48 cd48 ct48
  | 49 => PySem.W.fnOf "_law_divisor" "_law_divisor" (defArgs s__law_divisor) (defBody s__law_divisor) (defScope s__law_divisor) .none kV49 dc49 pm49 an49 cd49 ct49
  | 50 => PySem.W.fnOf "_law_fraction" "_law_fraction" (defArgs s__law_fraction) (defBody s__law_fraction) (defScope s__law_fraction) .none kV50 dc50 pm50 an50 cd50 ct50
  | 51 => PySem.W.fnOf "_law_plus" "_law_plus" (defArgs s__law_plus) (defBody s__law_plus) (defScope s__law_plus) .none kV51 dc51 pm51 an51 cd51 ct51
  | 52 => PySem.W.fnOf "_law_times" "_law_times" (defArgs s__law_times) (defBody s__law_times) (defScope s__law_times) .none kV52 dc52 pm52 an52 cd52 ct52
  | 53 => PySem.W.fnOf "_law_said" "_law_said" (defArgs s__law_said) (defBody s__law_said) (defScope s__law_said) .none kV53 dc53 pm53 an53 cd53 ct53
  | 54 => PySem.W.fnOf "_law_less" "_law_less" (defArgs s__law_less) (defBody s__law_less) (defScope s__law_less) .none kV54 dc54 pm54 an54 cd54 ct54
  | 55 => PySem.W.fnOf "_law_minus" "_law_minus" (defArgs s__law_minus) (defBody s__law_minus) (defScope s__law_minus) .none kV55 dc55 pm55 an55 cd55 ct55
  | 56 => PySem.W.fnOf "_law_away" "_law_away" (defArgs s__law_away) (defBody s__law_away) (defScope s__law_away) .none kV56 dc56 pm56 an56 cd56 ct56
  | 57 => PySem.W.fnOf "_law_far" "_law_far" (defArgs s__law_far) (defBody s__law_far) (defScope s__law_far) .none kV57 dc57 pm57 an57 cd57 ct57
  | 58 => PySem.W.fnOf "_law_around" "_law_around" (defArgs s__law_around) (defBody s__law_around) (defScope s__law_around) .none kV58 dc58 pm58 an58 cd58 ct58
  | 59 => PySem.W.fnOf "_law_near_right" "_law_near_right" (defArgs s__law_near_right) (defBody s__law_near_right) (defScope s__law_near_right) .none kV59 dc59 pm59 an59 cd59 ct59
  | 60 => PySem.W.fnOf "_law_rule" "_law_rule" (defArgs s__law_rule) (defBody s__law_rule) (defScope s__law_rule) .none kV60 dc60 pm60 an60 cd60 ct60
  | 61 => PySem.W.fnOf "_law_leap" "_law_leap" (defArgs s__law_leap) (defBody s__law_leap) (defScope s__law_leap) .none kV61 dc61 pm61 an61 cd61 ct61
  | 62 => PySem.W.fnOf "_law_drift_right" "_law_drift_right" (defArgs s__law_drift_right) (defBody s__law_drift_right) (defScope s__law_drift_right) .none kV62 dc62 pm62 an62 cd62 ct62
  | 63 => PySem.W.fnOf "_law_days" "_law_days" (defArgs s__law_days) (defBody s__law_days) (defScope s__law_days) .none kV63 dc63 pm63 an63 cd63 ct63
  | 64 => PySem.W.fnOf "_law_week_right" "_law_week_right" (defArgs s__law_week_right) (defBody s__law_week_right) (defScope s__law_week_right) .none kV64 dc64 pm64 an64 cd64 ct64
  | 65 => PySem.W.fnOf "_law_agree_right" "_law_agree_right" (defArgs s__law_agree_right) (defBody s__law_agree_right) (defScope s__law_agree_right) .none kV65 dc65 pm65 an65 cd65 ct65
  | 66 => PySem.W.fnOf "law" "law" (defArgs s_law) (defBody s_law) (defScope s_law) .none kV66 dc66 pm66 an66 cd66 ct66
  | _ => PySem.W.fnOf "law" "law" (defArgs s_law) (defBody s_law) (defScope s_law) .none kV66 dc66 pm66 an66 cd66 ct66
  have T : Txt K mg cA f fd := ⟨fun_mk (st := s_common_divisor) l0 c0 k0,
    (fun_mk (st := s_common_divisor) l0 c0 k0).binds (ps := ["first", "second"]) fun _ _ _ _ _ _ us hl => match us, hl with | [_, _], _ => rfl,
    PySem.W.mg_of X G a0,
    fun_mk (st := s_ratio) l1 c1 k1,
    (fun_mk (st := s_ratio) l1 c1 k1).binds (ps := ["above", "below"]) fun _ _ _ _ _ _ us hl => match us, hl with | [_, _], _ => rfl,
    PySem.W.mg_of X G a1,
    fun_mk (st := s_plus) l2 c2 k2,
    (fun_mk (st := s_plus) l2 c2 k2).binds (ps := ["first", "second"]) fun _ _ _ _ _ _ us hl => match us, hl with | [_, _], _ => rfl,
    PySem.W.mg_of X G a2,
    fun_mk (st := s_times) l3 c3 k3,
    (fun_mk (st := s_times) l3 c3 k3).binds (ps := ["first", "second"]) fun _ _ _ _ _ _ us hl => match us, hl with | [_, _], _ => rfl,
    PySem.W.mg_of X G a3,
    fun_mk (st := s_negative) l4 c4 k4,
    (fun_mk (st := s_negative) l4 c4 k4).binds (ps := ["one"]) fun _ _ _ _ _ _ us hl => match us, hl with | [_], _ => rfl,
    PySem.W.mg_of X G a4,
    fun_mk (st := s_minus) l5 c5 k5,
    (fun_mk (st := s_minus) l5 c5 k5).binds (ps := ["first", "second"]) fun _ _ _ _ _ _ us hl => match us, hl with | [_, _], _ => rfl,
    PySem.W.mg_of X G a5,
    fun_mk (st := s_is_less) l6 c6 k6,
    (fun_mk (st := s_is_less) l6 c6 k6).binds (ps := ["first", "second"]) fun _ _ _ _ _ _ us hl => match us, hl with | [_, _], _ => rfl,
    PySem.W.mg_of X G a6,
    fun_mk (st := s_at_most) l7 c7 k7,
    (fun_mk (st := s_at_most) l7 c7 k7).binds (ps := ["first", "second"]) fun _ _ _ _ _ _ us hl => match us, hl with | [_, _], _ => rfl,
    PySem.W.mg_of X G a7,
    fun_mk (st := s_is_integer) l8 c8 k8,
    (fun_mk (st := s_is_integer) l8 c8 k8).binds (ps := ["value"]) fun _ _ _ _ _ _ us hl => match us, hl with | [_], _ => rfl,
    PySem.W.mg_of X G a8,
    fun_mk (st := s_is_ratio) l9 c9 k9,
    (fun_mk (st := s_is_ratio) l9 c9 k9).binds (ps := ["value"]) fun _ _ _ _ _ _ us hl => match us, hl with | [_], _ => rfl,
    PySem.W.mg_of X G a9,
    fun_mk (st := s_floor_of) l10 c10 k10,
    (fun_mk (st := s_floor_of) l10 c10 k10).binds (ps := ["x"]) fun _ _ _ _ _ _ us hl => match us, hl with | [_], _ => rfl,
    PySem.W.mg_of X G a10,
    fun_mk (st := s_absolute) l11 c11 k11,
    (fun_mk (st := s_absolute) l11 c11 k11).binds (ps := ["x"]) fun _ _ _ _ _ _ us hl => match us, hl with | [_], _ => rfl,
    PySem.W.mg_of X G a11,
    fun_mk (st := s_nearest_whole) l12 c12 k12,
    (fun_mk (st := s_nearest_whole) l12 c12 k12).binds (ps := ["x"]) fun _ _ _ _ _ _ us hl => match us, hl with | [_], _ => rfl,
    PySem.W.mg_of X G a12,
    fun_mk (st := s_away) l13 c13 k13,
    (fun_mk (st := s_away) l13 c13 k13).binds (ps := ["x"]) fun _ _ _ _ _ _ us hl => match us, hl with | [_], _ => rfl,
    PySem.W.mg_of X G a13,
    fun_mk (st := s_below_by) l14 c14 k14,
    (fun_mk (st := s_below_by) l14 c14 k14).binds (ps := ["a", "low"]) fun _ _ _ _ _ _ us hl => match us, hl with | [_, _], _ => rfl,
    PySem.W.mg_of X G a14,
    fun_mk (st := s_above_by) l15 c15 k15,
    (fun_mk (st := s_above_by) l15 c15 k15).binds (ps := ["a", "high"]) fun _ _ _ _ _ _ us hl => match us, hl with | [_, _], _ => rfl,
    PySem.W.mg_of X G a15,
    fun_mk (st := s_steps_within) l16 c16 k16,
    (fun_mk (st := s_steps_within) l16 c16 k16).binds (ps := ["gap", "step", "most"]) fun _ _ _ _ _ _ us hl => match us, hl with | [_, _, _], _ => rfl,
    PySem.W.mg_of X G a16,
    fun_mk (st := s_steps_above) l17 c17 k17,
    (fun_mk (st := s_steps_above) l17 c17 k17).binds (ps := ["gap", "step", "most"]) fun _ _ _ _ _ _ us hl => match us, hl with | [_, _, _], _ => rfl,
    PySem.W.mg_of X G a17,
    fun_mk (st := s_neighbours) l18 c18 k18,
    (fun_mk (st := s_neighbours) l18 c18 k18).binds (ps := ["a", "n"]) fun _ _ _ _ _ _ us hl => match us, hl with | [_, _], _ => rfl,
    PySem.W.mg_of X G a18,
    fun_mk (st := s_steps_to) l19 c19 k19,
    (fun_mk (st := s_steps_to) l19 c19 k19).binds (ps := ["gap", "step", "e"]) fun _ _ _ _ _ _ us hl => match us, hl with | [_, _, _], _ => rfl,
    PySem.W.mg_of X G a19,
    fun_mk (st := s_added) l20 c20 k20,
    (fun_mk (st := s_added) l20 c20 k20).binds (ps := ["pair", "other", "k"]) fun _ _ _ _ _ _ us hl => match us, hl with | [_, _, _], _ => rfl,
    PySem.W.mg_of X G a20,
    fun_mk (st := s_near_paper) l21 c21 k21,
    (fun_mk (st := s_near_paper) l21 c21 k21).binds (ps := ["a", "e"]) fun _ _ _ _ _ _ us hl => match us, hl with | [_, _], _ => rfl,
    PySem.W.mg_of X G a21,
    fun_mk (st := s_is_pair) l22 c22 k22,
    (fun_mk (st := s_is_pair) l22 c22 k22).binds (ps := ["value"]) fun _ _ _ _ _ _ us hl => match us, hl with | [_], _ => rfl,
    PySem.W.mg_of X G a22,
    fun_mk (st := s_are_neighbours) l23 c23 k23,
    (fun_mk (st := s_are_neighbours) l23 c23 k23).binds (ps := ["a", "low", "high"]) fun _ _ _ _ _ _ us hl => match us, hl with | [_, _, _], _ => rfl,
    PySem.W.mg_of X G a23,
    fun_mk (st := s_judge_near) l24 c24 k24,
    (fun_mk (st := s_judge_near) l24 c24 k24).binds (ps := ["a", "e", "value"]) fun _ _ _ _ _ _ us hl => match us, hl with | [_, _, _], _ => rfl,
    PySem.W.mg_of X G a24,
    fun_mk (st := s_nearer) l25 c25 k25,
    (fun_mk (st := s_nearer) l25 c25 k25).binds (ps := ["a", "low", "high"]) fun _ _ _ _ _ _ us hl => match us, hl with | [_, _, _], _ => rfl,
    PySem.W.mg_of X G a25,
    fun_mk (st := s_best_paper) l26 c26 k26,
    (fun_mk (st := s_best_paper) l26 c26 k26).binds (ps := ["a", "n"]) fun _ _ _ _ _ _ us hl => match us, hl with | [_, _], _ => rfl,
    PySem.W.mg_of X G a26,
    fun_mk (st := s_judge_best_fraction) l27 c27 k27,
    (fun_mk (st := s_judge_best_fraction) l27 c27 k27).binds (ps := ["a", "n", "value"]) fun _ _ _ _ _ _ us hl => match us, hl with | [_, _, _], _ => rfl,
    PySem.W.mg_of X G a27,
    fun_mk (st := s_holding) l28 c28 k28,
    (fun_mk (st := s_holding) l28 c28 k28).binds (ps := ["readings", "moment"]) fun _ _ _ _ _ _ us hl => match us, hl with | [_, _], _ => rfl,
    PySem.W.mg_of X G a28,
    fun_mk (st := s_agree_paper) l29 c29 k29,
    (fun_mk (st := s_agree_paper) l29 c29 k29).binds (ps := ["readings", "f"]) fun _ _ _ _ _ _ us hl => match us, hl with | [_, _], _ => rfl,
    PySem.W.mg_of X G a29,
    fun_mk (st := s_judge_agree) l30 c30 k30,
    (fun_mk (st := s_judge_agree) l30 c30 k30).binds (ps := ["readings", "f", "value"]) fun _ _ _ _ _ _ us hl => match us, hl with | [_, _, _], _ => rfl,
    PySem.W.mg_of X G a30,
    fun_mk (st := s_leaps_before) l31 c31 k31,
    (fun_mk (st := s_leaps_before) l31 c31 k31).binds (ps := ["rule", "y"]) fun _ _ _ _ _ _ us hl => match us, hl with | [_, _], _ => rfl,
    PySem.W.mg_of X G a31,
    fun_mk (st := s_is_leap) l32 c32 k32,
    (fun_mk (st := s_is_leap) l32 c32 k32).binds (ps := ["rule", "y"]) fun _ _ _ _ _ _ us hl => match us, hl with | [_, _], _ => rfl,
    PySem.W.mg_of X G a32,
    fun_mk (st := s_drift) l33 c33 k33,
    (fun_mk (st := s_drift) l33 c33 k33).binds (ps := ["rule", "f", "y"]) fun _ _ _ _ _ _ us hl => match us, hl with | [_, _, _], _ => rfl,
    PySem.W.mg_of X G a33,
    fun_mk (st := s_extremes) l34 c34 k34,
    (fun_mk (st := s_extremes) l34 c34 k34).binds (ps := ["rule", "f"]) fun _ _ _ _ _ _ us hl => match us, hl with | [_, _], _ => rfl,
    PySem.W.mg_of X G a34,
    fun_mk (st := s_first_far) l35 c35 k35,
    (fun_mk (st := s_first_far) l35 c35 k35).binds (ps := ["rule", "f", "most"]) fun _ _ _ _ _ _ us hl => match us, hl with | [_, _, _], _ => rfl,
    PySem.W.mg_of X G a35,
    fun_mk (st := s_drift_paper) l36 c36 k36,
    (fun_mk (st := s_drift_paper) l36 c36 k36).binds (ps := ["rule", "f"]) fun _ _ _ _ _ _ us hl => match us, hl with | [_, _], _ => rfl,
    PySem.W.mg_of X G a36,
    fun_mk (st := s_judge_drift) l37 c37 k37,
    (fun_mk (st := s_judge_drift) l37 c37 k37).binds (ps := ["rule", "f", "value"]) fun _ _ _ _ _ _ us hl => match us, hl with | [_, _, _], _ => rfl,
    PySem.W.mg_of X G a37,
    fun_mk (st := s_month_length) l38 c38 k38,
    (fun_mk (st := s_month_length) l38 c38 k38).binds (ps := ["calendar", "y", "month"]) fun _ _ _ _ _ _ us hl => match us, hl with | [_, _, _], _ => rfl,
    PySem.W.mg_of X G a38,
    fun_mk (st := s_is_date) l39 c39 k39,
    (fun_mk (st := s_is_date) l39 c39 k39).binds (ps := ["calendar", "value"]) fun _ _ _ _ _ _ us hl => match us, hl with | [_, _], _ => rfl,
    PySem.W.mg_of X G a39,
    fun_mk (st := s_year_begin) l40 c40 k40,
    (fun_mk (st := s_year_begin) l40 c40 k40).binds (ps := ["calendar", "y"]) fun _ _ _ _ _ _ us hl => match us, hl with | [_, _], _ => rfl,
    PySem.W.mg_of X G a40,
    fun_mk (st := s_day_of) l41 c41 k41,
    (fun_mk (st := s_day_of) l41 c41 k41).binds (ps := ["calendar", "date"]) fun _ _ _ _ _ _ us hl => match us, hl with | [_, _], _ => rfl,
    PySem.W.mg_of X G a41,
    fun_mk (st := s_date_of) l42 c42 k42,
    (fun_mk (st := s_date_of) l42 c42 k42).binds (ps := ["calendar", "n"]) fun _ _ _ _ _ _ us hl => match us, hl with | [_, _], _ => rfl,
    PySem.W.mg_of X G a42,
    fun_mk (st := s_falls_on) l43 c43 k43,
    (fun_mk (st := s_falls_on) l43 c43 k43).binds (ps := ["calendar", "date", "w", "d"]) fun _ _ _ _ _ _ us hl => match us, hl with | [_, _, _, _], _ => rfl,
    PySem.W.mg_of X G a43,
    fun_mk (st := s_week_paper) l44 c44 k44,
    (fun_mk (st := s_week_paper) l44 c44 k44).binds (ps := ["calendar", "month", "day", "w", "d"]) fun _ _ _ _ _ _ us hl => match us, hl with | [_, _, _, _, _], _ => rfl,
    PySem.W.mg_of X G a44,
    fun_mk (st := s_judge_week) l45 c45 k45,
    (fun_mk (st := s_judge_week) l45 c45 k45).binds (ps := ["calendar", "month", "day", "w", "d", "value"]) fun _ _ _ _ _ _ us hl => match us, hl with | [_, _, _, _, _, _], _ => rfl,
    PySem.W.mg_of X G a45,
    fun_mk (st := s__law_start) l46 c46 k46,
    (fun_mk (st := s__law_start) l46 c46 k46).binds (ps := ["script"]) fun _ _ _ _ _ _ us hl => match us, hl with | [_], _ => rfl,
    PySem.W.mg_of X G a46,
    fun_mk (st := s__law_fill) l47 c47 k47,
    (fun_mk (st := s__law_fill) l47 c47 k47).binds (ps := ["c"]) fun _ _ _ _ _ _ us hl => match us, hl with | [_], _ => rfl,
    PySem.W.mg_of X G a47,
    fun_mk (st := s__law_take) l48 c48 k48,
    (fun_mk (st := s__law_take) l48 c48 k48).binds (ps := ["c", "many"]) fun _ _ _ _ _ _ us hl => match us, hl with | [_, _], _ => rfl,
    PySem.W.mg_of X G a48,
    fun_mk (st := s__law_divisor) l49 c49 k49,
    (fun_mk (st := s__law_divisor) l49 c49 k49).binds (ps := ["a", "b"]) fun _ _ _ _ _ _ us hl => match us, hl with | [_, _], _ => rfl,
    PySem.W.mg_of X G a49,
    fun_mk (st := s__law_fraction) l50 c50 k50,
    (fun_mk (st := s__law_fraction) l50 c50 k50).binds (ps := ["n", "d"]) fun _ _ _ _ _ _ us hl => match us, hl with | [_, _], _ => rfl,
    PySem.W.mg_of X G a50,
    fun_mk (st := s__law_plus) l51 c51 k51,
    (fun_mk (st := s__law_plus) l51 c51 k51).binds (ps := ["a", "b"]) fun _ _ _ _ _ _ us hl => match us, hl with | [_, _], _ => rfl,
    PySem.W.mg_of X G a51,
    fun_mk (st := s__law_times) l52 c52 k52,
    (fun_mk (st := s__law_times) l52 c52 k52).binds (ps := ["a", "b"]) fun _ _ _ _ _ _ us hl => match us, hl with | [_, _], _ => rfl,
    PySem.W.mg_of X G a52,
    fun_mk (st := s__law_said) l53 c53 k53,
    (fun_mk (st := s__law_said) l53 c53 k53).binds (ps := ["said", "due"]) fun _ _ _ _ _ _ us hl => match us, hl with | [_, _], _ => rfl,
    PySem.W.mg_of X G a53,
    fun_mk (st := s__law_less) l54 c54 k54,
    (fun_mk (st := s__law_less) l54 c54 k54).binds (ps := ["a", "b"]) fun _ _ _ _ _ _ us hl => match us, hl with | [_, _], _ => rfl,
    PySem.W.mg_of X G a54,
    fun_mk (st := s__law_minus) l55 c55 k55,
    (fun_mk (st := s__law_minus) l55 c55 k55).binds (ps := ["a", "b"]) fun _ _ _ _ _ _ us hl => match us, hl with | [_, _], _ => rfl,
    PySem.W.mg_of X G a55,
    fun_mk (st := s__law_away) l56 c56 k56,
    (fun_mk (st := s__law_away) l56 c56 k56).binds (ps := ["x"]) fun _ _ _ _ _ _ us hl => match us, hl with | [_], _ => rfl,
    PySem.W.mg_of X G a56,
    fun_mk (st := s__law_far) l57 c57 k57,
    (fun_mk (st := s__law_far) l57 c57 k57).binds (ps := ["a", "b"]) fun _ _ _ _ _ _ us hl => match us, hl with | [_, _], _ => rfl,
    PySem.W.mg_of X G a57,
    fun_mk (st := s__law_around) l58 c58 k58,
    (fun_mk (st := s__law_around) l58 c58 k58).binds (ps := ["a", "n"]) fun _ _ _ _ _ _ us hl => match us, hl with | [_, _], _ => rfl,
    PySem.W.mg_of X G a58,
    fun_mk (st := s__law_near_right) l59 c59 k59,
    (fun_mk (st := s__law_near_right) l59 c59 k59).binds (ps := ["c"]) fun _ _ _ _ _ _ us hl => match us, hl with | [_], _ => rfl,
    PySem.W.mg_of X G a59,
    fun_mk (st := s__law_rule) l60 c60 k60,
    (fun_mk (st := s__law_rule) l60 c60 k60).binds (ps := ["c"]) fun _ _ _ _ _ _ us hl => match us, hl with | [_], _ => rfl,
    PySem.W.mg_of X G a60,
    fun_mk (st := s__law_leap) l61 c61 k61,
    (fun_mk (st := s__law_leap) l61 c61 k61).binds (ps := ["rule", "y"]) fun _ _ _ _ _ _ us hl => match us, hl with | [_, _], _ => rfl,
    PySem.W.mg_of X G a61,
    fun_mk (st := s__law_drift_right) l62 c62 k62,
    (fun_mk (st := s__law_drift_right) l62 c62 k62).binds (ps := ["c"]) fun _ _ _ _ _ _ us hl => match us, hl with | [_], _ => rfl,
    PySem.W.mg_of X G a62,
    fun_mk (st := s__law_days) l63 c63 k63,
    (fun_mk (st := s__law_days) l63 c63 k63).binds (ps := ["calendar", "most"]) fun _ _ _ _ _ _ us hl => match us, hl with | [_, _], _ => rfl,
    PySem.W.mg_of X G a63,
    fun_mk (st := s__law_week_right) l64 c64 k64,
    (fun_mk (st := s__law_week_right) l64 c64 k64).binds (ps := ["c"]) fun _ _ _ _ _ _ us hl => match us, hl with | [_], _ => rfl,
    PySem.W.mg_of X G a64,
    fun_mk (st := s__law_agree_right) l65 c65 k65,
    (fun_mk (st := s__law_agree_right) l65 c65 k65).binds (ps := ["c"]) fun _ _ _ _ _ _ us hl => match us, hl with | [_], _ => rfl,
    PySem.W.mg_of X G a65,
    fun_mk (st := s_law) l66 c66 k66,
    (fun_mk (st := s_law) l66 c66 k66).binds (ps := ["script"]) fun _ _ _ _ _ _ us hl => match us, hl with | [_], _ => rfl,
    PySem.W.mg_of X G a66,
    ⟨_, PySem.W.mg_of X G g_MOST_CYCLE⟩,
    ⟨_, PySem.W.mg_of X G g_MOST_YEAR⟩,
    ⟨_, PySem.W.mg_of X G mg_ONE, (gtup kg_ONE (gvs_cons gv_int (gvs_cons gv_int gvs_nil)) rfl)⟩,
    PySem.W.mg_none_of X G z_abs,
    PySem.W.mg_none_of X G z_all,
    PySem.W.mg_none_of X G z_any,
    PySem.W.mg_none_of X G z_bool,
    PySem.W.mg_none_of X G z_int,
    PySem.W.mg_none_of X G z_isinstance,
    PySem.W.mg_none_of X G z_len,
    PySem.W.mg_none_of X G z_list,
    PySem.W.mg_none_of X G z_max,
    PySem.W.mg_none_of X G z_min,
    PySem.W.mg_none_of X G z_range,
    PySem.W.mg_none_of X G z_repr,
    PySem.W.mg_none_of X G z_set,
    PySem.W.mg_none_of X G z_sorted,
    PySem.W.mg_none_of X G z_str,
    PySem.W.mg_none_of X G z_sum,
    PySem.W.mg_none_of X G z_tuple⟩
  exact ⟨fd 66, fun s v => .of_eq rfl, fun base _ _ => (ok_law T).imp fun vs H Q E h => spLaw_ok h⟩

theorem walk {l : PySem.W.OpenLaw} {q : Program} {loose : List Str} {XP : (Str → Option Value) → Heap → Prop} {YP : World → Heap → Prop} {d : DefRec} {K : Params → PySem.W.Frag} (hn : l.most = some 63) (hdf : d.params.defaults = [])
    (hY : ∀ (w : World) (h : Heap), YP w h → (K w.params).In h)
    (F : ∀ (w : World) (mg : Str → Option Value) (fa : Addr) (h : Heap), (K w.params).In h → h.Ns mainGlobals mg → mg d.name = some (.ref fa) →
      ∃ fd : FuncData, (∀ (s : Shared) (u : Value), BindsTo s fd ⟨[u], []⟩ [("script", u)]) ∧ ∀ base : Heap, (K w.params).In base → base.Ns mainGlobals mg → FnOk l.prog w (K w.params) mg base CX0 9 fa fd ["script"] (spLaw (K w.params))) :
    PySem.W.WalkO q loose XP YP l.row.toRowW d [] (fun f vs => PySem.call f vs) :=
  L2.walk_of (n := 63) (k := 9) (x := "script") (CX := fun _ => CX0) (sp := fun w => spLaw (K w.params)) hn (by decide) hdf ⟨rfl, by decide, by decide⟩ hY F (fun _ _ a ns hl _ hS => ⟨a, ns, rfl, hS, hl, fun _ => rfl⟩) fun _ _ _ _ _ z => z
end K62
open PySem PySem.W PyProof.Rows
set_option maxRecDepth 100000 in
set_option maxHeartbeats 0 in
theorem PySem.Challenge.cw_longhours_k62_calendars_and_near_meeting_holds : PySem.Challenge.rw_longhours_k62_calendars_and_near_meeting.Holds := by
  w_on; o_law; k_head; (case hw => w_witness2)
  k_fill
  refine K62.walk (l := PySem.Challenge.rw_longhours_k62_calendars_and_near_meeting) rfl rfl (fun w h Y => PySem.W.kIn_of Y) ?F
  case F =>
    intro w mg fa h KX G hmg
    refine' K62.all_mk KX G hmg ?a0 ?l0 ?c0 ?k0 ?a1 ?l1 ?c1 ?k1 ?a2 ?l2 ?c2 ?k2 ?a3 ?l3 ?c3 ?k3 ?a4 ?l4 ?c4 ?k4 ?a5 ?l5 ?c5 ?k5 ?a6 ?l6 ?c6 ?k6 ?a7 ?l7 ?c7 ?k7 ?a8 ?l8 ?c8 ?k8 ?a9 ?l9 ?c9 ?k9 ?a10 ?l10 ?c10 ?k10 ?a11 ?l11 ?c11 ?k11 ?a12 ?l12 ?c12 ?k12 ?a13 ?l13 ?c13 ?k13 ?a14 ?l14 ?c14 ?k14 ?a15 ?l15 ?c15 ?k15 ?a16 ?l16 ?c16 ?k16 ?a17 ?l17 ?c17 ?k17 ?a18 ?l18 ?c18 ?k18 ?a19 ?l19 ?c19 ?k19 ?a20 ?l20 ?c20 ?k20 ?a21 ?l21 ?c21 ?k21 ?a22 ?l22 ?c22 ?k22 ?a23 ?l23 ?c23 ?k23 ?a24 ?l24 ?c24 ?k24 ?a25 ?l25 ?c25 ?k25 ?a26 ?l26 ?c26 ?k26 ?a27 ?l27 ?c27 ?k27 ?a28 ?l28 ?c28 ?k28 ?a29 ?l29 ?c29 ?k29 ?a30 ?l30 ?c30 ?k30 ?a31 ?l31 ?c31 ?k31 ?a32 ?l32 ?c32 ?k32 ?a33 ?l33 ?c33 ?k33 ?a34 ?l34 ?c34 ?k34 ?a35 ?l35 ?c35 ?k35 ?a36 ?l36 ?c36 ?k36 ?a37 ?l37 ?c37 ?k37 ?a38 ?l38 ?c38 ?k38 ?a39 ?l39 ?c39 ?k39 ?a40 ?l40 ?c40 ?k40 ?a41 ?l41 ?c41 ?k41 ?a42 ?l42 ?c42 ?k42 ?a43 ?l43 ?c43 ?k43 ?a44 ?l44 ?c44 ?k44 ?a45 ?l45 ?c45 ?k45 ?a46 ?l46 ?c46 ?k46 ?a47 ?l47 ?c47 ?k47 ?a48 ?l48 ?c48 ?k48 ?a49 ?l49 ?c49 ?k49 ?a50 ?l50 ?c50 ?k50 ?a51 ?l51 ?c51 ?k51 ?a52 ?l52 ?c52 ?k52 ?a53 ?l53 ?c53 ?k53 ?a54 ?l54 ?c54 ?k54 ?a55 ?l55 ?c55 ?k55 ?a56 ?l56 ?c56 ?k56 ?a57 ?l57 ?c57 ?k57 ?a58 ?l58 ?c58 ?k58 ?a59 ?l59 ?c59 ?k59 ?a60 ?l60 ?c60 ?k60 ?a61 ?l61 ?c61 ?k61 ?a62 ?l62 ?c62 ?k62 ?a63 ?l63 ?c63 ?k63 ?a64 ?l64 ?c64 ?k64 ?a65 ?l65 ?c65 ?k65 ?a66 ?l66 ?c66 ?k66 ?z_abs ?z_all ?z_any ?z_bool ?z_int ?z_isinstance ?z_len ?z_list ?z_max ?z_min ?z_range ?z_repr ?z_set ?z_sorted ?z_str ?z_sum ?z_tuple ?mg_ONE ?kg_ONE ?g_MOST_CYCLE ?g_MOST_YEAR
    (case a0 => k_is)
    (case l0 => k_is)
    (case c0 => k_is)
    (case k0 => k_is)
    (case a1 => k_is)
    (case l1 => k_is)
    (case c1 => k_is)
    (case k1 => k_is)
    (case a2 => k_is)
    (case l2 => k_is)
    (case c2 => k_is)
    (case k2 => k_is)
    (case a3 => k_is)
    (case l3 => k_is)
    (case c3 => k_is)
    (case k3 => k_is)
    (case a4 => k_is)
    (case l4 => k_is)
    (case c4 => k_is)
    (case k4 => k_is)
    (case a5 => k_is)
    (case l5 => k_is)
    (case c5 => k_is)
    (case k5 => k_is)
    (case a6 => k_is)
    (case l6 => k_is)
    (case c6 => k_is)
    (case k6 => k_is)
    (case a7 => k_is)
    (case l7 => k_is)
    (case c7 => k_is)
    (case k7 => k_is)
    (case a8 => k_is)
    (case l8 => k_is)
    (case c8 => k_is)
    (case k8 => k_is)
    (case a9 => k_is)
    (case l9 => k_is)
    (case c9 => k_is)
    (case k9 => k_is)
    (case a10 => k_is)
    (case l10 => k_is)
    (case c10 => k_is)
    (case k10 => k_is)
    (case a11 => k_is)
    (case l11 => k_is)
    (case c11 => k_is)
    (case k11 => k_is)
    (case a12 => k_is)
    (case l12 => k_is)
    (case c12 => k_is)
    (case k12 => k_is)
    (case a13 => k_is)
    (case l13 => k_is)
    (case c13 => k_is)
    (case k13 => k_is)
    (case a14 => k_is)
    (case l14 => k_is)
    (case c14 => k_is)
    (case k14 => k_is)
    (case a15 => k_is)
    (case l15 => k_is)
    (case c15 => k_is)
    (case k15 => k_is)
    (case a16 => k_is)
    (case l16 => k_is)
    (case c16 => k_is)
    (case k16 => k_is)
    (case a17 => k_is)
    (case l17 => k_is)
    (case c17 => k_is)
    (case k17 => k_is)
    (case a18 => k_is)
    (case l18 => k_is)
    (case c18 => k_is)
    (case k18 => k_is)
    (case a19 => k_is)
    (case l19 => k_is)
    (case c19 => k_is)
    (case k19 => k_is)
    (case a20 => k_is)
    (case l20 => k_is)
    (case c20 => k_is)
    (case k20 => k_is)
    (case a21 => k_is)
    (case l21 => k_is)
    (case c21 => k_is)
    (case k21 => k_is)
    (case a22 => k_is)
    (case l22 => k_is)
    (case c22 => k_is)
    (case k22 => k_is)
    (case a23 => k_is)
    (case l23 => k_is)
    (case c23 => k_is)
    (case k23 => k_is)
    (case a24 => k_is)
    (case l24 => k_is)
    (case c24 => k_is)
    (case k24 => k_is)
    (case a25 => k_is)
    (case l25 => k_is)
    (case c25 => k_is)
    (case k25 => k_is)
    (case a26 => k_is)
    (case l26 => k_is)
    (case c26 => k_is)
    (case k26 => k_is)
    (case a27 => k_is)
    (case l27 => k_is)
    (case c27 => k_is)
    (case k27 => k_is)
    (case a28 => k_is)
    (case l28 => k_is)
    (case c28 => k_is)
    (case k28 => k_is)
    (case a29 => k_is)
    (case l29 => k_is)
    (case c29 => k_is)
    (case k29 => k_is)
    (case a30 => k_is)
    (case l30 => k_is)
    (case c30 => k_is)
    (case k30 => k_is)
    (case a31 => k_is)
    (case l31 => k_is)
    (case c31 => k_is)
    (case k31 => k_is)
    (case a32 => k_is)
    (case l32 => k_is)
    (case c32 => k_is)
    (case k32 => k_is)
    (case a33 => k_is)
    (case l33 => k_is)
    (case c33 => k_is)
    (case k33 => k_is)
    (case a34 => k_is)
    (case l34 => k_is)
    (case c34 => k_is)
    (case k34 => k_is)
    (case a35 => k_is)
    (case l35 => k_is)
    (case c35 => k_is)
    (case k35 => k_is)
    (case a36 => k_is)
    (case l36 => k_is)
    (case c36 => k_is)
    (case k36 => k_is)
    (case a37 => k_is)
    (case l37 => k_is)
    (case c37 => k_is)
    (case k37 => k_is)
    (case a38 => k_is)
    (case l38 => k_is)
    (case c38 => k_is)
    (case k38 => k_is)
    (case a39 => k_is)
    (case l39 => k_is)
    (case c39 => k_is)
    (case k39 => k_is)
    (case a40 => k_is)
    (case l40 => k_is)
    (case c40 => k_is)
    (case k40 => k_is)
    (case a41 => k_is)
    (case l41 => k_is)
    (case c41 => k_is)
    (case k41 => k_is)
    (case a42 => k_is)
    (case l42 => k_is)
    (case c42 => k_is)
    (case k42 => k_is)
    (case a43 => k_is)
    (case l43 => k_is)
    (case c43 => k_is)
    (case k43 => k_is)
    (case a44 => k_is)
    (case l44 => k_is)
    (case c44 => k_is)
    (case k44 => k_is)
    (case a45 => k_is)
    (case l45 => k_is)
    (case c45 => k_is)
    (case k45 => k_is)
    (case a46 => k_is)
    (case l46 => k_is)
    (case c46 => k_is)
    (case k46 => k_is)
    (case a47 => k_is)
    (case l47 => k_is)
    (case c47 => k_is)
    (case k47 => k_is)
    (case a48 => k_is)
    (case l48 => k_is)
    (case c48 => k_is)
    (case k48 => k_is)
    (case a49 => k_is)
    (case l49 => k_is)
    (case c49 => k_is)
    (case k49 => k_is)
    (case a50 => k_is)
    (case l50 => k_is)
    (case c50 => k_is)
    (case k50 => k_is)
    (case a51 => k_is)
    (case l51 => k_is)
    (case c51 => k_is)
    (case k51 => k_is)
    (case a52 => k_is)
    (case l52 => k_is)
    (case c52 => k_is)
    (case k52 => k_is)
    (case a53 => k_is)
    (case l53 => k_is)
    (case c53 => k_is)
    (case k53 => k_is)
    (case a54 => k_is)
    (case l54 => k_is)
    (case c54 => k_is)
    (case k54 => k_is)
    (case a55 => k_is)
    (case l55 => k_is)
    (case c55 => k_is)
    (case k55 => k_is)
    (case a56 => k_is)
    (case l56 => k_is)
    (case c56 => k_is)
    (case k56 => k_is)
    (case a57 => k_is)
    (case l57 => k_is)
    (case c57 => k_is)
    (case k57 => k_is)
    (case a58 => k_is)
    (case l58 => k_is)
    (case c58 => k_is)
    (case k58 => k_is)
    (case a59 => k_is)
    (case l59 => k_is)
    (case c59 => k_is)
    (case k59 => k_is)
    (case a60 => k_is)
    (case l60 => k_is)
    (case c60 => k_is)
    (case k60 => k_is)
    (case a61 => k_is)
    (case l61 => k_is)
    (case c61 => k_is)
    (case k61 => k_is)
    (case a62 => k_is)
    (case l62 => k_is)
    (case c62 => k_is)
    (case k62 => k_is)
    (case a63 => k_is)
    (case l63 => k_is)
    (case c63 => k_is)
    (case k63 => k_is)
    (case a64 => k_is)
    (case l64 => k_is)
    (case c64 => k_is)
    (case k64 => k_is)
    (case a65 => k_is)
    (case l65 => k_is)
    (case c65 => k_is)
    (case k65 => k_is)
    (case a66 => k_is)
    (case l66 => k_is)
    (case c66 => k_is)
    (case k66 => k_is)
    (case z_abs => k_is)
    (case z_all => k_is)
    (case z_any => k_is)
    (case z_bool => k_is)
    (case z_int => k_is)
    (case z_isinstance => k_is)
    (case z_len => k_is)
    (case z_list => k_is)
    (case z_max => k_is)
    (case z_min => k_is)
    (case z_range => k_is)
    (case z_repr => k_is)
    (case z_set => k_is)
    (case z_sorted => k_is)
    (case z_str => k_is)
    (case z_sum => k_is)
    (case z_tuple => k_is)
    (case mg_ONE => k_is)
    (case kg_ONE => k_is)
    (case g_MOST_CYCLE => k_is)
    (case g_MOST_YEAR => k_is)

