import PyProof.Rows.All
import HandS.ForMost
import HandS.Wide
import HandS.TupAny
import HandS.Evl
import HandS.Zip
import HandS.IsInst
import HandS.Style
import HandS.TupLe
import HandS.Flow
import HandS.Steps
import HandS.Defaults
import PyProof.LongRange
import KE.GoesEnum
import HandS.ListItems
import PySem.Challenge.RW_everyinput_k52_whole_lots_by_all_values
set_option Elab.async false
set_option linter.all false
set_option maxRecDepth 100000
set_option maxHeartbeats 2000000
namespace DL
open PySem PySem.Spec PyProof.Rows L2

/-! data -/
inductive D where
  | v (x : V)
  | tup (ds : List D)
  | lst (ds : List D)
abbrev D.int (i : Int) : D := .v (.int i)
abbrev D.bl (b : Bool) : D := .v (.bl b)
abbrev D.str (s : Str) : D := .v (.str s)
abbrev D.non : D := .v .non

mutual
def Rep (H : Hp) : D → V → Prop
  | .v x, y => y = x
  | .tup ds, y => ∃ a vs, y = .ref a ∧ H a = some (.tup vs) ∧ Reps H ds vs
  | .lst ds, y => ∃ a vs, y = .ref a ∧ H a = some (.lst vs) ∧ Reps H ds vs
def Reps (H : Hp) : List D → List V → Prop
  | [], vs => vs = []
  | d :: ds, vs => ∃ v r, vs = v :: r ∧ Rep H d v ∧ Reps H ds r
end

mutual
theorem Rep.mono {H H' : Hp} (e : Same H H') : ∀ (d : D) {v : V}, Rep H d v → Rep H' d v
  | .v x, y, h => by unfold Rep at h ⊢; exact h
  | .tup ds, y, h => by
    unfold Rep at h ⊢
    obtain ⟨a, vs, h1, h2, h3⟩ := h
    exact ⟨a, vs, h1, e _ _ h2, Reps.mono e ds h3⟩
  | .lst ds, y, h => by
    unfold Rep at h ⊢
    obtain ⟨a, vs, h1, h2, h3⟩ := h
    exact ⟨a, vs, h1, e _ _ h2, Reps.mono e ds h3⟩
theorem Reps.mono {H H' : Hp} (e : Same H H') : ∀ (ds : List D) {vs : List V}, Reps H ds vs → Reps H' ds vs
  | [], vs, h => by unfold Reps at h ⊢; exact h
  | d :: ds, vs, h => by
    unfold Reps at h ⊢
    obtain ⟨v, r, h1, h2, h3⟩ := h
    exact ⟨v, r, h1, Rep.mono e d h2, Reps.mono e ds h3⟩
end
theorem Rep.up {H H' : Hp} {d : D} {v : V} (h : Rep H d v) (e : Same H H') : Rep H' d v := Rep.mono e d h
theorem Reps.up {H H' : Hp} {ds : List D} {vs : List V} (h : Reps H ds vs) (e : Same H H') : Reps H' ds vs := Reps.mono e ds h

section
variable {H : Hp} {d : D} {ds es : List D} {v x : V} {vs us : List V}
theorem rep_v : Rep H (.v x) v ↔ v = x := by unfold Rep; exact Iff.rfl
theorem rep_tup : Rep H (.tup ds) v ↔ ∃ a vs, v = .ref a ∧ H a = some (.tup vs) ∧ Reps H ds vs := by rw [Rep]
theorem rep_lst : Rep H (.lst ds) v ↔ ∃ a vs, v = .ref a ∧ H a = some (.lst vs) ∧ Reps H ds vs := by rw [Rep]
theorem reps_nil : Reps H [] vs ↔ vs = [] := by unfold Reps; exact Iff.rfl
theorem reps_cons : Reps H (d :: ds) vs ↔ ∃ v r, vs = v :: r ∧ Rep H d v ∧ Reps H ds r := by rw [Reps]
theorem Reps.nil : Reps H [] [] := reps_nil.mpr rfl
theorem Reps.cons (h : Rep H d v) (t : Reps H ds vs) : Reps H (d :: ds) (v :: vs) := reps_cons.mpr ⟨v, vs, rfl, h, t⟩
theorem Reps.len : ∀ {ds : List D} {vs : List V}, Reps H ds vs → ds.length = vs.length
  | [], vs, h => by rw [reps_nil.mp h] <;> rfl
  | d :: ds, vs, h => by
    obtain ⟨v, r, e, _, t⟩ := reps_cons.mp h
    rw [e, List.length_cons, List.length_cons, Reps.len t]
theorem Reps.get : ∀ {ds : List D} {vs : List V} {i : Nat} {d : D}, Reps H ds vs → ds[i]? = some d → ∃ v, vs[i]? = some v ∧ Rep H d v
  | [], vs, i, d, h, e => by simp at e
  | d :: ds, vs, 0, d', h, e => by
    obtain ⟨v, r, e1, h1, t⟩ := reps_cons.mp h
    simp at e
    subst e e1
    exact ⟨v, rfl, h1⟩
  | d :: ds, vs, i + 1, d', h, e => by
    obtain ⟨v, r, e1, h1, t⟩ := reps_cons.mp h
    subst e1
    simp at e
    obtain ⟨w, h2, h3⟩ := Reps.get t e
    exact ⟨w, by simpa using h2, h3⟩
theorem Reps.of : ∀ {ds : List D} {vs : List V}, ds.length = vs.length → (∀ (i : Nat) (d : D) (v : V), ds[i]? = some d → vs[i]? = some v → Rep H d v) → Reps H ds vs
  | [], [], _, _ => .nil
  | [], _ :: _, e, _ => by simp at e
  | _ :: _, [], e, _ => by simp at e
  | d :: ds, v :: vs, e, h => .cons (h 0 d v rfl rfl) (Reps.of (by simpa using e) fun i d v h1 h2 => h (i + 1) d v (by simpa using h1) (by simpa using h2))
theorem Reps.at (h : Reps H ds vs) {i : Nat} {d : D} {v : V} (e1 : ds[i]? = some d) (e2 : vs[i]? = some v) : Rep H d v := by
  obtain ⟨w, h1, h2⟩ := h.get e1
  rw [e2] at h1
  cases h1
  exact h2
theorem Reps.append (h : Reps H ds vs) (t : Reps H es us) : Reps H (ds ++ es) (vs ++ us) := by
  induction ds generalizing vs with
  | nil => rw [reps_nil.mp h]; exact t
  | cons d ds ih =>
    obtain ⟨v, r, e, h1, h2⟩ := reps_cons.mp h
    subst e
    exact .cons h1 (ih h2)
theorem Reps.snoc (h : Reps H ds vs) (t : Rep H d v) : Reps H (ds ++ [d]) (vs ++ [v]) := h.append (.cons t .nil)
theorem Reps.take (h : Reps H ds vs) (n : Nat) : Reps H (ds.take n) (vs.take n) := by
  refine .of (by rw [List.length_take, List.length_take, h.len]) fun i d v h1 h2 => ?_
  rw [List.getElem?_take] at h1 h2
  by_cases hi : i < n
  · rw [if_pos hi] at h1 h2
    exact h.at h1 h2
  · rw [if_neg hi] at h1
    cases h1
theorem Reps.drop (h : Reps H ds vs) (n : Nat) : Reps H (ds.drop n) (vs.drop n) := by
  refine .of (by rw [List.length_drop, List.length_drop, h.len]) fun i d v h1 h2 => ?_
  rw [List.getElem?_drop] at h1 h2
  exact h.at h1 h2
theorem Reps.set (h : Reps H ds vs) (n : Nat) (t : Rep H d v) : Reps H (ds.set n d) (vs.set n v) := by
  refine .of (by rw [List.length_set, List.length_set, h.len]) fun i d' v' h1 h2 => ?_
  have hl := h.len
  rw [List.getElem?_set] at h1 h2
  split at h1
  · rename_i hi
    rw [if_pos hi] at h2
    split at h1
    · split at h2
      · cases h1; cases h2; exact t
      · cases h2
    · cases h1
  · rename_i hi
    rw [if_neg hi] at h2
    exact h.at h1 h2
theorem Reps.reverse (h : Reps H ds vs) : Reps H ds.reverse vs.reverse := by
  induction ds generalizing vs with
  | nil => rw [reps_nil.mp h]; exact .nil
  | cons d ds ih =>
    obtain ⟨v, r, e, h1, h2⟩ := reps_cons.mp h
    subst e
    rw [List.reverse_cons, List.reverse_cons]
    exact (ih h2).snoc h1
theorem Reps.eraseIdx (h : Reps H ds vs) (n : Nat) : Reps H (ds.eraseIdx n) (vs.eraseIdx n) := by
  rw [List.eraseIdx_eq_take_drop_succ, List.eraseIdx_eq_take_drop_succ]
  exact (h.take n).append (h.drop (n + 1))
theorem Reps.dropLast (h : Reps H ds vs) : Reps H ds.dropLast vs.dropLast := by
  rw [List.dropLast_eq_take, List.dropLast_eq_take, h.len]
  exact h.take _
theorem reps_vs : ∀ {xs : List V} {vs : List V}, Reps H (xs.map D.v) vs ↔ vs = xs
  | [], vs => by rw [List.map_nil, reps_nil]
  | x :: xs, vs => by
    rw [List.map_cons, reps_cons]
    constructor
    · rintro ⟨v, r, e, h1, h2⟩
      rw [e, rep_v.mp h1, reps_vs.mp h2]
    · intro e
      subst e
      exact ⟨x, xs, rfl, rep_v.mpr rfl, reps_vs.mpr rfl⟩
theorem reps_ints {ns : List Int} {vs : List V} : Reps H (ns.map D.int) vs ↔ vs = ns.map V.int := by
  have e : ns.map D.int = (ns.map V.int).map D.v := by rw [List.map_map]; rfl
  rw [e]
  exact reps_vs
theorem reps_strs {ns : List Str} {vs : List V} : Reps H (ns.map D.str) vs ↔ vs = ns.map V.str := by
  have e : ns.map D.str = (ns.map V.str).map D.v := by rw [List.map_map]; rfl
  rw [e]
  exact reps_vs
theorem reps_bls {ns : List Bool} {vs : List V} : Reps H (ns.map D.bl) vs ↔ vs = ns.map V.bl := by
  have e : ns.map D.bl = (ns.map V.bl).map D.v := by rw [List.map_map]; rfl
  rw [e]
  exact reps_vs
end

/-! heaps without some addresses -/
def wo (H : Hp) (M : List Addr) : Hp := fun b => if b ∈ M then none else H b
theorem wo_some {H : Hp} {M : List Addr} {b : Addr} {o : HO} : wo H M b = some o ↔ b ∉ M ∧ H b = some o := by
  unfold wo
  by_cases h : b ∈ M
  · rw [if_pos h]
    exact ⟨(fun z => nomatch z), fun z => absurd h z.1⟩
  · rw [if_neg h]
    exact ⟨fun z => ⟨h, z⟩, fun z => z.2⟩
theorem wo_same {H : Hp} {M : List Addr} : Same (wo H M) H := fun b o h => (wo_some.mp h).2
theorem same_wo {H H' : Hp} {M : List Addr} (e : Same H H') : Same (wo H M) (wo H' M) := fun b o h => by
  obtain ⟨h1, h2⟩ := wo_some.mp h
  exact wo_some.mpr ⟨h1, e _ _ h2⟩
theorem wo_sub {H : Hp} {M M' : List Addr} (s : ∀ b, b ∈ M' → b ∈ M) : Same (DL.wo H M) (DL.wo H M') := fun b o h => by
  obtain ⟨h1, h2⟩ := wo_some.mp h
  exact wo_some.mpr ⟨fun z => h1 (s b z), h2⟩
theorem wo_upd {H : Hp} {M : List Addr} {p : Addr} {o : HO} (h : p ∈ M) : DL.wo (upd H p o) M = DL.wo H M := by
  funext b
  unfold DL.wo
  by_cases hb : b ∈ M
  · rw [if_pos hb, if_pos hb]
  · rw [if_neg hb, if_neg hb, upd_ne (fun e => hb (by rw [e]; exact h))]
theorem same_upd {H : Hp} {p : Addr} {o : HO} (h : H p = none) : Same H (upd H p o) := fun b x e => by
  rw [upd_ne (ne_of_none e h)]
  exact e

/-- all but the hand is as it was -/
def Off (hd : Option Addr) (H H' : Hp) : Prop := ∀ b o, hd ≠ some b → H b = some o → H' b = some o
theorem Off.refl {hd : Option Addr} {H : Hp} : Off hd H H := fun _ _ _ h => h
theorem Off.trans {hd : Option Addr} {H H1 H2 : Hp} (a : Off hd H H1) (b : Off hd H1 H2) : Off hd H H2 := fun c o n h => b c o n (a c o n h)
theorem Same.off {hd : Option Addr} {H H' : Hp} (e : Same H H') : Off hd H H' := fun b o _ h => e b o h
theorem Off.same {H H' : Hp} (e : Off none H H') : Same H H' := fun b o h => e b o (fun z => nomatch z) h
theorem off_wo {hd : Option Addr} {H H' : Hp} {M : List Addr} (e : Off hd H H') (h : ∀ x, hd = some x → x ∈ M) : Same (DL.wo H M) (DL.wo H' M) := fun b o z => by
  obtain ⟨h1, h2⟩ := wo_some.mp z
  exact wo_some.mpr ⟨h1, e b o (fun q => h1 (h b q)) h2⟩

/-- the law's hand at h.1: the script's cells (at h.2), the place, the rest, two seeds -/
def Hand (M : List Addr) (H : Hp) (h : Addr × Addr) : Prop := ∃ (ns : List Int) (i x y z : Int), H h.1 = some (.lst [.ref h.2, .int i, .int x, .int y, .int z]) ∧
  H h.2 = some (.lst (ns.map V.int)) ∧ h.2 ∉ M ∧ ns.length ≤ 63 ∧ 0 ≤ i ∧ 0 ≤ x ∧ x < 10 ^ 240 ∧ 0 ≤ y ∧ y < 2 ^ 31 ∧ 0 ≤ z ∧ z < 2 ^ 31

structure Base where
  M : List Addr
  hd : Option (Addr × Addr)
  H0 : Hp
  g : List (D × V)
def Base.ho (B : Base) : Option Addr := B.hd.map (·.1)

inductive Slot where
  | no
  | d (x : D)
  | own (ds : List D)
  | mat (rows : List (List D))

def SlotOk (M : List Addr) (H : Hp) (o : Option V) : Slot → List Addr → Prop
  | .no, as => as = []
  | .d x, as => as = [] ∧ ∃ v, o = some v ∧ Rep (wo H M) x v
  | .own ds, as => ∃ p vs, as = [p] ∧ o = some (.ref p) ∧ H p = some (.lst vs) ∧ Reps (wo H M) ds vs
  | .mat rows, as => ∃ p qs, as = p :: qs ∧ o = some (.ref p) ∧ H p = some (.lst (qs.map V.ref)) ∧ Paired (fun q row => ∃ vs, H q = some (.lst vs) ∧ Reps (wo H M) row vs) qs rows

structure Wd (B : Base) (M : List Addr) (H : Hp) : Prop where
  inM : ∀ m ∈ M, H m ≠ none
  off : Off B.ho B.H0 H
  gh : ∀ p ∈ B.g, Rep (wo H M) p.1 p.2
  hin : ∀ h, B.hd = some h → h.1 ∈ B.M
  hand : ∀ h, B.hd = some h → Hand M H h

abbrev MM (B : Base) (as : List (List Addr)) : List Addr := as.flatten ++ B.M

structure Sat (B : Base) (as : List (List Addr)) (H : Hp) (σ : L2.St) (Γ : List Slot) : Prop where
  l1 : σ.length = Γ.length
  l2 : as.length = Γ.length
  slot : ∀ (i : Nat) (s : Slot), Γ[i]? = some s → ∃ o a, σ[i]? = some o ∧ as[i]? = some a ∧ SlotOk (MM B as) H o s a
  nd : as.flatten.Nodup
  fresh : ∀ p ∈ as.flatten, B.H0 p = none ∧ p ∉ B.M
  W : Wd B (MM B as) H

theorem Hand.up {M M' : List Addr} {H H' : Hp} {h : Addr × Addr} (q : Hand M H h) (e1 : ∀ o, H h.1 = some o → H' h.1 = some o) (e2 : Same (wo H M) (wo H' M')) : Hand M' H' h := by
  obtain ⟨ns, i, x, y, z, h1, h2, h3, r⟩ := q
  obtain ⟨g1, g2⟩ := wo_some.mp (e2 _ _ (wo_some.mpr ⟨h3, h2⟩))
  exact ⟨ns, i, x, y, z, e1 _ h1, g2, g1, r⟩

theorem SlotOk.up {M M' : List Addr} {H H' : Hp} {o : Option V} {s : Slot} {as : List Addr} (h : SlotOk M H o s as) (e1 : ∀ p ∈ as, ∀ o, H p = some o → H' p = some o) (e2 : Same (wo H M) (wo H' M')) : SlotOk M' H' o s as := by
  cases s with
  | no => exact h
  | d x =>
    obtain ⟨h0, v, h1, h2⟩ := h
    exact ⟨h0, v, h1, h2.up e2⟩
  | own ds =>
    obtain ⟨p, vs, h0, h1, h2, h3⟩ := h
    exact ⟨p, vs, h0, h1, e1 p (by rw [h0]; exact List.mem_singleton_self _) _ h2, h3.up e2⟩
  | mat rows =>
    obtain ⟨p, qs, h0, h1, h2, h3⟩ := h
    refine ⟨p, qs, h0, h1, e1 p (by rw [h0]; exact List.mem_cons_self) _ h2, ?_⟩
    have : ∀ q ∈ qs, ∀ o, H q = some o → H' q = some o := fun q hq => e1 q (by rw [h0]; exact List.mem_cons_of_mem _ hq)
    clear h0 h2
    induction h3 with
    | nil => exact .nil
    | cons r t ih =>
      obtain ⟨vs, q1, q2⟩ := r
      exact .cons ⟨vs, this _ List.mem_cons_self _ q1, q2.up e2⟩ (ih fun q hq => this q (List.mem_cons_of_mem _ hq))

theorem mem_flat {as : List (List Addr)} {i : Nat} {a : List Addr} {p : Addr} (h : as[i]? = some a) (hp : p ∈ a) : p ∈ as.flatten :=
  List.mem_flatten.mpr ⟨a, List.mem_of_getElem? h, hp⟩

section
variable {B : Base} {as : List (List Addr)} {H H' : Hp} {σ : L2.St} {Γ : List Slot}
theorem Base.ho_some {B : Base} {p : Addr} (e : B.ho = some p) : ∃ h, B.hd = some h ∧ h.1 = p := by
  unfold Base.ho at e
  cases q : B.hd with
  | none => rw [q] at e; cases e
  | some h => rw [q] at e; exact ⟨h, rfl, Option.some.inj e⟩
theorem Base.some_ho {B : Base} {h : Addr × Addr} (e : B.hd = some h) : B.ho = some h.1 := by
  unfold Base.ho
  rw [e] <;> rfl
/-- an own address is not the hand -/
theorem Sat.ne_hd (S : Sat B as H σ Γ) {p : Addr} (hp : p ∈ as.flatten) : B.ho ≠ some p := fun e => by
  obtain ⟨h, e1, e2⟩ := Base.ho_some e
  subst e2
  exact (S.fresh _ hp).2 (S.W.hin h e1)
theorem Sat.nM (S : Sat B as H σ Γ) {p : Addr} (hp : p ∈ as.flatten) : p ∉ B.M := (S.fresh p hp).2
theorem Sat.hM (S : Sat B as H σ Γ) (x : Addr) (e : B.ho = some x) : x ∈ MM B as := by
  obtain ⟨h, e1, e2⟩ := Base.ho_some e
  subst e2
  exact List.mem_append_right _ (S.W.hin h e1)
theorem Sat.eo (S : Sat B as H σ Γ) (e : Off B.ho H H') : Same (DL.wo H (MM B as)) (DL.wo H' (MM B as)) := off_wo e S.hM
/-- the heap grows, or the hand turns -/
theorem Sat.off (S : Sat B as H σ Γ) (e : Off B.ho H H') (hh : ∀ h, B.hd = some h → Hand (MM B as) H' h) : Sat B as H' σ Γ where
  l1 := S.l1
  l2 := S.l2
  slot := fun i s hs => by
    obtain ⟨o, a, h1, h2, h3⟩ := S.slot i s hs
    exact ⟨o, a, h1, h2, h3.up (fun p hp o ho => e p o (S.ne_hd (mem_flat h2 hp)) ho) (S.eo e)⟩
  nd := S.nd
  fresh := S.fresh
  W := ⟨fun m hm => by
      by_cases q : B.ho = some m
      · obtain ⟨h, e1, e2⟩ := Base.ho_some q
        subst e2
        obtain ⟨ns, i, x, y, z, h1, _⟩ := hh h e1
        rw [h1]
        exact (fun z => nomatch z)
      · cases z : H m with
        | none => exact absurd z (S.W.inM m hm)
        | some o => rw [e m o q z]; exact (fun z => nomatch z), S.W.off.trans e, fun p hp => (S.W.gh p hp).up (S.eo e), S.W.hin, hh⟩
theorem Sat.grow (S : Sat B as H σ Γ) (e : Same H H') : Sat B as H' σ Γ :=
  S.off (Same.off e) fun h q => (S.W.hand h q).up (fun o => e h.1 o) (same_wo e)
theorem Sat.not_new (S : Sat B as H σ Γ) {p : Addr} (h : H p = none) : p ∉ MM B as := fun z => S.W.inM p z h
theorem Sat.new0 (S : Sat B as H σ Γ) {p : Addr} (h : H p = none) : B.H0 p = none := by
  cases z : B.H0 p with
  | none => rfl
  | some o =>
    by_cases q : B.ho = some p
    · exact absurd h (S.W.inM p (S.hM p q))
    · rw [S.W.off p o q z] at h; cases h
end

/-! ### what an expression gives -/
section
variable (B : Base) (Γ : List Slot)
/-- a datum with P -/
def Ev (te : TE) (P : D → Prop) : Prop := ∀ as H σ, Sat B as H σ Γ → ∀ Q : VK, (∀ d v H', P d → Sat B as H' σ Γ → Off B.ho H H' → Rep (wo H' (MM B as)) d v → Q v H') → te σ H Q
abbrev Ed (te : TE) (d : D) : Prop := Ev B Γ te (fun x => x = d)
/-- a new list -/
def EvN (te : TE) (P : List D → Prop) : Prop := ∀ as H σ, Sat B as H σ Γ → ∀ Q : VK,
  (∀ ds p vs H', P ds → H p = none → p ∉ MM B as → Sat B as H' σ Γ → Off B.ho H H' → H' p = some (.lst vs) → Reps (wo H' (p :: MM B as)) ds vs → Q (.ref p) H') → te σ H Q
abbrev EdN (te : TE) (ds : List D) : Prop := EvN B Γ te (fun x => x = ds)
/-- a truth value -/
def Eb (tt : TT) (P : Bool → Prop) : Prop := ∀ as H σ, Sat B as H σ Γ → ∀ Q : Bool → Hp → Prop, (∀ b H', P b → Sat B as H' σ Γ → Off B.ho H H' → Q b H') → tt σ H Q
/-- arguments -/
def Ea (ta : TA) (P : List D → Prop) : Prop := ∀ as H σ, Sat B as H σ Γ → ∀ Q : List V → Hp → Prop,
  (∀ ds vs H', P ds → Sat B as H' σ Γ → Off B.ho H H' → Reps (wo H' (MM B as)) ds vs → Q vs H') → ta σ H Q
end

section
variable {B : Base} {Γ : List Slot} {te ta tb : TE} {tt tu : TT} {P P' : D → Prop} {d da db : D}
theorem Ev.imp (h : Ev B Γ te P) (f : ∀ d, P d → P' d) : Ev B Γ te P' := fun as H σ S Q q => h as H σ S Q fun d v H' p => q d v H' (f d p)
theorem EvN.ev {R : List D → Prop} (h : EvN B Γ te R) (f : ∀ ds, R ds → P (.lst ds)) : Ev B Γ te P := fun as H σ S Q q => h as H σ S Q fun ds p vs H' r hn hp S' e hp' rs =>
  q (.lst ds) (.ref p) H' (f ds r) S' e (rep_lst.mpr ⟨p, vs, rfl, wo_some.mpr ⟨hp, hp'⟩, rs.up (wo_sub fun b hb => List.mem_cons_of_mem _ hb)⟩)
theorem EdN.ed {ds : List D} (h : EdN B Γ te ds) : Ed B Γ te (.lst ds) := h.ev fun _ e => by rw [e]
theorem ev_var {i : Nat} (h : Γ[i]? = some (.d d)) : Ed B Γ (tVar i) d := fun as H σ S Q q => by
  obtain ⟨o, a, h1, h2, h3⟩ := S.slot i _ h
  obtain ⟨_, v, e, r⟩ := h3
  subst e
  exact ⟨v, h1, q d v H rfl S Off.refl r⟩
theorem ev_c {x : V} : Ed B Γ (tC x) (.v x) := fun as H σ S Q q => q _ x H rfl S Off.refl (rep_v.mpr rfl)
/-- an operation by values on data -/
def OpD (r : R2) (da db : D) (P : D → Prop) : Prop := ∀ M H x y, (∀ m ∈ M, H m ≠ none) → Rep (wo H M) da x → Rep (wo H M) db y → ∀ Q : VK, (∀ d z H', P d → Same H H' → Rep (wo H' M) d z → Q z H') → r x y H Q
theorem ev_op {r : R2} {Pa Pb : D → Prop} (ha : Ev B Γ ta Pa) (hb : Ev B Γ tb Pb) (hr : ∀ da db, Pa da → Pb db → OpD r da db P) : Ev B Γ (tOp r ta tb) P := fun as H σ S Q q => by
  refine ha as H σ S _ fun da x H1 pa S1 e1 r1 => ?_
  refine hb as H1 σ S1 _ fun db y H2 pb S2 e2 r2 => ?_
  refine hr da db pa pb (MM B as) H2 x y S2.W.inM (r1.up (S1.eo e2)) r2 _ fun d z H3 pd e3 r3 => ?_
  exact q d z H3 pd (S2.grow e3) ((e1.trans e2).trans (Same.off e3)) r3
theorem ed_op {r : R2} (ha : Ed B Γ ta da) (hb : Ed B Γ tb db) (hr : OpD r da db (fun x => x = d)) : Ed B Γ (tOp r ta tb) d := ev_op ha hb fun _ _ e1 e2 => by rw [e1, e2]; exact hr
def UnD (r : V → Hp → VK → Prop) (da : D) (P : D → Prop) : Prop := ∀ M H x, (∀ m ∈ M, H m ≠ none) → Rep (wo H M) da x → ∀ Q : VK, (∀ d z H', P d → Same H H' → Rep (wo H' M) d z → Q z H') → r x H Q
theorem ev_un {r : V → Hp → VK → Prop} {Pa : D → Prop} (ha : Ev B Γ ta Pa) (hr : ∀ da, Pa da → UnD r da P) : Ev B Γ (tUn r ta) P := fun as H σ S Q q => by
  refine ha as H σ S _ fun da x H1 pa S1 e1 r1 => ?_
  refine hr da pa (MM B as) H1 x S1.W.inM r1 _ fun d z H3 pd e3 r3 => ?_
  exact q d z H3 pd (S1.grow e3) (e1.trans (Same.off e3)) r3
theorem ea_nil : Ea B Γ tNil (fun x => x = []) := fun as H σ S Q q => q [] [] H rfl S Off.refl .nil
theorem ea_cons {t : TA} {Pa : D → Prop} {Pt Pr : List D → Prop} (ha : Ev B Γ ta Pa) (ht : Ea B Γ t Pt) (h : ∀ d ds, Pa d → Pt ds → Pr (d :: ds)) : Ea B Γ (tCons ta t) Pr := fun as H σ S Q q => by
  refine ha as H σ S _ fun da x H1 pa S1 e1 r1 => ?_
  refine ht as H1 σ S1 _ fun ds xs H2 pt S2 e2 r2 => ?_
  exact q (da :: ds) (x :: xs) H2 (h da ds pa pt) S2 (e1.trans e2) (.cons (r1.up (S1.eo e2)) r2)
theorem ead_cons {t : TA} {ds : List D} (ha : Ed B Γ ta da) (ht : Ea B Γ t (fun x => x = ds)) : Ea B Γ (tCons ta t) (fun x => x = da :: ds) := ea_cons ha ht fun _ _ e1 e2 => by rw [e1, e2]
/-- a call by values -/
def CallD (r : List V → Hp → VK → Prop) (ds : List D) (P : D → Prop) : Prop := ∀ M H xs, (∀ m ∈ M, H m ≠ none) → Reps (wo H M) ds xs → ∀ Q : VK, (∀ d z H', P d → Same H H' → Rep (wo H' M) d z → Q z H') → r xs H Q
theorem ev_cb {r : List V → Hp → VK → Prop} {t : TA} {Pt : List D → Prop} (ht : Ea B Γ t Pt) (hr : ∀ ds, Pt ds → CallD r ds P) : Ev B Γ (tCB r t) P := fun as H σ S Q q => by
  refine ht as H σ S _ fun ds xs H2 pt S2 e2 r2 => ?_
  refine hr ds pt (MM B as) H2 xs S2.W.inM r2 _ fun d z H3 pd e3 r3 => ?_
  exact q d z H3 pd (S2.grow e3) (e2.trans (Same.off e3)) r3
theorem ed_cb {r : List V → Hp → VK → Prop} {t : TA} {ds : List D} (ht : Ea B Γ t (fun x => x = ds)) (hr : CallD r ds P) : Ev B Γ (tCB r t) P := ev_cb ht fun _ e => by rw [e]; exact hr
def CallN (r : List V → Hp → VK → Prop) (ds : List D) (P : List D → Prop) : Prop := ∀ M H xs, (∀ m ∈ M, H m ≠ none) → Reps (wo H M) ds xs → ∀ Q : VK, (∀ ds p vs H', P ds → H p = none → Same H H' → H' p = some (.lst vs) → Reps (wo H' (p :: M)) ds vs → Q (.ref p) H') → r xs H Q
theorem Sat.back {as : List (List Addr)} {H H1 : Hp} {σ : L2.St} (S : Sat B as H σ Γ) {p : Addr} (e : Off B.ho H H1) (h : H1 p = none) (hp : p ∉ MM B as) : H p = none := by
  cases z : H p with
  | none => rfl
  | some o =>
    by_cases q : B.ho = some p
    · exact absurd (S.hM p q) hp
    · rw [e p o q z] at h
      cases h
theorem evn_cb {r : List V → Hp → VK → Prop} {t : TA} {Pt R : List D → Prop} (ht : Ea B Γ t Pt) (hr : ∀ ds, Pt ds → CallN r ds R) : EvN B Γ (tCB r t) R := fun as H σ S Q q => by
  refine ht as H σ S _ fun ds xs H2 pt S2 e2 r2 => ?_
  refine hr ds pt (MM B as) H2 xs S2.W.inM r2 _ fun ds p vs H3 pd hn e3 hp rs => ?_
  have hM := S2.not_new hn
  exact q ds p vs H3 pd (S.back e2 hn hM) hM (S2.grow e3) (e2.trans (Same.off e3)) hp rs
theorem Eb.imp {P P' : Bool → Prop} (h : Eb B Γ tt P) (f : ∀ b, P b → P' b) : Eb B Γ tt P' := fun as H σ S Q q => h as H σ S Q fun d H' p => q d H' (f d p)
/-- a comparison as a test -/
theorem eb_test {P : Bool → Prop} (h : Ev B Γ te (fun d => ∃ b, d = .bl b ∧ P b)) : Eb B Γ (tTest te) P := fun as H σ S Q q => by
  refine h as H σ S _ fun d v H1 p S1 e1 r1 => ?_
  obtain ⟨b, e, pb⟩ := p
  subst e
  exact ⟨b, rep_v.mp r1, q b H1 pb S1 e1⟩
theorem eb_not {P : Bool → Prop} (h : Eb B Γ tt (fun b => P (!b))) : Eb B Γ (tNot tt) P := fun as H σ S Q q => h as H σ S _ fun b H1 p S1 e1 => q (!b) H1 p S1 e1
theorem eb_and {P Pt : Bool → Prop} (h : Eb B Γ tt Pt) (h1 : Pt true → Eb B Γ tu P) (h2 : Pt false → P false) : Eb B Γ (tAnd tt tu) P := fun as H σ S Q q => h as H σ S _ fun b H1 p S1 e1 => by
  cases b with
  | true => exact iteT (h1 p as H1 σ S1 Q fun b H2 p2 S2 e2 => q b H2 p2 S2 (e1.trans e2))
  | false => exact iteF (q false H1 (h2 p) S1 e1)
theorem eb_or {P Pt : Bool → Prop} (h : Eb B Γ tt Pt) (h1 : Pt false → Eb B Γ tu P) (h2 : Pt true → P true) : Eb B Γ (tOr tt tu) P := fun as H σ S Q q => h as H σ S _ fun b H1 p S1 e1 => by
  cases b with
  | false => exact iteF (h1 p as H1 σ S1 Q fun b H2 p2 S2 e2 => q b H2 p2 S2 (e1.trans e2))
  | true => exact iteT (q true H1 (h2 p) S1 e1)
theorem ev_if {P : D → Prop} {Pt : Bool → Prop} (h : Eb B Γ tt Pt) (h1 : Pt true → Ev B Γ ta P) (h2 : Pt false → Ev B Γ tb P) : Ev B Γ (tIf tt ta tb) P := fun as H σ S Q q => h as H σ S _ fun b H1 p S1 e1 => by
  cases b with
  | true => exact iteT (h1 p as H1 σ S1 Q fun d v H2 p2 S2 e2 => q d v H2 p2 S2 (e1.trans e2))
  | false => exact iteF (h2 p as H1 σ S1 Q fun d v H2 p2 S2 e2 => q d v H2 p2 S2 (e1.trans e2))
end
end DL

set_option maxHeartbeats 2000000
namespace DL
open PySem PySem.Spec PyProof.Rows L2

/-! ### lists of lists -/
theorem flat_set {as : List (List Addr)} : ∀ {i : Nat} {a : List Addr} {p : Addr}, p ∈ (as.set i a).flatten → p ∈ a ∨ p ∈ as.flatten := fun {i a p} h => by
  obtain ⟨l, h1, h2⟩ := List.mem_flatten.mp h
  obtain ⟨j, hj⟩ := List.getElem?_of_mem h1
  rw [List.getElem?_set] at hj
  split at hj
  · split at hj
    · cases hj; exact .inl h2
    · cases hj
  · exact .inr (mem_flat hj h2)
theorem nd_set : ∀ {as : List (List Addr)} {i : Nat} {a : List Addr}, as.flatten.Nodup → a.Nodup → (∀ p ∈ a, p ∉ as.flatten) → (as.set i a).flatten.Nodup
  | [], i, a, h, _, _ => by rw [List.set_nil]; exact h
  | b :: as, 0, a, h, ha, hd => by
    rw [List.set_cons_zero, List.flatten_cons]
    rw [List.flatten_cons] at h
    obtain ⟨h1, h2, h3⟩ := List.nodup_append.mp h
    refine List.nodup_append.mpr ⟨ha, h2, fun x hx y hy e => hd x hx ?_⟩
    rw [List.flatten_cons, e]
    exact List.mem_append_right _ hy
  | b :: as, i + 1, a, h, ha, hd => by
    rw [List.set_cons_succ, List.flatten_cons]
    rw [List.flatten_cons] at h
    obtain ⟨h1, h2, h3⟩ := List.nodup_append.mp h
    refine List.nodup_append.mpr ⟨h1, nd_set h2 ha (fun p hp q => hd p hp (by rw [List.flatten_cons]; exact List.mem_append_right _ q)), fun x hx y hy e => ?_⟩
    rcases flat_set hy with z | z
    · exact hd y z (by rw [List.flatten_cons, ← e]; exact List.mem_append_left _ hx)
    · exact h3 x hx y z e
theorem nd_apart : ∀ {as : List (List Addr)} {i j : Nat} {a b : List Addr} {p : Addr}, as.flatten.Nodup → as[i]? = some a → as[j]? = some b → p ∈ a → p ∈ b → i = j
  | [], i, j, a, b, p, _, h, _, _, _ => by simp at h
  | c :: as, 0, 0, a, b, p, _, _, _, _, _ => rfl
  | c :: as, 0, j + 1, a, b, p, h, h1, h2, h3, h4 => by
    rw [List.flatten_cons] at h
    obtain ⟨_, _, h5⟩ := List.nodup_append.mp h
    have e : c = a := by simpa using h1
    subst e
    exact absurd rfl (h5 p h3 p (mem_flat (by simpa using h2) h4))
  | c :: as, i + 1, 0, a, b, p, h, h1, h2, h3, h4 => by
    rw [List.flatten_cons] at h
    obtain ⟨_, _, h5⟩ := List.nodup_append.mp h
    have e : c = b := by simpa using h2
    subst e
    exact absurd rfl (h5 p h4 p (mem_flat (by simpa using h1) h3))
  | c :: as, i + 1, j + 1, a, b, p, h, h1, h2, h3, h4 => by
    rw [List.flatten_cons] at h
    obtain ⟨_, h5, _⟩ := List.nodup_append.mp h
    have q := nd_apart h5 (by simpa using h1) (by simpa using h2) h3 h4
    omega

section
variable {B : Base} {as : List (List Addr)} {H H' : Hp} {σ : L2.St} {Γ : List Slot} {d : D} {v : V} {i : Nat} {ds es : List D} {p : Addr} {vs us : List V}

theorem Sat.lt (S : Sat B as H σ Γ) {s : Slot} (h : Γ[i]? = some s) : i < σ.length ∧ i < as.length ∧ i < Γ.length := by
  have : i < Γ.length := (List.getElem?_eq_some_iff.mp h).1
  exact ⟨by rw [S.l1]; exact this, by rw [S.l2]; exact this, this⟩
theorem Sat.setD (S : Sat B as H σ Γ) (r : Rep (wo H (MM B as)) d v) : Sat B (as.set i []) H (σ.set i (some v)) (Γ.set i (.d d)) := by
  have sub : ∀ b, b ∈ MM B (as.set i []) → b ∈ MM B as := fun b hb => by
    rcases List.mem_append.mp hb with z | z
    · rcases flat_set z with q | q
      · cases q
      · exact List.mem_append_left _ q
    · exact List.mem_append_right _ z
  refine ⟨by rw [List.length_set, List.length_set, S.l1], by rw [List.length_set, List.length_set, S.l2], fun j s hj => ?_, nd_set S.nd List.nodup_nil (fun _ q => nomatch q), fun q hq => ?_, ?_⟩
  · rw [List.getElem?_set] at hj
    split at hj
    · rename_i e
      subst e
      split at hj
      · rename_i hl
        cases hj
        refine ⟨some v, [], ?_, ?_, rfl, v, rfl, r.up (wo_sub sub)⟩
        · rw [List.getElem?_set_self (by rw [S.l1]; exact hl)]
        · rw [List.getElem?_set_self (by rw [S.l2]; exact hl)]
      · cases hj
    · rename_i hne
      obtain ⟨o, a, h1, h2, h3⟩ := S.slot j s hj
      refine ⟨o, a, ?_, ?_, h3.up (fun _ _ _ z => z) (wo_sub sub)⟩
      · rw [List.getElem?_set_ne hne]; exact h1
      · rw [List.getElem?_set_ne hne]; exact h2
  · rcases flat_set hq with z | z
    · cases z
    · exact S.fresh q z
  · exact ⟨fun m hm => S.W.inM m (sub m hm), S.W.off, fun p hp => (S.W.gh p hp).up (wo_sub sub), S.W.hin, fun h q => (S.W.hand h q).up (fun _ z => z) (wo_sub sub)⟩
theorem Sat.setOwn (S : Sat B as H σ Γ) (S' : Sat B as H' σ Γ) (e : Off B.ho H H') (hn : H p = none) (hp : p ∉ MM B as) (h : H' p = some (.lst vs)) (r : Reps (wo H' (p :: MM B as)) ds vs) :
    Sat B (as.set i [p]) H' (σ.set i (some (.ref p))) (Γ.set i (.own ds)) := by
  have sub : ∀ b, b ∈ MM B (as.set i [p]) → b ∈ p :: MM B as := fun b hb => by
    rcases List.mem_append.mp hb with z | z
    · rcases flat_set z with q | q
      · exact List.mem_cons.mpr (.inl (List.mem_singleton.mp q))
      · exact List.mem_cons_of_mem _ (List.mem_append_left _ q)
    · exact List.mem_cons_of_mem _ (List.mem_append_right _ z)
  have up : Same (wo H (MM B as)) (wo H' (MM B (as.set i [p]))) := fun b o z => by
    obtain ⟨h1, h2⟩ := wo_some.mp z
    refine wo_some.mpr ⟨fun q => ?_, e b o (fun q => h1 (S.hM b q)) h2⟩
    rcases List.mem_cons.mp (sub b q) with w | w
    · rw [w, hn] at h2; cases h2
    · exact h1 w
  have h0 : B.H0 p = none ∧ p ∉ B.M := ⟨S.new0 hn, fun z => hp (List.mem_append_right _ z)⟩
  have hf : p ∉ as.flatten := fun z => hp (List.mem_append_left _ z)
  refine ⟨by rw [List.length_set, List.length_set, S.l1], by rw [List.length_set, List.length_set, S.l2], fun j s hj => ?_, nd_set S.nd (List.nodup_cons.mpr ⟨fun q => (nomatch q), List.nodup_nil⟩) (fun q hq => by rw [List.mem_singleton.mp hq]; exact hf), fun q hq => ?_, ?_⟩
  · rw [List.getElem?_set] at hj
    split at hj
    · rename_i e'
      subst e'
      split at hj
      · rename_i hl
        cases hj
        refine ⟨some (.ref p), [p], ?_, ?_, p, vs, rfl, rfl, h, r.up (wo_sub sub)⟩
        · rw [List.getElem?_set_self (by rw [S.l1]; exact hl)]
        · rw [List.getElem?_set_self (by rw [S.l2]; exact hl)]
      · cases hj
    · rename_i hne
      obtain ⟨o, a, h1, h2, h3⟩ := S.slot j s hj
      refine ⟨o, a, ?_, ?_, h3.up (fun q hq o z => e q o (S.ne_hd (mem_flat h2 hq)) z) up⟩
      · rw [List.getElem?_set_ne hne]; exact h1
      · rw [List.getElem?_set_ne hne]; exact h2
  · rcases flat_set hq with z | z
    · rw [List.mem_singleton.mp z]; exact h0
    · exact S.fresh q z
  · refine ⟨fun m hm => ?_, S'.W.off, fun p hp => (S.W.gh p hp).up up, S.W.hin, fun q hq => ?_⟩
    · rcases List.mem_cons.mp (sub m hm) with z | z
      · rw [z, h]; exact (fun z => nomatch z)
      · exact S'.W.inM m z
    · obtain ⟨ns, a1, x, y, z, g1, g2, g3, g4⟩ := S'.W.hand q hq
      obtain ⟨ns', a1', x', y', z', g1', g2', g3', g4'⟩ := S.W.hand q hq
      refine ⟨ns, a1, x, y, z, g1, g2, fun w => ?_, g4⟩
      rcases List.mem_cons.mp (sub _ w) with u | u
      · rw [u, hn] at g2'; cases g2'
      · exact g3 u
theorem Sat.own (S : Sat B as H σ Γ) (h : Γ[i]? = some (.own ds)) : ∃ p vs, σ[i]? = some (some (.ref p)) ∧ as[i]? = some [p] ∧ p ∈ as.flatten ∧ H p = some (.lst vs) ∧ Reps (wo H (MM B as)) ds vs := by
  obtain ⟨o, a, h1, h2, p, vs, e1, e2, h3, h4⟩ := S.slot i _ h
  subst e1 e2
  exact ⟨p, vs, h1, h2, mem_flat h2 (List.mem_singleton_self p), h3, h4⟩
theorem Sat.ownUpd (S : Sat B as H σ Γ) (h : Γ[i]? = some (.own ds)) (hi : as[i]? = some [p]) (hσ : σ[i]? = some (some (.ref p))) (r : Reps (wo H (MM B as)) es us) : Sat B as (upd H p (.lst us)) σ (Γ.set i (.own es)) := by
  have hp : p ∈ as.flatten := mem_flat hi (List.mem_singleton_self p)
  have hM : p ∈ MM B as := List.mem_append_left _ hp
  obtain ⟨hl1, hl2, hl3⟩ := S.lt h
  have ew : Same (wo H (MM B as)) (wo (upd H p (.lst us)) (MM B as)) := by rw [wo_upd hM]; exact Same.refl _
  refine ⟨by rw [List.length_set, S.l1], by rw [List.length_set, S.l2], fun j s hj => ?_, S.nd, S.fresh, ?_⟩
  · rw [List.getElem?_set] at hj
    split at hj
    · rename_i e'
      subst e'
      cases hj
      exact ⟨_, _, hσ, hi, p, us, rfl, rfl, upd_same, r.up ew⟩
    · rename_i hne
      obtain ⟨o, a, h1, h2, h3⟩ := S.slot j s hj
      refine ⟨o, a, h1, h2, h3.up (fun q hq o z => ?_) ew⟩
      rw [upd_ne (fun e' => hne (nd_apart S.nd hi h2 (List.mem_singleton_self p) (by rw [← e']; exact hq)))]
      exact z
  · refine ⟨fun m hm => ?_, fun b o n z => ?_, fun p hp => (S.W.gh p hp).up ew, S.W.hin, fun q hq => (S.W.hand q hq).up (fun o z => ?_) ew⟩
    · by_cases e : m = p
      · rw [e, upd_same]; exact (fun z => nomatch z)
      · rw [upd_ne e]; exact S.W.inM m hm
    · rw [upd_ne (fun e => by rw [e, (S.fresh p hp).1] at z; cases z)]
      exact S.W.off b o n z
    · rw [upd_ne (fun e => S.ne_hd hp (by rw [← e]; exact Base.some_ho hq))]
      exact z
theorem Sat.freeze (S : Sat B as H σ Γ) (h : Γ[i]? = some (.own ds)) : Sat B (as.set i []) H σ (Γ.set i (.d (.lst ds))) := by
  obtain ⟨p, vs, h1, h2, h3, h4, h5⟩ := S.own h
  obtain ⟨hl1, hl2, hl3⟩ := S.lt h
  have sub : ∀ b, b ∈ MM B (as.set i []) → b ∈ MM B as := fun b hb => by
    rcases List.mem_append.mp hb with z | z
    · rcases flat_set z with q | q
      · cases q
      · exact List.mem_append_left _ q
    · exact List.mem_append_right _ z
  have nin : p ∉ MM B (as.set i []) := fun hb => by
    rcases List.mem_append.mp hb with z | z
    · obtain ⟨l, q1, q2⟩ := List.mem_flatten.mp z
      obtain ⟨j, hj⟩ := List.getElem?_of_mem q1
      rw [List.getElem?_set] at hj
      split at hj
      · cases hj; cases q2
      · rename_i hne
        exact hne (nd_apart S.nd h2 hj (List.mem_singleton_self p) q2)
    · exact S.nM h3 z
  refine ⟨by rw [List.length_set, S.l1], by rw [List.length_set, List.length_set, S.l2], fun j s hj => ?_, nd_set S.nd List.nodup_nil (fun _ q => nomatch q), fun q hq => ?_, ?_⟩
  · rw [List.getElem?_set] at hj
    split at hj
    · rename_i e
      subst e
      cases hj
      exact ⟨_, [], h1, List.getElem?_set_self hl2, rfl, _, rfl, rep_lst.mpr ⟨p, vs, rfl, wo_some.mpr ⟨nin, h4⟩, h5.up (wo_sub sub)⟩⟩
    · rename_i hne
      obtain ⟨o, a, g1, g2, g3⟩ := S.slot j s hj
      exact ⟨o, a, g1, by rw [List.getElem?_set_ne hne]; exact g2, g3.up (fun _ _ _ z => z) (wo_sub sub)⟩
  · rcases flat_set hq with z | z
    · cases z
    · exact S.fresh q z
  · exact ⟨fun m hm => S.W.inM m (sub m hm), S.W.off, fun p hp => (S.W.gh p hp).up (wo_sub sub), S.W.hin, fun h q => (S.W.hand h q).up (fun _ z => z) (wo_sub sub)⟩
end

/-! ### blocks -/
/-- what a def hands back: a known datum, or a new list -/
inductive RV where
  | known (d : D)
  | new (ds : List D)
def RvOk (B : Base) (H : Hp) : RV → V → Prop
  | .known d, v => Rep (wo H B.M) d v
  | .new ds, v => ∃ p vs, v = .ref p ∧ B.H0 p = none ∧ H p = some (.lst vs) ∧ Reps (wo H (p :: B.M)) ds vs
structure Fin (B : Base) (H : Hp) : Prop where
  off : Off B.ho B.H0 H
  hand : ∀ h, B.hd = some h → Hand B.M H h
structure Post where
  nx : List Slot → Prop
  rt : RV → Prop
  bk : List Slot → Prop := fun _ => False
  ct : List Slot → Prop := fun _ => False
structure Met (B : Base) (E : Post) (Dn : Ends) : Prop where
  nx : ∀ as H σ Γ, E.nx Γ → Sat B as H σ Γ → Dn.nx σ H
  rt : ∀ r v H, E.rt r → Fin B H → RvOk B H r v → Dn.rt v H
  bk : ∀ as H σ Γ, E.bk Γ → Sat B as H σ Γ → Dn.bk σ H
  ct : ∀ as H σ Γ, E.ct Γ → Sat B as H σ Γ → Dn.ct σ H
def Tr (B : Base) (Γ : List Slot) (t : TS) (E : Post) : Prop := ∀ as H σ, Sat B as H σ Γ → ∀ Dn : Ends, Met B E Dn → t Dn σ H

section
variable {B : Base} {Γ : List Slot} {te ta tb : TE} {tt tu : TT} {t u : TS} {P : D → Prop} {E : Post} {i : Nat} {ds : List D}
theorem Sat.fin {as : List (List Addr)} {H : Hp} {σ : L2.St} (S : Sat B as H σ Γ) : Fin B H := ⟨S.W.off, fun h q => (S.W.hand h q).up (fun _ z => z) (wo_sub fun _ hb => List.mem_append_right _ hb)⟩
theorem Sat.known {as : List (List Addr)} {H : Hp} {σ : L2.St} {d : D} {v : V} (S : Sat B as H σ Γ) (r : Rep (wo H (MM B as)) d v) : RvOk B H (.known d) v := r.up (wo_sub fun _ hb => List.mem_append_right _ hb)
theorem tr_next (h : E.nx Γ) : Tr B Γ tNext E := fun as H σ S Dn m => m.nx as H σ Γ h S
theorem tr_break (h : E.bk Γ) : Tr B Γ (tSeq tBreak u) E := fun as H σ S Dn m => m.bk as H σ Γ h S
theorem tr_cont (h : E.ct Γ) : Tr B Γ (tSeq tCont u) E := fun as H σ S Dn m => m.ct as H σ Γ h S
theorem tr_asg (h : Ev B Γ te P) (k : ∀ d, P d → Tr B (Γ.set i (.d d)) u E) : Tr B Γ (tSeq (tAsg te (gName i)) u) E := fun as H σ S Dn m =>
  h as H σ S _ fun d v H' p S' e r => k d p _ H' _ (S'.setD r) Dn m
theorem tr_set {d : D} (h : Ed B Γ te d) (k : Tr B (Γ.set i (.d d)) u E) : Tr B Γ (tSeq (tAsg te (gName i)) u) E := tr_asg h fun d e => by rw [e]; exact k
theorem tr_own {R : List D → Prop} (h : EvN B Γ te R) (k : ∀ ds, R ds → Tr B (Γ.set i (.own ds)) u E) : Tr B Γ (tSeq (tAsg te (gName i)) u) E := fun as H σ S Dn m =>
  h as H σ S _ fun ds p vs H' r hn hp S' e hp' rs => k ds r _ H' _ (S.setOwn S' e hn hp hp' rs) Dn m
theorem tr_new (h : EdN B Γ te ds) (k : Tr B (Γ.set i (.own ds)) u E) : Tr B Γ (tSeq (tAsg te (gName i)) u) E := tr_own h fun d e => by rw [e]; exact k
theorem tr_freeze (h : Γ[i]? = some (.own ds)) (k : Tr B (Γ.set i (.d (.lst ds))) t E) : Tr B Γ t E := fun as H σ S Dn m => k _ H σ (S.freeze h) Dn m
theorem tr_ret (h : Ev B Γ te P) (k : ∀ d, P d → E.rt (.known d)) : Tr B Γ (tSeq (tRet te) u) E := fun as H σ S Dn m =>
  h as H σ S _ fun d v H' p S' e r => m.rt _ v H' (k d p) S'.fin (S'.known r)
theorem tr_retN {R : List D → Prop} (h : EvN B Γ te R) (k : ∀ ds, R ds → E.rt (.new ds)) : Tr B Γ (tSeq (tRet te) u) E := fun as H σ S Dn m =>
  h as H σ S _ fun ds p vs H' r hn hp S' e hp' rs => m.rt (.new ds) (.ref p) H' (k ds r) S'.fin ⟨p, vs, rfl, S.new0 hn, hp', rs.up (wo_sub fun b hb => (List.mem_cons.mp hb).elim (fun z => by rw [z]; exact List.mem_cons_self) fun z => List.mem_cons_of_mem _ (List.mem_append_right _ z))⟩
theorem tr_retOwn (h : Γ[i]? = some (.own ds)) (k : E.rt (.new ds)) : Tr B Γ (tSeq (tRet (tVar i)) u) E := fun as H σ S Dn m => by
  obtain ⟨p, vs, h1, h2, h3, h4, h5⟩ := S.own h
  refine ⟨.ref p, h1, m.rt (.new ds) (.ref p) H k S.fin ⟨p, vs, rfl, (S.fresh p h3).1, h4, h5.up (wo_sub fun b hb => (List.mem_cons.mp hb).elim (fun z => ?_) fun z => List.mem_append_right _ z)⟩⟩
  rw [z]
  exact List.mem_append_left _ h3
theorem tr_if {P : Bool → Prop} (h : Eb B Γ tt P) (h1 : P true → Tr B Γ t { E with nx := fun Γ' => Tr B Γ' u E }) (h2 : P false → Tr B Γ ta' { E with nx := fun Γ' => Tr B Γ' u E }) : Tr B Γ (tSeq (tIfS tt t ta') u) E := fun as H σ S Dn m => by
  have m' : Met B { E with nx := fun Γ' => Tr B Γ' u E } { Dn with nx := u Dn } := ⟨fun as H σ Γ h S => h as H σ S Dn m, m.rt, m.bk, m.ct⟩
  refine h as H σ S _ fun b H' p S' e => ?_
  cases b with
  | true => exact iteT (h1 p as H' σ S' _ m')
  | false => exact iteF (h2 p as H' σ S' _ m')
theorem tr_cons {t : TS} (h : Tr B Γ t { E with nx := fun Γ' => Tr B Γ' u E }) : Tr B Γ (tSeq t u) E := fun as H σ S Dn m =>
  h as H σ S { Dn with nx := u Dn } ⟨fun as H σ Γ h S => h as H σ S Dn m, m.rt, m.bk, m.ct⟩
theorem Tr.imp {E' : Post} (h : Tr B Γ t E) (f : ∀ Γ, E.nx Γ → E'.nx Γ) (g : ∀ r, E.rt r → E'.rt r) (b : ∀ Γ, E.bk Γ → E'.bk Γ) (c : ∀ Γ, E.ct Γ → E'.ct Γ) : Tr B Γ t E' := fun as H σ S Dn m =>
  h as H σ S Dn ⟨fun as H σ Γ q => m.nx as H σ Γ (f Γ q), fun r v H q => m.rt r v H (g r q), fun as H σ Γ q => m.bk as H σ Γ (b Γ q), fun as H σ Γ q => m.ct as H σ Γ (c Γ q)⟩
theorem tr_drop (h : Ev B Γ te P) (k : Tr B Γ u E) : Tr B Γ (tSeq (tDrop te) u) E := fun as H σ S Dn m =>
  h as H σ S _ fun d v H' p S' e r => k _ H' _ S' Dn m
/-- own.append(e) -/
theorem tr_append {K : PySem.W.Frag} (h : Γ[i]? = some (.own ds)) (he : Ev B Γ te P) (hz : ds.length < sizeLine) (k : ∀ d, P d → Tr B (Γ.set i (.own (ds ++ [d]))) u E) :
    Tr B Γ (tSeq (tDrop (tBM K "list" rAppend (tVar i) (tCons te tNil))) u) E := fun as H σ S Dn m => by
  obtain ⟨p, vs, h1, h2, h3, h4, h5⟩ := S.own h
  refine ⟨.ref p, h1, .inl ⟨rfl, vs, SqL.of h4⟩, ?_⟩
  refine he as H σ S _ fun d v H' pd S' e r => ?_
  obtain ⟨p', us, g1, g2, g3, g4, g5⟩ := S'.own h
  have ep : p' = p := by rw [g1] at h1; cases h1; rfl
  subst ep
  refine ⟨p', us, v, rfl, rfl, g4, by rw [← g5.len]; exact hz, ?_⟩
  exact k d pd as _ σ (S'.ownUpd h g2 g1 (g5.snoc r)) Dn m
/-- own[k] = e -/
theorem tr_setItem {tk : TE} {j : Nat} {z : Int} (h : Γ[i]? = some (.own ds)) (he : Ev B Γ te P) (hk : Ed B Γ tk (.int z)) (hj : ixN ds.length z = some j) (k : ∀ d, P d → Tr B (Γ.set i (.own (ds.set j d))) u E) :
    Tr B Γ (tSeq (tAsg te (gSub (tVar i) tk rSetL)) u) E := fun as H σ S Dn m => by
  refine he as H σ S _ fun d v H' pd S' e r => ?_
  obtain ⟨p, vs, h1, h2, h3, h4, h5⟩ := S'.own h
  refine ⟨.ref p, h1, ?_⟩
  refine hk as H' σ S' _ fun d2 v2 H2 e2 S2 e2' r2 => ?_
  subst e2
  have e3 := rep_v.mp r2
  subst e3
  obtain ⟨p', us, g1, g2, g3, g4, g5⟩ := S2.own h
  have ep : p' = p := by rw [g1] at h1; cases h1; rfl
  subst ep
  refine ⟨p', us, z, j, rfl, rfl, g4, by rw [← g5.len]; exact hj, ?_⟩
  exact k d pd as _ σ (S2.ownUpd h g2 g1 (g5.set j (r.up (S'.eo e2')))) Dn m
end
end DL

set_option maxHeartbeats 2000000
namespace DL
open PySem PySem.Spec PyProof.Rows L2

/-! ### promises -/
/-- arguments known, results by res; nothing that stands is changed -/
def FSp {α : Type} (arg : α → List D) (pre : α → Prop) (res : α → RV → Prop) : Sp := fun vs H Q _ => ∃ (x : α) (M : List Addr), (∀ m ∈ M, H m ≠ none) ∧ Reps (wo H M) (arg x) vs ∧ pre x ∧
  ∀ r v H', res x r → Same H H' → RvOk ⟨M, none, H, []⟩ H' r v → Q v H'
/-- .. and the hand, first of the arguments, may turn -/
def HSp {α : Type} (arg : α → List D) (pre : α → Prop) (res : α → RV → Prop) : Sp := fun vs H Q _ => ∃ (x : α) (M : List Addr) (h : Addr × Addr) (us : List V), vs = .ref h.1 :: us ∧ (∀ m ∈ M, H m ≠ none) ∧ h.1 ∈ M ∧ Hand M H h ∧ Reps (wo H M) (arg x) us ∧ pre x ∧
  ∀ r v H', res x r → Fin ⟨M, some h, H, []⟩ H' → RvOk ⟨M, some h, H, []⟩ H' r v → Q v H'
theorem FSp.len {α : Type} {arg : α → List D} {pre : α → Prop} {res : α → RV → Prop} {n : Nat} (h : ∀ x, (arg x).length = n) : ∀ vs H Q E, FSp arg pre res vs H Q E → vs.length = n := fun vs H Q E q => by
  obtain ⟨x, M, _, r, _⟩ := q
  rw [← r.len, h]
theorem HSp.len {α : Type} {arg : α → List D} {pre : α → Prop} {res : α → RV → Prop} {n : Nat} (h : ∀ x, (arg x).length = n) : ∀ vs H Q E, HSp arg pre res vs H Q E → vs.length = n + 1 := fun vs H Q E q => by
  obtain ⟨x, M, hh, us, e, _, _, _, r, _⟩ := q
  rw [e, List.length_cons, ← r.len, h]
theorem flat_nil {n : Nat} : (List.replicate n ([] : List Addr)).flatten = [] := by
  induction n with
  | zero => rfl
  | succ n ih => rw [List.replicate_succ, List.flatten_cons, ih] <;> rfl
theorem get_nos {n i : Nat} {s : Slot} (h : (List.replicate n Slot.no)[i]? = some s) : s = .no ∧ i < n := by
  rw [List.getElem?_replicate] at h
  split at h
  · cases h; exact ⟨rfl, by assumption⟩
  · cases h
/-- the store at a def's entry -/
theorem sat0 {B : Base} {H : Hp} {ds : List D} {vs : List V} {N : List Str} {k : Nat} (hN : N.length = vs.length + k) (hr : Reps (wo H B.M) ds vs) (W : Wd B B.M H) :
    Sat B (List.replicate N.length []) H (L2.start N vs) (ds.map Slot.d ++ List.replicate k .no) := by
  have hl := hr.len
  have eM : MM B (List.replicate N.length []) = B.M := by unfold MM; rw [flat_nil] <;> rfl
  refine ⟨?_, ?_, fun i s hs => ?_, by rw [flat_nil]; exact List.nodup_nil, by rw [flat_nil]; exact (fun _ q => nomatch q), by rw [eM]; exact W⟩
  · unfold L2.start
    rw [List.length_append, List.length_append, List.length_map, List.length_map, List.length_replicate, List.length_replicate]
    omega
  · rw [List.length_append, List.length_map, List.length_replicate, List.length_replicate]
    omega
  · rw [eM]
    unfold L2.start
    by_cases hi : i < ds.length
    · rw [List.getElem?_append_left (by rw [List.length_map]; exact hi), List.getElem?_map] at hs
      cases q : ds[i]? with
      | none => rw [q] at hs; cases hs
      | some d =>
        rw [q] at hs
        cases hs
        obtain ⟨v, h1, h2⟩ := hr.get q
        refine ⟨some v, [], ?_, ?_, rfl, v, rfl, h2⟩
        · rw [List.getElem?_append_left (by rw [List.length_map]; omega), List.getElem?_map, h1] <;> rfl
        · rw [List.getElem?_replicate, if_pos (by omega)]
    · rw [List.getElem?_append_right (by rw [List.length_map]; omega), List.length_map] at hs
      obtain ⟨e, hk⟩ := get_nos hs
      subst e
      refine ⟨none, [], ?_, ?_, rfl⟩
      · rw [List.getElem?_append_right (by rw [List.length_map]; omega), List.length_map, List.getElem?_replicate, if_pos (by omega)]
      · rw [List.getElem?_replicate, if_pos (by omega)]
theorem rv_eq {M M' : List Addr} {h h' : Option (Addr × Addr)} {H H0 : Hp} {g g' : List (D × V)} {r : RV} {v : V} (q : RvOk ⟨M, h, H0, g⟩ H r v) : RvOk ⟨M, h', H0, g'⟩ H r v := q
theorem rep_non (H : Hp) : Rep H (.v .non) .non := rep_v.mpr rfl
/-- a body of a def without the hand -/
theorem body_F {α : Type} {arg : α → List D} {pre : α → Prop} {res : α → RV → Prop} {N : List Str} {t : TS} {n : Nat} (ha : ∀ x, (arg x).length = n) (hn : n ≤ N.length)
    (hb : ∀ (x : α) (B : Base), pre x → B.hd = none → Tr B ((arg x).map Slot.d ++ List.replicate (N.length - n) .no) t ⟨fun _ => res x (.known .non), res x, fun _ => False, fun _ => False⟩)
    {vs : List V} {H : Hp} {Q : VK} {E : XK} (h : FSp arg pre res vs H Q E) : t { nx := fun _ H' => Q .non H', rt := Q } (L2.start N vs) H := by
  obtain ⟨x, M, hM, hr, hp, q⟩ := h
  have hl := hr.len
  have W : Wd ⟨M, none, H, []⟩ M H := ⟨hM, Off.refl, (fun _ z => nomatch z), (fun _ z => nomatch z), (fun _ z => nomatch z)⟩
  refine hb x ⟨M, none, H, []⟩ hp rfl _ H _ (sat0 (k := N.length - n) (by rw [← hl, ha]; omega) hr W) _ ⟨fun as H' σ Γ r S => ?_, fun r v H' hr' F ok => q r v H' hr' (Off.same F.off) ok, fun _ _ _ _ z => z.elim, fun _ _ _ _ z => z.elim⟩
  exact q (.known .non) .non H' r (Off.same S.W.off) (rep_non (wo H' M))
/-- .. with the hand -/
theorem body_H {α : Type} {arg : α → List D} {pre : α → Prop} {res : α → RV → Prop} {N : List Str} {t : TS} {n : Nat} (ha : ∀ x, (arg x).length = n) (hn : n + 1 ≤ N.length)
    (hb : ∀ (x : α) (B : Base) (h : Addr × Addr), pre x → B.hd = some h → Tr B (.d (.v (.ref h.1)) :: (arg x).map Slot.d ++ List.replicate (N.length - (n + 1)) .no) t ⟨fun _ => res x (.known .non), res x, fun _ => False, fun _ => False⟩)
    {vs : List V} {H : Hp} {Q : VK} {E : XK} (h : HSp arg pre res vs H Q E) : t { nx := fun _ H' => Q .non H', rt := Q } (L2.start N vs) H := by
  obtain ⟨x, M, h, us, e, hM, hin, hh, hr, hp, q⟩ := h
  subst e
  have hl := hr.len
  have W : Wd ⟨M, some h, H, []⟩ M H := ⟨hM, Off.refl, (fun _ z => nomatch z), fun _ z => by cases z; exact hin, fun _ z => by cases z; exact hh⟩
  have S := sat0 (B := ⟨M, some h, H, []⟩) (N := N) (ds := .v (.ref h.1) :: arg x) (vs := .ref h.1 :: us) (k := N.length - (n + 1)) (by rw [List.length_cons, ← hl, ha]; omega) (.cons (rep_v.mpr rfl) hr) W
  refine hb x ⟨M, some h, H, []⟩ h hp rfl _ H _ S _ ⟨fun as H' σ Γ r S => ?_, fun r v H' hr' F ok => q r v H' hr' F ok, fun _ _ _ _ z => z.elim, fun _ _ _ _ z => z.elim⟩
  exact q (.known .non) .non H' r S.fin (rep_non (wo H' M))

def RV.d : RV → D
  | .known d => d
  | .new ds => .lst ds
section
variable {B : Base} {Γ : List Slot} {te ta tb : TE} {tt tu : TT} {t u : TS} {P : D → Prop} {E : Post} {i : Nat} {ds : List D} {α : Type} {arg : α → List D} {pre : α → Prop} {res : α → RV → Prop} {tas : TA} {Pt R : List D → Prop} {EE : XK}
/-- a call of a def without the hand -/
theorem ev_f (ht : Ea B Γ tas Pt) (h : ∀ ds, Pt ds → ∃ x, ds = arg x ∧ pre x ∧ ∀ r, res x r → P r.d) : Ev B Γ (tCall (FSp arg pre res) [] EE tas) P := fun as H σ S Q q => by
  refine ht as H σ S _ fun ds vs H1 p S1 e1 r1 => ?_
  obtain ⟨x, ex, hp, hr⟩ := h ds p
  subst ex
  rw [List.append_nil]
  refine ⟨x, MM B as, S1.W.inM, r1, hp, fun r v H2 rr sm ok => ?_⟩
  have S2 := S1.grow sm
  refine q r.d v H2 (hr r rr) S2 (e1.trans (Same.off sm)) ?_
  cases r with
  | known d => exact ok
  | new ds =>
    obtain ⟨p, vs, e, hn, hp, rs⟩ := ok
    exact rep_lst.mpr ⟨p, vs, e, wo_some.mpr ⟨S1.not_new hn, hp⟩, rs.up (wo_sub fun b hb => List.mem_cons_of_mem _ hb)⟩
theorem evn_f (ht : Ea B Γ tas Pt) (h : ∀ ds, Pt ds → ∃ x, ds = arg x ∧ pre x ∧ ∀ r, res x r → ∃ es, r = .new es ∧ R es) : EvN B Γ (tCall (FSp arg pre res) [] EE tas) R := fun as H σ S Q q => by
  refine ht as H σ S _ fun ds vs H1 p S1 e1 r1 => ?_
  obtain ⟨x, ex, hp, hr⟩ := h ds p
  subst ex
  rw [List.append_nil]
  refine ⟨x, MM B as, S1.W.inM, r1, hp, fun r v H2 rr sm ok => ?_⟩
  have S2 := S1.grow sm
  obtain ⟨es, er, hes⟩ := hr r rr
  subst er
  obtain ⟨p, vs, e, hn, hp, rs⟩ := ok
  subst e
  have hM := S1.not_new hn
  exact q es p vs H2 hes (S.back e1 hn hM) hM S2 (e1.trans (Same.off sm)) hp rs
/-- a call of a def with the hand -/
theorem ev_h {h : Addr × Addr} (hh : B.hd = some h) {j : Nat} (hj : Γ[j]? = some (.d (.v (.ref h.1)))) (ht : Ea B Γ tas Pt) (hx : ∀ ds, Pt ds → ∃ x, ds = arg x ∧ pre x ∧ ∀ r, res x r → P r.d) :
    Ev B Γ (tCall (HSp arg pre res) [] EE (tCons (tVar j) tas)) P := fun as H σ S Q q => by
  obtain ⟨o, a, h1, h2, _, v, e, r0⟩ := S.slot j _ hj
  subst e
  have ev : v = .ref h.1 := rep_v.mp r0
  subst ev
  refine ⟨.ref h.1, h1, ?_⟩
  refine ht as H σ S _ fun ds vs H1 p S1 e1 r1 => ?_
  obtain ⟨x, ex, hp, hr⟩ := hx ds p
  subst ex
  rw [List.append_nil]
  refine ⟨x, MM B as, h, vs, rfl, S1.W.inM, S1.hM h.1 (Base.some_ho hh), S1.W.hand h hh, r1, hp, fun r v H2 rr F ok => ?_⟩
  have eo : Off B.ho H1 H2 := by
    have := F.off
    rw [Base.some_ho hh]
    exact this
  have S2 := S1.off eo fun h' q => by
    rw [hh] at q
    cases q
    exact F.hand h rfl
  refine q r.d v H2 (hr r rr) S2 (e1.trans eo) ?_
  cases r with
  | known d => exact ok
  | new ds =>
    obtain ⟨p, vs, e, hn, hp, rs⟩ := ok
    exact rep_lst.mpr ⟨p, vs, e, wo_some.mpr ⟨S1.not_new hn, hp⟩, rs.up (wo_sub fun b hb => List.mem_cons_of_mem _ hb)⟩
theorem evn_h {h : Addr × Addr} (hh : B.hd = some h) {j : Nat} (hj : Γ[j]? = some (.d (.v (.ref h.1)))) (ht : Ea B Γ tas Pt) (hx : ∀ ds, Pt ds → ∃ x, ds = arg x ∧ pre x ∧ ∀ r, res x r → ∃ es, r = .new es ∧ R es) :
    EvN B Γ (tCall (HSp arg pre res) [] EE (tCons (tVar j) tas)) R := fun as H σ S Q q => by
  obtain ⟨o, a, h1, h2, _, v, e, r0⟩ := S.slot j _ hj
  subst e
  have ev : v = .ref h.1 := rep_v.mp r0
  subst ev
  refine ⟨.ref h.1, h1, ?_⟩
  refine ht as H σ S _ fun ds vs H1 p S1 e1 r1 => ?_
  obtain ⟨x, ex, hp, hr⟩ := hx ds p
  subst ex
  rw [List.append_nil]
  refine ⟨x, MM B as, h, vs, rfl, S1.W.inM, S1.hM h.1 (Base.some_ho hh), S1.W.hand h hh, r1, hp, fun r v H2 rr F ok => ?_⟩
  have eo : Off B.ho H1 H2 := by
    have := F.off
    rw [Base.some_ho hh]
    exact this
  have S2 := S1.off eo fun h' q => by
    rw [hh] at q
    cases q
    exact F.hand h rfl
  obtain ⟨es, er, hes⟩ := hr r rr
  subst er
  obtain ⟨p, vs, e, hn, hp, rs⟩ := ok
  subst e
  have hM := S1.not_new hn
  exact q es p vs H2 hes (S.back e1 hn hM) hM S2 (e1.trans eo) hp rs

/-! ### what is walked -/
/-- an iterator over data, while the ghosts g stand -/
def Wk (g : List (D × V)) (J : It) (ds : List D) : Prop := ∀ M H (i : Nat), (∀ p ∈ g, Rep (wo H M) p.1 p.2) → (∀ m ∈ M, H m ≠ none) →
  (ds.length ≤ i → J.stop i H) ∧ ∀ d, ds[i]? = some d → J.go i H ∧ ∀ x H', J.yld i H x H' → Same H H' ∧ Rep (wo H' M) d x
def Eit (B : Base) (Γ : List Slot) (wi : TI) (P : List D → Prop) : Prop := ∀ as H σ, Sat B as H σ Γ → ∀ R : It → Hp → Prop,
  (∀ ds J g H', P ds → Sat B as H' σ Γ → Off B.ho H H' → (∀ p ∈ g, Rep (wo H' (MM B as)) p.1 p.2) → Wk g J ds → R J H') → wi σ H R
abbrev Edt (B : Base) (Γ : List Slot) (wi : TI) (ds : List D) : Prop := Eit B Γ wi (fun x => x = ds)
/-- what stays of the slots but those at js -/
def But (js : List Nat) (σ σ' : L2.St) : Prop := σ'.length = σ.length ∧ ∀ k, k ∉ js → σ'[k]? = σ[k]?
/-- a target -/
def Tg (B : Base) (Γ : List Slot) (gt : TG) (js : List Nat) (d : D) (K : List Slot → Prop) : Prop := ∀ as H σ v, Sat B as H σ Γ → Rep (wo H (MM B as)) d v → ∀ Q : L2.St → Hp → Prop, (∀ as' σ' Γ', K Γ' → Sat B as' H σ' Γ' → (∀ p, p ∈ as'.flatten → p ∈ as.flatten) → But js σ σ' → Q σ' H) → gt v σ H Q
def Tgs (B : Base) (Γ : List Slot) (gt : TGs) (js : List Nat) (ds : List D) (K : List Slot → Prop) : Prop := ∀ as H σ vs, Sat B as H σ Γ → Reps (wo H (MM B as)) ds vs → ∀ Q : L2.St → Hp → Prop, (∀ as' σ' Γ', K Γ' → Sat B as' H σ' Γ' → (∀ p, p ∈ as'.flatten → p ∈ as.flatten) → But js σ σ' → Q σ' H) → gt vs σ H Q
theorem sub_set {as : List (List Addr)} {i : Nat} (p : Addr) (h : p ∈ (as.set i []).flatten) : p ∈ as.flatten := (flat_set h).elim (fun z => nomatch z) fun z => z
theorem tg_name {d : D} {K : List Slot → Prop} (h : K (Γ.set i (.d d))) : Tg B Γ (gName i) [i] d K := fun as H σ v S r Q q => q _ _ _ h (S.setD r) sub_set ⟨List.length_set, fun k hk => List.getElem?_set_ne (fun e => hk (by rw [e]; exact List.mem_singleton_self _))⟩
theorem tgs_nil {K : List Slot → Prop} (h : K Γ) : Tgs B Γ gNil [] [] K := fun as H σ vs S r Q q => ⟨reps_nil.mp r, q as σ Γ h S (fun _ z => z) ⟨rfl, fun _ _ => rfl⟩⟩
theorem tgs_cons {d : D} {g : TG} {gs : TGs} {j1 j2 : List Nat} {K : List Slot → Prop} (h : Tg B Γ g j1 d (fun Γ' => Tgs B Γ' gs j2 ds K)) : Tgs B Γ (gCons g gs) (j1 ++ j2) (d :: ds) K := fun as H σ vs S r Q q => by
  obtain ⟨v, us, e, r1, r2⟩ := reps_cons.mp r
  subst e
  refine ⟨v, us, rfl, h as H σ v S r1 _ fun as' σ' Γ' k S' sub bt => ?_⟩
  refine k as' H σ' us S' (r2.up (wo_sub fun b hb => (List.mem_append.mp hb).elim (fun z => List.mem_append_left _ (sub b z)) fun z => List.mem_append_right _ z)) Q fun as2 σ2 Γ2 k2 S2 sub2 bt2 => q as2 σ2 Γ2 k2 S2 (fun p z => sub p (sub2 p z)) ⟨bt2.1.trans bt.1, fun k hk => ?_⟩
  rw [bt2.2 k fun z => hk (List.mem_append_right _ z), bt.2 k fun z => hk (List.mem_append_left _ z)]
theorem tg_tup {K : PySem.W.Frag} {n : Nat} {gs : TGs} {js : List Nat} {Kn : List Slot → Prop} (hn : ds.length = n) (h : Tgs B Γ gs js ds Kn) : Tg B Γ (gTup K n gs) js (.tup ds) Kn := fun as H σ v S r Q q => by
  obtain ⟨a, vs, e, ha, rs⟩ := rep_tup.mp r
  exact ⟨a, vs, e, SqT.of (wo_some.mp ha).2, by rw [← rs.len, hn], h as H σ vs S rs Q q⟩
/-- more ghosts -/
def Base.gh (B : Base) (g : List (D × V)) : Base := ⟨B.M, B.hd, B.H0, g ++ B.g⟩
theorem Sat.gh {as : List (List Addr)} {H : Hp} {σ : L2.St} {g : List (D × V)} (S : Sat B as H σ Γ) (h : ∀ p ∈ g, Rep (wo H (MM B as)) p.1 p.2) : Sat (B.gh g) as H σ Γ :=
  ⟨S.l1, S.l2, S.slot, S.nd, S.fresh, ⟨S.W.inM, S.W.off, fun p hp => (List.mem_append.mp hp).elim (h p) (S.W.gh p), S.W.hin, S.W.hand⟩⟩
theorem Sat.ungh {as : List (List Addr)} {H : Hp} {σ : L2.St} {g : List (D × V)} (S : Sat (B.gh g) as H σ Γ) : Sat B as H σ Γ :=
  ⟨S.l1, S.l2, S.slot, S.nd, S.fresh, ⟨S.W.inM, S.W.off, fun p hp => S.W.gh p (List.mem_append_right _ hp), S.W.hin, S.W.hand⟩⟩
theorem tr_for {wi : TI} {gt : TG} {tb : TS} {js : List Nat} {Pd : List D → Prop} (hi : Eit B Γ wi Pd) (I : List D → Nat → List Slot → Prop) (h0 : ∀ ds, Pd ds → I ds 0 Γ)
    (hs : ∀ ds i d Γ' g, Pd ds → ds[i]? = some d → I ds i Γ' → Tg (B.gh g) Γ' gt js d (fun Γ2 => Tr (B.gh g) Γ2 tb ⟨I ds (i + 1), E.rt, fun Γ3 => Tr B Γ3 u E, I ds (i + 1)⟩))
    (hd : ∀ ds Γ', Pd ds → I ds ds.length Γ' → Tr B Γ' u E) : Tr B Γ (tSeq (tFor wi gt tb) u) E := fun as H σ S Dn m => by
  refine hi as H σ S _ fun ds J g H1 pd S1 e1 hg wk => ?_
  refine ⟨fun i m σ H => m = ds.length - i ∧ i ≤ ds.length ∧ ∃ as Γ', I ds i Γ' ∧ Sat (B.gh g) as H σ Γ', ⟨ds.length, by simp, Nat.zero_le _, as, Γ, h0 ds pd, S1.gh hg⟩, ?_⟩
  rintro i n σ2 H2 ⟨rfl, hi2, as2, Γ2, hI, S2⟩
  obtain ⟨w1, w2⟩ := wk (MM B as2) H2 i (fun p hp => S2.W.gh p (List.mem_append_left _ hp)) S2.W.inM
  by_cases hl : i < ds.length
  · obtain ⟨d, hd2⟩ : ∃ d, ds[i]? = some d := ⟨ds[i], by simp [hl]⟩
    obtain ⟨go, yl⟩ := w2 d hd2
    refine .inr ⟨go, fun σ' H' => ∃ as Γ', I ds (i + 1) Γ' ∧ Sat (B.gh g) as H' σ' Γ', fun σ' H' q => ⟨ds.length - (i + 1), by omega, rfl, hl, q⟩, fun x H3 y => ?_⟩
    obtain ⟨sm, rx⟩ := yl x H3 y
    refine hs ds i d Γ2 g pd hd2 hI as2 H3 σ2 x (S2.grow sm) rx _ fun as' σ' Γ' k S' _ _ => ?_
    exact k as' H3 σ' S' _ ⟨fun as H σ Γ q S => ⟨as, Γ, q, S⟩, fun r v H q F ok => m.rt r v H q ⟨F.off, F.hand⟩ ok, fun as H σ Γ q S => q as H σ S.ungh Dn m, fun as H σ Γ q S => ⟨as, Γ, q, S⟩⟩
  · have e : i = ds.length := by omega
    subst e
    exact .inl ⟨w1 (Nat.le_refl _), hd ds Γ2 pd hI as2 H2 σ2 S2.ungh Dn m⟩
theorem tr_while {tt : TT} {tb : TS} (W : Nat → List Slot → Prop) (m0 : Nat) (h0 : W m0 Γ)
    (hs : ∀ n Γ', W n Γ' → ∃ P : Bool → Prop, Eb B Γ' tt P ∧ (P true → Tr B Γ' tb ⟨fun Γ2 => ∃ n', n' < n ∧ W n' Γ2, E.rt, fun Γ3 => Tr B Γ3 u E, fun Γ2 => ∃ n', n' < n ∧ W n' Γ2⟩) ∧ (P false → Tr B Γ' u E)) :
    Tr B Γ (tSeq (tWhile tt tb) u) E := fun as H σ S Dn m => by
  refine ⟨fun n σ H => ∃ as Γ', W n Γ' ∧ Sat B as H σ Γ', ⟨m0, as, Γ, h0, S⟩, ?_⟩
  rintro n σ2 H2 ⟨as2, Γ2, w2, S2⟩
  obtain ⟨P, hb, ht, hf⟩ := hs n Γ2 w2
  refine hb as2 H2 σ2 S2 _ fun b H3 pb S3 e3 => ?_
  cases b with
  | true =>
    refine iteT ⟨fun σ' H' => ∃ n', n' < n ∧ ∃ as Γ', W n' Γ' ∧ Sat B as H' σ' Γ', fun σ' H' q => q, ?_⟩
    exact ht pb as2 H3 σ2 S3 _ ⟨fun as H σ Γ ⟨n', l, w⟩ S => ⟨n', l, as, Γ, w, S⟩, m.rt, fun as H σ Γ q S => q as H σ S Dn m, fun as H σ Γ ⟨n', l, w⟩ S => ⟨n', l, as, Γ, w, S⟩⟩
  | false => exact iteF (hf pb as2 H3 σ2 S3 Dn m)
end
end DL

set_option maxHeartbeats 2000000
namespace DL
open PySem PySem.Spec PyProof.Rows L2

/-! ### wiping -/
def wipeG (Γ : List Slot) : List Nat → List Slot
  | [] => Γ
  | v :: vs => (wipeG Γ vs).set v .no
def dem : Slot → Slot
  | .d x => .d x
  | _ => .no
theorem wipe_get (σ : L2.St) (k : Nat) : ∀ vs : List Nat, (wipe σ vs)[k]? = if k ∈ vs then (if k < σ.length then some none else none) else σ[k]?
  | [] => by simp [wipe]
  | v :: vs => by
    unfold wipe
    rw [List.getElem?_set, wipe_length]
    by_cases h : v = k
    · subst h
      rw [if_pos rfl, if_pos List.mem_cons_self]
    · rw [if_neg h, wipe_get σ k vs]
      by_cases h2 : k ∈ vs
      · rw [if_pos h2, if_pos (List.mem_cons_of_mem _ h2)]
      · rw [if_neg h2, if_neg (fun z => (List.mem_cons.mp z).elim (fun e => h e.symm) h2)]
theorem wipeG_get (Γ : List Slot) (k : Nat) : ∀ vs : List Nat, (wipeG Γ vs)[k]? = if k ∈ vs then (if k < Γ.length then some .no else none) else Γ[k]?
  | [] => by simp [wipeG]
  | v :: vs => by
    have hl : ∀ vs : List Nat, (wipeG Γ vs).length = Γ.length := fun vs => by
      induction vs with
      | nil => rfl
      | cons v vs ih => unfold wipeG; rw [List.length_set, ih]
    unfold wipeG
    rw [List.getElem?_set, hl]
    by_cases h : v = k
    · subst h
      rw [if_pos rfl, if_pos List.mem_cons_self]
    · rw [if_neg h, wipeG_get Γ k vs]
      by_cases h2 : k ∈ vs
      · rw [if_pos h2, if_pos (List.mem_cons_of_mem _ h2)]
      · rw [if_neg h2, if_neg (fun z => (List.mem_cons.mp z).elim (fun e => h e.symm) h2)]
theorem wipeG_len (Γ : List Slot) : ∀ vs : List Nat, (wipeG Γ vs).length = Γ.length
  | [] => rfl
  | v :: vs => by unfold wipeG; rw [List.length_set, wipeG_len Γ vs]
theorem wipe_but {σ σ2 : L2.St} {vs js : List Nat} (b : But js (wipe σ vs) σ2) (h : ∀ j ∈ js, j ∈ vs) : wipe σ2 vs = wipe σ vs := by
  refine List.ext_getElem? fun k => ?_
  rw [wipe_get, wipe_get]
  have hl : σ2.length = σ.length := by rw [b.1, wipe_length]
  by_cases hk : k ∈ vs
  · rw [if_pos hk, if_pos hk, hl]
  · rw [if_neg hk, if_neg hk, b.2 k (fun z => hk (h k z)), wipe_get, if_neg hk]

section
variable {B : Base} {as : List (List Addr)} {H H' : Hp} {σ : L2.St} {Γ : List Slot} {vs : List Nat}
theorem Sat.wipe (S : Sat B as H σ Γ) (vs : List Nat) (h : ∀ (i : Nat) (s : Slot), Γ[i]? = some s → ∃ x, s = .d x ∨ s = .no) : Sat B (List.replicate Γ.length []) H (L2.wipe σ vs) (wipeG Γ vs) := by
  have eM : MM B (List.replicate Γ.length []) = B.M := by unfold MM; rw [flat_nil] <;> rfl
  have sub : ∀ b, b ∈ B.M → b ∈ MM B as := fun b hb => List.mem_append_right _ hb
  refine ⟨by rw [wipe_length, wipeG_len, S.l1], by rw [List.length_replicate, wipeG_len], fun i s hs => ?_, by rw [flat_nil]; exact List.nodup_nil, by rw [flat_nil]; exact (fun _ z => nomatch z), ?_⟩
  · rw [eM]
    rw [wipeG_get] at hs
    by_cases hi : i ∈ vs
    · rw [if_pos hi] at hs
      split at hs
      · rename_i hl
        cases hs
        refine ⟨none, [], ?_, ?_, rfl⟩
        · rw [wipe_get, if_pos hi, if_pos (by rw [S.l1]; exact hl)]
        · rw [List.getElem?_replicate, if_pos hl]
      · cases hs
    · rw [if_neg hi] at hs
      have hl : i < Γ.length := (List.getElem?_eq_some_iff.mp hs).1
      obtain ⟨o, a, h1, h2, h3⟩ := S.slot i s hs
      obtain ⟨x, e | e⟩ := h i s hs
      · subst e
        obtain ⟨_, v, e, r⟩ := h3
        refine ⟨o, [], ?_, ?_, rfl, v, e, r.up (wo_sub sub)⟩
        · rw [wipe_get, if_neg hi]; exact h1
        · rw [List.getElem?_replicate, if_pos hl]
      · subst e
        refine ⟨o, [], ?_, ?_, rfl⟩
        · rw [wipe_get, if_neg hi]; exact h1
        · rw [List.getElem?_replicate, if_pos hl]
  · rw [eM]
    exact ⟨fun m hm => S.W.inM m (sub m hm), S.W.off, fun p hp => (S.W.gh p hp).up (wo_sub sub), S.W.hin, fun h q => (S.W.hand h q).up (fun _ z => z) (wo_sub sub)⟩
/-- the store without its own lists, over a base that bars them and the new list at p -/
theorem Sat.inner (S : Sat B as H σ Γ) {p : Addr} {g : List (D × V)} (hp : H p = none) (hg : ∀ q ∈ g, Rep (wo H (MM B as)) q.1 q.2) : Sat ⟨p :: MM B as, B.hd, H, g ++ B.g⟩ (List.replicate Γ.length []) (upd H p (.lst [])) σ (Γ.map dem) := by
  have eM : MM ⟨p :: MM B as, B.hd, H, g ++ B.g⟩ (List.replicate Γ.length []) = p :: MM B as := by unfold MM; rw [flat_nil] <;> rfl
  have ew : Same (wo H (MM B as)) (wo (upd H p (.lst [])) (p :: MM B as)) := fun b o z => by
    obtain ⟨h1, h2⟩ := wo_some.mp z
    have hb : b ≠ p := ne_of_none h2 hp
    refine wo_some.mpr ⟨fun q => (List.mem_cons.mp q).elim hb h1, ?_⟩
    rw [upd_ne hb]
    exact h2
  refine ⟨by rw [List.length_map, S.l1], by rw [List.length_replicate, List.length_map], fun i s hs => ?_, by rw [flat_nil]; exact List.nodup_nil, by rw [flat_nil]; exact (fun _ z => nomatch z), ?_⟩
  · rw [eM]
    rw [List.getElem?_map] at hs
    cases q : Γ[i]? with
    | none => rw [q] at hs; cases hs
    | some s0 =>
      rw [q] at hs
      have e : dem s0 = s := Option.some.inj hs
      have hl : i < Γ.length := (List.getElem?_eq_some_iff.mp q).1
      obtain ⟨o, a, h1, h2, h3⟩ := S.slot i s0 q
      refine ⟨o, [], h1, by rw [List.getElem?_replicate, if_pos hl], ?_⟩
      subst e
      cases s0 with
      | d x =>
        obtain ⟨_, v, e, r⟩ := h3
        exact ⟨rfl, v, e, r.up ew⟩
      | no => exact rfl
      | own _ => exact rfl
      | mat _ => exact rfl
  · rw [eM]
    refine ⟨fun m hm => ?_, Same.off (same_upd hp), fun q hq => ?_, fun h q => List.mem_cons_of_mem _ (List.mem_append_right _ (S.W.hin h q)), fun h q => (S.W.hand h q).up (fun o z => ?_) ew⟩
    · rcases List.mem_cons.mp hm with e | e
      · rw [e, upd_same]; exact (fun z => nomatch z)
      · rw [upd_ne (fun z => S.W.inM m e (by rw [z]; exact hp))]; exact S.W.inM m e
    · rcases List.mem_append.mp hq with z | z
      · exact (hg q z).up ew
      · exact (S.W.gh q z).up ew
    · rw [upd_ne (fun e => by rw [e, hp] at z; cases z)]
      exact z
/-- the new list takes one more -/
theorem Sat.updM (S : Sat B as H σ Γ) {p : Addr} {o o0 : HO} (hp : p ∈ B.M) (h0 : B.H0 p = none) (hh : B.ho ≠ some p) (he : H p = some o0) : Sat B as (upd H p o) σ Γ := by
  have hM : p ∈ MM B as := List.mem_append_right _ hp
  have ew : Same (wo H (MM B as)) (wo (upd H p o) (MM B as)) := by rw [wo_upd hM]; exact Same.refl _
  refine ⟨S.l1, S.l2, fun i s hs => ?_, S.nd, S.fresh, ?_⟩
  · obtain ⟨v, a, h1, h2, h3⟩ := S.slot i s hs
    refine ⟨v, a, h1, h2, h3.up (fun q hq u z => ?_) ew⟩
    rw [upd_ne (fun e => S.nM (mem_flat h2 hq) (by rw [e]; exact hp))]
    exact z
  · refine ⟨fun m hm => ?_, fun b u n z => ?_, fun q hq => (S.W.gh q hq).up ew, S.W.hin, fun h q => (S.W.hand h q).up (fun u z => ?_) ew⟩
    · by_cases e : m = p
      · rw [e, upd_same]; exact (fun z => nomatch z)
      · rw [upd_ne e]; exact S.W.inM m hm
    · rw [upd_ne (fun e => by rw [e, h0] at z; cases z)]
      exact S.W.off b u n z
    · rw [upd_ne (fun e => hh (by rw [← e]; exact Base.some_ho q))]
      exact z
theorem take_snoc {ds : List D} {i : Nat} {d : D} (h : ds[i]? = some d) : ds.take (i + 1) = ds.take i ++ [d] := by
  rw [List.take_add_one, h] <;> rfl
theorem dem_ok (Γ : List Slot) : ∀ (i : Nat) (s : Slot), (Γ.map dem)[i]? = some s → ∃ x, s = .d x ∨ s = .no := fun i s h => by
  rw [List.getElem?_map] at h
  cases q : Γ[i]? with
  | none => rw [q] at h; cases h
  | some s0 =>
    rw [q] at h
    have e : dem s0 = s := Option.some.inj h
    subst e
    cases s0 with
    | d x => exact ⟨x, .inl rfl⟩
    | _ => exact ⟨.v .non, .inr rfl⟩
end

section
variable {B : Base} {Γ : List Slot} {te : TE} {tt : TT} {wi : TI} {gt : TG} {vs js : List Nat} {ds : List D}
/-- [te for gt in wi if tt] -/
theorem evn_lc (hi : Edt B Γ wi ds) (hz : ds.length < sizeLine) (c : Nat → Bool) (f : Nat → D) (hj : ∀ j ∈ js, j ∈ vs)
    (ht : ∀ i d, ds[i]? = some d → ∀ B' : Base, B'.hd = B.hd → Tg B' (wipeG (Γ.map dem) vs) gt js d (fun Γ2 => Eb B' Γ2 tt (fun b => b = c i) ∧ (c i = true → Ed B' Γ2 te (f i)))) :
    EdN B Γ (tLc wi gt tt te vs) (((List.range ds.length).filter c).map f) := fun as H σ S Q q => by
  refine hi as H σ S _ fun ds' J g H1 pd S1 e1 hg wk => ?_
  subst pd
  intro Dl hDl
  have hDM : Dl ∉ MM B as := S1.not_new hDl
  have hB : (⟨Dl :: MM B as, B.hd, H1, g ++ B.g⟩ : Base).ho = B.ho := rfl
  have S0 : Sat ⟨Dl :: MM B as, B.hd, H1, g ++ B.g⟩ _ (upd H1 Dl (.lst [])) (L2.wipe σ vs) (wipeG (Γ.map dem) vs) := (S1.inner hDl hg).wipe vs (dem_ok Γ)
  generalize hB' : (⟨Dl :: MM B as, B.hd, H1, g ++ B.g⟩ : Base) = B' at S0
  generalize hAs : List.replicate (Γ.map dem).length ([] : List Addr) = as0 at S0
  have eAs : as0.flatten = [] := by rw [← hAs, flat_nil]
  have eMM : MM B' as0 = Dl :: MM B as := by unfold MM; rw [eAs, ← hB'] <;> rfl
  have ehd : B'.hd = B.hd := by rw [← hB'] <;> rfl
  have eH0 : B'.H0 = H1 := by rw [← hB'] <;> rfl
  have egh : ∀ p ∈ g, p ∈ B'.g := fun p hp => by rw [← hB']; exact List.mem_append_left _ hp
  have eDM : Dl ∈ B'.M := by rw [← hB']; exact List.mem_cons_self
  have hho : B'.ho ≠ some Dl := fun e => by
    obtain ⟨h, h1, h2⟩ := Base.ho_some e
    rw [ehd] at h1
    exact hDM (by rw [← h2]; exact S1.hM h.1 (Base.some_ho h1))
  refine ⟨fun i m H' => m = ds'.length - i ∧ i ≤ ds'.length ∧ Sat B' as0 H' (L2.wipe σ vs) (wipeG (Γ.map dem) vs) ∧ ∃ acc, H' Dl = some (.lst acc) ∧ Reps (wo H' (MM B' as0)) (((List.range i).filter c).map f) acc,
    ⟨ds'.length, by simp, Nat.zero_le _, S0, [], upd_same, .nil⟩, ?_⟩
  rintro i m H2 ⟨rfl, hi2, S2, acc, ha, hr⟩
  obtain ⟨w1, w2⟩ := wk (MM B' as0) H2 i (fun p hp => S2.W.gh p (egh p hp)) S2.W.inM
  by_cases hl : i < ds'.length
  · obtain ⟨d, hd2⟩ : ∃ d, ds'[i]? = some d := ⟨ds'[i], by simp [hl]⟩
    obtain ⟨go, yl⟩ := w2 d hd2
    refine .inr ⟨go, fun H' => Sat B' as0 H' (L2.wipe σ vs) (wipeG (Γ.map dem) vs) ∧ ∃ acc, H' Dl = some (.lst acc) ∧ Reps (wo H' (MM B' as0)) (((List.range (i + 1)).filter c).map f) acc,
      fun H' q => ⟨ds'.length - (i + 1), by omega, rfl, hl, q⟩, fun x H3 y => ?_⟩
    obtain ⟨sm, rx⟩ := yl x H3 y
    have S3 := S2.grow sm
    refine ht i d hd2 B' ehd as0 H3 _ x S3 rx _ fun as2 σ2 Γ2 k S4 sub bt => ⟨wipe_but bt hj, ?_⟩
    obtain ⟨kc, kf⟩ := k
    have sub1 : ∀ b, b ∈ MM B' as0 → b ∈ MM B' as2 := fun b hb => by
      rcases List.mem_append.mp hb with z | z
      · rw [eAs] at z; cases z
      · exact List.mem_append_right _ z
    refine kc as2 H3 σ2 S4 _ fun b H4 pb S5 e5 => ?_
    cases b with
    | true =>
      refine iteT (kf pb.symm as2 H4 σ2 S5 _ fun d' y H5 ed S6 e6 ry => ?_)
      subst ed
      have e7 : Off B'.ho H3 H5 := e5.trans e6
      have h5 : H5 Dl = some (.lst acc) := e7 _ _ hho (sm _ _ ha)
      have S7 : Sat B' as0 H5 (L2.wipe σ vs) (wipeG (Γ.map dem) vs) := S3.off e7 fun h q => (S6.W.hand h q).up (fun _ z => z) (wo_sub sub1)
      have r7 := (hr.up (same_wo sm)).up (S3.eo e7)
      have hlen := r7.len
      have hle : (((List.range i).filter c).map f).length ≤ ds'.length := by
        rw [List.length_map]
        refine Nat.le_trans (List.length_filter_le _ _) ?_
        rw [List.length_range]
        exact hi2
      refine ⟨acc, h5, by omega, S7.updM eDM (by rw [eH0]; exact hDl) hho h5, acc ++ [y], upd_same, ?_⟩
      rw [wo_upd (List.mem_append_right _ eDM), List.range_succ, List.filter_append, List.map_append, List.filter_cons, if_pos pb.symm]
      exact r7.append (.cons (ry.up (wo_sub sub1)) .nil)
    | false =>
      refine iteF ?_
      have e7 : Off B'.ho H3 H4 := e5
      have S7 : Sat B' as0 H4 (L2.wipe σ vs) (wipeG (Γ.map dem) vs) := S3.off e7 fun h q => (S5.W.hand h q).up (fun _ z => z) (wo_sub sub1)
      refine ⟨S7, acc, e7 _ _ hho (sm _ _ ha), ?_⟩
      rw [List.range_succ, List.filter_append, List.map_append, List.filter_cons, if_neg (by rw [← pb]; decide)]
      rw [List.filter_nil, List.map_nil, List.append_nil]
      exact (hr.up (same_wo sm)).up (S3.eo e7)
  · have e : i = ds'.length := by omega
    subst e
    rw [eMM] at hr
    have eo : Off B.ho H1 H2 := by
      have := S2.W.off
      rw [eH0] at this
      unfold Base.ho at this ⊢
      rw [ehd] at this
      exact this
    refine .inl ⟨w1 (Nat.le_refl _), q _ Dl acc H2 rfl (S.back e1 hDl hDM) hDM (S1.off eo fun h q => ?_) (e1.trans eo) ha hr⟩
    have := S2.W.hand h (by rw [ehd]; exact q)
    rw [eMM] at this
    exact this.up (fun _ z => z) (wo_sub fun b hb => List.mem_cons_of_mem _ hb)
end
end DL

set_option maxHeartbeats 2000000
namespace DL
open PySem PySem.Spec PyProof.Rows L2
section
variable {X : Cx} {tg : Expr}
/-! ### operators on several kinds -/
def xAddS : R2 := fun x y H Q => ∃ i j, x = .str i ∧ y = .str j ∧ i.length + j.length ≤ sizeLine ∧ Q (.str (i ++ j)) H
def xAdd (K : PySem.W.Frag) : R2 := fun x y H Q => rI0 (fun i j => .int (i + j)) x y H Q ∨ (rCatA K x y H Q ∨ (rCat x y H Q ∨ xAddS x y H Q))
theorem o_add : OpR X (binaryOp .Add) (xAdd X.K) := OpR.or op_add (OpR.or op_catA (OpR.or op_cat op_add_str))
def xSub : R2 := rI0 fun i j => .int (i - j)
theorem o_sub : OpR X (binaryOp .Sub) xSub := op_sub
def xMul : R2 := fun x y H Q => rI CMulW (fun i j => .int (i * j)) x y H Q ∨ rRep x y H Q
theorem o_mul : OpR X (binaryOp .Mult) xMul := OpR.or op_mulW op_rep
def xDiv : R2 := rI CDiv fun i j => .int (i / j)
theorem o_div : OpR X (binaryOp .FloorDiv) xDiv := op_fdiv
def xMod : R2 := rI (fun _ j => 0 < j) fun i j => .int (i % j)
theorem o_mod : OpR X (binaryOp .Mod) xMod := op_mod
def xPow : R2 := rI CPow fun i j => .int (i ^ j.toNat)
theorem o_pow : OpR X (binaryOp .Pow) xPow := op_pow
def xNeg : V → Hp → VK → Prop := rU fun i => .int (-i)
def xEq (K : PySem.W.Frag) : R2 := fun x y H Q => rEq x y H Q ∨ rEqD K x y H Q
theorem c_eq (hu : X.A.units + 64 < cLine) : OpR X (compareOp .Eq) (xEq X.K) := OpR.or op_eq (op_eqD hu)
def xNe (K : PySem.W.Frag) : R2 := fun x y H Q => rNe x y H Q ∨ rNeD K x y H Q
theorem c_ne (hu : X.A.units + 64 < cLine) : OpR X (compareOp .NotEq) (xNe X.K) := OpR.or op_ne (op_neD hu)
def xLtS : R2 := fun x y H Q => ∃ i j, x = .str i ∧ y = .str j ∧ Q (.bl (decide (i.cps.toList < j.cps.toList))) H
def xLt (K : PySem.W.Frag) : R2 := fun x y H Q => rI0 (fun i j => .bl (decide (i < j))) x y H Q ∨ (rLtT K x y H Q ∨ xLtS x y H Q)
theorem c_lt (hu : X.A.units < cLine) : OpR X (compareOp .Lt) (xLt X.K) := OpR.or op_lt (OpR.or (op_ltT hu) op_lt_str)
def xLe (K : PySem.W.Frag) : R2 := fun x y H Q => rI0 (fun i j => .bl (decide (i ≤ j))) x y H Q ∨ rLeT K x y H Q
theorem c_le (hu : X.A.units < cLine) : OpR X (compareOp .LtE) (xLe X.K) := OpR.or op_le (op_leT hu)
def xGt : R2 := rI0 fun i j => .bl (decide (j < i))
def xGe : R2 := rI0 fun i j => .bl (decide (j ≤ i))
/-- x is y, y None or a bool -/
def xIs : R2 := fun x y H Q => (y = .non ∧ Q (.bl (decide (x = .non))) H) ∨ ∃ b, y = .bl b ∧ Q (.bl (decide (x = .bl b))) H
def xIsN : R2 := fun x y H Q => (y = .non ∧ Q (.bl (!decide (x = .non))) H) ∨ ∃ b, y = .bl b ∧ Q (.bl (!decide (x = .bl b))) H
theorem rel_bl {x : V} {v : Value} {b : Bool} (r : RelV x v) : (v == Value.bool b) = decide (x = .bl b) := by
  cases x with
  | non => cases r; rfl
  | bl c => cases r; cases b <;> cases c <;> rfl
  | int _ => obtain ⟨t, rfl⟩ := r; rfl
  | str _ => obtain ⟨t, rfl⟩ := r; rfl
  | byt _ => obtain ⟨t, rfl⟩ := r; rfl
  | flt _ => obtain ⟨t, rfl⟩ := r; rfl
  | ref _ => cases r; rfl
  | ty _ => cases r; rfl
theorem is_bl_gen {M : Model} {A : Around} {E : Value → Shared → Prop} {s : Shared} {Q : Value → Shared → Prop} {x : V} {v : Value} {b : Bool} (r : RelV x v) (h : Q (.bool (v == .bool b)) s) : wpAny M A (compareOp .Is v (.bool b)) Q E s := by
  cases x with
  | non => cases r; exact wpAny_pure h
  | bl c => cases r; exact wpAny_pure h
  | int _ => obtain ⟨t, rfl⟩ := r; exact wpAny_pure h
  | str _ => obtain ⟨t, rfl⟩ := r; exact wpAny_pure h
  | byt _ => obtain ⟨t, rfl⟩ := r; exact wpAny_pure h
  | flt _ => obtain ⟨t, rfl⟩ := r; exact wpAny_pure h
  | ref _ => cases r; exact wpAny_pure h
  | ty _ => cases r; exact wpAny_pure h
theorem isN_bl_gen {M : Model} {A : Around} {E : Value → Shared → Prop} {s : Shared} {Q : Value → Shared → Prop} {x : V} {v : Value} {b : Bool} (r : RelV x v) (h : Q (.bool (!(v == .bool b))) s) : wpAny M A (compareOp .IsNot v (.bool b)) Q E s := by
  cases x with
  | non => cases r; exact wpAny_pure h
  | bl c => cases r; exact wpAny_pure h
  | int _ => obtain ⟨t, rfl⟩ := r; exact wpAny_pure h
  | str _ => obtain ⟨t, rfl⟩ := r; exact wpAny_pure h
  | byt _ => obtain ⟨t, rfl⟩ := r; exact wpAny_pure h
  | flt _ => obtain ⟨t, rfl⟩ := r; exact wpAny_pure h
  | ref _ => cases r; exact wpAny_pure h
  | ty _ => cases r; exact wpAny_pure h
theorem c_is : OpR X (compareOp .Is) xIs := by
  intro pins s σ H x y v u Q I rx ry h
  rcases h with ⟨e, q⟩ | ⟨b, e, q⟩
  · subst e
    cases ry
    exact is_none_gen ⟨.bl _, H, I, by rw [rx.none_iff]; rfl, q⟩
  · subst e
    cases ry
    exact is_bl_gen rx ⟨.bl _, H, I, by rw [rel_bl rx]; rfl, q⟩
theorem c_isnot : OpR X (compareOp .IsNot) xIsN := by
  intro pins s σ H x y v u Q I rx ry h
  rcases h with ⟨e, q⟩ | ⟨b, e, q⟩
  · subst e
    cases ry
    exact isnot_none_gen ⟨.bl _, H, I, by rw [rx.none_iff]; rfl, q⟩
  · subst e
    cases ry
    exact isN_bl_gen rx ⟨.bl _, H, I, by rw [rel_bl rx]; rfl, q⟩
/-! ### slices, calls -/
def xSl (K : PySem.W.Frag) : V → Option Int → Option Int → Hp → VK → Prop := fun x lo hi H Q => rSlL K x lo hi H Q ∨ (rSlA K x lo hi H Q ∨ rSlS x lo hi H Q)
theorem s_any : SlR X (xSl X.K) := SlR.or sl_list (SlR.or sl_tupA sl_str)
def xLen (K : PySem.W.Frag) : List V → Hp → VK → Prop := fun xs H Q => ∃ x n, xs = [x] ∧ LenV K x H n ∧ Q (.int n) H
def xMax2 : List V → Hp → VK → Prop := fun xs H Q => ∃ i j, xs = [.int i, .int j] ∧ Q (.int (if j > i then j else i)) H
def xMin2 : List V → Hp → VK → Prop := fun xs H Q => ∃ i j, xs = [.int i, .int j] ∧ Q (.int (if j < i then j else i)) H
def xInt : List V → Hp → VK → Prop := fun xs H Q => ((∃ i, xs = [.int i] ∧ Q (.int i) H) ∨ ∃ k, xs = [.bl k] ∧ Q (.int (if k then 1 else 0)) H) ∨ (∃ a n, xs = [.str a] ∧ PySem.intText? a = some n ∧ a.length ≤ 640 ∧ Q (.int n) H)
theorem k_int : CallR X (.type "int") xInt := CallR.or call_int1 call_int_str
def xStr : List V → Hp → VK → Prop := fun xs H Q => ∃ i, xs = [.int i] ∧ i.natAbs.log2 < 1920 ∧ Q (.str (toString i)) H
def xTuple (K : PySem.W.Frag) : List V → Hp → VK → Prop := fun xs H Q => ∃ p ys, xs = [.ref p] ∧ ((SqL K H p ys ∧ ∀ l, H l = none → Q (.ref l) (upd H l (.tup ys))) ∨ (SqT K H p ys ∧ Q (.ref p) H))
def xList (K : PySem.W.Frag) : List V → Hp → VK → Prop := fun xs H Q => ∃ p ys, xs = [.ref p] ∧ (SqL K H p ys ∨ SqT K H p ys) ∧ ∀ l, H l = none → Q (.ref l) (upd H l (.lst ys))

/-! ### what is walked -/
/-- a list, a tuple, a text -/
def iAny (K : PySem.W.Frag) (tl : TE) : TI := fun σ H R => tl σ H fun x H1 => (∃ a, x = .ref a ∧ (∃ xs, SqL K H1 a xs) ∧ R (Itl K a) H1) ∨ (∃ a, x = .ref a ∧ (∃ xs, SqT K H1 a xs) ∧ R (Itt K a) H1)
theorem pi_any {l : Expr} {tl : TE} (hl : PE X l tl) : PI X tg l (iAny X.K tl) := by
  refine ⟨fun pins s σ H R I h => ?_⟩
  refine thn (hl.run pins s σ H _ I h) fun v s1 ⟨x, H1, I1, r1, q1⟩ => ?_
  rcases q1 with ⟨a, e, ⟨xs, hq⟩, q⟩ | ⟨a, e, ⟨xs, hq⟩, q⟩
  · subst e
    cases r1
    obtain ⟨its, rv, p, hz⟩ := I1.list hq
    refine wpAny_pyIter_list p.isList ?_
    refine ⟨s1.heap.objs.size, [s1.heap.objs.size], _, _, H1, rfl, I1.kept (t' := s1.toks) fun b o e => Heap.get?_push_of_some _ e, turn_list a _, ⟨_, Heap.get?_push_size _ rfl, rfl, rfl⟩, fun b hb => ?_, q⟩
    have e : b = s1.heap.objs.size := by simpa using hb
    subst e
    exact I1.fpOk (Nat.le_refl _) (I1.hok.fresh (Nat.le_refl _))
  · subst e
    cases r1
    obtain ⟨its, rv, p, hz⟩ := I1.tuple hq
    refine wpAny_pyIter_tuple (show s1.heap.IsTuple a its.toArray from p) ?_
    refine ⟨s1.heap.objs.size, [s1.heap.objs.size], _, _, H1, rfl, I1.kept (t' := s1.toks) fun b o e => Heap.get?_push_of_some _ e, turn_tuple a _, ⟨_, Heap.get?_push_size _ rfl, rfl, rfl⟩, fun b hb => ?_, q⟩
    have e : b = s1.heap.objs.size := by simpa using hb
    subst e
    exact I1.fpOk (Nat.le_refl _) (I1.hok.fresh (Nat.le_refl _))

/-- range(i, j) of ints of any size -/
theorem turn_long {P : Program} {w : World} {K : PySem.W.Frag} {tg : Expr} (it : Addr) (lo : Int) (n : Nat) : Turn P w K tg (Itr lo n) [it] it (fun i h => IsLongIter h it (lo + (i : Nat) * 1) ((n : Int) - (i : Nat)) 1) where
  mem := by simp
  obj := fun i h st b hb => by
    have e : b = it := by simpa using hb
    subst e
    exact ⟨_, st, fun v z => by
      have z' : Data.fields _ = Data.cell v := z
      cases z'⟩
  keep := fun i h h' st k => k it (by simp) _ st
  item := by
    intro X hP hw hK hc i pins s σ H E I hf st hg
    subst hP hw hK
    obtain ⟨f0, f1, f2, f3, f4, f5⟩ := hf it (by simp)
    have W := Walks.longrange (prog := X.prog) (w := X.w) (I.ok.hd hc) it lo 1 n
    refine W.item i s _ _ hg st fun v h' tk hv st' kk => ?_
    obtain ⟨t, rfl⟩ := hv
    have I1 : Inv X pins σ H { s with heap := h', toks := tk } := I.turned (fun b o hb e => kk b o (by simpa using hb) e) f0 f1 f3 f4 f5
    refine ⟨_, rfl, go_of (s := { s with heap := h', toks := tk }) (n := "longrange_iterator") st' rfl rfl (by decide) ⟨.int (lo + i), H, I1, ⟨t, ?_⟩, ⟨rfl, rfl⟩, st', fun b hb => (hf b hb).1⟩⟩
    rw [Int.mul_one]
  done := by
    intro X hP hw hK hc i pins s σ H E I hf st hg
    subst hP hw hK
    obtain ⟨f0, f1, f2, f3, f4, f5⟩ := hf it (by simp)
    exact wpAny_pyNext_long_end (I.ok.hd hc) st (by have : n ≤ i := hg; omega) fun h' eb => ⟨rfl, I.turned (t' := s.toks) (fun b o hb e => eb b o hb e) f0 f1 f3 f4 f5⟩
  self := fun _ _ _ _ _ st h => wpAny_pyIter_longiter st h
theorem range_long {pins : List (Addr × Obj)} {σ : L2.St} {H : Hp} {s : Shared} {R : It → Hp → Prop} {E : Value → Shared → Prop} {lo hi : Int} {t u v : Tok} {tk : Nat} (I : Inv X pins σ H s) (hb : Builtin.Range.small lo hi 1 = false)
    (q : R (Itr lo (hi - lo).toNat) H) : wpAny (model X.prog X.w) X.A (pyIter (.ref s.heap.objs.size)) (PIE X pins σ tg R) E { s with heap := s.heap.push { cls := .type "range", data := .fields #[.int lo t, .int hi u, .int 1 v] }, toks := tk } := by
  refine wpAny_pyIter_longrange (IsRange.new ..) hb ?_
  have I1 : Inv X pins σ H { s with heap := s.heap.push { cls := .type "range", data := .fields #[.int lo t, .int hi u, .int 1 v] }, toks := tk } := I.kept fun b o e => Heap.get?_push_of_some _ e
  refine ⟨(s.heap.push { cls := .type "range", data := .fields #[.int lo t, .int hi u, .int 1 v] }).objs.size, [(s.heap.push { cls := .type "range", data := .fields #[.int lo t, .int hi u, .int 1 v] }).objs.size], _, _, H, rfl,
    I1.kept (t' := tk) fun b o e => Heap.get?_push_of_some _ e, turn_long _ lo (hi - lo).toNat, ?_, fun b hb => ?_, q⟩
  · have e1 : lo + ((0 : Nat) : Int) * 1 = lo := by simp
    have e2 : (((hi - lo).toNat : Nat) : Int) - ((0 : Nat) : Int) = Builtin.Range.rangeSize lo hi 1 := by rw [rangeSize_one]; split <;> omega
    show IsLongIter _ _ (lo + ((0 : Nat) : Int) * 1) ((((hi - lo).toNat : Nat) : Int) - ((0 : Nat) : Int)) 1
    rw [e1, e2]
    exact Heap.get?_push_size _ rfl
  · have e : b = (s.heap.push { cls := .type "range", data := .fields #[.int lo t, .int hi u, .int 1 v] }).objs.size := by simpa using hb
    subst e
    exact I1.fpOk (Nat.le_refl _) (I1.hok.fresh (Nat.le_refl _))
theorem range_any {pins : List (Addr × Obj)} {σ : L2.St} {H : Hp} {s : Shared} {R : It → Hp → Prop} {E : Value → Shared → Prop} {lo hi : Int} {t u v : Tok} {tk : Nat} (I : Inv X pins σ H s)
    (q : R (Itr lo (hi - lo).toNat) H) : wpAny (model X.prog X.w) X.A (pyIter (.ref s.heap.objs.size)) (PIE X pins σ tg R) E { s with heap := s.heap.push { cls := .type "range", data := .fields #[.int lo t, .int hi u, .int 1 v] }, toks := tk } := by
  cases hs : Builtin.Range.small lo hi 1 with
  | false => exact range_long I hs q
  | true =>
    refine wpAny_pyIter_range (IsRange.new ..) hs ?_
    have I1 : Inv X pins σ H { s with heap := s.heap.push { cls := .type "range", data := .fields #[.int lo t, .int hi u, .int 1 v] }, toks := tk } := I.kept fun b o e => Heap.get?_push_of_some _ e
    refine ⟨(s.heap.push { cls := .type "range", data := .fields #[.int lo t, .int hi u, .int 1 v] }).objs.size, [(s.heap.push { cls := .type "range", data := .fields #[.int lo t, .int hi u, .int 1 v] }).objs.size], _, _, H, rfl,
      I1.kept (t' := tk) fun b o e => Heap.get?_push_of_some _ e, turn_range _ lo (hi - lo).toNat, ?_, fun b hb => ?_, q⟩
    · have e1 : lo + ((0 : Nat) : Int) * 1 = lo := by simp
      have e2 : (((hi - lo).toNat : Nat) : Int) - ((0 : Nat) : Int) = Builtin.Range.rangeSize lo hi 1 := by rw [rangeSize_one]; split <;> omega
      show IsRangeIter _ _ (lo + ((0 : Nat) : Int) * 1) ((((hi - lo).toNat : Nat) : Int) - ((0 : Nat) : Int)) 1
      rw [e1, e2]
      exact Heap.get?_push_size _ rfl
    · have e : b = (s.heap.push { cls := .type "range", data := .fields #[.int lo t, .int hi u, .int 1 v] }).objs.size := by simpa using hb
      subst e
      exact I1.fpOk (Nat.le_refl _) (I1.hok.fresh (Nat.le_refl _))
def iRngX (ta : TA) : TI := fun σ H R => ta σ H fun vs H1 => ∃ i j : Int, vs = [.int i, .int j] ∧ R (Itr i (j - i).toNat) H1
theorem pi_rangeX {a b : Expr} {ta : TA} {p pos : Pos} (hg : Gl X "range") (hm : X.mg "range" = none) (ha : PA X [a, b] ta) (hs : starEach [a, b] X.env = [(false, eval a X.env), (false, eval b X.env)] := by rfl) (hs2 : starEach [b] X.env = [(false, eval b X.env)] := by rfl) :
    PI X tg (.Call (.Name "range" p) [a, b] [] pos) (iRngX ta) := by
  refine ⟨fun pins s σ H R I h => ?_⟩
  refine Call_ (ld_blt I hg hm boot_range (PyProof.Rows.callWith_type1 (thn (ha.run pos pins s σ H _ I h) fun us s1 ⟨vs, H1, I1, r1, q1⟩ => ?_) (by rw [hs, hs2]) (by rw [hs2]; rfl)))
  obtain ⟨i, j, e, q⟩ := q1
  subst e
  cases r1 with
  | cons r rr =>
    cases rr with
    | cons r' rr =>
      cases rr
      obtain ⟨t, rfl⟩ := r
      obtain ⟨t', rfl⟩ := r'
      exact call_range_2 (range_any I1 q)
end
end DL

set_option maxHeartbeats 2000000
namespace DL
open PySem PySem.Spec PyProof.Rows L2
/-! ### enumerate of a tuple -/
def IteT (K : PySem.W.Frag) (a : Addr) : It :=
  ⟨fun i H => ∃ (xs : List V) (x : V), SqT K H a xs ∧ xs[i]? = some x, fun i H v H' => ∃ T x, v = .ref T ∧ H T = none ∧ H' = upd H T (.tup [.int (i : Nat), x]) ∧ ∀ xs, SqT K H a xs → xs[i]? = some x, fun i H => ∃ xs : List V, SqT K H a xs ∧ xs.length ≤ i⟩
theorem tup_ne_it {h : Heap} {a it : Addr} {items : Array Value} {i : Nat} (p : IsTup h a items) (q : h.IsTupleIter it a i) : a ≠ it := fun e => by
  obtain ⟨o, ho, hc, _⟩ := p
  obtain ⟨o', ho', hc', _⟩ := q
  rw [e, ho'] at ho
  cases ho
  rw [hc'] at hc
  exact absurd hc (by decide)
theorem tup_ne_enum {h : Heap} {a e it : Addr} {items : Array Value} {i : Int} {old : Value} (p : IsTup h a items) (q : IsEnum h e it i old) : e ≠ a := fun z => by
  obtain ⟨o, ho, hc, _⟩ := p
  have q' : h.get? e = some _ := q
  rw [z, ho] at q'
  cases q'
  exact absurd (show Value.type "enumerate" = Value.type "tuple" from hc) (by decide)
theorem turn_enumT {P : Program} {w : World} {K : PySem.W.Frag} {elts : List Expr} {kk : Nat} {tpos : Pos} (a e it : Addr) :
    Turn P w K (.Tuple elts kk tpos) (IteT K a) [e, it] e (fun i h => (∃ old, IsEnum h e it ((i : Nat) : Int) old) ∧ h.IsTupleIter it a i ∧ e ≠ it) where
  mem := by simp
  obj := fun i h st b hb => by
    obtain ⟨⟨old, he⟩, ⟨o, ho, hc, hd⟩, _⟩ := st
    have e' : b = e ∨ b = it := by simpa using hb
    rcases e' with z | z
    · rw [z]; exact ⟨_, he, fun v q => nomatch q⟩
    · rw [z]; exact ⟨o, ho, fun v q => by rw [hd] at q; cases q⟩
  keep := fun i h h' st k => let ⟨⟨old, he⟩, hi, hne⟩ := st; ⟨⟨old, k e (by simp) _ he⟩, hi.at fun o q => k it (by simp) o q, hne⟩
  item := by
    intro X hP hw hK hc i pins s σ H E I hf st hg
    subst hP hw hK
    obtain ⟨⟨old, he⟩, hit, hne⟩ := st
    obtain ⟨xs, x, hq, hx⟩ := hg
    obtain ⟨its, rv, p, hz⟩ := I.tuple hq
    obtain ⟨u, hu, ru⟩ := rv.get hx
    have hel : e < s.heap.objs.size := Heap.lt_size he
    have hil : it < s.heap.objs.size := by obtain ⟨_, q, _⟩ := hit; exact Heap.lt_size q
    have hai := tup_ne_it p hit
    have hea := tup_ne_enum p he
    have hlt : i < its.toArray.size := by
      have := (List.getElem?_eq_some_iff.mp hu).1
      simpa using this
    have Dr := Draws.tuple (prog := X.prog) (w := X.w) (A := X.A.in1) (I.ok.hd hc) it a hai its.toArray
    refine wpAny_pyNext_enum_itemD Dr he ⟨hit, p⟩ hlt hne (by simp [hne, hea]) fun x' h' tk hx' ho hst' hT hsz hk => ?_
    have ex : x' = u := by
      have h1 : its[i]? = some x' := by simpa using hx'
      rw [hu] at h1
      cases h1; rfl
    subst ex
    obtain ⟨hit', _⟩ := hst'
    refine ⟨_, rfl, wpAny_letOwnedTupleGo_enum (s := { s with heap := h', toks := tk + 1 }) ho fun h'' he' sb => ?_⟩
    have hT2 : h''.get? s.heap.objs.size = some { cls := .type "tuple", data := .seq #[.int i tk, x'] } := (sb.2 _ (Nat.ne_of_gt hel)).trans hT
    have new : ObjOk X.prog X.w (upd H s.heap.objs.size (.tup [.int (i : Nat), x])) h'' s.heap.objs.size (.tup [.int (i : Nat), x]) :=
      ⟨by show 2 ≤ sizeLine; decide, [.int i tk, x'], .cons ⟨_, rfl⟩ (.cons ru .nil), ⟨_, hT2, rfl, _, rfl⟩⟩
    have I1 : L2.Inv X pins σ (upd H s.heap.objs.size (.tup [.int (i : Nat), x])) { s with heap := h'', toks := tk + 1 } :=
      I.turnedNew (ch := [e, it]) (fun b ob hb q => (sb.2 b (fun z => hb (by simp [z]))).trans (hk b ob (fun z => hb (by simp [z])) (fun z => hb (by simp [z])) q)) hf (Nat.le_refl _) new
    refine ⟨.ref s.heap.objs.size, _, I1, rfl, ⟨_, x, rfl, I.hok.fresh (Nat.le_refl _), rfl, fun ys hy => by rw [I.tuple_inj hy hq]; exact hx⟩, ⟨⟨x', ?_⟩, hit'.at fun o q => (sb.2 it (Ne.symm hne)).trans q, hne⟩, fun b hb => ?_⟩
    · have e1 : ((i + 1 : Nat) : Int) = (i : Int) + 1 := by omega
      rw [e1]; exact he'
    · have hb' : b < s.heap.objs.size := by
        have e' : b = e ∨ b = it := by simpa using hb
        rcases e' with z | z
        · rw [z]; exact hel
        · rw [z]; exact hil
      rw [upd_ne (Nat.ne_of_lt hb')]
      exact (hf b hb).1
  done := by
    intro X hP hw hK hc i pins s σ H E I hf st hg
    subst hP hw hK
    obtain ⟨⟨old, he⟩, hit, hne⟩ := st
    obtain ⟨xs, hq, hx⟩ := hg
    obtain ⟨its, rv, p, hz⟩ := I.tuple hq
    obtain ⟨f0, f1, f2, f3, f4, f5⟩ := hf it (by simp)
    have hl := rv.length
    have hT : s.TypeIs (.ref e) "enumerate" := ⟨_, he, rfl⟩
    unfold pyNext
    refine wpAny_bind (wpAny_attempt (wpAny_callSpecial?_slot (name := Str.ofString "__next__") hT F.slot_enumerate_next
      (wpAny_call_entry F.slot_enumerate_next hT F.entry_enumerate_next ?_ (F.args_enumerate_next_1 _))))
    show wpAny _ _ (field (.ref e) 2 >>= _) _ _ _
    refine wpAny_bind (wpAny_field he rfl (x := .ref it) rfl ?_)
    refine wpAny_bind (RZ.nextOf_tuple_end (I.ok.hd hc) hit (show s.heap.IsTuple a its.toArray from p) (by simp; omega) fun h' x he' hx' => ?_)
    obtain ⟨o, ho, hc'⟩ := hx'
    refine wpAny_bind (wpAny_isInstance (T := "StopIteration") (b := true) ⟨o, ho, hc'⟩ isSubtype_stop ?_)
    exact wpAny_pure ⟨rfl, I.turned (t' := s.toks) (fun b o hb q => he' b o hb q) f0 f1 f3 f4 f5⟩
  self := fun A i s Q E st h => let ⟨⟨_, he⟩, _⟩ := st; wpAny_pyIter_enum he h

theorem begins_tup (l : Addr) (items : Array Value) : Begins (.ref l) { cls := .type "tuple_iterator", data := .fields #[.ref l, .int 0 0] } fun h => h.IsTuple l items where
  iter := fun prog w A E s Q h q => wpAny_pyIter_tuple h q
  keeps := fun h h' p k => p.at fun o => k l o
  free := rfl
set_option maxHeartbeats 4000000 in
theorem meets_enumerate_B1 {v : Value} {o : Obj} {H : Heap → Prop} (B : Begins v o H) :
    Meets (Builtin.«enumerate.__new__» ⟨[.type "enumerate", v], []⟩) (fun _ R s => H s.heap ∧
      R (.ok (.ret (.ref (s.heap.push o).objs.size))) { s with heap := (s.heap.push o).push { cls := .type "enumerate", data := .fields #[.none, .bool false, .ref s.heap.objs.size, rawInt 0, .none, .none] } }) :=
  .of_wp fun prog w A R s h => by
    obtain ⟨hp, g, d, tk, os⟩ := s; obtain ⟨h1, h⟩ := h
    have hsub := sub_enumerate
    have q1 : ∀ {A' : Around} {E : Value → Shared → Prop} {Q : Value → Shared → Prop}, Q (.ref hp.objs.size) ⟨hp.push o, g, d, tk, os⟩ → wpAny (model prog w) A' (pyIter v) Q E ⟨hp, g, d, tk, os⟩ :=
      fun q => B.iter prog w _ _ ⟨hp, g, d, tk, os⟩ _ h1 q
    wp_walk using q1
    refine wpAny_stack_any fun st => wpAny_pure ?_
    split
    · rename_i c _ _ _ _ _
      cases (c == Value.type "enumerate")
      · wp_walk using q1
        exact ⟨_, rfl, h⟩
      · wp_walk using q1
        exact ⟨_, rfl, h⟩
    · wp_walk using q1
      exact ⟨_, rfl, h⟩
theorem call_enum1 {prog : Program} {w : World} {A : Around} {E : Value → Shared → Prop} {s : Shared} {v : Value} {o : Obj} {H : Heap → Prop} {Q : Value → Shared → Prop} (B : Begins v o H) (h1 : H s.heap)
    (h : ∀ h', IsEnum h' (s.heap.objs.size + 1) s.heap.objs.size 0 .none → h'.get? s.heap.objs.size = some o → h'.objs.size = s.heap.objs.size + 2 →
      (∀ b o, s.heap.get? b = some o → h'.get? b = some o) → Q (.ref (s.heap.objs.size + 1)) { s with heap := h' }) :
    wpAny (model prog w) A (call (.type "enumerate") [v]) Q E s := by
  refine callType_new F.called_enumerate (by decide) (F.typeCall_enumerate_1 _) (F.newCall_enumerate_1 _) (fun obj => F.args_object_init_2 obj _) F.entry_enumerate_new
    (meets_enumerate_B1 B) ⟨h1, ?_⟩
  have hz : (s.heap.push o).objs.size = s.heap.objs.size + 1 := Heap.size_push ..
  show _ ∧ _
  rw [hz]
  have he : IsEnum ((s.heap.push o).push { cls := .type "enumerate", data := .fields #[.none, .bool false, .ref s.heap.objs.size, rawInt 0, .none, .none] }) (s.heap.objs.size + 1) s.heap.objs.size 0 .none := by
    have := Heap.get?_push_size (s.heap.push o) (o := { cls := .type "enumerate", data := .fields #[.none, .bool false, .ref s.heap.objs.size, rawInt 0, .none, .none] }) rfl
    rw [hz] at this; exact this
  refine ⟨⟨_, he, rfl⟩, h _ he (Heap.get?_push_of_some _ (Heap.get?_push_size _ B.free)) (by rw [Heap.size_push, hz]) fun b o x => Heap.get?_push_of_some _ (Heap.get?_push_of_some _ x)⟩
def iEnumX (K : PySem.W.Frag) (ta : TA) : TI := fun σ H R => ta σ H fun vs H1 => ∃ a xs, vs = [.ref a] ∧ ((SqL K H1 a xs ∧ R (Ite K a) H1) ∨ (SqT K H1 a xs ∧ R (IteT K a) H1))
theorem pi_enumX {X : Cx} {e : Expr} {ta : TA} {p pos tpos : Pos} {elts : List Expr} {kk : Nat} (hg : Gl X "enumerate") (hm : X.mg "enumerate" = none) (ha : PA X [e] ta) (hs : starEach [e] X.env = [(false, eval e X.env)] := by rfl) :
    PI X (.Tuple elts kk tpos) (.Call (.Name "enumerate" p) [e] [] pos) (iEnumX X.K ta) := by
  refine ⟨fun pins s σ H R I h => ?_⟩
  refine Call_ (ld_blt I hg hm boot_enumerate (PyProof.Rows.callWith_type1 (thn (ha.run pos pins s σ H _ I h) fun us s1 ⟨vs, H1, I1, r1, q1⟩ => ?_) hs rfl))
  obtain ⟨a, xs, ex, q1⟩ := q1
  subst ex
  cases r1 with
  | cons r rr =>
    cases rr
    cases r
    have fr : ∀ b, b ∈ [s1.heap.objs.size + 1, s1.heap.objs.size] → FpOk X pins H1 b := fun b hb => by
      have e' : b = s1.heap.objs.size + 1 ∨ b = s1.heap.objs.size := by simpa using hb
      have hle : s1.heap.objs.size ≤ b := by
        rcases e' with z | z
        · rw [z]; exact Nat.le_add_right _ _
        · rw [z]; exact Nat.le_refl _
      exact I1.fpOk hle (I1.hok.fresh hle)
    rcases q1 with ⟨hq, q⟩ | ⟨hq, q⟩
    · obtain ⟨its, rv, p', hz⟩ := I1.list hq
      refine call_enumerate_list p'.isList fun h' he hit hsz hk => wpAny_pyIter_enum he ?_
      have I2 : L2.Inv X pins σ H1 { s1 with heap := h' } := I1.kept (t' := s1.toks) hk
      exact ⟨s1.heap.objs.size + 1, [s1.heap.objs.size + 1, s1.heap.objs.size], _, _, H1, rfl, I2, turn_enum a (s1.heap.objs.size + 1) s1.heap.objs.size, ⟨⟨.none, he⟩, hit, Nat.succ_ne_self _⟩, fr, q⟩
    · obtain ⟨its, rv, p', hz⟩ := I1.tuple hq
      refine call_enum1 (begins_tup a its.toArray) p' fun h' he hit hsz hk => wpAny_pyIter_enum he ?_
      have I2 : L2.Inv X pins σ H1 { s1 with heap := h' } := I1.kept (t' := s1.toks) hk
      exact ⟨s1.heap.objs.size + 1, [s1.heap.objs.size + 1, s1.heap.objs.size], _, _, H1, rfl, I2, turn_enumT a (s1.heap.objs.size + 1) s1.heap.objs.size, ⟨⟨.none, he⟩, ⟨_, hit, rfl, rfl⟩, Nat.succ_ne_self _⟩, fr, q⟩
end DL

set_option maxHeartbeats 2000000
namespace DZ
open PySem PySem.Spec PyProof.Rows
open PySem.Sem (wp)
section
variable {prog : Program} {w : World} {M : Model} {A : Around} {E : Value → Shared → Prop} {s : Shared}
theorem wpAny_alive {a : Addr} {Q : Option Obj → Shared → Prop} (h : Q (s.heap.get? a) s) : wpAny M A (loadIfAlive a) Q E s := fun Γ p hΓ => by
  unfold loadIfAlive
  rw [Sem.wp_loadIfAlive]
  exact h
abbrev IsZipB (h : Heap) (z TI TO : Addr) (f0 : Value) (b : Bool) : Prop :=
  h.get? z = some { cls := .type "zip", dict := none, data := .fields #[f0, .bool b, .bool false, .ref TI, .ref TO], slots := #[] }
theorem held {z TI TO T : Addr} {b : Bool} {o : Obj} {Q : Bool → Shared → Prop} (hz : IsZipB s.heap z TI TO (rawInt T) b) (hT : s.heap.get? T = some o)
    (hQ : ∀ h', IsZipB h' z TI TO (rawInt T) true → Heap.SameBut z s.heap h' → Q false { s with heap := h' }) : wpAny (model prog w) A (Builtin.SmallTypes.ownedTupleIsFree (.ref z)) Q E s := by
  unfold Builtin.SmallTypes.ownedTupleIsFree
  refine wpAny_bind (wpAny_field hz rfl (x := rawInt T) rfl ?_)
  show wpAny _ _ (loadIfAlive ((T : Int).toNat) >>= _) _ _ s
  refine wpAny_bind (wpAny_alive ?_)
  rw [Int.toNat_natCast, hT]
  rw [if_neg (by simp)]
  refine wpAny_bind (wpAny_field hz rfl (x := .bool b) rfl ?_)
  cases b with
  | true => exact wpAny_pure (hQ s.heap hz (Heap.SameBut.refl ..))
  | false => exact wpAny_bind (wpAny_setField_rec hz (by simp) fun h' hz' sb => wpAny_pure (hQ h' hz' sb))
theorem later_item {z TI TO T i1 i2 l1 l2 : Addr} {k1 k2 : Nat} {xs ys : Array Value} {x y : Value} {b : Bool} {o : Obj} {Q : Value → Shared → Prop} (D : ZipApart z TI TO i1 i2 l1 l2)
    (hz : IsZipB s.heap z TI TO (rawInt T) b) (hT : s.heap.get? T = some o) (hTI : IsPair s.heap TI (.ref i1) (.ref i2))
    (h1 : s.heap.IsTupleIter i1 l1 k1) (h2 : s.heap.IsTupleIter i2 l2 k2) (hl1 : s.heap.IsTuple l1 xs) (hl2 : s.heap.IsTuple l2 ys) (hx : xs[k1]? = some x) (hy : ys[k2]? = some y)
    (hQ : ∀ h', IsZipB h' z TI TO (rawInt T) true → h'.IsTupleIter i1 l1 (k1 + 1) → h'.IsTupleIter i2 l2 (k2 + 1) → IsPair h' s.heap.objs.size x y → h'.objs.size = s.heap.objs.size + 1 →
      (∀ c o, c ≠ z → c ≠ i1 → c ≠ i2 → s.heap.get? c = some o → h'.get? c = some o) → Q (.ref s.heap.objs.size) { s with heap := h' }) :
    wpAny (model prog w) A (Builtin.«zip.__next__» ⟨[.ref z], []⟩) (fun fin s' => ∃ v, fin = .done (.ret v) ∧ Q v s') E s := by
  show wpAny _ _ (field (.ref z) 2 >>= _) _ _ _
  refine wpAny_bind (wpAny_field hz rfl (x := .bool false) rfl ?_)
  show wpAny _ _ (field (.ref z) 3 >>= _) _ _ _
  refine wpAny_bind (wpAny_field hz rfl (x := .ref TI) rfl ?_)
  refine wpAny_bind (wpAny_seqItems hTI rfl ?_)
  show wpAny _ _ (Builtin.SmallTypes.ownedTupleIsFree (.ref z) >>= _) _ _ _
  refine wpAny_bind (held hz hT fun h₁ hz₁ hs₁ => ?_)
  rw [if_neg Bool.false_ne_true]
  refine wpAny_bind ?_
  simp only [List.forIn_toArray, List.forIn_cons, List.forIn_nil]
  refine wpAny_bind (wpAny_bind (wpAny_holding ?_))
  show wpAny _ _ (Builtin.SmallTypes.nextOf (.ref i1) >>= _) _ _ _
  refine wpAny_bind (RZ.nextOf_tuple_item (h1.extBut hs₁.extBut D.i1z) (hl1.extBut hs₁.extBut D.l1z) hx fun h₂ h1₂ hs₂ => wpAny_pure ?_)
  refine wpAny_pure ?_
  refine wpAny_bind (wpAny_bind (wpAny_holding ?_))
  show wpAny _ _ (Builtin.SmallTypes.nextOf (.ref i2) >>= _) _ _ _
  refine wpAny_bind (RZ.nextOf_tuple_item ((h2.extBut hs₁.extBut D.i2z).extBut hs₂.extBut D.i12.symm) ((hl2.extBut hs₁.extBut D.l2z).extBut hs₂.extBut D.l2i1) hy fun h₄ h2₄ hs₄ => wpAny_pure ?_)
  refine wpAny_pure (wpAny_pure ?_)
  have hsz : h₄.objs.size = s.heap.objs.size := by rw [hs₄.1, hs₂.1, hs₁.1]
  have hz₄ : IsZipB h₄ z TI TO (rawInt T) true := hs₄.extBut _ _ D.i2z.symm (hs₂.extBut _ _ D.i1z.symm hz₁)
  have hk₄ : ∀ c o, c ≠ z → c ≠ i1 → c ≠ i2 → s.heap.get? c = some o → h₄.get? c = some o := fun c o c1 c3 c4 e => hs₄.extBut _ _ c4 (hs₂.extBut _ _ c3 (hs₁.extBut _ _ c1 e))
  have h1₄ : h₄.IsTupleIter i1 l1 (k1 + 1) := h1₂.extBut hs₄.extBut D.i12
  refine wpAny_bind (wpAny_newTuple (items := [x, y]) ?_ (by show 2 ≤ sizeLine; decide))
  have q := hQ (h₄.push { cls := .type "tuple", data := .seq #[x, y] }) (Heap.get?_push_of_some _ hz₄) (h1₄.at fun o e => Heap.get?_push_of_some _ e) (h2₄.at fun o e => Heap.get?_push_of_some _ e)
    (by rw [← hsz]; exact Heap.get?_push_size _ rfl) (by rw [Heap.size_push, hsz]) fun c o c1 c3 c4 e => Heap.get?_push_of_some _ (hk₄ c o c1 c3 c4 e)
  rw [← hsz] at q
  exact wpAny_pure ⟨_, rfl, q⟩
theorem later_end {z TI TO T i1 i2 l1 l2 : Addr} {k1 k2 : Nat} {xs ys : Array Value} {b : Bool} {o : Obj} {Q : Fin → Shared → Prop} (hh : A.handled = none) (D : ZipApart z TI TO i1 i2 l1 l2)
    (hz : IsZipB s.heap z TI TO (rawInt T) b) (hT : s.heap.get? T = some o) (hTI : IsPair s.heap TI (.ref i1) (.ref i2))
    (h1 : s.heap.IsTupleIter i1 l1 k1) (h2 : s.heap.IsTupleIter i2 l2 k2) (hl1 : s.heap.IsTuple l1 xs) (hl2 : s.heap.IsTuple l2 ys) (hend : xs[k1]? = none ∨ ys[k2]? = none)
    (hE : ∀ h' e, (∀ c o, c ≠ z → c ≠ i1 → c ≠ i2 → s.heap.get? c = some o → h'.get? c = some o) → (∃ o, h'.get? e = some o ∧ o.cls = .type "StopIteration") → E (.ref e) { s with heap := h' }) :
    wpAny (model prog w) A (Builtin.«zip.__next__» ⟨[.ref z], []⟩) Q E s := by
  show wpAny _ _ (field (.ref z) 2 >>= _) _ _ _
  refine wpAny_bind (wpAny_field hz rfl (x := .bool false) rfl ?_)
  show wpAny _ _ (field (.ref z) 3 >>= _) _ _ _
  refine wpAny_bind (wpAny_field hz rfl (x := .ref TI) rfl ?_)
  refine wpAny_bind (wpAny_seqItems hTI rfl ?_)
  show wpAny _ _ (Builtin.SmallTypes.ownedTupleIsFree (.ref z) >>= _) _ _ _
  refine wpAny_bind (held hz hT fun h₁ hz₁ hs₁ => ?_)
  rw [if_neg Bool.false_ne_true]
  refine wpAny_bind ?_
  simp only [List.forIn_toArray, List.forIn_cons, List.forIn_nil]
  refine wpAny_bind (wpAny_bind (wpAny_holding ?_))
  show wpAny _ _ (Builtin.SmallTypes.nextOf (.ref i1) >>= _) _ _ _
  cases hx : xs[k1]? with
  | none =>
    refine wpAny_bind (RZ.nextOf_tuple_end hh (h1.extBut hs₁.extBut D.i1z) (hl1.extBut hs₁.extBut D.l1z) hx fun h₂ e hs₂ he => ?_)
    exact hE h₂ e (fun c o c1 c3 c4 x => hs₂ _ _ c3 (hs₁.extBut _ _ c1 x)) he
  | some x =>
    have hy : ys[k2]? = none := by
      rcases hend with h | h
      · rw [hx] at h; cases h
      · exact h
    refine wpAny_bind (RZ.nextOf_tuple_item (h1.extBut hs₁.extBut D.i1z) (hl1.extBut hs₁.extBut D.l1z) hx fun h₂ h1₂ hs₂ => wpAny_pure ?_)
    refine wpAny_pure ?_
    refine wpAny_bind (wpAny_bind (wpAny_holding ?_))
    show wpAny _ _ (Builtin.SmallTypes.nextOf (.ref i2) >>= _) _ _ _
    refine wpAny_bind (RZ.nextOf_tuple_end hh ((h2.extBut hs₁.extBut D.i2z).extBut hs₂.extBut D.i12.symm) ((hl2.extBut hs₁.extBut D.l2z).extBut hs₂.extBut D.l2i1) hy fun h₄ e hs₄ he => ?_)
    exact hE h₄ e (fun c o c1 c3 c4 x => hs₄ _ _ c4 (hs₂.extBut _ _ c3 (hs₁.extBut _ _ c1 x))) he

theorem next_later_item {z TI TO T i1 i2 l1 l2 : Addr} {k1 k2 : Nat} {xs ys : Array Value} {x y : Value} {b : Bool} {o : Obj} {Q : Option Value → Shared → Prop} (D : ZipApart z TI TO i1 i2 l1 l2)
    (hz : IsZipB s.heap z TI TO (rawInt T) b) (hT : s.heap.get? T = some o) (hTI : IsPair s.heap TI (.ref i1) (.ref i2))
    (h1 : s.heap.IsTupleIter i1 l1 k1) (h2 : s.heap.IsTupleIter i2 l2 k2) (hl1 : s.heap.IsTuple l1 xs) (hl2 : s.heap.IsTuple l2 ys) (hx : xs[k1]? = some x) (hy : ys[k2]? = some y)
    (hQ : ∀ h', IsZipB h' z TI TO (rawInt T) true → h'.IsTupleIter i1 l1 (k1 + 1) → h'.IsTupleIter i2 l2 (k2 + 1) → IsPair h' s.heap.objs.size x y → h'.objs.size = s.heap.objs.size + 1 →
      (∀ c o, c ≠ z → c ≠ i1 → c ≠ i2 → s.heap.get? c = some o → h'.get? c = some o) → Q (some (.ref s.heap.objs.size)) { s with heap := h' }) : wpAny (model prog w) A (pyNext (.ref z)) Q E s := by
  have hTy : s.TypeIs (.ref z) "zip" := ⟨_, hz, rfl⟩
  unfold pyNext
  exact wpAny_bind (wpAny_attempt (wpAny_callSpecial?_slot (name := Str.ofString "__next__") hTy F.slot_zip_next
    (wpAny_call_entry F.slot_zip_next hTy F.entry_zip_next
      (later_item D hz hT hTI h1 h2 hl1 hl2 hx hy fun h' a1 a2 a3 a4 a5 a6 => wpAny_pure (hQ h' a1 a2 a3 a4 a5 a6)) (F.args_zip_next_1 _))))
theorem next_later_end {z TI TO T i1 i2 l1 l2 : Addr} {k1 k2 : Nat} {xs ys : Array Value} {b : Bool} {o : Obj} {Q : Option Value → Shared → Prop} (hh : A.handled = none) (D : ZipApart z TI TO i1 i2 l1 l2)
    (hz : IsZipB s.heap z TI TO (rawInt T) b) (hT : s.heap.get? T = some o) (hTI : IsPair s.heap TI (.ref i1) (.ref i2))
    (h1 : s.heap.IsTupleIter i1 l1 k1) (h2 : s.heap.IsTupleIter i2 l2 k2) (hl1 : s.heap.IsTuple l1 xs) (hl2 : s.heap.IsTuple l2 ys) (hend : xs[k1]? = none ∨ ys[k2]? = none)
    (hQ : ∀ h', (∀ c o, c ≠ z → c ≠ i1 → c ≠ i2 → s.heap.get? c = some o → h'.get? c = some o) → Q none { s with heap := h' }) : wpAny (model prog w) A (pyNext (.ref z)) Q E s := by
  have hTy : s.TypeIs (.ref z) "zip" := ⟨_, hz, rfl⟩
  unfold pyNext
  refine wpAny_bind (wpAny_attempt (wpAny_callSpecial?_slot (name := Str.ofString "__next__") hTy F.slot_zip_next
    (wpAny_call_entry F.slot_zip_next hTy F.entry_zip_next (later_end hh D hz hT hTI h1 h2 hl1 hl2 hend fun h' e hk he => ?_) (F.args_zip_next_1 _))))
  obtain ⟨o, ho, hc⟩ := he
  refine wpAny_bind (wpAny_isInstance (T := "StopIteration") (b := true) ⟨o, ho, hc⟩ isSubtype_stop ?_)
  exact wpAny_pure (hQ _ hk)
end

/-- the zip of the tuples at l1 and l2 as it stands: at its first turn, or behind it -/
structure ZSt (z TI TO i1 i2 l1 l2 : Addr) (xs ys : Array Value) (i : Nat) (h : Heap) : Prop where
  st : (i = 0 ∧ IsZip h z TI TO .none ∧ ∃ a b, IsPair h TO a b) ∨ ∃ T b x y, T ≠ z ∧ T ≠ i1 ∧ T ≠ i2 ∧ IsZipB h z TI TO (rawInt (T : Nat)) b ∧ IsPair h T x y
  ti : IsPair h TI (.ref i1) (.ref i2)
  h1 : h.IsTupleIter i1 l1 i
  h2 : h.IsTupleIter i2 l2 i
  t1 : h.IsTuple l1 xs
  t2 : h.IsTuple l2 ys
section
variable {prog : Program} {w : World} {A : Around} {E : Value → Shared → Prop} {s : Shared} {z TI TO i1 i2 l1 l2 : Addr} {xs ys : Array Value}
theorem ZSt.next {i : Nat} {x y : Value} {Q : Option Value → Shared → Prop} (D : ZipApart z TI TO i1 i2 l1 l2) (S : ZSt z TI TO i1 i2 l1 l2 xs ys i s.heap) (hx : xs[i]? = some x) (hy : ys[i]? = some y)
    (hQ : ∀ h', ZSt z TI TO i1 i2 l1 l2 xs ys (i + 1) h' → IsPair h' s.heap.objs.size x y → h'.objs.size = s.heap.objs.size + 1 → (∀ c o, c ≠ z → c ≠ TO → c ≠ i1 → c ≠ i2 → s.heap.get? c = some o → h'.get? c = some o) → Q (some (.ref s.heap.objs.size)) { s with heap := h' }) :
    wpAny (model prog w) A (pyNext (.ref z)) Q E s := by
  have i1l : i1 < s.heap.objs.size := by obtain ⟨_, e, _⟩ := S.h1; exact Heap.lt_size e
  have i2l : i2 < s.heap.objs.size := by obtain ⟨_, e, _⟩ := S.h2; exact Heap.lt_size e
  rcases S.st with ⟨e, hz, a, b, hTO⟩ | ⟨T, b, x0, y0, n1, n2, n3, hz, hT⟩
  · have zl : z < s.heap.objs.size := Heap.lt_size hz
    refine RZ.pyNext_zipT_item D hz S.ti hTO S.h1 S.h2 S.t1 S.t2 hx hy fun h' z' TO' a1 a2 hp hs hk => hQ h' ?_ hp hs hk
    exact ⟨.inr ⟨s.heap.objs.size, false, _, _, Nat.ne_of_gt zl, Nat.ne_of_gt i1l, Nat.ne_of_gt i2l, z', hp⟩, hk _ _ D.TIz D.TITO D.TIi1 D.TIi2 S.ti, a1, a2, S.t1.at fun o => hk _ o D.l1z D.l1TO D.l1i1 D.l1i2, S.t2.at fun o => hk _ o D.l2z D.l2TO D.l2i1 D.l2i2⟩
  · refine next_later_item D hz hT S.ti S.h1 S.h2 S.t1 S.t2 hx hy fun h' z' a1 a2 hp hs hk => hQ h' ?_ hp hs fun c o c1 _ c3 c4 => hk c o c1 c3 c4
    exact ⟨.inr ⟨T, true, _, _, n1, n2, n3, z', hk _ _ n1 n2 n3 hT⟩, hk _ _ D.TIz D.TIi1 D.TIi2 S.ti, a1, a2, S.t1.at fun o => hk _ o D.l1z D.l1i1 D.l1i2, S.t2.at fun o => hk _ o D.l2z D.l2i1 D.l2i2⟩
theorem ZSt.done {i : Nat} {Q : Option Value → Shared → Prop} (hh : A.handled = none) (D : ZipApart z TI TO i1 i2 l1 l2) (S : ZSt z TI TO i1 i2 l1 l2 xs ys i s.heap) (hend : xs[i]? = none ∨ ys[i]? = none)
    (hQ : ∀ h', (∀ c o, c ≠ z → c ≠ TO → c ≠ i1 → c ≠ i2 → s.heap.get? c = some o → h'.get? c = some o) → Q none { s with heap := h' }) : wpAny (model prog w) A (pyNext (.ref z)) Q E s := by
  rcases S.st with ⟨e, hz, a, b, hTO⟩ | ⟨T, b, x0, y0, n1, n2, n3, hz, hT⟩
  · exact RZ.pyNext_zipT_end hh D hz S.ti hTO S.h1 S.h2 S.t1 S.t2 hend fun h' hk => hQ h' hk
  · exact next_later_end hh D hz hT S.ti S.h1 S.h2 S.t1 S.t2 hend fun h' hk => hQ h' fun c o c1 _ c3 c4 => hk c o c1 c3 c4
/-- a list elsewhere is written -/
theorem ZSt.keep {i : Nat} {h h' : Heap} {S : Addr} {o : Obj} (Z : ZSt z TI TO i1 i2 l1 l2 xs ys i h) (hS : h.get? S = some o) (hc : o.cls = .type "list") (k : ∀ c o, c ≠ S → h.get? c = some o → h'.get? c = some o) : ZSt z TI TO i1 i2 l1 l2 xs ys i h' := by
  have ne : ∀ {c : Addr} {u : Obj}, h.get? c = some u → u.cls ≠ .type "list" → h'.get? c = some u := fun {c u} e n => k c u (fun z => by rw [z, hS] at e; cases e; exact n hc) e
  have tup : ∀ {c : Addr} {a b : Value}, IsPair h c a b → IsPair h' c a b := fun {c a b} e => ne (show h.get? c = some _ from e) (by show Value.type "tuple" ≠ Value.type "list"; decide)
  have itr : ∀ {c l : Addr} {j : Nat}, h.IsTupleIter c l j → h'.IsTupleIter c l j := fun {c l j} e => by
    obtain ⟨u, e1, e2, e3⟩ := e
    exact ⟨u, ne e1 (by rw [e2]; decide), e2, e3⟩
  have tpl : ∀ {c : Addr} {vs : Array Value}, h.IsTuple c vs → h'.IsTuple c vs := fun {c vs} e => by
    obtain ⟨u, e1, e2, e3⟩ := e
    exact ⟨u, ne e1 (by rw [e2]; decide), e2, e3⟩
  refine ⟨?_, tup Z.ti, itr Z.h1, itr Z.h2, tpl Z.t1, tpl Z.t2⟩
  rcases Z.st with ⟨e, hz, a, b, hTO⟩ | ⟨T, b, x0, y0, n1, n2, n3, hz, hT⟩
  · exact .inl ⟨e, ne (show h.get? z = some _ from hz) (by show Value.type "zip" ≠ Value.type "list"; decide), a, b, tup hTO⟩
  · exact .inr ⟨T, b, x0, y0, n1, n2, n3, ne (show h.get? z = some _ from hz) (by show Value.type "zip" ≠ Value.type "list"; decide), tup hT⟩
/-- the new pairs so far -/
structure Got (xs ys : Array Value) (lo : Nat) (ts : List Addr) (h : Heap) : Prop where
  nd : ts.Nodup
  low : ∀ t ∈ ts, lo ≤ t
  pair : ∀ (j : Nat) (t : Addr), ts[j]? = some t → ∃ x y, xs[j]? = some x ∧ ys[j]? = some y ∧ IsPair h t x y
theorem Got.keep {lo : Nat} {ts : List Addr} {h h' : Heap} (G : Got xs ys lo ts h) (k : ∀ t a b, t ∈ ts → IsPair h t a b → IsPair h' t a b) : Got xs ys lo ts h' :=
  ⟨G.nd, G.low, fun j t e => let ⟨x, y, h1, h2, h3⟩ := G.pair j t e; ⟨x, y, h1, h2, k t x y (List.mem_of_getElem? e) h3⟩⟩
variable {R : Result → Shared → Prop}
theorem ext_zip {n lo : Nat} (hh : A.handled = none) (D : ZipApart z TI TO i1 i2 l1 l2) (hn : n ≤ sizeLine) (hx : xs.size = n) (hy : ys.size = n) (S : Addr) (hSn : ∀ c, c ∈ [z, TI, TO, i1, i2] → c ≠ S ∧ c < lo) (hS0 : S < lo) (res : Value) :
    ∀ (k i : Nat) (s : Shared) (acc : Array Value) (c : Nat) (ts : List Addr), n - i = k → i ≤ n → ZSt z TI TO i1 i2 l1 l2 xs ys i s.heap → s.heap.get? S = some { cls := .type "list", dict := none, data := .seq acc c, slots := #[] } →
      acc.toList = ts.map Value.ref → ts.length = i → Got xs ys lo ts s.heap → lo ≤ s.heap.objs.size →
      (∀ h' acc' c' ts', (∀ b o, b ∉ [S, z, TO, i1, i2] → s.heap.get? b = some o → h'.get? b = some o) → h'.get? S = some { cls := .type "list", dict := none, data := .seq acc' c', slots := #[] } → acc'.toList = ts'.map Value.ref → ts'.length = n → Got xs ys lo ts' h' → R (.ok (.ret res)) { s with heap := h' }) →
      codeAny (model prog w) A (.builtin "list.extend.loop" ⟨[.ref S, .ref z, res], []⟩) R s := by
  intro k
  induction k with
  | zero =>
    intro i s acc c ts hk hi Z hS ha hl G hlo hR
    have e : i = n := by omega
    refine codeAny_builtin F.entry_extend_loop ?_
    rw [Around.under_plainId F.plain_extend_loop _]
    show wpAny _ A.in1 (pyNext (.ref z) >>= _) _ _ s
    refine wpAny_bind (Z.done hh D (.inl (by rw [Array.getElem?_eq_none]; omega)) fun h' hk' => ?_)
    refine wpAny_pure (hR h' acc c ts (fun b o hb q => ?_) (hk' _ _ ?_ ?_ ?_ ?_ hS) ha (by omega) (G.keep fun t a b ht q => ?_))
    · simp only [List.mem_cons, not_or] at hb
      exact hk' b o hb.2.1 hb.2.2.1 hb.2.2.2.1 hb.2.2.2.2.1 q
    · exact fun q => (hSn z (by simp)).1 q.symm
    · exact fun q => (hSn TO (by simp)).1 q.symm
    · exact fun q => (hSn i1 (by simp)).1 q.symm
    · exact fun q => (hSn i2 (by simp)).1 q.symm
    · have hge := G.low t ht
      have n1 := (hSn z (by simp)).2
      have n2 := (hSn TO (by simp)).2
      have n3 := (hSn i1 (by simp)).2
      have n4 := (hSn i2 (by simp)).2
      exact hk' _ _ (Nat.ne_of_gt (Nat.lt_of_lt_of_le n1 hge)) (Nat.ne_of_gt (Nat.lt_of_lt_of_le n2 hge)) (Nat.ne_of_gt (Nat.lt_of_lt_of_le n3 hge)) (Nat.ne_of_gt (Nat.lt_of_lt_of_le n4 hge)) q
  | succ k ih =>
    intro i s acc c ts hk hi Z hS ha hl G hlo hR
    have hlt : i < n := by omega
    have ex : xs[i]? = some xs[i] := by rw [Array.getElem?_eq_getElem]
    have ey : ys[i]? = some ys[i] := by rw [Array.getElem?_eq_getElem]
    refine codeAny_builtin F.entry_extend_loop ?_
    rw [Around.under_plainId F.plain_extend_loop _]
    show wpAny _ A.in1 (pyNext (.ref z) >>= _) _ _ s
    refine wpAny_bind (Z.next D ex ey fun h' Z' hp hs hk' => ?_)
    have hS' : h'.get? S = some { cls := .type "list", dict := none, data := .seq acc c, slots := #[] } := hk' _ _ (fun q => (hSn z (by simp)).1 q.symm) (fun q => (hSn TO (by simp)).1 q.symm) (fun q => (hSn i1 (by simp)).1 q.symm) (fun q => (hSn i2 (by simp)).1 q.symm) hS
    have eS := Heap.get?_update_self (Obj.mapSeq (·.push (Value.ref s.heap.objs.size))) hS' rfl
    have oth : ∀ b o, b ≠ S → h'.get? b = some o → (h'.update S (Obj.mapSeq (·.push (Value.ref s.heap.objs.size)))).get? b = some o := fun b o hb e => (Heap.get?_update_other _ _ (Ne.symm hb)).trans e
    have Sl : S < s.heap.objs.size := Heap.lt_size hS
    have alen : acc.size = i := by rw [← Array.length_toList, ha, List.length_map, hl]
    have G2 : Got xs ys lo (ts ++ [s.heap.objs.size]) (h'.update S (Obj.mapSeq (·.push (Value.ref s.heap.objs.size)))) := by
      refine ⟨?_, fun t ht => ?_, fun j t hj => ?_⟩
      · refine List.nodup_append.mpr ⟨G.nd, by simp, fun a ha b hb e => ?_⟩
        have eb : b = s.heap.objs.size := by simpa using hb
        obtain ⟨j, hj⟩ := List.getElem?_of_mem ha
        obtain ⟨x, y, _, _, q⟩ := G.pair j a hj
        exact absurd (Heap.lt_size (show s.heap.get? a = some _ from q)) (by rw [e, eb]; exact Nat.lt_irrefl _)
      · rcases List.mem_append.mp ht with q | q
        · exact G.low t q
        · have : t = s.heap.objs.size := by simpa using q
          rw [this]
          exact hlo
      · by_cases hj2 : j < ts.length
        · rw [List.getElem?_append_left hj2] at hj
          obtain ⟨x, y, q1, q2, q3⟩ := G.pair j t hj
          have hge := G.low t (List.mem_of_getElem? hj)
          have n1 := (hSn z (by simp)).2
          have n2 := (hSn TO (by simp)).2
          have n3 := (hSn i1 (by simp)).2
          have n4 := (hSn i2 (by simp)).2
          exact ⟨x, y, q1, q2, oth _ _ (Nat.ne_of_gt (Nat.lt_of_lt_of_le hS0 hge)) (hk' _ _ (Nat.ne_of_gt (Nat.lt_of_lt_of_le n1 hge)) (Nat.ne_of_gt (Nat.lt_of_lt_of_le n2 hge)) (Nat.ne_of_gt (Nat.lt_of_lt_of_le n3 hge)) (Nat.ne_of_gt (Nat.lt_of_lt_of_le n4 hge)) q3)⟩
        · have e1 : j = ts.length := by
            have := (List.getElem?_eq_some_iff.mp hj).1
            rw [List.length_append, List.length_singleton] at this
            omega
          subst e1
          rw [List.getElem?_append_right (Nat.le_refl _), Nat.sub_self] at hj
          have et : s.heap.objs.size = t := by simpa using hj
          subst et
          rw [hl]
          exact ⟨_, _, ex, ey, oth _ _ (Nat.ne_of_gt Sl) hp⟩
    show wpAny _ A.in1 (updateSeq S (·.push (Value.ref s.heap.objs.size)) >>= _) _ _ _
    refine wpAny_bind ?_
    refine wpAny_updateSeq hS' rfl (wpAny_pure ⟨plainId_quiet F.plain_extend_loop _, ih (i + 1) _ (acc.push (.ref s.heap.objs.size)) _ (ts ++ [s.heap.objs.size]) (by omega) hlt (Z'.keep hS' rfl oth) eS ?_ (by rw [List.length_append, List.length_singleton, hl]) G2 ?_ fun h2 acc' c' ts' k2 q1 q2 q3 q4 => ?_⟩)
      (by rw [alen]; omega) (by show (acc.push _).size ≤ sizeLine + 1; rw [Array.size_push]; omega)
    · rw [Array.toList_push, ha, List.map_append]; rfl
    · show lo ≤ (h'.update S _).objs.size
      rw [Heap.size_update, hs]
      omega
    · refine hR h2 acc' c' ts' (fun b o hb q => k2 b o hb (oth b o ?_ ?_)) q1 q2 q3 q4
      · simp only [List.mem_cons, not_or] at hb
        exact hb.1
      · simp only [List.mem_cons, not_or] at hb
        exact hk' b o hb.2.1 hb.2.2.1 hb.2.2.2.1 hb.2.2.2.2.1 q
end
end DZ

set_option maxHeartbeats 2000000
namespace DZ
open PySem PySem.Spec PyProof.Rows
namespace F
theorem zip_no_len : typeLookup (.type "zip") "__len__" = pure none := by rw [typeLookup_type, builtinLookup_eq_fast]; kernel_rfl
theorem zip_no_hint : typeLookup (.type "zip") "__length_hint__" = pure none := by rw [typeLookup_type, builtinLookup_eq_fast]; kernel_rfl
end F
section
variable {prog : Program} {w : World} {A : Around} {E : Value → Shared → Prop} {s : Shared} {z TI TO i1 i2 l1 l2 : Addr} {xs ys : Array Value} {R : Result → Shared → Prop}
theorem ZSt.type {i : Nat} (Z : ZSt z TI TO i1 i2 l1 l2 xs ys i s.heap) : s.TypeIs (.ref z) "zip" := by
  rcases Z.st with ⟨e, hz, _⟩ | ⟨T, b, x, y, _, _, _, hz, _⟩
  · exact ⟨_, hz, rfl⟩
  · exact ⟨_, hz, rfl⟩
theorem ZSt.self {i : Nat} {Q : Value → Shared → Prop} (Z : ZSt z TI TO i1 i2 l1 l2 xs ys i s.heap) (h : Q (.ref z) s) : wpAny (model prog w) A (pyIter (.ref z)) Q E s := by
  have hT := Z.type
  refine wpAny_pyIter_slot hT F.slot_zip_iter (wpAny_call_entry F.slot_zip_iter hT F.entry_zip_iter ?_ (F.args_zip_iter_1 _))
  show wpAny _ _ (ret (.ref z)) _ _ s
  exact wpAny_pure ⟨_, rfl, "zip", _, hT, F.slot_zip_next.lookup, h⟩
theorem extend_zip {n lo : Nat} (hh : A.handled = none) (D : ZipApart z TI TO i1 i2 l1 l2) (hn : n ≤ sizeLine) (hx : xs.size = n) (hy : ys.size = n) (S : Addr) (hSn : ∀ c, c ∈ [z, TI, TO, i1, i2] → c ≠ S ∧ c < lo) (hS0 : S < lo) (res : Value) (c₀ : Nat)
    (Z : ZSt z TI TO i1 i2 l1 l2 xs ys 0 s.heap) (hS : s.heap.get? S = some { cls := .type "list", data := .seq #[] c₀ }) (hlo : lo ≤ s.heap.objs.size)
    (hR : ∀ h' acc' c' ts', (∀ b o, b ∉ [S, z, TO, i1, i2] → s.heap.get? b = some o → h'.get? b = some o) → h'.get? S = some { cls := .type "list", dict := none, data := .seq acc' c', slots := #[] } → acc'.toList = ts'.map Value.ref → ts'.length = n → Got xs ys lo ts' h' → R (.ok (.ret res)) { s with heap := h' }) :
    wpAny (model prog w) A.in1 (Builtin.List.listExtendWith (.ref S) (.ref z) res)
      (fun fin s' => match fin with | .done f => R (.ok f) s' | .again c' => c'.quiet = true ∧ codeAny (model prog w) A c' R s') (fun e s' => R (.error e) s') s := by
  have hSI : S ≠ z := fun e => (hSn z (by simp)).1 e.symm
  unfold Builtin.List.listExtendWith
  refine wpAny_bind (wpAny_typeOf Z.type ?_)
  have h1 : Builtin.List.listSameRef (.ref S) (.ref z) = false := by simp [Builtin.List.listSameRef, hSI]
  have h2 : (Value.type "zip" == Value.type "list") = false := by decide
  have h3 : (Value.type "zip" == Value.type "tuple") = false := by decide
  simp only [h1, h2, h3, Bool.or_false, Bool.false_eq_true, if_false]
  refine wpAny_bind (Z.self ?_)
  refine wpAny_bind (wpAny_holding ?_)
  unfold Builtin.List.listLengthHint
  refine wpAny_bind (wpAny_specialOf Z.type F.zip_no_len ?_)
  refine wpAny_bind (wpAny_specialOf Z.type F.zip_no_hint ?_)
  refine wpAny_pure ?_
  show wpAny _ A.in1 (rule "list.extend.makes-room" >>= fun _ => Builtin.List.listTouch (.ref S) >>= fun _ =>
    again (.builtin "list.extend.loop" ⟨[.ref S, .ref z, res], []⟩)) _ _ _
  refine wpAny_bind (wpAny_rule ?_)
  refine wpAny_bind ?_
  show wpAny _ A.in1 (updateSeq S (·.push .none) >>= fun _ => updateSeq S (·.pop)) _ _ _
  refine wpAny_bind (wpAny_updateSeq hS rfl ?_)
  have hS₂ := Heap.get?_update_self (Obj.mapSeq (·.push Value.none)) hS rfl
  refine wpAny_updateSeq (hz := by seq_fits) hS₂ rfl ?_
  have hS₃ := Heap.get?_update_self (Obj.mapSeq (·.pop)) hS₂ rfl
  have oth : ∀ b o, b ≠ S → s.heap.get? b = some o → ((s.heap.update S (Obj.mapSeq (·.push Value.none))).update S (Obj.mapSeq (·.pop))).get? b = some o :=
    fun b o hb e => (Heap.get?_update_other _ _ (Ne.symm hb)).trans ((Heap.get?_update_other _ _ (Ne.symm hb)).trans e)
  refine wpAny_pure ⟨plainId_quiet F.plain_extend_loop _, ext_zip (n := n) (lo := lo) hh D hn hx hy S hSn hS0 res n 0 _ _ _ [] rfl (Nat.zero_le _) (Z.keep hS rfl oth) hS₃ rfl rfl ⟨List.nodup_nil, (fun _ q => nomatch q), fun j t q => by simp at q⟩ ?_ fun h' acc' c' ts' k q1 q2 q3 q4 => ?_⟩
  · show lo ≤ ((s.heap.update S _).update S _).objs.size
    rw [Heap.size_update, Heap.size_update]
    exact hlo
  · refine hR h' acc' c' ts' (fun b o hb e => k b o hb (oth b o ?_ e)) q1 q2 q3 q4
    simp only [List.mem_cons, not_or] at hb
    exact hb.1

theorem list_init_zip {n lo : Nat} (hh : A.handled = none) (D : ZipApart z TI TO i1 i2 l1 l2) (hn : n ≤ sizeLine) (hx : xs.size = n) (hy : ys.size = n) (S : Addr) (hSn : ∀ c, c ∈ [z, TI, TO, i1, i2] → c ≠ S ∧ c < lo) (hS0 : S < lo)
    (Z : ZSt z TI TO i1 i2 l1 l2 xs ys 0 s.heap) (hS : s.heap.get? S = some { cls := .type "list", data := .seq #[] }) (hlo : lo ≤ s.heap.objs.size)
    (hR : ∀ h' acc' c' ts', (∀ b o, b ∉ [S, z, TO, i1, i2] → s.heap.get? b = some o → h'.get? b = some o) → h'.get? S = some { cls := .type "list", dict := none, data := .seq acc' c', slots := #[] } → acc'.toList = ts'.map Value.ref → ts'.length = n → Got xs ys lo ts' h' → R (.ok (.ret .none)) { s with heap := h' }) :
    wpAny (model prog w) A.in1 (Builtin.«list.__init__» ⟨[.ref S, .ref z], []⟩)
      (fun fin s' => match fin with | .done f => R (.ok f) s' | .again c' => c'.quiet = true ∧ codeAny (model prog w) A c' R s') (fun e s' => R (.error e) s') s := by
  show wpAny _ A.in1 (do let old ← Builtin.List.listItems (.ref S); Builtin.List.listUpdate (.ref S) (fun _ => #[]); letGo old.toList.reverse; Builtin.List.listExtendWith (.ref S) (.ref z) .none) _ _ s
  refine wpAny_bind ?_
  unfold Builtin.List.listItems
  refine wpAny_bind (wpAny_seqItems hS rfl (wpAny_pure ?_))
  show wpAny _ A.in1 (updateSeq S (fun _ => #[]) >>= fun _ => letGo (#[] : Array Value).toList.reverse >>= fun _ => Builtin.List.listExtendWith (.ref S) (.ref z) .none) _ _ s
  refine wpAny_bind (wpAny_updateSeq hS rfl ?_)
  have hS₂ := Heap.get?_update_self (Obj.mapSeq (fun _ => (#[] : Array Value))) hS rfl
  have oth : ∀ b o, b ≠ S → s.heap.get? b = some o → (s.heap.update S (Obj.mapSeq (fun _ => (#[] : Array Value)))).get? b = some o :=
    fun b o hb e => (Heap.get?_update_other _ _ (Ne.symm hb)).trans e
  refine wpAny_bind (wpAny_letGo ?_)
  refine extend_zip (n := n) (lo := lo) hh D hn hx hy S hSn hS0 .none _ (Z.keep hS rfl oth) hS₂ (by rw [Heap.size_update]; exact hlo) fun h' acc' c' ts' k q1 q2 q3 q4 => ?_
  refine hR h' acc' c' ts' (fun b o hb e => k b o hb (oth b o ?_ e)) q1 q2 q3 q4
  simp only [List.mem_cons, not_or] at hb
  exact hb.1
theorem call_list_zip {n : Nat} {Q : Value → Shared → Prop} (hh : A.handled = none) (D : ZipApart z TI TO i1 i2 l1 l2) (hn : n ≤ sizeLine) (hx : xs.size = n) (hy : ys.size = n) (hlt : ∀ c, c ∈ [z, TI, TO, i1, i2] → c < s.heap.objs.size) (Z : ZSt z TI TO i1 i2 l1 l2 xs ys 0 s.heap)
    (hQ : ∀ h' acc' c' ts', (∀ b o, b ∉ [z, TO, i1, i2] → s.heap.get? b = some o → h'.get? b = some o) → h'.get? s.heap.objs.size = some { cls := .type "list", dict := none, data := .seq acc' c', slots := #[] } → acc'.toList = ts'.map Value.ref → ts'.length = n → Got xs ys (s.heap.objs.size + 1) ts' h' → Q (.ref s.heap.objs.size) { s with heap := h' }) :
    wpAny (model prog w) A (call (.type "list") [.ref z]) Q E s := by
  refine callType_codes (Q₁ := fun obj s₁ => obj = .ref s.heap.objs.size ∧ s₁ = { s with heap := s.heap.push { cls := .type "list", data := .seq #[] } }) F.called_list (F.typeCall_list_1 _) F.entry_list_init
    (code_list_new _ ⟨rfl, rfl⟩) fun obj s₁ h₁ => ?_
  obtain ⟨rfl, rfl⟩ := h₁
  have hS : (s.heap.push { cls := .type "list", data := .seq #[] }).get? s.heap.objs.size = some { cls := .type "list", data := .seq #[] } := Heap.get?_push_size _ rfl
  have up : ∀ b o, s.heap.get? b = some o → (s.heap.push { cls := .type "list", data := .seq #[] }).get? b = some o := fun b o e => Heap.get?_push_of_some _ e
  have Z2 : ZSt z TI TO i1 i2 l1 l2 xs ys 0 (s.heap.push { cls := .type "list", data := .seq #[] }) := by
    refine ⟨?_, up _ _ Z.ti, Z.h1.at fun o => up _ o, Z.h2.at fun o => up _ o, Z.t1.at fun o => up _ o, Z.t2.at fun o => up _ o⟩
    rcases Z.st with ⟨e, hz, a, b, hTO⟩ | ⟨T, b, x0, y0, n1, n2, n3, hz, hT⟩
    · exact .inl ⟨e, up _ _ hz, a, b, up _ _ hTO⟩
    · exact .inr ⟨T, b, x0, y0, n1, n2, n3, up _ _ hz, up _ _ hT⟩
  refine ⟨⟨_, hS, rfl⟩, F.args_list_init_2 _ _, list_init_zip (n := n) (lo := s.heap.objs.size + 1) (by exact hh) D hn hx hy _ (fun c hc => ⟨Nat.ne_of_lt (hlt c hc), Nat.lt_succ_of_lt (hlt c hc)⟩) (Nat.lt_succ_self _) Z2 hS (by rw [Heap.size_push]; exact Nat.le_refl _) fun h' acc' c' ts' k q1 q2 q3 q4 => ?_⟩
  refine ⟨rfl, hQ h' acc' c' ts' (fun b o hb e => k b o (fun hm => ?_) (up b o e)) q1 q2 q3 q4⟩
  rcases List.mem_cons.mp hm with q | q
  · exact absurd (Heap.lt_size e) (by rw [q]; exact Nat.lt_irrefl _)
  · exact hb q
end
end DZ
namespace DL
open PySem PySem.Spec PyProof.Rows L2
def putP : Hp → List Addr → List (V × V) → Hp
  | H, a :: as, p :: ps => putP (upd H a (.tup [p.1, p.2])) as ps
  | H, _, _ => H
theorem putP_off {b : Addr} : ∀ (as : List Addr) (ps : List (V × V)) (H : Hp), b ∉ as → putP H as ps b = H b
  | [], _, _, _ => rfl
  | _ :: _, [], _, _ => rfl
  | a :: as, p :: ps, H, h => by
    show putP (upd H a (.tup [p.1, p.2])) as ps b = H b
    rw [putP_off as ps _ (fun z => h (List.mem_cons_of_mem _ z)), upd_ne (fun z => h (by rw [z]; exact List.mem_cons_self))]
theorem putP_at : ∀ (as : List Addr) (ps : List (V × V)) (H : Hp), as.length = ps.length → as.Nodup → ∀ (j : Nat) (t : Addr), as[j]? = some t → ∃ p, ps[j]? = some p ∧ putP H as ps t = some (.tup [p.1, p.2])
  | [], [], _, _, _, j, t, h => by simp at h
  | [], _ :: _, _, h, _, _, _, _ => by cases h
  | _ :: _, [], _, h, _, _, _, _ => by cases h
  | a :: as, p :: ps, H, h, hn, 0, t, e => by
    have hn' := List.nodup_cons.mp hn
    have e' : a = t := by simpa using e
    subst e'
    refine ⟨p, rfl, ?_⟩
    show putP (upd H a (.tup [p.1, p.2])) as ps a = some (.tup [p.1, p.2])
    rw [putP_off as ps _ hn'.1, upd_same]
  | a :: as, p :: ps, H, h, hn, j + 1, t, e => putP_at as ps (upd H a (.tup [p.1, p.2])) (Nat.succ.inj h) (List.nodup_cons.mp hn).2 j t (by simpa using e)
/-- list(zip(t, u)), two tuples of one length -/
def tListZip (K : PySem.W.Frag) (ta : TA) : TE := fun σ H Q => ta σ H fun vs H1 => ∃ (a b : Addr) (xs ys : List V), vs = [.ref a, .ref b] ∧ SqT K H1 a xs ∧ SqT K H1 b ys ∧ xs.length = ys.length ∧
  ∀ (H' : Hp) (p : Addr) (ts : List Addr), Same H1 H' → H1 p = none → (∀ t ∈ ts, H1 t = none) → p ∉ ts → H' p = some (.lst (ts.map V.ref)) → ts.length = xs.length → (∀ (j : Nat) (t : Addr), ts[j]? = some t → ∃ x y, xs[j]? = some x ∧ ys[j]? = some y ∧ H' t = some (.tup [x, y])) → Q (.ref p) H'
theorem zip_laid {X : Cx} {pins : List (Addr × Obj)} {σ : L2.St} {H : Hp} {s : Shared} {h' : Heap} {xs ys : List V} {its its2 : List Value} {acc : Array Value} {c S lo : Nat} {ts : List Addr} (I : L2.Inv X pins σ H s) (hz : xs.length ≤ sizeLine) (rx : Vals xs its) (ry : Vals ys its2) (hxy : xs.length = ys.length)
    (hk : ∀ b o, s.heap.get? b = some o → h'.get? b = some o) (hSl : s.heap.objs.size ≤ S) (hlo : S < lo) (hS : h'.get? S = some { cls := .type "list", dict := none, data := .seq acc c, slots := #[] }) (hacc : acc.toList = ts.map Value.ref) (hl : ts.length = xs.length) (G : DZ.Got its.toArray its2.toArray lo ts h') :
    ∃ H' : Hp, Same H H' ∧ H S = none ∧ (∀ t ∈ ts, H t = none) ∧ S ∉ ts ∧ H' S = some (.lst (ts.map V.ref)) ∧ (∀ (j : Nat) (t : Addr), ts[j]? = some t → ∃ x y, xs[j]? = some x ∧ ys[j]? = some y ∧ H' t = some (.tup [x, y])) ∧ L2.Inv X pins σ H' { s with heap := h' } := by
  have lx := rx.length
  have ly := ry.length
  have hSn : S ∉ ts := fun z => absurd (G.low _ z) (Nat.not_le.mpr hlo)
  have new : ∀ t ∈ ts, H t = none := fun t ht => I.hok.fresh (Nat.le_trans hSl (Nat.le_of_lt (Nat.lt_of_lt_of_le hlo (G.low t ht))))
  have newS : H S = none := I.hok.fresh hSl
  have lz : (xs.zip ys).length = xs.length := by rw [List.length_zip]; omega
  have atP := putP_at ts (xs.zip ys) (upd H S (.lst (ts.map V.ref))) (by omega) G.nd
  have off : ∀ b, b ∉ ts → b ≠ S → putP (upd H S (.lst (ts.map V.ref))) ts (xs.zip ys) b = H b := fun b h1 h2 => by rw [putP_off ts _ _ h1, upd_ne h2]
  have low : ∀ b o, s.heap.get? b = some o → b ∉ ts ∧ b ≠ S := fun b o e =>
    ⟨fun z => absurd (Heap.lt_size e) (Nat.not_lt.mpr (Nat.le_trans hSl (Nat.le_of_lt (Nat.lt_of_lt_of_le hlo (G.low b z))))), Nat.ne_of_lt (Nat.lt_of_lt_of_le (Heap.lt_size e) hSl)⟩
  have kp : ∀ b u, H b = some u → (putP (upd H S (.lst (ts.map V.ref))) ts (xs.zip ys)) b = some u := fun b u e => by
    rw [off b (fun z => by rw [new b z] at e; cases e) (fun z => by rw [z, newS] at e; cases e)]
    exact e
  have eS : putP (upd H S (.lst (ts.map V.ref))) ts (xs.zip ys) S = some (.lst (ts.map V.ref)) := by rw [putP_off ts _ _ hSn, upd_same]
  have zipat : ∀ (j : Nat) (p : V × V), (xs.zip ys)[j]? = some p → xs[j]? = some p.1 ∧ ys[j]? = some p.2 := fun j p e => by
    rw [List.getElem?_zip_eq_some] at e
    exact e
  refine ⟨putP (upd H S (.lst (ts.map V.ref))) ts (xs.zip ys), kp, newS, new, hSn, eS, fun j t hj => ?_, ?_⟩
  · obtain ⟨p, e1, e2⟩ := atP j t hj
    obtain ⟨q1, q2⟩ := zipat j p e1
    exact ⟨p.1, p.2, q1, q2, e2⟩
  refine I.call' (ch := []) rfl ⟨fun b o q _ _ _ => hk b o q, fun b o q _ _ _ => ⟨o.slots, hk b o q⟩, fun b o q n _ => ?_, fun b o q _ => ⟨o, hk b o q⟩, fun b xs q => kp b _ q, fun b o u q => kp b _ q, fun b ps q => ⟨#[], by rw [kp b _ q]; simp⟩⟩ (fun b u q => ?_) I.bare fun b z => by simp at z
  · obtain ⟨z1, z2⟩ := low b o q
    rw [off b z1 z2]
    exact n
  · by_cases hb : b ∈ ts
    · obtain ⟨j, hj⟩ := List.getElem?_of_mem hb
      obtain ⟨p, e1, e2⟩ := atP j b hj
      rw [e2] at q
      cases q
      obtain ⟨q1, q2⟩ := zipat j p e1
      obtain ⟨x, y, f1, f2, f3⟩ := G.pair j b hj
      obtain ⟨u1, g1, g2⟩ := rx.get q1
      obtain ⟨u2, g3, g4⟩ := ry.get q2
      have ex : x = u1 := by
        have : its[j]? = some x := by simpa using f1
        rw [g1] at this
        cases this; rfl
      have ey : y = u2 := by
        have : its2[j]? = some y := by simpa using f2
        rw [g3] at this
        cases this; rfl
      subst ex ey
      exact ⟨by show 2 ≤ sizeLine; decide, [x, y], .cons g2 (.cons g4 .nil), ⟨_, f3, rfl, _, rfl⟩⟩
    · by_cases hb2 : b = S
      · rw [hb2] at q ⊢
        rw [eS] at q
        cases q
        refine ⟨by rw [List.length_map]; omega, acc.toList, c, by rw [hacc]; exact LiI.vals_refs ts, ?_⟩
        rw [Array.toArray_toList]
        exact hS
      · rw [off b hb hb2] at q
        exact (I.hok b u q).stay (fun d v _ y => hk d v y) (fun d y => kp d _ y) fun d xs y => kp d _ y
theorem pe_listZip {X : Cx} {e e2 : Expr} {ta : TA} {p p2 pos pos2 : Pos} (hc : X.calm = true) (hg : Gl X "list") (hm : X.mg "list" = none) (hg2 : Gl X "zip") (hm2 : X.mg "zip" = none) (ha : PA X [e, e2] ta)
    (hs2 : starEach [e, e2] X.env = (false, eval e X.env) :: starEach [e2] X.env := by rfl) (hpl : (backTo pos2 (starEach [e2] X.env)).any (·.1) = false := by rfl)
    (hs : starEach [.Call (.Name "zip" p2) [e, e2] [] pos2] X.env = (false, eval (.Call (.Name "zip" p2) [e, e2] [] pos2) X.env) :: starEach [] X.env := by rfl) :
    PE X (.Call (.Name "list" p) [.Call (.Name "zip" p2) [e, e2] [] pos2] [] pos) (tListZip X.K ta) := by
  refine ⟨fun pins s σ H Q I h => ?_⟩
  refine wpAny_Call_Name_kw (ld_blt I hg hm (show bootBuiltins "list" = some (.type "list") by decide +kernel) ?_)
  refine PyProof.Rows.callWith_type1 ?_ hs rfl
  rw [hs]
  show wpAny _ _ (spliced ((false, eval (.Call (.Name "zip" p2) [e, e2] [] pos2) X.env) :: backTo pos (starEach [] X.env))) _ _ s
  refine Calls.spliced_cons ?_
  refine Call_ (ld_blt I hg2 hm2 PyProof.Rows.boot_zip (PyProof.Rows.callWith_type1 (thn (ha.run pos2 pins s σ H _ I h) fun us s1 ⟨vs, H1, I1, r1, q1⟩ => ?_) hs2 hpl))
  obtain ⟨a, b, xs, ys, ex, hqx, hqy, hxy, q⟩ := q1
  subst ex
  cases r1 with
  | cons r rr =>
    cases rr with
    | cons r' rr =>
      cases rr
      cases r
      cases r'
      obtain ⟨its, rv, p1, hz1⟩ := I1.tuple hqx
      obtain ⟨its2, rv2, p3, hz2⟩ := I1.tuple hqy
      obtain ⟨o1, ho1, _⟩ := id p1
      obtain ⟨o2, ho2, _⟩ := id p3
      have lx := rv.length
      have ly := rv2.length
      refine RZ.call_zipT (show s1.heap.IsTuple a its.toArray from p1) (show s1.heap.IsTuple b its2.toArray from p3) fun h' hz hTI hTO h1 h2 hsz hk => ?_
      refine Calls.spliced_nil ?_
      have D := PySem.W.ktu_apart s1.heap.objs.size a b (Heap.lt_size ho1) (Heap.lt_size ho2)
      have Z : DZ.ZSt (s1.heap.objs.size + 4) (s1.heap.objs.size + 2) (s1.heap.objs.size + 3) s1.heap.objs.size (s1.heap.objs.size + 1) a b its.toArray its2.toArray 0 h' := ⟨.inl ⟨rfl, hz, _, _, hTO⟩, hTI, h1, h2, (show s1.heap.IsTuple a its.toArray from p1).at fun o => hk _ o, (show s1.heap.IsTuple b its2.toArray from p3).at fun o => hk _ o⟩
      refine DZ.call_list_zip (s := { s1 with heap := h' }) (n := xs.length) (I1.ok.hd hc) D hz1 (by simp; omega) (by simp; omega) (fun c hcm => ?_) Z fun h2' acc' c' ts' k q1 q2 q3 q4 => ?_
      · have e' : c = s1.heap.objs.size + 4 ∨ c = s1.heap.objs.size + 2 ∨ c = s1.heap.objs.size + 3 ∨ c = s1.heap.objs.size ∨ c = s1.heap.objs.size + 1 := by simpa using hcm
        show c < h'.objs.size
        rw [hsz]
        rcases e' with z | z | z | z | z
        · rw [z]; exact Nat.add_lt_add_left (by decide) _
        · rw [z]; exact Nat.add_lt_add_left (by decide) _
        · rw [z]; exact Nat.add_lt_add_left (by decide) _
        · rw [z]; exact Nat.lt_add_of_pos_right (by decide)
        · rw [z]; exact Nat.add_lt_add_left (by decide) _
      · have hk2 : ∀ b o, s1.heap.get? b = some o → h2'.get? b = some o := fun b o e => by
          refine k b o (fun hm => ?_) (hk b o e)
          have hb := Heap.lt_size e
          have e' : b = s1.heap.objs.size + 4 ∨ b = s1.heap.objs.size + 3 ∨ b = s1.heap.objs.size ∨ b = s1.heap.objs.size + 1 := by simpa using hm
          rcases e' with z | z | z | z
          · rw [z] at hb; exact absurd hb (Nat.not_lt.mpr (Nat.le_add_right _ _))
          · rw [z] at hb; exact absurd hb (Nat.not_lt.mpr (Nat.le_add_right _ _))
          · rw [z] at hb; exact absurd hb (Nat.lt_irrefl _)
          · rw [z] at hb; exact absurd hb (Nat.not_lt.mpr (Nat.le_add_right _ _))
        obtain ⟨H', j1, j2, j3, j4, j5, j6, J⟩ := zip_laid (lo := h'.objs.size + 1) I1 hz1 rv rv2 hxy hk2 (S := h'.objs.size) (by rw [hsz]; exact Nat.le_add_right _ _) (Nat.lt_succ_self _) q1 q2 (by omega) q4
        exact ⟨.ref _, H', J, rfl, q H' _ ts' j1 j2 j3 j4 j5 q3 j6⟩
end DL

set_option maxHeartbeats 2000000
namespace DL
open PySem PySem.Spec PyProof.Rows L2
section
variable {X : Cx} {CX : CXT} {k : Nat} {f : Addr} {fd : FuncData} {ps ks : List Str} {sp : Sp} {E : XK} {x : Str} {p pos : Pos} {kws : List Keyword} {tk : TA} {g : List Value → List Value → List Value} {gV : List V → List V → List V}
/-- f(k = v, ..), nothing by position -/
theorem pe_callK0 (F : FnOk X.prog X.w X.K X.mg X.base CX k f fd ps sp) (hr : Room k X.A) (hg : Gl X x) (hm : X.mg x = some (.ref f)) (hk : PySem.W.keepIn X.K (.ref f) = true) (hb : KBinds X.K fd ps ks g gV) (hx : Passes CX X E)
    (hkw : PK X kws tk) (hall : (backToKw pos (keywordEach kws X.env)).all (·.1.isSome) = true := by rfl) (hks : (backToKw pos (keywordEach kws X.env)).filterMap (·.1) = ks := by rfl)
    (hdb : (x == ("__debug__" : Str)) = false := by decide)
    (hpl : ((backTo pos (starEach [] X.env)).any (·.1) || (backToKw pos (keywordEach kws X.env)).any (·.1.isNone)) = false := by rfl) :
    PE X (.Call (.Name x p) [] kws pos) (tCallK sp gV E tNil tk) := by
  refine ⟨fun pins s σ H Q I h => ?_⟩
  refine wpAny_Call_Name_kw (ld_glob I hg hm ?_ hdb)
  refine PySem.W.callWith_KW0 (h₀ := X.base) I.ok.mod.kin hk hall (thn (hkw.run pos pins s σ H _ I h) fun ws s2 ⟨zs, H2, I2, rz, q2⟩ => ⟨I2.kIn, ?_⟩) hpl
  rw [hks]
  exact run_fnk (us := []) (vs := []) F hr hb hx I2 .nil rz q2
end
end DL

set_option maxHeartbeats 4000000
namespace K52
open PySem PySem.Spec PyProof.Rows L2 DL
def topS (i : Nat) : Stmt := PySem.Challenge.pw_everyinput_k52_whole_lots_by_all_values.main.body.getD i (.Pass ⟨0, 0, 0, 0⟩)
abbrev s_lesser : Stmt := topS 1
abbrev N_lesser : List Str := ["bound", "left", "right"]
theorem sc_lesser : FnScope N_lesser ["bound", "left", "right"] (defScope s_lesser) := ⟨rfl, rfl, rfl, by decide +kernel, rfl, by decide +kernel, by decide +kernel⟩
abbrev s_led_through : Stmt := topS 2
abbrev N_led_through : List Str := ["rows", "middle", "through", "bound", "last", "row"]
theorem sc_led_through : FnScope N_led_through ["rows", "middle"] (defScope s_led_through) := ⟨rfl, rfl, rfl, by decide +kernel, rfl, by decide +kernel, by decide +kernel⟩
abbrev s_closure : Stmt := topS 3
abbrev N_closure : List Str := ["bounds", "rows", "row", "u", "middle"]
theorem sc_closure : FnScope N_closure ["bounds"] (defScope s_closure) := ⟨rfl, rfl, rfl, by decide +kernel, rfl, by decide +kernel, by decide +kernel⟩
abbrev s_holds : Stmt := topS 4
abbrev N_holds : List Str := ["table", "values", "grounded", "u", "row", "v", "bound"]
theorem sc_holds : FnScope N_holds ["table", "values"] (defScope s_holds) := ⟨rfl, rfl, rfl, by decide +kernel, rfl, by decide +kernel, by decide +kernel⟩
abbrev s_met : Stmt := topS 5
abbrev N_met : List Str := ["one", "other", "left", "right", "row", "mate"]
theorem sc_met : FnScope N_met ["one", "other"] (defScope s_met) := ⟨rfl, rfl, rfl, by decide +kernel, rfl, by decide +kernel, by decide +kernel⟩
abbrev s_joined : Stmt := topS 6
abbrev N_joined : List Str := ["one", "other", "rows", "left", "right", "row", "mate"]
theorem sc_joined : FnScope N_joined ["one", "other"] (defScope s_joined) := ⟨rfl, rfl, rfl, by decide +kernel, rfl, by decide +kernel, by decide +kernel⟩
abbrev s_lies_within : Stmt := topS 7
abbrev N_lies_within : List Str := ["one", "other", "row", "mate", "left", "right"]
theorem sc_lies_within : FnScope N_lies_within ["one", "other"] (defScope s_lies_within) := ⟨rfl, rfl, rfl, by decide +kernel, rfl, by decide +kernel, by decide +kernel⟩
abbrev s_least_of : Stmt := topS 8
abbrev N_least_of : List Str := ["table", "bound"]
theorem sc_least_of : FnScope N_least_of ["table"] (defScope s_least_of) := ⟨rfl, rfl, rfl, by decide +kernel, rfl, by decide +kernel, by decide +kernel⟩
abbrev s_greatest_of : Stmt := topS 9
abbrev N_greatest_of : List Str := ["table", "row"]
theorem sc_greatest_of : FnScope N_greatest_of ["table"] (defScope s_greatest_of) := ⟨rfl, rfl, rfl, by decide +kernel, rfl, by decide +kernel, by decide +kernel⟩
abbrev s_spans : Stmt := topS 10
abbrev N_spans : List Str := ["table"]
theorem sc_spans : FnScope N_spans ["table"] (defScope s_spans) := ⟨rfl, rfl, rfl, by decide +kernel, rfl, by decide +kernel, by decide +kernel⟩
abbrev s__law_hand : Stmt := topS 12
abbrev N__law_hand : List Str := ["script", "cell"]
theorem sc__law_hand : FnScope N__law_hand ["script"] (defScope s__law_hand) := ⟨rfl, rfl, rfl, by decide +kernel, rfl, by decide +kernel, by decide +kernel⟩
abbrev s__law_draw : Stmt := topS 13
abbrev N__law_draw : List Str := ["hand", "many", "cell", "told"]
theorem sc__law_draw : FnScope N__law_draw ["hand", "many"] (defScope s__law_draw) := ⟨rfl, rfl, rfl, by decide +kernel, rfl, by decide +kernel, by decide +kernel⟩
abbrev s__law_same : Stmt := topS 14
abbrev N__law_same : List Str := ["told", "due", "pairs", "one", "two", "k"]
theorem sc__law_same : FnScope N__law_same ["told", "due"] (defScope s__law_same) := ⟨rfl, rfl, rfl, by decide +kernel, rfl, by decide +kernel, by decide +kernel⟩
abbrev s__law_points : Stmt := topS 15
abbrev N__law_points : List Str := ["low", "sizes", "rows", "k", "grown", "row", "step"]
theorem sc__law_points : FnScope N__law_points ["low", "sizes"] (defScope s__law_points) := ⟨rfl, rfl, rfl, by decide +kernel, rfl, by decide +kernel, by decide +kernel⟩
abbrev s__law_keeps : Stmt := topS 16
abbrev N__law_keeps : List Str := ["point", "ties", "u", "v", "c"]
theorem sc__law_keeps : FnScope N__law_keeps ["point", "ties"] (defScope s__law_keeps) := ⟨rfl, rfl, rfl, by decide +kernel, rfl, by decide +kernel, by decide +kernel⟩
abbrev s__law_table : Stmt := topS 17
abbrev N__law_table : List Str := ["lot", "rows", "u", "row", "v", "point"]
theorem sc__law_table : FnScope N__law_table ["lot"] (defScope s__law_table) := ⟨rfl, rfl, rfl, by decide +kernel, rfl, by decide +kernel, by decide +kernel⟩
abbrev s__law_holds : Stmt := topS 18
abbrev N__law_holds : List Str := ["table", "point", "u", "v"]
theorem sc__law_holds : FnScope N__law_holds ["table", "point"] (defScope s__law_holds) := ⟨rfl, rfl, rfl, by decide +kernel, rfl, by decide +kernel, by decide +kernel⟩
abbrev s__law_ties : Stmt := topS 19
abbrev N__law_ties : List Str := ["hand", "witness", "most", "slack", "many", "ties", "k", "u", "v"]
theorem sc__law_ties : FnScope N__law_ties ["hand", "witness", "most", "slack"] (defScope s__law_ties) := ⟨rfl, rfl, rfl, by decide +kernel, rfl, by decide +kernel, by decide +kernel⟩
abbrev s__law_closing : Stmt := topS 20
abbrev N__law_closing : List Str := ["rows", "size", "mid", "u", "ahead", "v", "step", "row"]
theorem sc__law_closing : FnScope N__law_closing ["rows"] (defScope s__law_closing) := ⟨rfl, rfl, rfl, by decide +kernel, rfl, by decide +kernel, by decide +kernel⟩
abbrev s__law_wide_table : Stmt := topS 21
abbrev N__law_wide_table : List Str := ["hand", "witness", "size", "rows", "v", "u", "ties", "k", "c"]
theorem sc__law_wide_table : FnScope N__law_wide_table ["hand", "witness"] (defScope s__law_wide_table) := ⟨rfl, rfl, rfl, by decide +kernel, rfl, by decide +kernel, by decide +kernel⟩
abbrev s__law_held : Stmt := topS 22
abbrev N__law_held : List Str := ["hand", "table", "points", "point", "due", "values"]
theorem sc__law_held : FnScope N__law_held ["hand", "table", "points"] (defScope s__law_held) := ⟨rfl, rfl, rfl, by decide +kernel, rfl, by decide +kernel, by decide +kernel⟩
abbrev s__law_asked : Stmt := topS 23
abbrev N__law_asked : List Str := ["first", "second", "dues", "turn", "told"]
theorem sc__law_asked : FnScope N__law_asked ["first", "second", "dues"] (defScope s__law_asked) := ⟨rfl, rfl, rfl, by decide +kernel, rfl, by decide +kernel, by decide +kernel⟩
abbrev s__law_small : Stmt := topS 24
abbrev N__law_small : List Str := ["hand", "many", "low", "sizes", "k", "points", "witness", "ties", "one", "point", "more", "other", "common", "first", "second", "dues", "pair", "asked", "turn"]
theorem sc__law_small : FnScope N__law_small ["hand"] (defScope s__law_small) := ⟨rfl, rfl, rfl, by decide +kernel, rfl, by decide +kernel, by decide +kernel⟩
abbrev s__law_wide : Stmt := topS 25
abbrev N__law_wide : List Str := ["hand", "many", "witness", "beside", "k", "value", "first", "second", "size", "dues", "lesser_v", "greater", "u", "v", "asked", "turn"]
theorem sc__law_wide : FnScope N__law_wide ["hand"] (defScope s__law_wide) := ⟨rfl, rfl, rfl, by decide +kernel, rfl, by decide +kernel, by decide +kernel⟩
abbrev s_law : Stmt := topS 26
abbrev N_law : List Str := ["script", "hand"]
theorem sc_law : FnScope N_law ["script"] (defScope s_law) := ⟨rfl, rfl, rfl, by decide +kernel, rfl, by decide +kernel, by decide +kernel⟩
structure Ads where
  lesser : Addr
  led_through : Addr
  closure : Addr
  holds : Addr
  met : Addr
  joined : Addr
  lies_within : Addr
  least_of : Addr
  greatest_of : Addr
  spans : Addr
  _law_hand : Addr
  _law_draw : Addr
  _law_same : Addr
  _law_points : Addr
  _law_keeps : Addr
  _law_table : Addr
  _law_holds : Addr
  _law_ties : Addr
  _law_closing : Addr
  _law_wide_table : Addr
  _law_held : Addr
  _law_asked : Addr
  _law_small : Addr
  _law_wide : Addr
  law : Addr
structure Fds where
  lesser : FuncData
  led_through : FuncData
  closure : FuncData
  holds : FuncData
  met : FuncData
  joined : FuncData
  lies_within : FuncData
  least_of : FuncData
  greatest_of : FuncData
  spans : FuncData
  _law_hand : FuncData
  _law_draw : FuncData
  _law_same : FuncData
  _law_points : FuncData
  _law_keeps : FuncData
  _law_table : FuncData
  _law_holds : FuncData
  _law_ties : FuncData
  _law_closing : FuncData
  _law_wide_table : FuncData
  _law_held : FuncData
  _law_asked : FuncData
  _law_small : FuncData
  _law_wide : FuncData
  law : FuncData
structure Txt (K : PySem.W.Frag) (mg : Str → Option Value) (A : Ads) (D : Fds) : Prop where
  F_lesser : Fun K "lesser" "lesser" s_lesser A.lesser D.lesser
  m_lesser : mg "lesser" = some (.ref A.lesser)
  b_lesser : Binds K D.lesser ["bound", "left", "right"] []
  F_led_through : Fun K "led_through" "led_through" s_led_through A.led_through D.led_through
  m_led_through : mg "led_through" = some (.ref A.led_through)
  b_led_through : Binds K D.led_through ["rows", "middle"] []
  F_closure : Fun K "closure" "closure" s_closure A.closure D.closure
  m_closure : mg "closure" = some (.ref A.closure)
  b_closure : Binds K D.closure ["bounds"] []
  F_holds : Fun K "holds" "holds" s_holds A.holds D.holds
  m_holds : mg "holds" = some (.ref A.holds)
  b_holds : Binds K D.holds ["table", "values"] []
  F_met : Fun K "met" "met" s_met A.met D.met
  m_met : mg "met" = some (.ref A.met)
  b_met : Binds K D.met ["one", "other"] []
  F_joined : Fun K "joined" "joined" s_joined A.joined D.joined
  m_joined : mg "joined" = some (.ref A.joined)
  b_joined : Binds K D.joined ["one", "other"] []
  F_lies_within : Fun K "lies_within" "lies_within" s_lies_within A.lies_within D.lies_within
  m_lies_within : mg "lies_within" = some (.ref A.lies_within)
  b_lies_within : Binds K D.lies_within ["one", "other"] []
  F_least_of : Fun K "least_of" "least_of" s_least_of A.least_of D.least_of
  m_least_of : mg "least_of" = some (.ref A.least_of)
  b_least_of : Binds K D.least_of ["table"] []
  F_greatest_of : Fun K "greatest_of" "greatest_of" s_greatest_of A.greatest_of D.greatest_of
  m_greatest_of : mg "greatest_of" = some (.ref A.greatest_of)
  b_greatest_of : Binds K D.greatest_of ["table"] []
  F_spans : Fun K "spans" "spans" s_spans A.spans D.spans
  m_spans : mg "spans" = some (.ref A.spans)
  b_spans : Binds K D.spans ["table"] []
  F__law_hand : Fun K "_law_hand" "_law_hand" s__law_hand A._law_hand D._law_hand
  m__law_hand : mg "_law_hand" = some (.ref A._law_hand)
  b__law_hand : Binds K D._law_hand ["script"] []
  F__law_draw : Fun K "_law_draw" "_law_draw" s__law_draw A._law_draw D._law_draw
  m__law_draw : mg "_law_draw" = some (.ref A._law_draw)
  b__law_draw : Binds K D._law_draw ["hand", "many"] []
  F__law_same : Fun K "_law_same" "_law_same" s__law_same A._law_same D._law_same
  m__law_same : mg "_law_same" = some (.ref A._law_same)
  b__law_same : Binds K D._law_same ["told", "due"] []
  F__law_points : Fun K "_law_points" "_law_points" s__law_points A._law_points D._law_points
  m__law_points : mg "_law_points" = some (.ref A._law_points)
  b__law_points : Binds K D._law_points ["low", "sizes"] []
  F__law_keeps : Fun K "_law_keeps" "_law_keeps" s__law_keeps A._law_keeps D._law_keeps
  m__law_keeps : mg "_law_keeps" = some (.ref A._law_keeps)
  b__law_keeps : Binds K D._law_keeps ["point", "ties"] []
  F__law_table : Fun K "_law_table" "_law_table" s__law_table A._law_table D._law_table
  m__law_table : mg "_law_table" = some (.ref A._law_table)
  b__law_table : Binds K D._law_table ["lot"] []
  F__law_holds : Fun K "_law_holds" "_law_holds" s__law_holds A._law_holds D._law_holds
  m__law_holds : mg "_law_holds" = some (.ref A._law_holds)
  b__law_holds : Binds K D._law_holds ["table", "point"] []
  F__law_ties : Fun K "_law_ties" "_law_ties" s__law_ties A._law_ties D._law_ties
  m__law_ties : mg "_law_ties" = some (.ref A._law_ties)
  b__law_ties : Binds K D._law_ties ["hand", "witness", "most", "slack"] []
  F__law_closing : Fun K "_law_closing" "_law_closing" s__law_closing A._law_closing D._law_closing
  m__law_closing : mg "_law_closing" = some (.ref A._law_closing)
  b__law_closing : Binds K D._law_closing ["rows"] []
  F__law_wide_table : Fun K "_law_wide_table" "_law_wide_table" s__law_wide_table A._law_wide_table D._law_wide_table
  m__law_wide_table : mg "_law_wide_table" = some (.ref A._law_wide_table)
  b__law_wide_table : Binds K D._law_wide_table ["hand", "witness"] []
  F__law_held : Fun K "_law_held" "_law_held" s__law_held A._law_held D._law_held
  m__law_held : mg "_law_held" = some (.ref A._law_held)
  b__law_held : Binds K D._law_held ["hand", "table", "points"] []
  F__law_asked : Fun K "_law_asked" "_law_asked" s__law_asked A._law_asked D._law_asked
  m__law_asked : mg "_law_asked" = some (.ref A._law_asked)
  b__law_asked : Binds K D._law_asked ["first", "second", "dues"] []
  F__law_small : Fun K "_law_small" "_law_small" s__law_small A._law_small D._law_small
  m__law_small : mg "_law_small" = some (.ref A._law_small)
  b__law_small : Binds K D._law_small ["hand"] []
  F__law_wide : Fun K "_law_wide" "_law_wide" s__law_wide A._law_wide D._law_wide
  m__law_wide : mg "_law_wide" = some (.ref A._law_wide)
  b__law_wide : Binds K D._law_wide ["hand"] []
  F_law : Fun K "law" "law" s_law A.law D.law
  m_law : mg "law" = some (.ref A.law)
  b_law : Binds K D.law ["script"] []
  z_all : mg "all" = none
  z_bool : mg "bool" = none
  z_enumerate : mg "enumerate" = none
  z_int : mg "int" = none
  z_isinstance : mg "isinstance" = none
  z_len : mg "len" = none
  z_list : mg "list" = none
  z_max : mg "max" = none
  z_min : mg "min" = none
  z_range : mg "range" = none
  z_str : mg "str" = none
  z_tuple : mg "tuple" = none
  z_zip : mg "zip" = none
def g_greatest_of_0 : List Value → List Value → List Value
  | [], [w0] => [w0]
  | _, _ => []
def gV_greatest_of_0 : List V → List V → List V
  | [], [w0] => [w0]
  | _, _ => []
theorem kb_greatest_of_0 {K : PySem.W.Frag} {f : Addr} {fd : FuncData} (F : Fun K "greatest_of" "greatest_of" s_greatest_of f fd) : KBinds K fd ["table"] ["table"] g_greatest_of_0 gV_greatest_of_0 := by
  obtain ⟨oc, od, kV, doc, pm, an, cdv, ct, osl, rfl, lk, hcd⟩ := F.ex
  refine ⟨fun s us ws _ hl => ?_, fun {vs us zs ws} r rz => ?_⟩
  · rcases us with _ | ⟨ux, us⟩ <;> rcases ws with _ | ⟨w0, _ | ⟨wx, ws⟩⟩ <;> first | exact .of_eq rfl | cases hl
  · rcases r with _ | ⟨rx, r⟩ <;> rcases rz with _ | ⟨q0, _ | ⟨qx, rz⟩⟩ <;> first | exact .nil | exact (.cons q0 .nil)
def g_holds_10 : List Value → List Value → List Value
  | [], [w0, w1] => [w1, w0]
  | _, _ => []
def gV_holds_10 : List V → List V → List V
  | [], [w0, w1] => [w1, w0]
  | _, _ => []
theorem kb_holds_10 {K : PySem.W.Frag} {f : Addr} {fd : FuncData} (F : Fun K "holds" "holds" s_holds f fd) : KBinds K fd ["table", "values"] ["values", "table"] g_holds_10 gV_holds_10 := by
  obtain ⟨oc, od, kV, doc, pm, an, cdv, ct, osl, rfl, lk, hcd⟩ := F.ex
  refine ⟨fun s us ws _ hl => ?_, fun {vs us zs ws} r rz => ?_⟩
  · rcases us with _ | ⟨ux, us⟩ <;> rcases ws with _ | ⟨w0, _ | ⟨w1, _ | ⟨wx, ws⟩⟩⟩ <;> first | exact .of_eq rfl | cases hl
  · rcases r with _ | ⟨rx, r⟩ <;> rcases rz with _ | ⟨q0, _ | ⟨q1, _ | ⟨qx, rz⟩⟩⟩ <;> first | exact .nil | exact (.cons q1 (.cons q0 .nil))
def g_joined_10 : List Value → List Value → List Value
  | [], [w0, w1] => [w1, w0]
  | _, _ => []
def gV_joined_10 : List V → List V → List V
  | [], [w0, w1] => [w1, w0]
  | _, _ => []
theorem kb_joined_10 {K : PySem.W.Frag} {f : Addr} {fd : FuncData} (F : Fun K "joined" "joined" s_joined f fd) : KBinds K fd ["one", "other"] ["other", "one"] g_joined_10 gV_joined_10 := by
  obtain ⟨oc, od, kV, doc, pm, an, cdv, ct, osl, rfl, lk, hcd⟩ := F.ex
  refine ⟨fun s us ws _ hl => ?_, fun {vs us zs ws} r rz => ?_⟩
  · rcases us with _ | ⟨ux, us⟩ <;> rcases ws with _ | ⟨w0, _ | ⟨w1, _ | ⟨wx, ws⟩⟩⟩ <;> first | exact .of_eq rfl | cases hl
  · rcases r with _ | ⟨rx, r⟩ <;> rcases rz with _ | ⟨q0, _ | ⟨q1, _ | ⟨qx, rz⟩⟩⟩ <;> first | exact .nil | exact (.cons q1 (.cons q0 .nil))
def g_least_of_0 : List Value → List Value → List Value
  | [], [w0] => [w0]
  | _, _ => []
def gV_least_of_0 : List V → List V → List V
  | [], [w0] => [w0]
  | _, _ => []
theorem kb_least_of_0 {K : PySem.W.Frag} {f : Addr} {fd : FuncData} (F : Fun K "least_of" "least_of" s_least_of f fd) : KBinds K fd ["table"] ["table"] g_least_of_0 gV_least_of_0 := by
  obtain ⟨oc, od, kV, doc, pm, an, cdv, ct, osl, rfl, lk, hcd⟩ := F.ex
  refine ⟨fun s us ws _ hl => ?_, fun {vs us zs ws} r rz => ?_⟩
  · rcases us with _ | ⟨ux, us⟩ <;> rcases ws with _ | ⟨w0, _ | ⟨wx, ws⟩⟩ <;> first | exact .of_eq rfl | cases hl
  · rcases r with _ | ⟨rx, r⟩ <;> rcases rz with _ | ⟨q0, _ | ⟨qx, rz⟩⟩ <;> first | exact .nil | exact (.cons q0 .nil)
def g_lies_within_10 : List Value → List Value → List Value
  | [], [w0, w1] => [w1, w0]
  | _, _ => []
def gV_lies_within_10 : List V → List V → List V
  | [], [w0, w1] => [w1, w0]
  | _, _ => []
theorem kb_lies_within_10 {K : PySem.W.Frag} {f : Addr} {fd : FuncData} (F : Fun K "lies_within" "lies_within" s_lies_within f fd) : KBinds K fd ["one", "other"] ["other", "one"] g_lies_within_10 gV_lies_within_10 := by
  obtain ⟨oc, od, kV, doc, pm, an, cdv, ct, osl, rfl, lk, hcd⟩ := F.ex
  refine ⟨fun s us ws _ hl => ?_, fun {vs us zs ws} r rz => ?_⟩
  · rcases us with _ | ⟨ux, us⟩ <;> rcases ws with _ | ⟨w0, _ | ⟨w1, _ | ⟨wx, ws⟩⟩⟩ <;> first | exact .of_eq rfl | cases hl
  · rcases r with _ | ⟨rx, r⟩ <;> rcases rz with _ | ⟨q0, _ | ⟨q1, _ | ⟨qx, rz⟩⟩⟩ <;> first | exact .nil | exact (.cons q1 (.cons q0 .nil))
def g_met_10 : List Value → List Value → List Value
  | [], [w0, w1] => [w1, w0]
  | _, _ => []
def gV_met_10 : List V → List V → List V
  | [], [w0, w1] => [w1, w0]
  | _, _ => []
theorem kb_met_10 {K : PySem.W.Frag} {f : Addr} {fd : FuncData} (F : Fun K "met" "met" s_met f fd) : KBinds K fd ["one", "other"] ["other", "one"] g_met_10 gV_met_10 := by
  obtain ⟨oc, od, kV, doc, pm, an, cdv, ct, osl, rfl, lk, hcd⟩ := F.ex
  refine ⟨fun s us ws _ hl => ?_, fun {vs us zs ws} r rz => ?_⟩
  · rcases us with _ | ⟨ux, us⟩ <;> rcases ws with _ | ⟨w0, _ | ⟨w1, _ | ⟨wx, ws⟩⟩⟩ <;> first | exact .of_eq rfl | cases hl
  · rcases r with _ | ⟨rx, r⟩ <;> rcases rz with _ | ⟨q0, _ | ⟨q1, _ | ⟨qx, rz⟩⟩⟩ <;> first | exact .nil | exact (.cons q1 (.cons q0 .nil))
def g_spans_0 : List Value → List Value → List Value
  | [], [w0] => [w0]
  | _, _ => []
def gV_spans_0 : List V → List V → List V
  | [], [w0] => [w0]
  | _, _ => []
theorem kb_spans_0 {K : PySem.W.Frag} {f : Addr} {fd : FuncData} (F : Fun K "spans" "spans" s_spans f fd) : KBinds K fd ["table"] ["table"] g_spans_0 gV_spans_0 := by
  obtain ⟨oc, od, kV, doc, pm, an, cdv, ct, osl, rfl, lk, hcd⟩ := F.ex
  refine ⟨fun s us ws _ hl => ?_, fun {vs us zs ws} r rz => ?_⟩
  · rcases us with _ | ⟨ux, us⟩ <;> rcases ws with _ | ⟨w0, _ | ⟨wx, ws⟩⟩ <;> first | exact .of_eq rfl | cases hl
  · rcases r with _ | ⟨rx, r⟩ <;> rcases rz with _ | ⟨q0, _ | ⟨qx, rz⟩⟩ <;> first | exact .nil | exact (.cons q0 .nil)
def t_lesser (K : PySem.W.Frag) : TS :=
    (tSeq (tIfS (tOr (tTest (tOp xIs (tVar 1) (tC .non))) (tTest (tOp xIs (tVar 2) (tC .non)))) (tSeq (tRet (tVar 0))
    tNext) tNext)
    (tSeq (tIfS (tTest (tOp xIs (tVar 0) (tC .non))) (tSeq (tRet (tOp (xAdd K) (tVar 1) (tVar 2)))
    tNext) tNext)
    (tSeq (tRet (tCB (xMin2) (tCons (tVar 0) (tCons (tOp (xAdd K) (tVar 1) (tVar 2)) tNil))))
    tNext)))
theorem ok_lesser {P : Program} {w : World} {K : PySem.W.Frag} {mg : Str → Option Value} {base : Heap} {A : Ads} {D : Fds} (T : Txt K mg A D) {sp : Sp} (len : ∀ vs H Q E, sp vs H Q E → vs.length = 3)
    (rd : ∀ vs H Q E, sp vs H Q E → t_lesser K { nx := fun _ H' => Q .non H', rt := Q } (L2.start N_lesser vs) H) : FnOk P w K mg base CX0 1 A.lesser D.lesser ["bound", "left", "right"] sp := by
  refine T.F_lesser.ok sc_lesser len (fun cdv A' outer s H vs Q E hr h => ⟨t_lesser K, ?_, rd vs H Q E h⟩)
  have nd := sc_lesser.nd
  exact (pss_cons (ps_if (PW.pt (pw_or (pt_cmpR c_is (pv 1) pe_non (nomark _)) (pw_or1 (pt_cmpR c_is (pv 2) pe_non (nomark _))))) (pss_cons (ps_ret (pv 0))
      pss_nil) pss_nil)
      (pss_cons (ps_if (pt_cmpR c_is (pv 0) pe_non (nomark _)) (pss_cons (ps_ret (pe_op o_add (pv 1) (pv 2)))
      pss_nil) pss_nil)
      (pss_cons (ps_ret (pe_callB (call_min2 rfl) (by rfl) T.z_min (by decide +kernel) (pa_cons (pv 0) (pa_cons (pe_op o_add (pv 1) (pv 2)) pa_nil))))
      pss_nil)))
def t_led_through (K : PySem.W.Frag) (sp_lesser : Sp) : TS :=
    (tSeq (tAsg (tOp (rIx K) (tVar 0) (tVar 1)) (gName 2))
    (tSeq (tRet (tLc (iAny K (tVar 0)) (gName 5) tYes (tLc (RZ.iZipA K (tCons (tVar 5) (tCons (tVar 2) tNil))) (gTup K 2 (gCons (gName 3) (gCons (gName 4) gNil))) tYes (tCall sp_lesser [] E0 (tCons (tVar 3) (tCons (tOp (rIx K) (tVar 5) (tVar 1)) (tCons (tVar 4) tNil)))) [3, 4]) [5]))
    tNext))
theorem ok_led_through {P : Program} {w : World} {K : PySem.W.Frag} {mg : Str → Option Value} {base : Heap} {A : Ads} {D : Fds} (T : Txt K mg A D) {sp_lesser : Sp} (G_lesser : FnOk P w K mg base CX0 1 A.lesser D.lesser ["bound", "left", "right"] sp_lesser) {sp : Sp} (len : ∀ vs H Q E, sp vs H Q E → vs.length = 2)
    (rd : ∀ vs H Q E, sp vs H Q E → t_led_through K sp_lesser { nx := fun _ H' => Q .non H', rt := Q } (L2.start N_led_through vs) H) : FnOk P w K mg base CX0 2 A.led_through D.led_through ["rows", "middle"] sp := by
  refine T.F_led_through.ok sc_led_through len (fun cdv A' outer s H vs Q E hr h => ⟨t_led_through K sp_lesser, ?_, rd vs H Q E h⟩)
  have nd := sc_led_through.nd
  exact (pss_cons (ps_set (i := 2) nd rfl (by first | exact Or.inl rfl | exact Or.inr rfl) (pe_ix ix_seq (pv 0) (pv 1) (fun _ _ => rfl)))
      (pss_cons (ps_ret (pe_lc (own := [("row", 5)]) (g := (gName 5)) (tt := tYes) rfl nd (pi_any (pv 0)) (blkOk_by (N := N_led_through) (sc := (defScope s_led_through)) (by decide +kernel)) (fun _ _ _ _ _ => (pg_name (i := 5) nd rfl (by first | exact Or.inl rfl | exact Or.inr rfl))) (fun _ _ _ _ _ => pts_nil) (fun _ _ _ _ _ => (pe_lc (own := [("bound", 3), ("last", 4)]) (g := (gTup K 2 (gCons (gName 3) (gCons (gName 4) gNil)))) (tt := tYes) rfl nd (RZ.pi_zipA (by rfl) T.z_zip (pa_cons (pv 5) (pa_cons (pv 2) pa_nil))) (blkOk_by (N := N_led_through) (sc := (relS _ (defScope s_led_through))) (by decide +kernel)) (fun _ _ _ _ _ => (pg_tup rfl (pgs_cons (pg_name (i := 3) nd rfl (by first | exact Or.inl rfl | exact Or.inr rfl)) (pgs_cons (pg_name (i := 4) nd rfl (by first | exact Or.inl rfl | exact Or.inr rfl)) pgs_nil)))) (fun _ _ _ _ _ => pts_nil) (fun _ _ _ _ _ => (pe_call G_lesser (hr.mono (by decide)) (by rfl) T.m_lesser T.F_lesser.kp T.b_lesser .nil pass0 (pa_cons (pv 3) (pa_cons (pe_ix ix_seq (pv 5) (pv 1) (fun _ _ => rfl)) (pa_cons (pv 4) pa_nil)))))))))
      pss_nil))
def t_closure (K : PySem.W.Frag) (sp_led_through : Sp) : TS :=
    (tSeq (tAsg (tLc (iAny K (tVar 0)) (gName 2) tYes (tCB (xList K) (tCons (tVar 2) tNil)) [2]) (gName 1))
    (tSeq (tFor (iRng1 (tCons (tCB (xLen K) (tCons (tVar 1) tNil)) tNil)) (gName 3) (tSeq (tIfS (tOr (tTest (tOp xIs (tOp (rIx K) (tOp (rIx K) (tVar 1) (tVar 3)) (tVar 3)) (tC .non))) (tTest (tOp xGt (tOp (rIx K) (tOp (rIx K) (tVar 1) (tVar 3)) (tVar 3)) (tC (.int 0))))) (tSeq (tAsg (tC (.int 0)) (gSub (tOp (rIx K) (tVar 1) (tVar 3)) (tVar 3) rSetL))
    tNext) tNext)
    tNext))
    (tSeq (tFor (iRng1 (tCons (tCB (xLen K) (tCons (tVar 1) tNil)) tNil)) (gName 4) (tSeq (tAsg (tCall sp_led_through [] E0 (tCons (tVar 1) (tCons (tVar 4) tNil))) (gName 1))
    tNext))
    (tSeq (tFor (iRng1 (tCons (tCB (xLen K) (tCons (tVar 1) tNil)) tNil)) (gName 3) (tSeq (tIfS (tTest (tOp (xLt K) (tOp (rIx K) (tOp (rIx K) (tVar 1) (tVar 3)) (tVar 3)) (tC (.int 0)))) (tSeq (tRet (tC .non))
    tNext) tNext)
    tNext))
    (tSeq (tRet (tCB (xTuple K) (tCons (tLc (iAny K (tVar 1)) (gName 2) tYes (tCB (xTuple K) (tCons (tVar 2) tNil)) [2]) tNil)))
    tNext)))))
theorem ok_closure {P : Program} {w : World} {K : PySem.W.Frag} {mg : Str → Option Value} {base : Heap} {A : Ads} {D : Fds} (T : Txt K mg A D) {sp_led_through : Sp} (G_led_through : FnOk P w K mg base CX0 2 A.led_through D.led_through ["rows", "middle"] sp_led_through) {sp : Sp} (len : ∀ vs H Q E, sp vs H Q E → vs.length = 1)
    (rd : ∀ vs H Q E, sp vs H Q E → t_closure K sp_led_through { nx := fun _ H' => Q .non H', rt := Q } (L2.start N_closure vs) H) : FnOk P w K mg base CX0 3 A.closure D.closure ["bounds"] sp := by
  refine T.F_closure.ok sc_closure len (fun cdv A' outer s H vs Q E hr h => ⟨t_closure K sp_led_through, ?_, rd vs H Q E h⟩)
  have nd := sc_closure.nd
  exact (pss_cons (ps_setLc (i := 1) (own := [("row", 2)]) (g := (gName 2)) (tt := tYes) rfl nd rfl rfl (sw_true rfl rfl rfl (by decide +kernel)) (pi_any (pv 0)) (blkOk_by (N := N_closure) (sc := (defScope s_closure)) (by decide +kernel)) (fun _ _ _ _ _ => (pg_name (i := 2) nd rfl (by first | exact Or.inl rfl | exact Or.inr rfl))) (fun _ _ _ _ _ => pts_nil) (fun _ _ _ _ _ => (pe_callTy call_list_of (by rfl) T.z_list (by decide +kernel) (pa_cons (pv 2) pa_nil))))
      (pss_cons (ps_for PassesOwn.never rfl (pi_range1 (by rfl) T.z_range (pa_cons (pe_callB call_len (by rfl) T.z_len (by decide +kernel) (pa_cons (pv 1) pa_nil)) pa_nil)) (pg_name (i := 3) nd rfl (by first | exact Or.inl rfl | exact Or.inr rfl)) (pss_cons (ps_if (PW.pt (pw_or (pt_cmpR c_is (pe_ix ix_seq (pe_ix ix_seq (pv 1) (pv 3) (fun _ _ => rfl)) (pv 3) (fun _ _ => rfl)) pe_non (nomark _)) (pw_or1 (pt_cmpR op_gt (pe_ix ix_seq (pe_ix ix_seq (pv 1) (pv 3) (fun _ _ => rfl)) (pv 3) (fun _ _ => rfl)) pe_int (nomark _))))) (pss_cons (ps_asg pe_int (pg_sub (pe_ix ix_seq (pv 1) (pv 3) (fun _ _ => rfl)) (pv 3) set_list))
      pss_nil) pss_nil)
      pss_nil))
      (pss_cons (ps_for PassesOwn.never rfl (pi_range1 (by rfl) T.z_range (pa_cons (pe_callB call_len (by rfl) T.z_len (by decide +kernel) (pa_cons (pv 1) pa_nil)) pa_nil)) (pg_name (i := 4) nd rfl (by first | exact Or.inl rfl | exact Or.inr rfl)) (pss_cons (ps_set (i := 1) nd rfl (by first | exact Or.inl rfl | exact Or.inr rfl) (pe_call G_led_through (hr.mono (by decide)) (by rfl) T.m_led_through T.F_led_through.kp T.b_led_through .nil pass0 (pa_cons (pv 1) (pa_cons (pv 4) pa_nil))))
      pss_nil))
      (pss_cons (ps_for PassesOwn.never rfl (pi_range1 (by rfl) T.z_range (pa_cons (pe_callB call_len (by rfl) T.z_len (by decide +kernel) (pa_cons (pv 1) pa_nil)) pa_nil)) (pg_name (i := 3) nd rfl (by first | exact Or.inl rfl | exact Or.inr rfl)) (pss_cons (ps_if (pt_cmpR (c_lt hr.units0) (pe_ix ix_seq (pe_ix ix_seq (pv 1) (pv 3) (fun _ _ => rfl)) (pv 3) (fun _ _ => rfl)) pe_int (nomark _)) (pss_cons (ps_ret pe_non)
      pss_nil) pss_nil)
      pss_nil))
      (pss_cons (ps_ret (pe_callTy call_tuple_of (by rfl) T.z_tuple (by decide +kernel) (pa_cons (pe_lc (own := [("row", 2)]) (g := (gName 2)) (tt := tYes) rfl nd (pi_any (pv 1)) (blkOk_by (N := N_closure) (sc := (defScope s_closure)) (by decide +kernel)) (fun _ _ _ _ _ => (pg_name (i := 2) nd rfl (by first | exact Or.inl rfl | exact Or.inr rfl))) (fun _ _ _ _ _ => pts_nil) (fun _ _ _ _ _ => (pe_callTy call_tuple_of (by rfl) T.z_tuple (by decide +kernel) (pa_cons (pv 2) pa_nil)))) pa_nil)))
      pss_nil)))))
def t_holds (K : PySem.W.Frag) : TS :=
    (tSeq (tAsg (tOp (xAdd K) (tLst (tCons (tC (.int 0)) tNil)) (tCB (xList K) (tCons (tVar 1) tNil))) (gName 2))
    (tSeq (tFor (iEnumX K (tCons (tVar 0) tNil)) (gTup K 2 (gCons (gName 3) (gCons (gName 4) gNil))) (tSeq (tFor (iEnumX K (tCons (tVar 4) tNil)) (gTup K 2 (gCons (gName 5) (gCons (gName 6) gNil))) (tSeq (tIfS (tTest (tOp xGt (tOp xSub (tOp (rIx K) (tVar 2) (tVar 3)) (tOp (rIx K) (tVar 2) (tVar 5))) (tVar 6))) (tSeq (tRet (tC (.bl false)))
    tNext) tNext)
    tNext))
    tNext))
    (tSeq (tRet (tC (.bl true)))
    tNext)))
theorem ok_holds {P : Program} {w : World} {K : PySem.W.Frag} {mg : Str → Option Value} {base : Heap} {A : Ads} {D : Fds} (T : Txt K mg A D) {sp : Sp} (len : ∀ vs H Q E, sp vs H Q E → vs.length = 2)
    (rd : ∀ vs H Q E, sp vs H Q E → t_holds K { nx := fun _ H' => Q .non H', rt := Q } (L2.start N_holds vs) H) : FnOk P w K mg base CX0 1 A.holds D.holds ["table", "values"] sp := by
  refine T.F_holds.ok sc_holds len (fun cdv A' outer s H vs Q E hr h => ⟨t_holds K, ?_, rd vs H Q E h⟩)
  have nd := sc_holds.nd
  exact (pss_cons (ps_set (i := 2) nd rfl (by first | exact Or.inl rfl | exact Or.inr rfl) (pe_op o_add (pe_lst (pa_cons pe_int pa_nil)) (pe_callTy call_list_of (by rfl) T.z_list (by decide +kernel) (pa_cons (pv 1) pa_nil))))
      (pss_cons (ps_for PassesOwn.never rfl (pi_enumX (by rfl) T.z_enumerate (pa_cons (pv 0) pa_nil)) (pg_tup rfl (pgs_cons (pg_name (i := 3) nd rfl (by first | exact Or.inl rfl | exact Or.inr rfl)) (pgs_cons (pg_name (i := 4) nd rfl (by first | exact Or.inl rfl | exact Or.inr rfl)) pgs_nil))) (pss_cons (ps_for PassesOwn.never rfl (pi_enumX (by rfl) T.z_enumerate (pa_cons (pv 4) pa_nil)) (pg_tup rfl (pgs_cons (pg_name (i := 5) nd rfl (by first | exact Or.inl rfl | exact Or.inr rfl)) (pgs_cons (pg_name (i := 6) nd rfl (by first | exact Or.inl rfl | exact Or.inr rfl)) pgs_nil))) (pss_cons (ps_if (pt_cmpR op_gt (pe_op o_sub (pe_ix ix_seq (pv 2) (pv 3) (fun _ _ => rfl)) (pe_ix ix_seq (pv 2) (pv 5) (fun _ _ => rfl))) (pv 6) (nomark _)) (pss_cons (ps_ret pe_bl)
      pss_nil) pss_nil)
      pss_nil))
      pss_nil))
      (pss_cons (ps_ret pe_bl)
      pss_nil)))
def t_met (K : PySem.W.Frag) (sp_closure : Sp) : TS :=
    (tSeq (tRet (tCall sp_closure [] E0 (tCons (tLc (RZ.iZipA K (tCons (tVar 0) (tCons (tVar 1) tNil))) (gTup K 2 (gCons (gName 4) (gCons (gName 5) gNil))) tYes (tLc (RZ.iZipA K (tCons (tVar 4) (tCons (tVar 5) tNil))) (gTup K 2 (gCons (gName 2) (gCons (gName 3) gNil))) tYes (tCB (xMin2) (tCons (tVar 2) (tCons (tVar 3) tNil))) [2, 3]) [4, 5]) tNil)))
    tNext)
theorem ok_met {P : Program} {w : World} {K : PySem.W.Frag} {mg : Str → Option Value} {base : Heap} {A : Ads} {D : Fds} (T : Txt K mg A D) {sp_closure : Sp} (G_closure : FnOk P w K mg base CX0 3 A.closure D.closure ["bounds"] sp_closure) {sp : Sp} (len : ∀ vs H Q E, sp vs H Q E → vs.length = 2)
    (rd : ∀ vs H Q E, sp vs H Q E → t_met K sp_closure { nx := fun _ H' => Q .non H', rt := Q } (L2.start N_met vs) H) : FnOk P w K mg base CX0 4 A.met D.met ["one", "other"] sp := by
  refine T.F_met.ok sc_met len (fun cdv A' outer s H vs Q E hr h => ⟨t_met K sp_closure, ?_, rd vs H Q E h⟩)
  have nd := sc_met.nd
  exact (pss_cons (ps_ret (pe_call G_closure (hr.mono (by decide)) (by rfl) T.m_closure T.F_closure.kp T.b_closure .nil pass0 (pa_cons (pe_lc (own := [("row", 4), ("mate", 5)]) (g := (gTup K 2 (gCons (gName 4) (gCons (gName 5) gNil)))) (tt := tYes) rfl nd (RZ.pi_zipA (by rfl) T.z_zip (pa_cons (pv 0) (pa_cons (pv 1) pa_nil))) (blkOk_by (N := N_met) (sc := (defScope s_met)) (by decide +kernel)) (fun _ _ _ _ _ => (pg_tup rfl (pgs_cons (pg_name (i := 4) nd rfl (by first | exact Or.inl rfl | exact Or.inr rfl)) (pgs_cons (pg_name (i := 5) nd rfl (by first | exact Or.inl rfl | exact Or.inr rfl)) pgs_nil)))) (fun _ _ _ _ _ => pts_nil) (fun _ _ _ _ _ => (pe_lc (own := [("left", 2), ("right", 3)]) (g := (gTup K 2 (gCons (gName 2) (gCons (gName 3) gNil)))) (tt := tYes) rfl nd (RZ.pi_zipA (by rfl) T.z_zip (pa_cons (pv 4) (pa_cons (pv 5) pa_nil))) (blkOk_by (N := N_met) (sc := (relS _ (defScope s_met))) (by decide +kernel)) (fun _ _ _ _ _ => (pg_tup rfl (pgs_cons (pg_name (i := 2) nd rfl (by first | exact Or.inl rfl | exact Or.inr rfl)) (pgs_cons (pg_name (i := 3) nd rfl (by first | exact Or.inl rfl | exact Or.inr rfl)) pgs_nil)))) (fun _ _ _ _ _ => pts_nil) (fun _ _ _ _ _ => (pe_callB (call_min2 rfl) (by rfl) T.z_min (by decide +kernel) (pa_cons (pv 2) (pa_cons (pv 3) pa_nil))))))) pa_nil)))
      pss_nil)
def t_joined (K : PySem.W.Frag) : TS :=
    (tSeq (tAsg (tLc (RZ.iZipA K (tCons (tVar 0) (tCons (tVar 1) tNil))) (gTup K 2 (gCons (gName 5) (gCons (gName 6) gNil))) tYes (tLc (RZ.iZipA K (tCons (tVar 5) (tCons (tVar 6) tNil))) (gTup K 2 (gCons (gName 3) (gCons (gName 4) gNil))) tYes (tCB (xMax2) (tCons (tVar 3) (tCons (tVar 4) tNil))) [3, 4]) [5, 6]) (gName 2))
    (tSeq (tRet (tCB (xTuple K) (tCons (tLc (iAny K (tVar 2)) (gName 5) tYes (tCB (xTuple K) (tCons (tVar 5) tNil)) [5]) tNil)))
    tNext))
theorem ok_joined {P : Program} {w : World} {K : PySem.W.Frag} {mg : Str → Option Value} {base : Heap} {A : Ads} {D : Fds} (T : Txt K mg A D) {sp : Sp} (len : ∀ vs H Q E, sp vs H Q E → vs.length = 2)
    (rd : ∀ vs H Q E, sp vs H Q E → t_joined K { nx := fun _ H' => Q .non H', rt := Q } (L2.start N_joined vs) H) : FnOk P w K mg base CX0 1 A.joined D.joined ["one", "other"] sp := by
  refine T.F_joined.ok sc_joined len (fun cdv A' outer s H vs Q E hr h => ⟨t_joined K, ?_, rd vs H Q E h⟩)
  have nd := sc_joined.nd
  exact (pss_cons (ps_setLc (i := 2) (own := [("row", 5), ("mate", 6)]) (g := (gTup K 2 (gCons (gName 5) (gCons (gName 6) gNil)))) (tt := tYes) rfl nd rfl rfl (sw_true rfl rfl rfl (by decide +kernel)) (RZ.pi_zipA (by rfl) T.z_zip (pa_cons (pv 0) (pa_cons (pv 1) pa_nil))) (blkOk_by (N := N_joined) (sc := (defScope s_joined)) (by decide +kernel)) (fun _ _ _ _ _ => (pg_tup rfl (pgs_cons (pg_name (i := 5) nd rfl (by first | exact Or.inl rfl | exact Or.inr rfl)) (pgs_cons (pg_name (i := 6) nd rfl (by first | exact Or.inl rfl | exact Or.inr rfl)) pgs_nil)))) (fun _ _ _ _ _ => pts_nil) (fun _ _ _ _ _ => (pe_lc (own := [("left", 3), ("right", 4)]) (g := (gTup K 2 (gCons (gName 3) (gCons (gName 4) gNil)))) (tt := tYes) rfl nd (RZ.pi_zipA (by rfl) T.z_zip (pa_cons (pv 5) (pa_cons (pv 6) pa_nil))) (blkOk_by (N := N_joined) (sc := (relS _ (defScope s_joined))) (by decide +kernel)) (fun _ _ _ _ _ => (pg_tup rfl (pgs_cons (pg_name (i := 3) nd rfl (by first | exact Or.inl rfl | exact Or.inr rfl)) (pgs_cons (pg_name (i := 4) nd rfl (by first | exact Or.inl rfl | exact Or.inr rfl)) pgs_nil)))) (fun _ _ _ _ _ => pts_nil) (fun _ _ _ _ _ => (pe_callB (call_max2 rfl) (by rfl) T.z_max (by decide +kernel) (pa_cons (pv 3) (pa_cons (pv 4) pa_nil)))))))
      (pss_cons (ps_ret (pe_callTy call_tuple_of (by rfl) T.z_tuple (by decide +kernel) (pa_cons (pe_lc (own := [("row", 5)]) (g := (gName 5)) (tt := tYes) rfl nd (pi_any (pv 2)) (blkOk_by (N := N_joined) (sc := (defScope s_joined)) (by decide +kernel)) (fun _ _ _ _ _ => (pg_name (i := 5) nd rfl (by first | exact Or.inl rfl | exact Or.inr rfl))) (fun _ _ _ _ _ => pts_nil) (fun _ _ _ _ _ => (pe_callTy call_tuple_of (by rfl) T.z_tuple (by decide +kernel) (pa_cons (pv 5) pa_nil)))) pa_nil)))
      pss_nil))
def t_lies_within (K : PySem.W.Frag) : TS :=
    (tSeq (tRet (tCB (rAll K) (tCons (tLc2 (RZ.iZipA K (tCons (tVar 0) (tCons (tVar 1) tNil))) (gTup K 2 (gCons (gName 2) (gCons (gName 3) gNil))) tYes (RZ.iZipA K (tCons (tVar 2) (tCons (tVar 3) tNil))) (gTup K 2 (gCons (gName 4) (gCons (gName 5) gNil))) tYes (tOp (xLe K) (tVar 4) (tVar 5)) [2, 3, 4, 5] [4, 5]) tNil)))
    tNext)
theorem ok_lies_within {P : Program} {w : World} {K : PySem.W.Frag} {mg : Str → Option Value} {base : Heap} {A : Ads} {D : Fds} (T : Txt K mg A D) {sp : Sp} (len : ∀ vs H Q E, sp vs H Q E → vs.length = 2)
    (rd : ∀ vs H Q E, sp vs H Q E → t_lies_within K { nx := fun _ H' => Q .non H', rt := Q } (L2.start N_lies_within vs) H) : FnOk P w K mg base CX0 1 A.lies_within D.lies_within ["one", "other"] sp := by
  refine T.F_lies_within.ok sc_lies_within len (fun cdv A' outer s H vs Q E hr h => ⟨t_lies_within K, ?_, rd vs H Q E h⟩)
  have nd := sc_lies_within.nd
  exact (pss_cons (ps_ret (pe_callB (cr_all rfl) (by rfl) T.z_all (by decide +kernel) (pa_cons (pe_lc2 (own := [("row", 2), ("mate", 3), ("left", 4), ("right", 5)]) (vs1 := [4, 5]) (g := (gTup K 2 (gCons (gName 2) (gCons (gName 3) gNil)))) (tt := tYes) (g1 := (gTup K 2 (gCons (gName 4) (gCons (gName 5) gNil)))) (tt1 := tYes) rfl nd (RZ.pi_zipA (by rfl) T.z_zip (pa_cons (pv 0) (pa_cons (pv 1) pa_nil))) (blkOk_by (N := N_lies_within) (sc := (defScope s_lies_within)) (by decide +kernel)) (by decide) (fun _ _ _ _ _ => (pg_tup rfl (pgs_cons (pg_name (i := 2) nd rfl (by first | exact Or.inl rfl | exact Or.inr rfl)) (pgs_cons (pg_name (i := 3) nd rfl (by first | exact Or.inl rfl | exact Or.inr rfl)) pgs_nil)))) (fun _ _ _ _ _ => pts_nil) (fun _ _ _ _ _ => (RZ.pi_zipA (by rfl) T.z_zip (pa_cons (pv 2) (pa_cons (pv 3) pa_nil)))) (fun _ _ _ _ _ => (pg_tup rfl (pgs_cons (pg_name (i := 4) nd rfl (by first | exact Or.inl rfl | exact Or.inr rfl)) (pgs_cons (pg_name (i := 5) nd rfl (by first | exact Or.inl rfl | exact Or.inr rfl)) pgs_nil)))) (fun _ _ _ _ _ => pts_nil) (fun _ _ _ _ _ => (pe_cmpR (c_le hr.units0) (pv 4) (pv 5) (nomark _)))) pa_nil)))
      pss_nil)
def t_least_of (K : PySem.W.Frag) : TS :=
    (tSeq (tRet (tCB (xTuple K) (tCons (tLc (iAny K (tSl (xSl K) (tOp (rIx K) (tVar 0) (tC (.int 0))) (tPart (tC (.int 1))) tNoPart)) (gName 1) tYes (tUn xNeg (tVar 1)) [1]) tNil)))
    tNext)
theorem ok_least_of {P : Program} {w : World} {K : PySem.W.Frag} {mg : Str → Option Value} {base : Heap} {A : Ads} {D : Fds} (T : Txt K mg A D) {sp : Sp} (len : ∀ vs H Q E, sp vs H Q E → vs.length = 1)
    (rd : ∀ vs H Q E, sp vs H Q E → t_least_of K { nx := fun _ H' => Q .non H', rt := Q } (L2.start N_least_of vs) H) : FnOk P w K mg base CX0 1 A.least_of D.least_of ["table"] sp := by
  refine T.F_least_of.ok sc_least_of len (fun cdv A' outer s H vs Q E hr h => ⟨t_least_of K, ?_, rd vs H Q E h⟩)
  have nd := sc_least_of.nd
  exact (pss_cons (ps_ret (pe_callTy call_tuple_of (by rfl) T.z_tuple (by decide +kernel) (pa_cons (pe_lc (own := [("bound", 1)]) (g := (gName 1)) (tt := tYes) rfl nd (pi_any (pe_slice s_any (pe_ix ix_seq (pv 0) pe_int (fun _ _ => rfl)) (po_some pe_int) po_none)) (blkOk_by (N := N_least_of) (sc := (defScope s_least_of)) (by decide +kernel)) (fun _ _ _ _ _ => (pg_name (i := 1) nd rfl (by first | exact Or.inl rfl | exact Or.inr rfl))) (fun _ _ _ _ _ => pts_nil) (fun _ _ _ _ _ => (pe_un un_neg (pv 1)))) pa_nil)))
      pss_nil)
def t_greatest_of (K : PySem.W.Frag) : TS :=
    (tSeq (tRet (tCB (xTuple K) (tCons (tLc (iAny K (tSl (xSl K) (tVar 0) (tPart (tC (.int 1))) tNoPart)) (gName 1) tYes (tOp (rIx K) (tVar 1) (tC (.int 0))) [1]) tNil)))
    tNext)
theorem ok_greatest_of {P : Program} {w : World} {K : PySem.W.Frag} {mg : Str → Option Value} {base : Heap} {A : Ads} {D : Fds} (T : Txt K mg A D) {sp : Sp} (len : ∀ vs H Q E, sp vs H Q E → vs.length = 1)
    (rd : ∀ vs H Q E, sp vs H Q E → t_greatest_of K { nx := fun _ H' => Q .non H', rt := Q } (L2.start N_greatest_of vs) H) : FnOk P w K mg base CX0 1 A.greatest_of D.greatest_of ["table"] sp := by
  refine T.F_greatest_of.ok sc_greatest_of len (fun cdv A' outer s H vs Q E hr h => ⟨t_greatest_of K, ?_, rd vs H Q E h⟩)
  have nd := sc_greatest_of.nd
  exact (pss_cons (ps_ret (pe_callTy call_tuple_of (by rfl) T.z_tuple (by decide +kernel) (pa_cons (pe_lc (own := [("row", 1)]) (g := (gName 1)) (tt := tYes) rfl nd (pi_any (pe_slice s_any (pv 0) (po_some pe_int) po_none)) (blkOk_by (N := N_greatest_of) (sc := (defScope s_greatest_of)) (by decide +kernel)) (fun _ _ _ _ _ => (pg_name (i := 1) nd rfl (by first | exact Or.inl rfl | exact Or.inr rfl))) (fun _ _ _ _ _ => pts_nil) (fun _ _ _ _ _ => (pe_ix ix_seq (pv 1) pe_int (fun _ _ => rfl)))) pa_nil)))
      pss_nil)
def t_spans (K : PySem.W.Frag) (sp_greatest_of : Sp) (sp_least_of : Sp) : TS :=
    (tSeq (tRet (tListZip K (tCons (tCall sp_least_of [] E0 (tCons (tVar 0) tNil)) (tCons (tCall sp_greatest_of [] E0 (tCons (tVar 0) tNil)) tNil))))
    tNext)
theorem ok_spans {P : Program} {w : World} {K : PySem.W.Frag} {mg : Str → Option Value} {base : Heap} {A : Ads} {D : Fds} (T : Txt K mg A D) {sp_greatest_of : Sp} (G_greatest_of : FnOk P w K mg base CX0 1 A.greatest_of D.greatest_of ["table"] sp_greatest_of) {sp_least_of : Sp} (G_least_of : FnOk P w K mg base CX0 1 A.least_of D.least_of ["table"] sp_least_of) {sp : Sp} (len : ∀ vs H Q E, sp vs H Q E → vs.length = 1)
    (rd : ∀ vs H Q E, sp vs H Q E → t_spans K sp_greatest_of sp_least_of { nx := fun _ H' => Q .non H', rt := Q } (L2.start N_spans vs) H) : FnOk P w K mg base CX0 2 A.spans D.spans ["table"] sp := by
  refine T.F_spans.ok sc_spans len (fun cdv A' outer s H vs Q E hr h => ⟨t_spans K sp_greatest_of sp_least_of, ?_, rd vs H Q E h⟩)
  have nd := sc_spans.nd
  exact (pss_cons (ps_ret (pe_listZip rfl (by rfl) T.z_list (by rfl) T.z_zip (pa_cons (pe_call G_least_of (hr.mono (by decide)) (by rfl) T.m_least_of T.F_least_of.kp T.b_least_of .nil pass0 (pa_cons (pv 0) pa_nil)) (pa_cons (pe_call G_greatest_of (hr.mono (by decide)) (by rfl) T.m_greatest_of T.F_greatest_of.kp T.b_greatest_of .nil pass0 (pa_cons (pv 0) pa_nil)) pa_nil))))
      pss_nil)
def t__law_hand (K : PySem.W.Frag) : TS :=
    (tSeq (tRet (tLst (tCons (tLc (iAny K (tSl (xSl K) (tVar 0) tNoPart (tPart (tC (.int 63))))) (gName 1) tYes (tCB (xInt) (tCons (tVar 1) tNil)) [1]) (tCons (tC (.int 0)) (tCons (tC (.int 0)) (tCons (tC (.int 20011)) (tCons (tC (.int 48611)) tNil)))))))
    tNext)
theorem ok__law_hand {P : Program} {w : World} {K : PySem.W.Frag} {mg : Str → Option Value} {base : Heap} {A : Ads} {D : Fds} (T : Txt K mg A D) {sp : Sp} (len : ∀ vs H Q E, sp vs H Q E → vs.length = 1)
    (rd : ∀ vs H Q E, sp vs H Q E → t__law_hand K { nx := fun _ H' => Q .non H', rt := Q } (L2.start N__law_hand vs) H) : FnOk P w K mg base CX0 1 A._law_hand D._law_hand ["script"] sp := by
  refine T.F__law_hand.ok sc__law_hand len (fun cdv A' outer s H vs Q E hr h => ⟨t__law_hand K, ?_, rd vs H Q E h⟩)
  have nd := sc__law_hand.nd
  exact (pss_cons (ps_ret (pe_lst (pa_cons (pe_lc (own := [("cell", 1)]) (g := (gName 1)) (tt := tYes) rfl nd (pi_any (pe_slice s_any (pv 0) po_none (po_some pe_int))) (blkOk_by (N := N__law_hand) (sc := (defScope s__law_hand)) (by decide +kernel)) (fun _ _ _ _ _ => (pg_name (i := 1) nd rfl (by first | exact Or.inl rfl | exact Or.inr rfl))) (fun _ _ _ _ _ => pts_nil) (fun _ _ _ _ _ => (pe_callTy k_int (by rfl) T.z_int (by decide +kernel) (pa_cons (pv 1) pa_nil)))) (pa_cons pe_int (pa_cons pe_int (pa_cons pe_int (pa_cons pe_int pa_nil)))))))
      pss_nil)
def t__law_draw (K : PySem.W.Frag) : TS :=
    (tSeq (tIfS (tAnd (tTest (tOp (xEq K) (tOp (rIx K) (tVar 0) (tC (.int 2))) (tC (.int 0)))) (tTest (tOp (xLt K) (tOp (rIx K) (tVar 0) (tC (.int 1))) (tCB (xLen K) (tCons (tOp (rIx K) (tVar 0) (tC (.int 0))) tNil))))) (tSeq (tAsg (tOp (rIx K) (tOp (rIx K) (tVar 0) (tC (.int 0))) (tOp (rIx K) (tVar 0) (tC (.int 1)))) (gName 2))
    (tSeq (tAsg (tOp (xAdd K) (tOp (rIx K) (tVar 0) (tC (.int 1))) (tC (.int 1))) (gSub (tVar 0) (tC (.int 1)) rSetL))
    (tSeq (tIfS (tTest (tOp xGe (tVar 2) (tOp xPow (tC (.int 10)) (tC (.int 18))))) (tSeq (tAsg (tOp xMod (tCB (xInt) (tCons (tVar 2) tNil)) (tOp xMul (tOp xMul (tOp xMul (tOp xPow (tC (.int 10)) (tC (.int 60))) (tOp xPow (tC (.int 10)) (tC (.int 60)))) (tOp xPow (tC (.int 10)) (tC (.int 60)))) (tOp xPow (tC (.int 10)) (tC (.int 60))))) (gSub (tVar 0) (tC (.int 2)) rSetL))
    tNext) (tSeq (tAsg (tOp xMod (tOp (xAdd K) (tOp (xAdd K) (tOp xMul (tOp (rIx K) (tVar 0) (tC (.int 3))) (tC (.int 48271))) (tOp xMod (tCB (xInt) (tCons (tVar 2) tNil)) (tC (.int 2147483647)))) (tC (.int 1))) (tC (.int 2147483647))) (gSub (tVar 0) (tC (.int 3)) rSetL))
    tNext))
    tNext))) tNext)
    (tSeq (tIfS (tTest (tOp xGt (tOp (rIx K) (tVar 0) (tC (.int 2))) (tC (.int 0)))) (tSeq (tAsg (tOp xMod (tCB (xInt) (tCons (tOp (rIx K) (tVar 0) (tC (.int 2))) tNil)) (tVar 1)) (gName 3))
    (tSeq (tAsg (tOp xDiv (tCB (xInt) (tCons (tOp (rIx K) (tVar 0) (tC (.int 2))) tNil)) (tVar 1)) (gSub (tVar 0) (tC (.int 2)) rSetL))
    (tSeq (tRet (tVar 3))
    tNext))) tNext)
    (tSeq (tAsg (tOp xMod (tOp (xAdd K) (tOp xMul (tOp (rIx K) (tVar 0) (tC (.int 3))) (tC (.int 48271))) (tC (.int 11))) (tC (.int 2147483647))) (gSub (tVar 0) (tC (.int 3)) rSetL))
    (tSeq (tAsg (tOp xMod (tOp (xAdd K) (tOp xMul (tOp (rIx K) (tVar 0) (tC (.int 4))) (tC (.int 69621))) (tOp xDiv (tOp (rIx K) (tVar 0) (tC (.int 3))) (tC (.int 7)))) (tC (.int 2147483629))) (gSub (tVar 0) (tC (.int 4)) rSetL))
    (tSeq (tRet (tOp xMod (tCB (xInt) (tCons (tOp xDiv (tOp (rIx K) (tVar 0) (tC (.int 4))) (tC (.int 11))) tNil)) (tVar 1)))
    tNext)))))
theorem ok__law_draw {P : Program} {w : World} {K : PySem.W.Frag} {mg : Str → Option Value} {base : Heap} {A : Ads} {D : Fds} (T : Txt K mg A D) {sp : Sp} (len : ∀ vs H Q E, sp vs H Q E → vs.length = 2)
    (rd : ∀ vs H Q E, sp vs H Q E → t__law_draw K { nx := fun _ H' => Q .non H', rt := Q } (L2.start N__law_draw vs) H) : FnOk P w K mg base CX0 1 A._law_draw D._law_draw ["hand", "many"] sp := by
  refine T.F__law_draw.ok sc__law_draw len (fun cdv A' outer s H vs Q E hr h => ⟨t__law_draw K, ?_, rd vs H Q E h⟩)
  have nd := sc__law_draw.nd
  exact (pss_cons (ps_if (PW.pt (pw_and (pt_cmpR (c_eq hr.units) (pe_ix ix_seq (pv 0) pe_int (fun _ _ => rfl)) pe_int (nomark _)) (pw_and1 (pt_cmpR (c_lt hr.units0) (pe_ix ix_seq (pv 0) pe_int (fun _ _ => rfl)) (pe_callB call_len (by rfl) T.z_len (by decide +kernel) (pa_cons (pe_ix ix_seq (pv 0) pe_int (fun _ _ => rfl)) pa_nil)) (nomark _))))) (pss_cons (ps_set (i := 2) nd rfl (by first | exact Or.inl rfl | exact Or.inr rfl) (pe_ix ix_seq (pe_ix ix_seq (pv 0) pe_int (fun _ _ => rfl)) (pe_ix ix_seq (pv 0) pe_int (fun _ _ => rfl)) (fun _ _ => rfl)))
      (pss_cons (ps_asg (pe_op o_add (pe_ix ix_seq (pv 0) pe_int (fun _ _ => rfl)) pe_int) (pg_sub (pv 0) pe_int set_list))
      (pss_cons (ps_if (pt_cmpR op_ge (pv 2) (pe_op o_pow pe_int pe_int) (nomark _)) (pss_cons (ps_asg (pe_op o_mod (pe_callTy k_int (by rfl) T.z_int (by decide +kernel) (pa_cons (pv 2) pa_nil)) (pe_op o_mul (pe_op o_mul (pe_op o_mul (pe_op o_pow pe_int pe_int) (pe_op o_pow pe_int pe_int)) (pe_op o_pow pe_int pe_int)) (pe_op o_pow pe_int pe_int))) (pg_sub (pv 0) pe_int set_list))
      pss_nil) (pss_cons (ps_asg (pe_op o_mod (pe_op o_add (pe_op o_add (pe_op o_mul (pe_ix ix_seq (pv 0) pe_int (fun _ _ => rfl)) pe_int) (pe_op o_mod (pe_callTy k_int (by rfl) T.z_int (by decide +kernel) (pa_cons (pv 2) pa_nil)) pe_int)) pe_int) pe_int) (pg_sub (pv 0) pe_int set_list))
      pss_nil))
      pss_nil))) pss_nil)
      (pss_cons (ps_if (pt_cmpR op_gt (pe_ix ix_seq (pv 0) pe_int (fun _ _ => rfl)) pe_int (nomark _)) (pss_cons (ps_set (i := 3) nd rfl (by first | exact Or.inl rfl | exact Or.inr rfl) (pe_op o_mod (pe_callTy k_int (by rfl) T.z_int (by decide +kernel) (pa_cons (pe_ix ix_seq (pv 0) pe_int (fun _ _ => rfl)) pa_nil)) (pv 1)))
      (pss_cons (ps_asg (pe_op o_div (pe_callTy k_int (by rfl) T.z_int (by decide +kernel) (pa_cons (pe_ix ix_seq (pv 0) pe_int (fun _ _ => rfl)) pa_nil)) (pv 1)) (pg_sub (pv 0) pe_int set_list))
      (pss_cons (ps_ret (pv 3))
      pss_nil))) pss_nil)
      (pss_cons (ps_asg (pe_op o_mod (pe_op o_add (pe_op o_mul (pe_ix ix_seq (pv 0) pe_int (fun _ _ => rfl)) pe_int) pe_int) pe_int) (pg_sub (pv 0) pe_int set_list))
      (pss_cons (ps_asg (pe_op o_mod (pe_op o_add (pe_op o_mul (pe_ix ix_seq (pv 0) pe_int (fun _ _ => rfl)) pe_int) (pe_op o_div (pe_ix ix_seq (pv 0) pe_int (fun _ _ => rfl)) pe_int)) pe_int) (pg_sub (pv 0) pe_int set_list))
      (pss_cons (ps_ret (pe_op o_mod (pe_callTy k_int (by rfl) T.z_int (by decide +kernel) (pa_cons (pe_op o_div (pe_ix ix_seq (pv 0) pe_int (fun _ _ => rfl)) pe_int) pa_nil)) (pv 1)))
      pss_nil)))))
def t__law_same (K : PySem.W.Frag) : TS :=
    (tSeq (tAsg (tLst (tCons (tTup (tCons (tVar 0) (tCons (tVar 1) tNil))) tNil)) (gName 2))
    (tSeq (tWhile (tTru K (tVar 2)) (tSeq (tAsg (tBM0 K "list" rPop (tVar 2)) (gTup K 2 (gCons (gName 3) (gCons (gName 4) gNil))))
    (tSeq (tIfS (tTest (tOp xIs (tVar 4) (tC .non))) (tSeq (tIfS (tTest (tOp xIsN (tVar 3) (tC .non))) (tSeq (tRet (tC (.bl false)))
    tNext) tNext)
    tNext) (tSeq (tIfS (tOr (tTest (tOp xIs (tVar 4) (tC (.bl true)))) (tTest (tOp xIs (tVar 4) (tC (.bl false))))) (tSeq (tIfS (tOr (tNot (tTru K (tCB (rIsi K) (tCons (tVar 3) (tCons (tC (.ty "bool")) tNil))))) (tTest (tOp (xNe K) (tVar 3) (tVar 4)))) (tSeq (tRet (tC (.bl false)))
    tNext) tNext)
    tNext) (tSeq (tIfS (tTru K (tCB (rIsi K) (tCons (tVar 4) (tCons (tC (.ty "int")) tNil)))) (tSeq (tIfS (tOr (tNot (tTru K (tCB (rIsi K) (tCons (tVar 3) (tCons (tC (.ty "int")) tNil))))) (tOr (tTru K (tCB (rIsi K) (tCons (tVar 3) (tCons (tC (.ty "bool")) tNil)))) (tTest (tOp (xNe K) (tVar 3) (tVar 4))))) (tSeq (tRet (tC (.bl false)))
    tNext) tNext)
    tNext) (tSeq (tIfS (tTru K (tCB (rIsi K) (tCons (tVar 4) (tCons (tC (.ty "str")) tNil)))) (tSeq (tIfS (tOr (tNot (tTru K (tCB (rIsi K) (tCons (tVar 3) (tCons (tC (.ty "str")) tNil))))) (tTest (tOp (xNe K) (tVar 3) (tVar 4)))) (tSeq (tRet (tC (.bl false)))
    tNext) tNext)
    tNext) (tSeq (tIfS (tAnd (tTru K (tCB (rIsi K) (tCons (tVar 4) (tCons (tC (.ty "tuple")) tNil)))) (tNot (tTru K (tCB (rIsi K) (tCons (tVar 3) (tCons (tC (.ty "tuple")) tNil)))))) (tSeq (tRet (tC (.bl false)))
    tNext) tNext)
    (tSeq (tIfS (tAnd (tTru K (tCB (rIsi K) (tCons (tVar 4) (tCons (tC (.ty "list")) tNil)))) (tNot (tTru K (tCB (rIsi K) (tCons (tVar 3) (tCons (tC (.ty "list")) tNil)))))) (tSeq (tRet (tC (.bl false)))
    tNext) tNext)
    (tSeq (tIfS (tTest (tOp (xNe K) (tCB (xLen K) (tCons (tVar 3) tNil)) (tCB (xLen K) (tCons (tVar 4) tNil)))) (tSeq (tRet (tC (.bl false)))
    tNext) tNext)
    (tSeq (tFor (iRng1 (tCons (tCB (xLen K) (tCons (tVar 4) tNil)) tNil)) (gName 5) (tSeq (tDrop (tBM K "list" rAppend (tVar 2) (tCons (tTup (tCons (tOp (rIx K) (tVar 3) (tVar 5)) (tCons (tOp (rIx K) (tVar 4) (tVar 5)) tNil))) tNil)))
    tNext))
    tNext)))))
    tNext))
    tNext))
    tNext))
    tNext)))
    (tSeq (tRet (tC (.bl true)))
    tNext)))
theorem ok__law_same {P : Program} {w : World} {K : PySem.W.Frag} {mg : Str → Option Value} {base : Heap} {A : Ads} {D : Fds} (T : Txt K mg A D) {sp : Sp} (len : ∀ vs H Q E, sp vs H Q E → vs.length = 2)
    (rd : ∀ vs H Q E, sp vs H Q E → t__law_same K { nx := fun _ H' => Q .non H', rt := Q } (L2.start N__law_same vs) H) : FnOk P w K mg base CX0 1 A._law_same D._law_same ["told", "due"] sp := by
  refine T.F__law_same.ok sc__law_same len (fun cdv A' outer s H vs Q E hr h => ⟨t__law_same K, ?_, rd vs H Q E h⟩)
  have nd := sc__law_same.nd
  exact (pss_cons (ps_set (i := 2) nd rfl (by first | exact Or.inl rfl | exact Or.inr rfl) (pe_lst (pa_cons (pe_tup (pa_cons (pv 0) (pa_cons (pv 1) pa_nil))) pa_nil)))
      (pss_cons (ps_while PassesOwn.never (pt_truth (pv 2) (by intro _; rfl)) (pss_cons (ps_asg (pe_bm0 PySem.F.plainAttrs_list PySem.F.slot_list_pop PySem.F.type_list_pop mt_pop (pv 2)) (pg_tup rfl (pgs_cons (pg_name (i := 3) nd rfl (by first | exact Or.inl rfl | exact Or.inr rfl)) (pgs_cons (pg_name (i := 4) nd rfl (by first | exact Or.inl rfl | exact Or.inr rfl)) pgs_nil))))
      (pss_cons (ps_if (pt_cmpR c_is (pv 4) pe_non (nomark _)) (pss_cons (ps_if (pt_cmpR c_isnot (pv 3) pe_non (nomark _)) (pss_cons (ps_ret pe_bl)
      pss_nil) pss_nil)
      pss_nil) (pss_cons (ps_if (PW.pt (pw_or (pt_cmpR c_is (pv 4) pe_bl (nomark _)) (pw_or1 (pt_cmpR c_is (pv 4) pe_bl (nomark _))))) (pss_cons (ps_if (PW.pt (pw_or (pt_not (pt_truth (pe_callB call_isi (by rfl) T.z_isinstance (by decide +kernel) (pa_cons (pv 3) (pa_cons (pe_bltn (by rfl) T.z_bool (by decide +kernel) rfl) pa_nil))) (by intro _; rfl))) (pw_or1 (pt_cmpR (c_ne hr.units) (pv 3) (pv 4) (nomark _))))) (pss_cons (ps_ret pe_bl)
      pss_nil) pss_nil)
      pss_nil) (pss_cons (ps_if (pt_truth (pe_callB call_isi (by rfl) T.z_isinstance (by decide +kernel) (pa_cons (pv 4) (pa_cons (pe_bltn (by rfl) T.z_int (by decide +kernel) rfl) pa_nil))) (by intro _; rfl)) (pss_cons (ps_if (PW.pt (pw_or (pt_not (pt_truth (pe_callB call_isi (by rfl) T.z_isinstance (by decide +kernel) (pa_cons (pv 3) (pa_cons (pe_bltn (by rfl) T.z_int (by decide +kernel) rfl) pa_nil))) (by intro _; rfl))) (pw_or (pt_truth (pe_callB call_isi (by rfl) T.z_isinstance (by decide +kernel) (pa_cons (pv 3) (pa_cons (pe_bltn (by rfl) T.z_bool (by decide +kernel) rfl) pa_nil))) (by intro _; rfl)) (pw_or1 (pt_cmpR (c_ne hr.units) (pv 3) (pv 4) (nomark _)))))) (pss_cons (ps_ret pe_bl)
      pss_nil) pss_nil)
      pss_nil) (pss_cons (ps_if (pt_truth (pe_callB call_isi (by rfl) T.z_isinstance (by decide +kernel) (pa_cons (pv 4) (pa_cons (pe_bltn (by rfl) T.z_str (by decide +kernel) rfl) pa_nil))) (by intro _; rfl)) (pss_cons (ps_if (PW.pt (pw_or (pt_not (pt_truth (pe_callB call_isi (by rfl) T.z_isinstance (by decide +kernel) (pa_cons (pv 3) (pa_cons (pe_bltn (by rfl) T.z_str (by decide +kernel) rfl) pa_nil))) (by intro _; rfl))) (pw_or1 (pt_cmpR (c_ne hr.units) (pv 3) (pv 4) (nomark _))))) (pss_cons (ps_ret pe_bl)
      pss_nil) pss_nil)
      pss_nil) (pss_cons (ps_if (PW.pt (pw_and (pt_truth (pe_callB call_isi (by rfl) T.z_isinstance (by decide +kernel) (pa_cons (pv 4) (pa_cons (pe_bltn (by rfl) T.z_tuple (by decide +kernel) rfl) pa_nil))) (by intro _; rfl)) (pw_and1 (pt_not (pt_truth (pe_callB call_isi (by rfl) T.z_isinstance (by decide +kernel) (pa_cons (pv 3) (pa_cons (pe_bltn (by rfl) T.z_tuple (by decide +kernel) rfl) pa_nil))) (by intro _; rfl)))))) (pss_cons (ps_ret pe_bl)
      pss_nil) pss_nil)
      (pss_cons (ps_if (PW.pt (pw_and (pt_truth (pe_callB call_isi (by rfl) T.z_isinstance (by decide +kernel) (pa_cons (pv 4) (pa_cons (pe_bltn (by rfl) T.z_list (by decide +kernel) rfl) pa_nil))) (by intro _; rfl)) (pw_and1 (pt_not (pt_truth (pe_callB call_isi (by rfl) T.z_isinstance (by decide +kernel) (pa_cons (pv 3) (pa_cons (pe_bltn (by rfl) T.z_list (by decide +kernel) rfl) pa_nil))) (by intro _; rfl)))))) (pss_cons (ps_ret pe_bl)
      pss_nil) pss_nil)
      (pss_cons (ps_if (pt_cmpR (c_ne hr.units) (pe_callB call_len (by rfl) T.z_len (by decide +kernel) (pa_cons (pv 3) pa_nil)) (pe_callB call_len (by rfl) T.z_len (by decide +kernel) (pa_cons (pv 4) pa_nil)) (nomark _)) (pss_cons (ps_ret pe_bl)
      pss_nil) pss_nil)
      (pss_cons (ps_for PassesOwn.never rfl (pi_range1 (by rfl) T.z_range (pa_cons (pe_callB call_len (by rfl) T.z_len (by decide +kernel) (pa_cons (pv 4) pa_nil)) pa_nil)) (pg_name (i := 5) nd rfl (by first | exact Or.inl rfl | exact Or.inr rfl)) (pss_cons (ps_expr (pe_bm PySem.F.plainAttrs_list PySem.F.slot_list_append PySem.F.type_list_append mt_append (pv 2) (pa_cons (pe_tup (pa_cons (pe_ix ix_seq (pv 3) (pv 5) (fun _ _ => rfl)) (pa_cons (pe_ix ix_seq (pv 4) (pv 5) (fun _ _ => rfl)) pa_nil))) pa_nil)))
      pss_nil))
      pss_nil)))))
      pss_nil))
      pss_nil))
      pss_nil))
      pss_nil)))
      (pss_cons (ps_ret pe_bl)
      pss_nil)))
def t__law_points (K : PySem.W.Frag) : TS :=
    (tSeq (tAsg (tLst (tCons (tTup (tCons (tC (.int 0)) tNil)) tNil)) (gName 2))
    (tSeq (tFor (iRng1 (tCons (tCB (xLen K) (tCons (tVar 1) tNil)) tNil)) (gName 3) (tSeq (tAsg (tLst tNil) (gName 4))
    (tSeq (tFor (iAny K (tCB (xList K) (tCons (tVar 2) tNil))) (gName 5) (tSeq (tFor (iRng1 (tCons (tOp (rIx K) (tVar 1) (tVar 3)) tNil)) (gName 6) (tSeq (tDrop (tBM K "list" rAppend (tVar 4) (tCons (tOp (xAdd K) (tVar 5) (tTup (tCons (tOp (xAdd K) (tOp (rIx K) (tVar 0) (tVar 3)) (tVar 6)) tNil))) tNil)))
    tNext))
    tNext))
    (tSeq (tAsg (tVar 4) (gName 2))
    tNext))))
    (tSeq (tRet (tVar 2))
    tNext)))
theorem ok__law_points {P : Program} {w : World} {K : PySem.W.Frag} {mg : Str → Option Value} {base : Heap} {A : Ads} {D : Fds} (T : Txt K mg A D) {sp : Sp} (len : ∀ vs H Q E, sp vs H Q E → vs.length = 2)
    (rd : ∀ vs H Q E, sp vs H Q E → t__law_points K { nx := fun _ H' => Q .non H', rt := Q } (L2.start N__law_points vs) H) : FnOk P w K mg base CX0 1 A._law_points D._law_points ["low", "sizes"] sp := by
  refine T.F__law_points.ok sc__law_points len (fun cdv A' outer s H vs Q E hr h => ⟨t__law_points K, ?_, rd vs H Q E h⟩)
  have nd := sc__law_points.nd
  exact (pss_cons (ps_set (i := 2) nd rfl (by first | exact Or.inl rfl | exact Or.inr rfl) (pe_lst (pa_cons (pe_tup (pa_cons pe_int pa_nil)) pa_nil)))
      (pss_cons (ps_for PassesOwn.never rfl (pi_range1 (by rfl) T.z_range (pa_cons (pe_callB call_len (by rfl) T.z_len (by decide +kernel) (pa_cons (pv 1) pa_nil)) pa_nil)) (pg_name (i := 3) nd rfl (by first | exact Or.inl rfl | exact Or.inr rfl)) (pss_cons (ps_set (i := 4) nd rfl (by first | exact Or.inl rfl | exact Or.inr rfl) (pe_lst pa_nil))
      (pss_cons (ps_for PassesOwn.never rfl (pi_any (pe_callTy call_list_of (by rfl) T.z_list (by decide +kernel) (pa_cons (pv 2) pa_nil))) (pg_name (i := 5) nd rfl (by first | exact Or.inl rfl | exact Or.inr rfl)) (pss_cons (ps_for PassesOwn.never rfl (pi_range1 (by rfl) T.z_range (pa_cons (pe_ix ix_seq (pv 1) (pv 3) (fun _ _ => rfl)) pa_nil)) (pg_name (i := 6) nd rfl (by first | exact Or.inl rfl | exact Or.inr rfl)) (pss_cons (ps_expr (pe_bm PySem.F.plainAttrs_list PySem.F.slot_list_append PySem.F.type_list_append mt_append (pv 4) (pa_cons (pe_op o_add (pv 5) (pe_tup (pa_cons (pe_op o_add (pe_ix ix_seq (pv 0) (pv 3) (fun _ _ => rfl)) (pv 6)) pa_nil))) pa_nil)))
      pss_nil))
      pss_nil))
      (pss_cons (ps_set (i := 2) nd rfl (by first | exact Or.inl rfl | exact Or.inr rfl) (pv 4))
      pss_nil))))
      (pss_cons (ps_ret (pv 2))
      pss_nil)))
def t__law_keeps (K : PySem.W.Frag) : TS :=
    (tSeq (tFor (iAny K (tVar 1)) (gTup K 3 (gCons (gName 2) (gCons (gName 3) (gCons (gName 4) gNil)))) (tSeq (tIfS (tTest (tOp xGt (tOp xSub (tOp (rIx K) (tVar 0) (tVar 2)) (tOp (rIx K) (tVar 0) (tVar 3))) (tVar 4))) (tSeq (tRet (tC (.bl false)))
    tNext) tNext)
    tNext))
    (tSeq (tRet (tC (.bl true)))
    tNext))
theorem ok__law_keeps {P : Program} {w : World} {K : PySem.W.Frag} {mg : Str → Option Value} {base : Heap} {A : Ads} {D : Fds} (T : Txt K mg A D) {sp : Sp} (len : ∀ vs H Q E, sp vs H Q E → vs.length = 2)
    (rd : ∀ vs H Q E, sp vs H Q E → t__law_keeps K { nx := fun _ H' => Q .non H', rt := Q } (L2.start N__law_keeps vs) H) : FnOk P w K mg base CX0 1 A._law_keeps D._law_keeps ["point", "ties"] sp := by
  refine T.F__law_keeps.ok sc__law_keeps len (fun cdv A' outer s H vs Q E hr h => ⟨t__law_keeps K, ?_, rd vs H Q E h⟩)
  have nd := sc__law_keeps.nd
  exact (pss_cons (ps_for PassesOwn.never rfl (pi_any (pv 1)) (pg_tup rfl (pgs_cons (pg_name (i := 2) nd rfl (by first | exact Or.inl rfl | exact Or.inr rfl)) (pgs_cons (pg_name (i := 3) nd rfl (by first | exact Or.inl rfl | exact Or.inr rfl)) (pgs_cons (pg_name (i := 4) nd rfl (by first | exact Or.inl rfl | exact Or.inr rfl)) pgs_nil)))) (pss_cons (ps_if (pt_cmpR op_gt (pe_op o_sub (pe_ix ix_seq (pv 0) (pv 2) (fun _ _ => rfl)) (pe_ix ix_seq (pv 0) (pv 3) (fun _ _ => rfl))) (pv 4) (nomark _)) (pss_cons (ps_ret pe_bl)
      pss_nil) pss_nil)
      pss_nil))
      (pss_cons (ps_ret pe_bl)
      pss_nil))
def t__law_table (K : PySem.W.Frag) : TS :=
    (tSeq (tAsg (tLst tNil) (gName 1))
    (tSeq (tFor (iRng1 (tCons (tCB (xLen K) (tCons (tOp (rIx K) (tVar 0) (tC (.int 0))) tNil)) tNil)) (gName 2) (tSeq (tAsg (tLst tNil) (gName 3))
    (tSeq (tFor (iRng1 (tCons (tCB (xLen K) (tCons (tOp (rIx K) (tVar 0) (tC (.int 0))) tNil)) tNil)) (gName 4) (tSeq (tDrop (tBM K "list" rAppend (tVar 3) (tCons (tCB (rMax K) (tCons (tLc (iAny K (tVar 0)) (gName 5) tYes (tOp xSub (tOp (rIx K) (tVar 5) (tVar 2)) (tOp (rIx K) (tVar 5) (tVar 4))) [5]) tNil)) tNil)))
    tNext))
    (tSeq (tDrop (tBM K "list" rAppend (tVar 1) (tCons (tCB (xTuple K) (tCons (tVar 3) tNil)) tNil)))
    tNext))))
    (tSeq (tRet (tCB (xTuple K) (tCons (tVar 1) tNil)))
    tNext)))
theorem ok__law_table {P : Program} {w : World} {K : PySem.W.Frag} {mg : Str → Option Value} {base : Heap} {A : Ads} {D : Fds} (T : Txt K mg A D) {sp : Sp} (len : ∀ vs H Q E, sp vs H Q E → vs.length = 1)
    (rd : ∀ vs H Q E, sp vs H Q E → t__law_table K { nx := fun _ H' => Q .non H', rt := Q } (L2.start N__law_table vs) H) : FnOk P w K mg base CX0 1 A._law_table D._law_table ["lot"] sp := by
  refine T.F__law_table.ok sc__law_table len (fun cdv A' outer s H vs Q E hr h => ⟨t__law_table K, ?_, rd vs H Q E h⟩)
  have nd := sc__law_table.nd
  exact (pss_cons (ps_set (i := 1) nd rfl (by first | exact Or.inl rfl | exact Or.inr rfl) (pe_lst pa_nil))
      (pss_cons (ps_for PassesOwn.never rfl (pi_range1 (by rfl) T.z_range (pa_cons (pe_callB call_len (by rfl) T.z_len (by decide +kernel) (pa_cons (pe_ix ix_seq (pv 0) pe_int (fun _ _ => rfl)) pa_nil)) pa_nil)) (pg_name (i := 2) nd rfl (by first | exact Or.inl rfl | exact Or.inr rfl)) (pss_cons (ps_set (i := 3) nd rfl (by first | exact Or.inl rfl | exact Or.inr rfl) (pe_lst pa_nil))
      (pss_cons (ps_for PassesOwn.never rfl (pi_range1 (by rfl) T.z_range (pa_cons (pe_callB call_len (by rfl) T.z_len (by decide +kernel) (pa_cons (pe_ix ix_seq (pv 0) pe_int (fun _ _ => rfl)) pa_nil)) pa_nil)) (pg_name (i := 4) nd rfl (by first | exact Or.inl rfl | exact Or.inr rfl)) (pss_cons (ps_expr (pe_bm PySem.F.plainAttrs_list PySem.F.slot_list_append PySem.F.type_list_append mt_append (pv 3) (pa_cons (pe_callB (cr_max rfl) (by rfl) T.z_max (by decide +kernel) (pa_cons (pe_lc (own := [("point", 5)]) (g := (gName 5)) (tt := tYes) rfl nd (pi_any (pv 0)) (blkOk_by (N := N__law_table) (sc := (defScope s__law_table)) (by decide +kernel)) (fun _ _ _ _ _ => (pg_name (i := 5) nd rfl (by first | exact Or.inl rfl | exact Or.inr rfl))) (fun _ _ _ _ _ => pts_nil) (fun _ _ _ _ _ => (pe_op o_sub (pe_ix ix_seq (pv 5) (pv 2) (fun _ _ => rfl)) (pe_ix ix_seq (pv 5) (pv 4) (fun _ _ => rfl))))) pa_nil)) pa_nil)))
      pss_nil))
      (pss_cons (ps_expr (pe_bm PySem.F.plainAttrs_list PySem.F.slot_list_append PySem.F.type_list_append mt_append (pv 1) (pa_cons (pe_callTy call_tuple_of (by rfl) T.z_tuple (by decide +kernel) (pa_cons (pv 3) pa_nil)) pa_nil)))
      pss_nil))))
      (pss_cons (ps_ret (pe_callTy call_tuple_of (by rfl) T.z_tuple (by decide +kernel) (pa_cons (pv 1) pa_nil)))
      pss_nil)))
def t__law_holds (K : PySem.W.Frag) : TS :=
    (tSeq (tFor (iRng1 (tCons (tCB (xLen K) (tCons (tVar 1) tNil)) tNil)) (gName 2) (tSeq (tFor (iRng1 (tCons (tCB (xLen K) (tCons (tVar 1) tNil)) tNil)) (gName 3) (tSeq (tIfS (tTest (tOp xGt (tOp xSub (tOp (rIx K) (tVar 1) (tVar 2)) (tOp (rIx K) (tVar 1) (tVar 3))) (tOp (rIx K) (tOp (rIx K) (tVar 0) (tVar 2)) (tVar 3)))) (tSeq (tRet (tC (.bl false)))
    tNext) tNext)
    tNext))
    tNext))
    (tSeq (tRet (tC (.bl true)))
    tNext))
theorem ok__law_holds {P : Program} {w : World} {K : PySem.W.Frag} {mg : Str → Option Value} {base : Heap} {A : Ads} {D : Fds} (T : Txt K mg A D) {sp : Sp} (len : ∀ vs H Q E, sp vs H Q E → vs.length = 2)
    (rd : ∀ vs H Q E, sp vs H Q E → t__law_holds K { nx := fun _ H' => Q .non H', rt := Q } (L2.start N__law_holds vs) H) : FnOk P w K mg base CX0 1 A._law_holds D._law_holds ["table", "point"] sp := by
  refine T.F__law_holds.ok sc__law_holds len (fun cdv A' outer s H vs Q E hr h => ⟨t__law_holds K, ?_, rd vs H Q E h⟩)
  have nd := sc__law_holds.nd
  exact (pss_cons (ps_for PassesOwn.never rfl (pi_range1 (by rfl) T.z_range (pa_cons (pe_callB call_len (by rfl) T.z_len (by decide +kernel) (pa_cons (pv 1) pa_nil)) pa_nil)) (pg_name (i := 2) nd rfl (by first | exact Or.inl rfl | exact Or.inr rfl)) (pss_cons (ps_for PassesOwn.never rfl (pi_range1 (by rfl) T.z_range (pa_cons (pe_callB call_len (by rfl) T.z_len (by decide +kernel) (pa_cons (pv 1) pa_nil)) pa_nil)) (pg_name (i := 3) nd rfl (by first | exact Or.inl rfl | exact Or.inr rfl)) (pss_cons (ps_if (pt_cmpR op_gt (pe_op o_sub (pe_ix ix_seq (pv 1) (pv 2) (fun _ _ => rfl)) (pe_ix ix_seq (pv 1) (pv 3) (fun _ _ => rfl))) (pe_ix ix_seq (pe_ix ix_seq (pv 0) (pv 2) (fun _ _ => rfl)) (pv 3) (fun _ _ => rfl)) (nomark _)) (pss_cons (ps_ret pe_bl)
      pss_nil) pss_nil)
      pss_nil))
      pss_nil))
      (pss_cons (ps_ret pe_bl)
      pss_nil))
def t__law_ties (K : PySem.W.Frag) (sp__law_draw : Sp) : TS :=
    (tSeq (tAsg (tOp xSub (tCB (xLen K) (tCons (tVar 1) tNil)) (tC (.int 1))) (gName 4))
    (tSeq (tAsg (tLst tNil) (gName 5))
    (tSeq (tFor (iRng1 (tCons (tCall sp__law_draw [] E0 (tCons (tVar 0) (tCons (tOp (xAdd K) (tVar 2) (tC (.int 1))) tNil))) tNil)) (gName 6) (tSeq (tAsg (tCall sp__law_draw [] E0 (tCons (tVar 0) (tCons (tOp (xAdd K) (tVar 4) (tC (.int 1))) tNil))) (gName 7))
    (tSeq (tAsg (tOp xMod (tOp (xAdd K) (tOp (xAdd K) (tVar 7) (tC (.int 1))) (tCall sp__law_draw [] E0 (tCons (tVar 0) (tCons (tVar 4) tNil)))) (tOp (xAdd K) (tVar 4) (tC (.int 1)))) (gName 8))
    (tSeq (tDrop (tBM K "list" rAppend (tVar 5) (tCons (tTup (tCons (tVar 7) (tCons (tVar 8) (tCons (tOp (xAdd K) (tOp xSub (tOp (rIx K) (tVar 1) (tVar 7)) (tOp (rIx K) (tVar 1) (tVar 8))) (tCall sp__law_draw [] E0 (tCons (tVar 0) (tCons (tVar 3) tNil)))) tNil)))) tNil)))
    tNext))))
    (tSeq (tRet (tVar 5))
    tNext))))
theorem ok__law_ties {P : Program} {w : World} {K : PySem.W.Frag} {mg : Str → Option Value} {base : Heap} {A : Ads} {D : Fds} (T : Txt K mg A D) {sp__law_draw : Sp} (G__law_draw : FnOk P w K mg base CX0 1 A._law_draw D._law_draw ["hand", "many"] sp__law_draw) {sp : Sp} (len : ∀ vs H Q E, sp vs H Q E → vs.length = 4)
    (rd : ∀ vs H Q E, sp vs H Q E → t__law_ties K sp__law_draw { nx := fun _ H' => Q .non H', rt := Q } (L2.start N__law_ties vs) H) : FnOk P w K mg base CX0 2 A._law_ties D._law_ties ["hand", "witness", "most", "slack"] sp := by
  refine T.F__law_ties.ok sc__law_ties len (fun cdv A' outer s H vs Q E hr h => ⟨t__law_ties K sp__law_draw, ?_, rd vs H Q E h⟩)
  have nd := sc__law_ties.nd
  exact (pss_cons (ps_set (i := 4) nd rfl (by first | exact Or.inl rfl | exact Or.inr rfl) (pe_op o_sub (pe_callB call_len (by rfl) T.z_len (by decide +kernel) (pa_cons (pv 1) pa_nil)) pe_int))
      (pss_cons (ps_set (i := 5) nd rfl (by first | exact Or.inl rfl | exact Or.inr rfl) (pe_lst pa_nil))
      (pss_cons (ps_for PassesOwn.never rfl (pi_range1 (by rfl) T.z_range (pa_cons (pe_call G__law_draw (hr.mono (by decide)) (by rfl) T.m__law_draw T.F__law_draw.kp T.b__law_draw .nil pass0 (pa_cons (pv 0) (pa_cons (pe_op o_add (pv 2) pe_int) pa_nil))) pa_nil)) (pg_name (i := 6) nd rfl (by first | exact Or.inl rfl | exact Or.inr rfl)) (pss_cons (ps_set (i := 7) nd rfl (by first | exact Or.inl rfl | exact Or.inr rfl) (pe_call G__law_draw (hr.mono (by decide)) (by rfl) T.m__law_draw T.F__law_draw.kp T.b__law_draw .nil pass0 (pa_cons (pv 0) (pa_cons (pe_op o_add (pv 4) pe_int) pa_nil))))
      (pss_cons (ps_set (i := 8) nd rfl (by first | exact Or.inl rfl | exact Or.inr rfl) (pe_op o_mod (pe_op o_add (pe_op o_add (pv 7) pe_int) (pe_call G__law_draw (hr.mono (by decide)) (by rfl) T.m__law_draw T.F__law_draw.kp T.b__law_draw .nil pass0 (pa_cons (pv 0) (pa_cons (pv 4) pa_nil)))) (pe_op o_add (pv 4) pe_int)))
      (pss_cons (ps_expr (pe_bm PySem.F.plainAttrs_list PySem.F.slot_list_append PySem.F.type_list_append mt_append (pv 5) (pa_cons (pe_tup (pa_cons (pv 7) (pa_cons (pv 8) (pa_cons (pe_op o_add (pe_op o_sub (pe_ix ix_seq (pv 1) (pv 7) (fun _ _ => rfl)) (pe_ix ix_seq (pv 1) (pv 8) (fun _ _ => rfl))) (pe_call G__law_draw (hr.mono (by decide)) (by rfl) T.m__law_draw T.F__law_draw.kp T.b__law_draw .nil pass0 (pa_cons (pv 0) (pa_cons (pv 3) pa_nil)))) pa_nil)))) pa_nil)))
      pss_nil))))
      (pss_cons (ps_ret (pv 5))
      pss_nil))))
def t__law_closing (K : PySem.W.Frag) : TS :=
    (tSeq (tAsg (tCB (xLen K) (tCons (tVar 0) tNil)) (gName 1))
    (tSeq (tFor (iRng1 (tCons (tVar 1) tNil)) (gName 2) (tSeq (tFor (iRng1 (tCons (tVar 1) tNil)) (gName 3) (tSeq (tIfS (tTest (tOp xIsN (tOp (rIx K) (tOp (rIx K) (tVar 0) (tVar 3)) (tVar 2)) (tC .non))) (tSeq (tAsg (tOp (rIx K) (tOp (rIx K) (tVar 0) (tVar 3)) (tVar 2)) (gName 4))
    (tSeq (tFor (iRng1 (tCons (tVar 1) tNil)) (gName 5) (tSeq (tAsg (tOp (rIx K) (tOp (rIx K) (tVar 0) (tVar 2)) (tVar 5)) (gName 6))
    (tSeq (tIfS (tAnd (tTest (tOp xIsN (tVar 6) (tC .non))) (tOr (tTest (tOp xIs (tOp (rIx K) (tOp (rIx K) (tVar 0) (tVar 3)) (tVar 5)) (tC .non))) (tTest (tOp (xLt K) (tOp (xAdd K) (tVar 4) (tVar 6)) (tOp (rIx K) (tOp (rIx K) (tVar 0) (tVar 3)) (tVar 5)))))) (tSeq (tAsg (tOp (xAdd K) (tVar 4) (tVar 6)) (gSub (tOp (rIx K) (tVar 0) (tVar 3)) (tVar 5) rSetL))
    tNext) tNext)
    tNext)))
    tNext)) tNext)
    tNext))
    tNext))
    (tSeq (tFor (iRng1 (tCons (tVar 1) tNil)) (gName 3) (tSeq (tIfS (tTest (tOp (xLt K) (tOp (rIx K) (tOp (rIx K) (tVar 0) (tVar 3)) (tVar 3)) (tC (.int 0)))) (tSeq (tRet (tC .non))
    tNext) tNext)
    tNext))
    (tSeq (tRet (tCB (xTuple K) (tCons (tLc (iAny K (tVar 0)) (gName 7) tYes (tCB (xTuple K) (tCons (tVar 7) tNil)) [7]) tNil)))
    tNext))))
theorem ok__law_closing {P : Program} {w : World} {K : PySem.W.Frag} {mg : Str → Option Value} {base : Heap} {A : Ads} {D : Fds} (T : Txt K mg A D) {sp : Sp} (len : ∀ vs H Q E, sp vs H Q E → vs.length = 1)
    (rd : ∀ vs H Q E, sp vs H Q E → t__law_closing K { nx := fun _ H' => Q .non H', rt := Q } (L2.start N__law_closing vs) H) : FnOk P w K mg base CX0 1 A._law_closing D._law_closing ["rows"] sp := by
  refine T.F__law_closing.ok sc__law_closing len (fun cdv A' outer s H vs Q E hr h => ⟨t__law_closing K, ?_, rd vs H Q E h⟩)
  have nd := sc__law_closing.nd
  exact (pss_cons (ps_set (i := 1) nd rfl (by first | exact Or.inl rfl | exact Or.inr rfl) (pe_callB call_len (by rfl) T.z_len (by decide +kernel) (pa_cons (pv 0) pa_nil)))
      (pss_cons (ps_for PassesOwn.never rfl (pi_range1 (by rfl) T.z_range (pa_cons (pv 1) pa_nil)) (pg_name (i := 2) nd rfl (by first | exact Or.inl rfl | exact Or.inr rfl)) (pss_cons (ps_for PassesOwn.never rfl (pi_range1 (by rfl) T.z_range (pa_cons (pv 1) pa_nil)) (pg_name (i := 3) nd rfl (by first | exact Or.inl rfl | exact Or.inr rfl)) (pss_cons (ps_if (pt_cmpR c_isnot (pe_ix ix_seq (pe_ix ix_seq (pv 0) (pv 3) (fun _ _ => rfl)) (pv 2) (fun _ _ => rfl)) pe_non (nomark _)) (pss_cons (ps_set (i := 4) nd rfl (by first | exact Or.inl rfl | exact Or.inr rfl) (pe_ix ix_seq (pe_ix ix_seq (pv 0) (pv 3) (fun _ _ => rfl)) (pv 2) (fun _ _ => rfl)))
      (pss_cons (ps_for PassesOwn.never rfl (pi_range1 (by rfl) T.z_range (pa_cons (pv 1) pa_nil)) (pg_name (i := 5) nd rfl (by first | exact Or.inl rfl | exact Or.inr rfl)) (pss_cons (ps_set (i := 6) nd rfl (by first | exact Or.inl rfl | exact Or.inr rfl) (pe_ix ix_seq (pe_ix ix_seq (pv 0) (pv 2) (fun _ _ => rfl)) (pv 5) (fun _ _ => rfl)))
      (pss_cons (ps_if (PW.pt (pw_and (pt_cmpR c_isnot (pv 6) pe_non (nomark _)) (pw_and1 (PW.pt (pw_or (pt_cmpR c_is (pe_ix ix_seq (pe_ix ix_seq (pv 0) (pv 3) (fun _ _ => rfl)) (pv 5) (fun _ _ => rfl)) pe_non (nomark _)) (pw_or1 (pt_cmpR (c_lt hr.units0) (pe_op o_add (pv 4) (pv 6)) (pe_ix ix_seq (pe_ix ix_seq (pv 0) (pv 3) (fun _ _ => rfl)) (pv 5) (fun _ _ => rfl)) (nomark _)))))))) (pss_cons (ps_asg (pe_op o_add (pv 4) (pv 6)) (pg_sub (pe_ix ix_seq (pv 0) (pv 3) (fun _ _ => rfl)) (pv 5) set_list))
      pss_nil) pss_nil)
      pss_nil)))
      pss_nil)) pss_nil)
      pss_nil))
      pss_nil))
      (pss_cons (ps_for PassesOwn.never rfl (pi_range1 (by rfl) T.z_range (pa_cons (pv 1) pa_nil)) (pg_name (i := 3) nd rfl (by first | exact Or.inl rfl | exact Or.inr rfl)) (pss_cons (ps_if (pt_cmpR (c_lt hr.units0) (pe_ix ix_seq (pe_ix ix_seq (pv 0) (pv 3) (fun _ _ => rfl)) (pv 3) (fun _ _ => rfl)) pe_int (nomark _)) (pss_cons (ps_ret pe_non)
      pss_nil) pss_nil)
      pss_nil))
      (pss_cons (ps_ret (pe_callTy call_tuple_of (by rfl) T.z_tuple (by decide +kernel) (pa_cons (pe_lc (own := [("row", 7)]) (g := (gName 7)) (tt := tYes) rfl nd (pi_any (pv 0)) (blkOk_by (N := N__law_closing) (sc := (defScope s__law_closing)) (by decide +kernel)) (fun _ _ _ _ _ => (pg_name (i := 7) nd rfl (by first | exact Or.inl rfl | exact Or.inr rfl))) (fun _ _ _ _ _ => pts_nil) (fun _ _ _ _ _ => (pe_callTy call_tuple_of (by rfl) T.z_tuple (by decide +kernel) (pa_cons (pv 7) pa_nil)))) pa_nil)))
      pss_nil))))
def t__law_wide_table (K : PySem.W.Frag) (sp__law_closing : Sp) (sp__law_ties : Sp) (sp__law_draw : Sp) : TS :=
    (tSeq (tAsg (tCB (xLen K) (tCons (tVar 1) tNil)) (gName 2))
    (tSeq (tAsg (tLc (iRng1 (tCons (tVar 2) tNil)) (gName 5) tYes (tLc (iRng1 (tCons (tVar 2) tNil)) (gName 4) tYes (tC .non) [4]) [5]) (gName 3))
    (tSeq (tAsg (tLst tNil) (gName 6))
    (tSeq (tFor (iRng1 (tCons (tVar 2) tNil)) (gName 7) (tSeq (tAsg (tC (.int 0)) (gSub (tOp (rIx K) (tVar 3) (tVar 7)) (tVar 7) rSetL))
    (tSeq (tIfS (tTest (tOp xGt (tVar 7) (tC (.int 0)))) (tSeq (tDrop (tBM K "list" rAppend (tVar 6) (tCons (tTup (tCons (tVar 7) (tCons (tC (.int 0)) (tCons (tOp (xAdd K) (tOp (rIx K) (tVar 1) (tVar 7)) (tCall sp__law_draw [] E0 (tCons (tVar 0) (tCons (tC (.int 6)) tNil)))) tNil)))) tNil)))
    (tSeq (tDrop (tBM K "list" rAppend (tVar 6) (tCons (tTup (tCons (tC (.int 0)) (tCons (tVar 7) (tCons (tOp xSub (tCall sp__law_draw [] E0 (tCons (tVar 0) (tCons (tC (.int 6)) tNil))) (tOp (rIx K) (tVar 1) (tVar 7))) tNil)))) tNil)))
    tNext)) tNext)
    tNext)))
    (tSeq (tAsg (tOp (xAdd K) (tVar 6) (tCall sp__law_ties [] E0 (tCons (tVar 0) (tCons (tVar 1) (tCons (tC (.int 12)) (tCons (tC (.int 4)) tNil)))))) (gName 6))
    (tSeq (tFor (iAny K (tVar 6)) (gTup K 3 (gCons (gName 5) (gCons (gName 4) (gCons (gName 8) gNil)))) (tSeq (tIfS (tOr (tTest (tOp xIs (tOp (rIx K) (tOp (rIx K) (tVar 3) (tVar 5)) (tVar 4)) (tC .non))) (tTest (tOp (xLt K) (tVar 8) (tOp (rIx K) (tOp (rIx K) (tVar 3) (tVar 5)) (tVar 4))))) (tSeq (tAsg (tVar 8) (gSub (tOp (rIx K) (tVar 3) (tVar 5)) (tVar 4) rSetL))
    tNext) tNext)
    tNext))
    (tSeq (tRet (tCall sp__law_closing [] E0 (tCons (tVar 3) tNil)))
    tNext)))))))
theorem ok__law_wide_table {P : Program} {w : World} {K : PySem.W.Frag} {mg : Str → Option Value} {base : Heap} {A : Ads} {D : Fds} (T : Txt K mg A D) {sp__law_closing : Sp} (G__law_closing : FnOk P w K mg base CX0 1 A._law_closing D._law_closing ["rows"] sp__law_closing) {sp__law_ties : Sp} (G__law_ties : FnOk P w K mg base CX0 2 A._law_ties D._law_ties ["hand", "witness", "most", "slack"] sp__law_ties) {sp__law_draw : Sp} (G__law_draw : FnOk P w K mg base CX0 1 A._law_draw D._law_draw ["hand", "many"] sp__law_draw) {sp : Sp} (len : ∀ vs H Q E, sp vs H Q E → vs.length = 2)
    (rd : ∀ vs H Q E, sp vs H Q E → t__law_wide_table K sp__law_closing sp__law_ties sp__law_draw { nx := fun _ H' => Q .non H', rt := Q } (L2.start N__law_wide_table vs) H) : FnOk P w K mg base CX0 3 A._law_wide_table D._law_wide_table ["hand", "witness"] sp := by
  refine T.F__law_wide_table.ok sc__law_wide_table len (fun cdv A' outer s H vs Q E hr h => ⟨t__law_wide_table K sp__law_closing sp__law_ties sp__law_draw, ?_, rd vs H Q E h⟩)
  have nd := sc__law_wide_table.nd
  exact (pss_cons (ps_set (i := 2) nd rfl (by first | exact Or.inl rfl | exact Or.inr rfl) (pe_callB call_len (by rfl) T.z_len (by decide +kernel) (pa_cons (pv 1) pa_nil)))
      (pss_cons (ps_setLc (i := 3) (own := [("u", 5)]) (g := (gName 5)) (tt := tYes) rfl nd rfl rfl (sw_true rfl rfl rfl (by decide +kernel)) (pi_range1 (by rfl) T.z_range (pa_cons (pv 2) pa_nil)) (blkOk_by (N := N__law_wide_table) (sc := (defScope s__law_wide_table)) (by decide +kernel)) (fun _ _ _ _ _ => (pg_name (i := 5) nd rfl (by first | exact Or.inl rfl | exact Or.inr rfl))) (fun _ _ _ _ _ => pts_nil) (fun _ _ _ _ _ => (pe_lc (own := [("v", 4)]) (g := (gName 4)) (tt := tYes) rfl nd (pi_range1 (by rfl) T.z_range (pa_cons (pv 2) pa_nil)) (blkOk_by (N := N__law_wide_table) (sc := (relS _ (defScope s__law_wide_table))) (by decide +kernel)) (fun _ _ _ _ _ => (pg_name (i := 4) nd rfl (by first | exact Or.inl rfl | exact Or.inr rfl))) (fun _ _ _ _ _ => pts_nil) (fun _ _ _ _ _ => pe_non))))
      (pss_cons (ps_set (i := 6) nd rfl (by first | exact Or.inl rfl | exact Or.inr rfl) (pe_lst pa_nil))
      (pss_cons (ps_for PassesOwn.never rfl (pi_range1 (by rfl) T.z_range (pa_cons (pv 2) pa_nil)) (pg_name (i := 7) nd rfl (by first | exact Or.inl rfl | exact Or.inr rfl)) (pss_cons (ps_asg pe_int (pg_sub (pe_ix ix_seq (pv 3) (pv 7) (fun _ _ => rfl)) (pv 7) set_list))
      (pss_cons (ps_if (pt_cmpR op_gt (pv 7) pe_int (nomark _)) (pss_cons (ps_expr (pe_bm PySem.F.plainAttrs_list PySem.F.slot_list_append PySem.F.type_list_append mt_append (pv 6) (pa_cons (pe_tup (pa_cons (pv 7) (pa_cons pe_int (pa_cons (pe_op o_add (pe_ix ix_seq (pv 1) (pv 7) (fun _ _ => rfl)) (pe_call G__law_draw (hr.mono (by decide)) (by rfl) T.m__law_draw T.F__law_draw.kp T.b__law_draw .nil pass0 (pa_cons (pv 0) (pa_cons pe_int pa_nil)))) pa_nil)))) pa_nil)))
      (pss_cons (ps_expr (pe_bm PySem.F.plainAttrs_list PySem.F.slot_list_append PySem.F.type_list_append mt_append (pv 6) (pa_cons (pe_tup (pa_cons pe_int (pa_cons (pv 7) (pa_cons (pe_op o_sub (pe_call G__law_draw (hr.mono (by decide)) (by rfl) T.m__law_draw T.F__law_draw.kp T.b__law_draw .nil pass0 (pa_cons (pv 0) (pa_cons pe_int pa_nil))) (pe_ix ix_seq (pv 1) (pv 7) (fun _ _ => rfl))) pa_nil)))) pa_nil)))
      pss_nil)) pss_nil)
      pss_nil)))
      (pss_cons (ps_set (i := 6) nd rfl (by first | exact Or.inl rfl | exact Or.inr rfl) (pe_op o_add (pv 6) (pe_call G__law_ties (hr.mono (by decide)) (by rfl) T.m__law_ties T.F__law_ties.kp T.b__law_ties .nil pass0 (pa_cons (pv 0) (pa_cons (pv 1) (pa_cons pe_int (pa_cons pe_int pa_nil)))))))
      (pss_cons (ps_for PassesOwn.never rfl (pi_any (pv 6)) (pg_tup rfl (pgs_cons (pg_name (i := 5) nd rfl (by first | exact Or.inl rfl | exact Or.inr rfl)) (pgs_cons (pg_name (i := 4) nd rfl (by first | exact Or.inl rfl | exact Or.inr rfl)) (pgs_cons (pg_name (i := 8) nd rfl (by first | exact Or.inl rfl | exact Or.inr rfl)) pgs_nil)))) (pss_cons (ps_if (PW.pt (pw_or (pt_cmpR c_is (pe_ix ix_seq (pe_ix ix_seq (pv 3) (pv 5) (fun _ _ => rfl)) (pv 4) (fun _ _ => rfl)) pe_non (nomark _)) (pw_or1 (pt_cmpR (c_lt hr.units0) (pv 8) (pe_ix ix_seq (pe_ix ix_seq (pv 3) (pv 5) (fun _ _ => rfl)) (pv 4) (fun _ _ => rfl)) (nomark _))))) (pss_cons (ps_asg (pv 8) (pg_sub (pe_ix ix_seq (pv 3) (pv 5) (fun _ _ => rfl)) (pv 4) set_list))
      pss_nil) pss_nil)
      pss_nil))
      (pss_cons (ps_ret (pe_call G__law_closing (hr.mono (by decide)) (by rfl) T.m__law_closing T.F__law_closing.kp T.b__law_closing .nil pass0 (pa_cons (pv 3) pa_nil)))
      pss_nil)))))))
def t__law_held (K : PySem.W.Frag) (sp__law_draw : Sp) (sp__law_same : Sp) (sp_holds : Sp) (sp__law_holds : Sp) : TS :=
    (tSeq (tFor (iAny K (tVar 2)) (gName 3) (tSeq (tAsg (tCall sp__law_holds [] E0 (tCons (tVar 1) (tCons (tVar 3) tNil))) (gName 4))
    (tSeq (tIfS (tTest (tOp (xEq K) (tCall sp__law_draw [] E0 (tCons (tVar 0) (tCons (tC (.int 2)) tNil))) (tC (.int 0)))) (tSeq (tIfS (tNot (tTru K (tCall sp__law_same [] E0 (tCons (tCall sp_holds [] E0 (tCons (tVar 1) (tCons (tCB (xTuple K) (tCons (tSl (xSl K) (tVar 3) (tPart (tC (.int 1))) tNoPart) tNil)) tNil))) (tCons (tVar 4) tNil))))) (tSeq (tRet (tC (.bl false)))
    tNext) tNext)
    tNext) (tSeq (tAsg (tCB (xList K) (tCons (tSl (xSl K) (tVar 3) (tPart (tC (.int 1))) tNoPart) tNil)) (gName 5))
    (tSeq (tIfS (tOr (tNot (tTru K (tCall sp__law_same [] E0 (tCons (tCallK sp_holds gV_holds_10 E0 tNil (tCons (tVar 5) (tCons (tVar 1) tNil))) (tCons (tVar 4) tNil))))) (tTest (tOp (xNe K) (tVar 5) (tCB (xList K) (tCons (tSl (xSl K) (tVar 3) (tPart (tC (.int 1))) tNoPart) tNil))))) (tSeq (tRet (tC (.bl false)))
    tNext) tNext)
    tNext)))
    tNext)))
    (tSeq (tRet (tC (.bl true)))
    tNext))
theorem ok__law_held {P : Program} {w : World} {K : PySem.W.Frag} {mg : Str → Option Value} {base : Heap} {A : Ads} {D : Fds} (T : Txt K mg A D) {sp__law_draw : Sp} (G__law_draw : FnOk P w K mg base CX0 1 A._law_draw D._law_draw ["hand", "many"] sp__law_draw) {sp__law_same : Sp} (G__law_same : FnOk P w K mg base CX0 1 A._law_same D._law_same ["told", "due"] sp__law_same) {sp_holds : Sp} (G_holds : FnOk P w K mg base CX0 1 A.holds D.holds ["table", "values"] sp_holds) {sp__law_holds : Sp} (G__law_holds : FnOk P w K mg base CX0 1 A._law_holds D._law_holds ["table", "point"] sp__law_holds) {sp : Sp} (len : ∀ vs H Q E, sp vs H Q E → vs.length = 3)
    (rd : ∀ vs H Q E, sp vs H Q E → t__law_held K sp__law_draw sp__law_same sp_holds sp__law_holds { nx := fun _ H' => Q .non H', rt := Q } (L2.start N__law_held vs) H) : FnOk P w K mg base CX0 2 A._law_held D._law_held ["hand", "table", "points"] sp := by
  refine T.F__law_held.ok sc__law_held len (fun cdv A' outer s H vs Q E hr h => ⟨t__law_held K sp__law_draw sp__law_same sp_holds sp__law_holds, ?_, rd vs H Q E h⟩)
  have nd := sc__law_held.nd
  exact (pss_cons (ps_for PassesOwn.never rfl (pi_any (pv 2)) (pg_name (i := 3) nd rfl (by first | exact Or.inl rfl | exact Or.inr rfl)) (pss_cons (ps_set (i := 4) nd rfl (by first | exact Or.inl rfl | exact Or.inr rfl) (pe_call G__law_holds (hr.mono (by decide)) (by rfl) T.m__law_holds T.F__law_holds.kp T.b__law_holds .nil pass0 (pa_cons (pv 1) (pa_cons (pv 3) pa_nil))))
      (pss_cons (ps_if (pt_cmpR (c_eq hr.units) (pe_call G__law_draw (hr.mono (by decide)) (by rfl) T.m__law_draw T.F__law_draw.kp T.b__law_draw .nil pass0 (pa_cons (pv 0) (pa_cons pe_int pa_nil))) pe_int (nomark _)) (pss_cons (ps_if (pt_not (pt_truth (pe_call G__law_same (hr.mono (by decide)) (by rfl) T.m__law_same T.F__law_same.kp T.b__law_same .nil pass0 (pa_cons (pe_call G_holds (hr.mono (by decide)) (by rfl) T.m_holds T.F_holds.kp T.b_holds .nil pass0 (pa_cons (pv 1) (pa_cons (pe_callTy call_tuple_of (by rfl) T.z_tuple (by decide +kernel) (pa_cons (pe_slice s_any (pv 3) (po_some pe_int) po_none) pa_nil)) pa_nil))) (pa_cons (pv 4) pa_nil))) (by intro _; rfl))) (pss_cons (ps_ret pe_bl)
      pss_nil) pss_nil)
      pss_nil) (pss_cons (ps_set (i := 5) nd rfl (by first | exact Or.inl rfl | exact Or.inr rfl) (pe_callTy call_list_of (by rfl) T.z_list (by decide +kernel) (pa_cons (pe_slice s_any (pv 3) (po_some pe_int) po_none) pa_nil)))
      (pss_cons (ps_if (PW.pt (pw_or (pt_not (pt_truth (pe_call G__law_same (hr.mono (by decide)) (by rfl) T.m__law_same T.F__law_same.kp T.b__law_same .nil pass0 (pa_cons (pe_callK0 G_holds (hr.mono (by decide)) (by rfl) T.m_holds T.F_holds.kp (kb_holds_10 T.F_holds) pass0 (pk_cons (pv 5) (pk_cons (pv 1) pk_nil))) (pa_cons (pv 4) pa_nil))) (by intro _; rfl))) (pw_or1 (pt_cmpR (c_ne hr.units) (pv 5) (pe_callTy call_list_of (by rfl) T.z_list (by decide +kernel) (pa_cons (pe_slice s_any (pv 3) (po_some pe_int) po_none) pa_nil)) (nomark _))))) (pss_cons (ps_ret pe_bl)
      pss_nil) pss_nil)
      pss_nil)))
      pss_nil)))
      (pss_cons (ps_ret pe_bl)
      pss_nil))
def t__law_asked (K : PySem.W.Frag) (sp__law_same : Sp) (sp_lies_within : Sp) (sp_met : Sp) (sp_joined : Sp) (sp_greatest_of : Sp) (sp_least_of : Sp) (sp_spans : Sp) : TS :=
    (tSeq (tFor (iRng1 (tCons (tC (.int 2)) tNil)) (gName 3) (tSeq (tAsg (tCall sp_spans [] E0 (tCons (tVar 0) tNil)) (gName 4))
    (tSeq (tIfS (tNot (tTru K (tCall sp__law_same [] E0 (tCons (tVar 4) (tCons (tOp (rIx K) (tVar 2) (tC (.int 0))) tNil))))) (tSeq (tRet (tC (.bl false)))
    tNext) tNext)
    (tSeq (tAsg (tC .non) (gSub (tVar 4) (tC (.int 0)) rSetL))
    (tSeq (tDrop (tBM K "list" rAppend (tVar 4) (tCons (tTup (tCons (tC (.int 0)) (tCons (tC (.int 0)) tNil))) tNil)))
    tNext)))))
    (tSeq (tIfS (tOr (tNot (tTru K (tCall sp__law_same [] E0 (tCons (tCall sp_least_of [] E0 (tCons (tVar 0) tNil)) (tCons (tOp (rIx K) (tVar 2) (tC (.int 1))) tNil))))) (tNot (tTru K (tCall sp__law_same [] E0 (tCons (tCall sp_greatest_of [] E0 (tCons (tVar 0) tNil)) (tCons (tOp (rIx K) (tVar 2) (tC (.int 2))) tNil)))))) (tSeq (tRet (tC (.bl false)))
    tNext) tNext)
    (tSeq (tAsg (tLst (tCons (tCallK sp_spans gV_spans_0 E0 tNil (tCons (tVar 0) tNil)) (tCons (tCallK sp_least_of gV_least_of_0 E0 tNil (tCons (tVar 0) tNil)) (tCons (tCallK sp_greatest_of gV_greatest_of_0 E0 tNil (tCons (tVar 0) tNil)) tNil)))) (gName 4))
    (tSeq (tIfS (tNot (tTru K (tCall sp__law_same [] E0 (tCons (tVar 4) (tCons (tSl (xSl K) (tVar 2) tNoPart (tPart (tC (.int 3)))) tNil))))) (tSeq (tRet (tC (.bl false)))
    tNext) tNext)
    (tSeq (tIfS (tOr (tNot (tTru K (tCall sp__law_same [] E0 (tCons (tCall sp_met [] E0 (tCons (tVar 0) (tCons (tVar 1) tNil))) (tCons (tOp (rIx K) (tVar 2) (tC (.int 3))) tNil))))) (tNot (tTru K (tCall sp__law_same [] E0 (tCons (tCallK sp_met gV_met_10 E0 tNil (tCons (tVar 0) (tCons (tVar 1) tNil))) (tCons (tOp (rIx K) (tVar 2) (tC (.int 3))) tNil)))))) (tSeq (tRet (tC (.bl false)))
    tNext) tNext)
    (tSeq (tIfS (tOr (tNot (tTru K (tCall sp__law_same [] E0 (tCons (tCall sp_joined [] E0 (tCons (tVar 0) (tCons (tVar 1) tNil))) (tCons (tOp (rIx K) (tVar 2) (tC (.int 4))) tNil))))) (tNot (tTru K (tCall sp__law_same [] E0 (tCons (tCallK sp_joined gV_joined_10 E0 tNil (tCons (tVar 0) (tCons (tVar 1) tNil))) (tCons (tOp (rIx K) (tVar 2) (tC (.int 4))) tNil)))))) (tSeq (tRet (tC (.bl false)))
    tNext) tNext)
    (tSeq (tIfS (tOr (tNot (tTru K (tCall sp__law_same [] E0 (tCons (tCall sp_lies_within [] E0 (tCons (tVar 0) (tCons (tVar 1) tNil))) (tCons (tOp (rIx K) (tVar 2) (tC (.int 5))) tNil))))) (tNot (tTru K (tCall sp__law_same [] E0 (tCons (tCallK sp_lies_within gV_lies_within_10 E0 tNil (tCons (tVar 0) (tCons (tVar 1) tNil))) (tCons (tOp (rIx K) (tVar 2) (tC (.int 6))) tNil)))))) (tSeq (tRet (tC (.bl false)))
    tNext) tNext)
    (tSeq (tRet (tAndT K (tCall sp__law_same [] E0 (tCons (tCall sp_lies_within [] E0 (tCons (tVar 0) (tCons (tVar 0) tNil))) (tCons (tC (.bl true)) tNil))) (tCall sp__law_same [] E0 (tCons (tCall sp_met [] E0 (tCons (tVar 1) (tCons (tVar 1) tNil))) (tCons (tVar 1) tNil)))))
    tNext))))))))
theorem ok__law_asked {P : Program} {w : World} {K : PySem.W.Frag} {mg : Str → Option Value} {base : Heap} {A : Ads} {D : Fds} (T : Txt K mg A D) {sp__law_same : Sp} (G__law_same : FnOk P w K mg base CX0 1 A._law_same D._law_same ["told", "due"] sp__law_same) {sp_lies_within : Sp} (G_lies_within : FnOk P w K mg base CX0 1 A.lies_within D.lies_within ["one", "other"] sp_lies_within) {sp_met : Sp} (G_met : FnOk P w K mg base CX0 4 A.met D.met ["one", "other"] sp_met) {sp_joined : Sp} (G_joined : FnOk P w K mg base CX0 1 A.joined D.joined ["one", "other"] sp_joined) {sp_greatest_of : Sp} (G_greatest_of : FnOk P w K mg base CX0 1 A.greatest_of D.greatest_of ["table"] sp_greatest_of) {sp_least_of : Sp} (G_least_of : FnOk P w K mg base CX0 1 A.least_of D.least_of ["table"] sp_least_of) {sp_spans : Sp} (G_spans : FnOk P w K mg base CX0 2 A.spans D.spans ["table"] sp_spans) {sp : Sp} (len : ∀ vs H Q E, sp vs H Q E → vs.length = 3)
    (rd : ∀ vs H Q E, sp vs H Q E → t__law_asked K sp__law_same sp_lies_within sp_met sp_joined sp_greatest_of sp_least_of sp_spans { nx := fun _ H' => Q .non H', rt := Q } (L2.start N__law_asked vs) H) : FnOk P w K mg base CX0 5 A._law_asked D._law_asked ["first", "second", "dues"] sp := by
  refine T.F__law_asked.ok sc__law_asked len (fun cdv A' outer s H vs Q E hr h => ⟨t__law_asked K sp__law_same sp_lies_within sp_met sp_joined sp_greatest_of sp_least_of sp_spans, ?_, rd vs H Q E h⟩)
  have nd := sc__law_asked.nd
  exact (pss_cons (ps_for PassesOwn.never rfl (pi_range1 (by rfl) T.z_range (pa_cons pe_int pa_nil)) (pg_name (i := 3) nd rfl (by first | exact Or.inl rfl | exact Or.inr rfl)) (pss_cons (ps_set (i := 4) nd rfl (by first | exact Or.inl rfl | exact Or.inr rfl) (pe_call G_spans (hr.mono (by decide)) (by rfl) T.m_spans T.F_spans.kp T.b_spans .nil pass0 (pa_cons (pv 0) pa_nil)))
      (pss_cons (ps_if (pt_not (pt_truth (pe_call G__law_same (hr.mono (by decide)) (by rfl) T.m__law_same T.F__law_same.kp T.b__law_same .nil pass0 (pa_cons (pv 4) (pa_cons (pe_ix ix_seq (pv 2) pe_int (fun _ _ => rfl)) pa_nil))) (by intro _; rfl))) (pss_cons (ps_ret pe_bl)
      pss_nil) pss_nil)
      (pss_cons (ps_asg pe_non (pg_sub (pv 4) pe_int set_list))
      (pss_cons (ps_expr (pe_bm PySem.F.plainAttrs_list PySem.F.slot_list_append PySem.F.type_list_append mt_append (pv 4) (pa_cons (pe_tup (pa_cons pe_int (pa_cons pe_int pa_nil))) pa_nil)))
      pss_nil)))))
      (pss_cons (ps_if (PW.pt (pw_or (pt_not (pt_truth (pe_call G__law_same (hr.mono (by decide)) (by rfl) T.m__law_same T.F__law_same.kp T.b__law_same .nil pass0 (pa_cons (pe_call G_least_of (hr.mono (by decide)) (by rfl) T.m_least_of T.F_least_of.kp T.b_least_of .nil pass0 (pa_cons (pv 0) pa_nil)) (pa_cons (pe_ix ix_seq (pv 2) pe_int (fun _ _ => rfl)) pa_nil))) (by intro _; rfl))) (pw_or1 (pt_not (pt_truth (pe_call G__law_same (hr.mono (by decide)) (by rfl) T.m__law_same T.F__law_same.kp T.b__law_same .nil pass0 (pa_cons (pe_call G_greatest_of (hr.mono (by decide)) (by rfl) T.m_greatest_of T.F_greatest_of.kp T.b_greatest_of .nil pass0 (pa_cons (pv 0) pa_nil)) (pa_cons (pe_ix ix_seq (pv 2) pe_int (fun _ _ => rfl)) pa_nil))) (by intro _; rfl)))))) (pss_cons (ps_ret pe_bl)
      pss_nil) pss_nil)
      (pss_cons (ps_set (i := 4) nd rfl (by first | exact Or.inl rfl | exact Or.inr rfl) (pe_lst (pa_cons (pe_callK0 G_spans (hr.mono (by decide)) (by rfl) T.m_spans T.F_spans.kp (kb_spans_0 T.F_spans) pass0 (pk_cons (pv 0) pk_nil)) (pa_cons (pe_callK0 G_least_of (hr.mono (by decide)) (by rfl) T.m_least_of T.F_least_of.kp (kb_least_of_0 T.F_least_of) pass0 (pk_cons (pv 0) pk_nil)) (pa_cons (pe_callK0 G_greatest_of (hr.mono (by decide)) (by rfl) T.m_greatest_of T.F_greatest_of.kp (kb_greatest_of_0 T.F_greatest_of) pass0 (pk_cons (pv 0) pk_nil)) pa_nil)))))
      (pss_cons (ps_if (pt_not (pt_truth (pe_call G__law_same (hr.mono (by decide)) (by rfl) T.m__law_same T.F__law_same.kp T.b__law_same .nil pass0 (pa_cons (pv 4) (pa_cons (pe_slice s_any (pv 2) po_none (po_some pe_int)) pa_nil))) (by intro _; rfl))) (pss_cons (ps_ret pe_bl)
      pss_nil) pss_nil)
      (pss_cons (ps_if (PW.pt (pw_or (pt_not (pt_truth (pe_call G__law_same (hr.mono (by decide)) (by rfl) T.m__law_same T.F__law_same.kp T.b__law_same .nil pass0 (pa_cons (pe_call G_met (hr.mono (by decide)) (by rfl) T.m_met T.F_met.kp T.b_met .nil pass0 (pa_cons (pv 0) (pa_cons (pv 1) pa_nil))) (pa_cons (pe_ix ix_seq (pv 2) pe_int (fun _ _ => rfl)) pa_nil))) (by intro _; rfl))) (pw_or1 (pt_not (pt_truth (pe_call G__law_same (hr.mono (by decide)) (by rfl) T.m__law_same T.F__law_same.kp T.b__law_same .nil pass0 (pa_cons (pe_callK0 G_met (hr.mono (by decide)) (by rfl) T.m_met T.F_met.kp (kb_met_10 T.F_met) pass0 (pk_cons (pv 0) (pk_cons (pv 1) pk_nil))) (pa_cons (pe_ix ix_seq (pv 2) pe_int (fun _ _ => rfl)) pa_nil))) (by intro _; rfl)))))) (pss_cons (ps_ret pe_bl)
      pss_nil) pss_nil)
      (pss_cons (ps_if (PW.pt (pw_or (pt_not (pt_truth (pe_call G__law_same (hr.mono (by decide)) (by rfl) T.m__law_same T.F__law_same.kp T.b__law_same .nil pass0 (pa_cons (pe_call G_joined (hr.mono (by decide)) (by rfl) T.m_joined T.F_joined.kp T.b_joined .nil pass0 (pa_cons (pv 0) (pa_cons (pv 1) pa_nil))) (pa_cons (pe_ix ix_seq (pv 2) pe_int (fun _ _ => rfl)) pa_nil))) (by intro _; rfl))) (pw_or1 (pt_not (pt_truth (pe_call G__law_same (hr.mono (by decide)) (by rfl) T.m__law_same T.F__law_same.kp T.b__law_same .nil pass0 (pa_cons (pe_callK0 G_joined (hr.mono (by decide)) (by rfl) T.m_joined T.F_joined.kp (kb_joined_10 T.F_joined) pass0 (pk_cons (pv 0) (pk_cons (pv 1) pk_nil))) (pa_cons (pe_ix ix_seq (pv 2) pe_int (fun _ _ => rfl)) pa_nil))) (by intro _; rfl)))))) (pss_cons (ps_ret pe_bl)
      pss_nil) pss_nil)
      (pss_cons (ps_if (PW.pt (pw_or (pt_not (pt_truth (pe_call G__law_same (hr.mono (by decide)) (by rfl) T.m__law_same T.F__law_same.kp T.b__law_same .nil pass0 (pa_cons (pe_call G_lies_within (hr.mono (by decide)) (by rfl) T.m_lies_within T.F_lies_within.kp T.b_lies_within .nil pass0 (pa_cons (pv 0) (pa_cons (pv 1) pa_nil))) (pa_cons (pe_ix ix_seq (pv 2) pe_int (fun _ _ => rfl)) pa_nil))) (by intro _; rfl))) (pw_or1 (pt_not (pt_truth (pe_call G__law_same (hr.mono (by decide)) (by rfl) T.m__law_same T.F__law_same.kp T.b__law_same .nil pass0 (pa_cons (pe_callK0 G_lies_within (hr.mono (by decide)) (by rfl) T.m_lies_within T.F_lies_within.kp (kb_lies_within_10 T.F_lies_within) pass0 (pk_cons (pv 0) (pk_cons (pv 1) pk_nil))) (pa_cons (pe_ix ix_seq (pv 2) pe_int (fun _ _ => rfl)) pa_nil))) (by intro _; rfl)))))) (pss_cons (ps_ret pe_bl)
      pss_nil) pss_nil)
      (pss_cons (ps_ret (pe_andT (pe_call G__law_same (hr.mono (by decide)) (by rfl) T.m__law_same T.F__law_same.kp T.b__law_same .nil pass0 (pa_cons (pe_call G_lies_within (hr.mono (by decide)) (by rfl) T.m_lies_within T.F_lies_within.kp T.b_lies_within .nil pass0 (pa_cons (pv 0) (pa_cons (pv 0) pa_nil))) (pa_cons pe_bl pa_nil))) (pe_one (pe_call G__law_same (hr.mono (by decide)) (by rfl) T.m__law_same T.F__law_same.kp T.b__law_same .nil pass0 (pa_cons (pe_call G_met (hr.mono (by decide)) (by rfl) T.m_met T.F_met.kp T.b_met .nil pass0 (pa_cons (pv 1) (pa_cons (pv 1) pa_nil))) (pa_cons (pv 1) pa_nil))))))
      pss_nil))))))))
def t__law_small (K : PySem.W.Frag) (sp__law_held : Sp) (sp__law_draw : Sp) (sp__law_asked : Sp) (sp__law_table : Sp) (sp__law_keeps : Sp) (sp__law_ties : Sp) (sp__law_points : Sp) : TS :=
    (tSeq (tAsg (tOp (xAdd K) (tC (.int 1)) (tCall sp__law_draw [] E0 (tCons (tVar 0) (tCons (tC (.int 3)) tNil)))) (gName 1))
    (tSeq (tAsg (tLst tNil) (gName 2))
    (tSeq (tAsg (tLst tNil) (gName 3))
    (tSeq (tFor (iRng1 (tCons (tVar 1) tNil)) (gName 4) (tSeq (tDrop (tBM K "list" rAppend (tVar 2) (tCons (tOp xSub (tOp (xAdd K) (tOp (rIx K) (tLst (tCons (tC (.int 0)) (tCons (tC (.int 0)) (tCons (tUn xNeg (tC (.int 7))) (tCons (tOp xPow (tC (.int 10)) (tC (.int 30))) (tCons (tUn xNeg (tOp xPow (tC (.int 10)) (tC (.int 9)))) tNil)))))) (tCall sp__law_draw [] E0 (tCons (tVar 0) (tCons (tC (.int 5)) tNil)))) (tCall sp__law_draw [] E0 (tCons (tVar 0) (tCons (tC (.int 7)) tNil)))) (tC (.int 3))) tNil)))
    (tSeq (tDrop (tBM K "list" rAppend (tVar 3) (tCons (tOp (xAdd K) (tC (.int 1)) (tCall sp__law_draw [] E0 (tCons (tVar 0) (tCons (tOp (rIx K) (tLst (tCons (tC (.int 9)) (tCons (tC (.int 5)) (tCons (tC (.int 3)) tNil)))) (tOp xSub (tVar 1) (tC (.int 1)))) tNil)))) tNil)))
    tNext)))
    (tSeq (tAsg (tCall sp__law_points [] E0 (tCons (tVar 2) (tCons (tVar 3) tNil))) (gName 5))
    (tSeq (tAsg (tOp (rIx K) (tVar 5) (tCall sp__law_draw [] E0 (tCons (tVar 0) (tCons (tCB (xLen K) (tCons (tVar 5) tNil)) tNil)))) (gName 6))
    (tSeq (tAsg (tCall sp__law_ties [] E0 (tCons (tVar 0) (tCons (tVar 6) (tCons (tC (.int 3)) (tCons (tC (.int 3)) tNil))))) (gName 7))
    (tSeq (tAsg (tLc (iAny K (tVar 5)) (gName 9) (tTru K (tCall sp__law_keeps [] E0 (tCons (tVar 9) (tCons (tVar 7) tNil)))) (tVar 9) [9]) (gName 8))
    (tSeq (tIfS (tTest (tOp xGt (tCall sp__law_draw [] E0 (tCons (tVar 0) (tCons (tC (.int 3)) tNil))) (tC (.int 0)))) (tSeq (tAsg (tOp (rIx K) (tVar 5) (tCall sp__law_draw [] E0 (tCons (tVar 0) (tCons (tCB (xLen K) (tCons (tVar 5) tNil)) tNil)))) (gName 6))
    tNext) tNext)
    (tSeq (tAsg (tCall sp__law_ties [] E0 (tCons (tVar 0) (tCons (tVar 6) (tCons (tC (.int 3)) (tCons (tC (.int 3)) tNil))))) (gName 10))
    (tSeq (tAsg (tLc (iAny K (tVar 5)) (gName 9) (tTru K (tCall sp__law_keeps [] E0 (tCons (tVar 9) (tCons (tVar 10) tNil)))) (tVar 9) [9]) (gName 11))
    (tSeq (tAsg (tLc (iAny K (tVar 8)) (gName 9) (tTru K (tCall sp__law_keeps [] E0 (tCons (tVar 9) (tCons (tVar 10) tNil)))) (tVar 9) [9]) (gName 12))
    (tSeq (tAsg (tCall sp__law_table [] E0 (tCons (tVar 8) tNil)) (gName 13))
    (tSeq (tAsg (tCall sp__law_table [] E0 (tCons (tVar 11) tNil)) (gName 14))
    (tSeq (tAsg (tLst (tCons (tLc (iRngX (tCons (tC (.int 1)) (tCons (tOp (xAdd K) (tVar 1) (tC (.int 1))) tNil))) (gName 4) tYes (tTup (tCons (tCB (rMin K) (tCons (tLc (iAny K (tVar 8)) (gName 9) tYes (tOp (rIx K) (tVar 9) (tVar 4)) [9]) tNil)) (tCons (tCB (rMax K) (tCons (tLc (iAny K (tVar 8)) (gName 9) tYes (tOp (rIx K) (tVar 9) (tVar 4)) [9]) tNil)) tNil))) [4]) tNil)) (gName 15))
    (tSeq (tDrop (tBM K "list" rAppend (tVar 15) (tCons (tCB (xTuple K) (tCons (tLc (iAny K (tOp (rIx K) (tVar 15) (tC (.int 0)))) (gName 16) tYes (tOp (rIx K) (tVar 16) (tC (.int 0))) [16]) tNil)) tNil)))
    (tSeq (tDrop (tBM K "list" rAppend (tVar 15) (tCons (tCB (xTuple K) (tCons (tLc (iAny K (tOp (rIx K) (tVar 15) (tC (.int 0)))) (gName 16) tYes (tOp (rIx K) (tVar 16) (tC (.int 1))) [16]) tNil)) tNil)))
    (tSeq (tIfS (tTru K (tVar 12)) (tSeq (tDrop (tBM K "list" rAppend (tVar 15) (tCons (tCall sp__law_table [] E0 (tCons (tVar 12) tNil)) tNil)))
    tNext) (tSeq (tDrop (tBM K "list" rAppend (tVar 15) (tCons (tC .non) tNil)))
    tNext))
    (tSeq (tDrop (tBM K "list" rAppend (tVar 15) (tCons (tCall sp__law_table [] E0 (tCons (tOp (xAdd K) (tVar 8) (tVar 11)) tNil)) tNil)))
    (tSeq (tDrop (tBM K "list" rAppend (tVar 15) (tCons (tOp (xEq K) (tCB (xLen K) (tCons (tVar 12) tNil)) (tCB (xLen K) (tCons (tVar 8) tNil))) tNil)))
    (tSeq (tDrop (tBM K "list" rAppend (tVar 15) (tCons (tOp (xEq K) (tCB (xLen K) (tCons (tVar 12) tNil)) (tCB (xLen K) (tCons (tVar 11) tNil))) tNil)))
    (tSeq (tIfS (tNot (tTru K (tCall sp__law_asked [] E0 (tCons (tVar 13) (tCons (tVar 14) (tCons (tVar 15) tNil)))))) (tSeq (tRet (tC (.bl false)))
    tNext) tNext)
    (tSeq (tAsg (tLst (tCons (tOp (rIx K) (tVar 8) (tCall sp__law_draw [] E0 (tCons (tVar 0) (tCons (tCB (xLen K) (tCons (tVar 8) tNil)) tNil)))) (tCons (tOp (rIx K) (tVar 11) (tCall sp__law_draw [] E0 (tCons (tVar 0) (tCons (tCB (xLen K) (tCons (tVar 11) tNil)) tNil)))) tNil))) (gName 17))
    (tSeq (tFor (iRng1 (tCons (tC (.int 7)) tNil)) (gName 18) (tSeq (tAsg (tTup (tCons (tC (.int 0)) tNil)) (gName 9))
    (tSeq (tFor (iRng1 (tCons (tVar 1) tNil)) (gName 4) (tSeq (tAsg (tOp (xAdd K) (tVar 9) (tTup (tCons (tOp (xAdd K) (tOp xSub (tOp (rIx K) (tVar 2) (tVar 4)) (tC (.int 1))) (tCall sp__law_draw [] E0 (tCons (tVar 0) (tCons (tOp (xAdd K) (tOp (rIx K) (tVar 3) (tVar 4)) (tC (.int 2))) tNil)))) tNil))) (gName 9))
    tNext))
    (tSeq (tDrop (tBM K "list" rAppend (tVar 17) (tCons (tVar 9) tNil)))
    tNext))))
    (tSeq (tRet (tCall sp__law_held [] E0 (tCons (tVar 0) (tCons (tVar 13) (tCons (tVar 17) tNil)))))
    tNext)))))))))))))))))))))))))
theorem ok__law_small {P : Program} {w : World} {K : PySem.W.Frag} {mg : Str → Option Value} {base : Heap} {A : Ads} {D : Fds} (T : Txt K mg A D) {sp__law_held : Sp} (G__law_held : FnOk P w K mg base CX0 2 A._law_held D._law_held ["hand", "table", "points"] sp__law_held) {sp__law_draw : Sp} (G__law_draw : FnOk P w K mg base CX0 1 A._law_draw D._law_draw ["hand", "many"] sp__law_draw) {sp__law_asked : Sp} (G__law_asked : FnOk P w K mg base CX0 5 A._law_asked D._law_asked ["first", "second", "dues"] sp__law_asked) {sp__law_table : Sp} (G__law_table : FnOk P w K mg base CX0 1 A._law_table D._law_table ["lot"] sp__law_table) {sp__law_keeps : Sp} (G__law_keeps : FnOk P w K mg base CX0 1 A._law_keeps D._law_keeps ["point", "ties"] sp__law_keeps) {sp__law_ties : Sp} (G__law_ties : FnOk P w K mg base CX0 2 A._law_ties D._law_ties ["hand", "witness", "most", "slack"] sp__law_ties) {sp__law_points : Sp} (G__law_points : FnOk P w K mg base CX0 1 A._law_points D._law_points ["low", "sizes"] sp__law_points) {sp : Sp} (len : ∀ vs H Q E, sp vs H Q E → vs.length = 1)
    (rd : ∀ vs H Q E, sp vs H Q E → t__law_small K sp__law_held sp__law_draw sp__law_asked sp__law_table sp__law_keeps sp__law_ties sp__law_points { nx := fun _ H' => Q .non H', rt := Q } (L2.start N__law_small vs) H) : FnOk P w K mg base CX0 6 A._law_small D._law_small ["hand"] sp := by
  refine T.F__law_small.ok sc__law_small len (fun cdv A' outer s H vs Q E hr h => ⟨t__law_small K sp__law_held sp__law_draw sp__law_asked sp__law_table sp__law_keeps sp__law_ties sp__law_points, ?_, rd vs H Q E h⟩)
  have nd := sc__law_small.nd
  exact (pss_cons (ps_set (i := 1) nd rfl (by first | exact Or.inl rfl | exact Or.inr rfl) (pe_op o_add pe_int (pe_call G__law_draw (hr.mono (by decide)) (by rfl) T.m__law_draw T.F__law_draw.kp T.b__law_draw .nil pass0 (pa_cons (pv 0) (pa_cons pe_int pa_nil)))))
      (pss_cons (ps_set (i := 2) nd rfl (by first | exact Or.inl rfl | exact Or.inr rfl) (pe_lst pa_nil))
      (pss_cons (ps_set (i := 3) nd rfl (by first | exact Or.inl rfl | exact Or.inr rfl) (pe_lst pa_nil))
      (pss_cons (ps_for PassesOwn.never rfl (pi_range1 (by rfl) T.z_range (pa_cons (pv 1) pa_nil)) (pg_name (i := 4) nd rfl (by first | exact Or.inl rfl | exact Or.inr rfl)) (pss_cons (ps_expr (pe_bm PySem.F.plainAttrs_list PySem.F.slot_list_append PySem.F.type_list_append mt_append (pv 2) (pa_cons (pe_op o_sub (pe_op o_add (pe_ix ix_seq (pe_lst (pa_cons pe_int (pa_cons pe_int (pa_cons (pe_un un_neg pe_int) (pa_cons (pe_op o_pow pe_int pe_int) (pa_cons (pe_un un_neg (pe_op o_pow pe_int pe_int)) pa_nil)))))) (pe_call G__law_draw (hr.mono (by decide)) (by rfl) T.m__law_draw T.F__law_draw.kp T.b__law_draw .nil pass0 (pa_cons (pv 0) (pa_cons pe_int pa_nil))) (fun _ _ => rfl)) (pe_call G__law_draw (hr.mono (by decide)) (by rfl) T.m__law_draw T.F__law_draw.kp T.b__law_draw .nil pass0 (pa_cons (pv 0) (pa_cons pe_int pa_nil)))) pe_int) pa_nil)))
      (pss_cons (ps_expr (pe_bm PySem.F.plainAttrs_list PySem.F.slot_list_append PySem.F.type_list_append mt_append (pv 3) (pa_cons (pe_op o_add pe_int (pe_call G__law_draw (hr.mono (by decide)) (by rfl) T.m__law_draw T.F__law_draw.kp T.b__law_draw .nil pass0 (pa_cons (pv 0) (pa_cons (pe_ix ix_seq (pe_lst (pa_cons pe_int (pa_cons pe_int (pa_cons pe_int pa_nil)))) (pe_op o_sub (pv 1) pe_int) (fun _ _ => rfl)) pa_nil)))) pa_nil)))
      pss_nil)))
      (pss_cons (ps_set (i := 5) nd rfl (by first | exact Or.inl rfl | exact Or.inr rfl) (pe_call G__law_points (hr.mono (by decide)) (by rfl) T.m__law_points T.F__law_points.kp T.b__law_points .nil pass0 (pa_cons (pv 2) (pa_cons (pv 3) pa_nil))))
      (pss_cons (ps_set (i := 6) nd rfl (by first | exact Or.inl rfl | exact Or.inr rfl) (pe_ix ix_seq (pv 5) (pe_call G__law_draw (hr.mono (by decide)) (by rfl) T.m__law_draw T.F__law_draw.kp T.b__law_draw .nil pass0 (pa_cons (pv 0) (pa_cons (pe_callB call_len (by rfl) T.z_len (by decide +kernel) (pa_cons (pv 5) pa_nil)) pa_nil))) (fun _ _ => rfl)))
      (pss_cons (ps_set (i := 7) nd rfl (by first | exact Or.inl rfl | exact Or.inr rfl) (pe_call G__law_ties (hr.mono (by decide)) (by rfl) T.m__law_ties T.F__law_ties.kp T.b__law_ties .nil pass0 (pa_cons (pv 0) (pa_cons (pv 6) (pa_cons pe_int (pa_cons pe_int pa_nil))))))
      (pss_cons (ps_set (i := 8) nd rfl (by first | exact Or.inl rfl | exact Or.inr rfl) (pe_lc (own := [("point", 9)]) (g := (gName 9)) (tt := (tTru K (tCall sp__law_keeps [] E0 (tCons (tVar 9) (tCons (tVar 7) tNil))))) rfl nd (pi_any (pv 5)) (blkOk_by (N := N__law_small) (sc := (defScope s__law_small)) (by decide +kernel)) (fun _ _ _ _ _ => (pg_name (i := 9) nd rfl (by first | exact Or.inl rfl | exact Or.inr rfl))) (fun _ _ _ _ _ => (pts_one (pt_truth (pe_call G__law_keeps (hr.mono (by decide)) (by rfl) T.m__law_keeps T.F__law_keeps.kp T.b__law_keeps .nil pass0 (pa_cons (pv 9) (pa_cons (pv 7) pa_nil))) (by intro _; rfl)))) (fun _ _ _ _ _ => (pv 9))))
      (pss_cons (ps_if (pt_cmpR op_gt (pe_call G__law_draw (hr.mono (by decide)) (by rfl) T.m__law_draw T.F__law_draw.kp T.b__law_draw .nil pass0 (pa_cons (pv 0) (pa_cons pe_int pa_nil))) pe_int (nomark _)) (pss_cons (ps_set (i := 6) nd rfl (by first | exact Or.inl rfl | exact Or.inr rfl) (pe_ix ix_seq (pv 5) (pe_call G__law_draw (hr.mono (by decide)) (by rfl) T.m__law_draw T.F__law_draw.kp T.b__law_draw .nil pass0 (pa_cons (pv 0) (pa_cons (pe_callB call_len (by rfl) T.z_len (by decide +kernel) (pa_cons (pv 5) pa_nil)) pa_nil))) (fun _ _ => rfl)))
      pss_nil) pss_nil)
      (pss_cons (ps_set (i := 10) nd rfl (by first | exact Or.inl rfl | exact Or.inr rfl) (pe_call G__law_ties (hr.mono (by decide)) (by rfl) T.m__law_ties T.F__law_ties.kp T.b__law_ties .nil pass0 (pa_cons (pv 0) (pa_cons (pv 6) (pa_cons pe_int (pa_cons pe_int pa_nil))))))
      (pss_cons (ps_setLc (i := 11) (own := [("point", 9)]) (g := (gName 9)) (tt := (tTru K (tCall sp__law_keeps [] E0 (tCons (tVar 9) (tCons (tVar 10) tNil))))) rfl nd rfl rfl (sw_true rfl rfl rfl (by decide +kernel)) (pi_any (pv 5)) (blkOk_by (N := N__law_small) (sc := (defScope s__law_small)) (by decide +kernel)) (fun _ _ _ _ _ => (pg_name (i := 9) nd rfl (by first | exact Or.inl rfl | exact Or.inr rfl))) (fun _ _ _ _ _ => (pts_one (pt_truth (pe_call G__law_keeps (hr.mono (by decide)) (by rfl) T.m__law_keeps T.F__law_keeps.kp T.b__law_keeps .nil pass0 (pa_cons (pv 9) (pa_cons (pv 10) pa_nil))) (by intro _; rfl)))) (fun _ _ _ _ _ => (pv 9)))
      (pss_cons (ps_setLc (i := 12) (own := [("point", 9)]) (g := (gName 9)) (tt := (tTru K (tCall sp__law_keeps [] E0 (tCons (tVar 9) (tCons (tVar 10) tNil))))) rfl nd rfl rfl (sw_true rfl rfl rfl (by decide +kernel)) (pi_any (pv 8)) (blkOk_by (N := N__law_small) (sc := (defScope s__law_small)) (by decide +kernel)) (fun _ _ _ _ _ => (pg_name (i := 9) nd rfl (by first | exact Or.inl rfl | exact Or.inr rfl))) (fun _ _ _ _ _ => (pts_one (pt_truth (pe_call G__law_keeps (hr.mono (by decide)) (by rfl) T.m__law_keeps T.F__law_keeps.kp T.b__law_keeps .nil pass0 (pa_cons (pv 9) (pa_cons (pv 10) pa_nil))) (by intro _; rfl)))) (fun _ _ _ _ _ => (pv 9)))
      (pss_cons (ps_set (i := 13) nd rfl (by first | exact Or.inl rfl | exact Or.inr rfl) (pe_call G__law_table (hr.mono (by decide)) (by rfl) T.m__law_table T.F__law_table.kp T.b__law_table .nil pass0 (pa_cons (pv 8) pa_nil)))
      (pss_cons (ps_set (i := 14) nd rfl (by first | exact Or.inl rfl | exact Or.inr rfl) (pe_call G__law_table (hr.mono (by decide)) (by rfl) T.m__law_table T.F__law_table.kp T.b__law_table .nil pass0 (pa_cons (pv 11) pa_nil)))
      (pss_cons (ps_set (i := 15) nd rfl (by first | exact Or.inl rfl | exact Or.inr rfl) (pe_lst (pa_cons (pe_lc (own := [("k", 4)]) (g := (gName 4)) (tt := tYes) rfl nd (pi_rangeX (by rfl) T.z_range (pa_cons pe_int (pa_cons (pe_op o_add (pv 1) pe_int) pa_nil))) (blkOk_by (N := N__law_small) (sc := (defScope s__law_small)) (by decide +kernel)) (fun _ _ _ _ _ => (pg_name (i := 4) nd rfl (by first | exact Or.inl rfl | exact Or.inr rfl))) (fun _ _ _ _ _ => pts_nil) (fun _ _ _ _ _ => (pe_tup (pa_cons (pe_callB (cr_min rfl) (by rfl) T.z_min (by decide +kernel) (pa_cons (pe_lc (own := [("point", 9)]) (g := (gName 9)) (tt := tYes) rfl nd (pi_any (pv 8)) (blkOk_by (N := N__law_small) (sc := (relS _ (defScope s__law_small))) (by decide +kernel)) (fun _ _ _ _ _ => (pg_name (i := 9) nd rfl (by first | exact Or.inl rfl | exact Or.inr rfl))) (fun _ _ _ _ _ => pts_nil) (fun _ _ _ _ _ => (pe_ix ix_seq (pv 9) (pv 4) (fun _ _ => rfl)))) pa_nil)) (pa_cons (pe_callB (cr_max rfl) (by rfl) T.z_max (by decide +kernel) (pa_cons (pe_lc (own := [("point", 9)]) (g := (gName 9)) (tt := tYes) rfl nd (pi_any (pv 8)) (blkOk_by (N := N__law_small) (sc := (relS _ (defScope s__law_small))) (by decide +kernel)) (fun _ _ _ _ _ => (pg_name (i := 9) nd rfl (by first | exact Or.inl rfl | exact Or.inr rfl))) (fun _ _ _ _ _ => pts_nil) (fun _ _ _ _ _ => (pe_ix ix_seq (pv 9) (pv 4) (fun _ _ => rfl)))) pa_nil)) pa_nil))))) pa_nil)))
      (pss_cons (ps_expr (pe_bm PySem.F.plainAttrs_list PySem.F.slot_list_append PySem.F.type_list_append mt_append (pv 15) (pa_cons (pe_callTy call_tuple_of (by rfl) T.z_tuple (by decide +kernel) (pa_cons (pe_lc (own := [("pair", 16)]) (g := (gName 16)) (tt := tYes) rfl nd (pi_any (pe_ix ix_seq (pv 15) pe_int (fun _ _ => rfl))) (blkOk_by (N := N__law_small) (sc := (defScope s__law_small)) (by decide +kernel)) (fun _ _ _ _ _ => (pg_name (i := 16) nd rfl (by first | exact Or.inl rfl | exact Or.inr rfl))) (fun _ _ _ _ _ => pts_nil) (fun _ _ _ _ _ => (pe_ix ix_seq (pv 16) pe_int (fun _ _ => rfl)))) pa_nil)) pa_nil)))
      (pss_cons (ps_expr (pe_bm PySem.F.plainAttrs_list PySem.F.slot_list_append PySem.F.type_list_append mt_append (pv 15) (pa_cons (pe_callTy call_tuple_of (by rfl) T.z_tuple (by decide +kernel) (pa_cons (pe_lc (own := [("pair", 16)]) (g := (gName 16)) (tt := tYes) rfl nd (pi_any (pe_ix ix_seq (pv 15) pe_int (fun _ _ => rfl))) (blkOk_by (N := N__law_small) (sc := (defScope s__law_small)) (by decide +kernel)) (fun _ _ _ _ _ => (pg_name (i := 16) nd rfl (by first | exact Or.inl rfl | exact Or.inr rfl))) (fun _ _ _ _ _ => pts_nil) (fun _ _ _ _ _ => (pe_ix ix_seq (pv 16) pe_int (fun _ _ => rfl)))) pa_nil)) pa_nil)))
      (pss_cons (ps_if (pt_truth (pv 12) (by intro _; rfl)) (pss_cons (ps_expr (pe_bm PySem.F.plainAttrs_list PySem.F.slot_list_append PySem.F.type_list_append mt_append (pv 15) (pa_cons (pe_call G__law_table (hr.mono (by decide)) (by rfl) T.m__law_table T.F__law_table.kp T.b__law_table .nil pass0 (pa_cons (pv 12) pa_nil)) pa_nil)))
      pss_nil) (pss_cons (ps_expr (pe_bm PySem.F.plainAttrs_list PySem.F.slot_list_append PySem.F.type_list_append mt_append (pv 15) (pa_cons pe_non pa_nil)))
      pss_nil))
      (pss_cons (ps_expr (pe_bm PySem.F.plainAttrs_list PySem.F.slot_list_append PySem.F.type_list_append mt_append (pv 15) (pa_cons (pe_call G__law_table (hr.mono (by decide)) (by rfl) T.m__law_table T.F__law_table.kp T.b__law_table .nil pass0 (pa_cons (pe_op o_add (pv 8) (pv 11)) pa_nil)) pa_nil)))
      (pss_cons (ps_expr (pe_bm PySem.F.plainAttrs_list PySem.F.slot_list_append PySem.F.type_list_append mt_append (pv 15) (pa_cons (pe_cmpR (c_eq hr.units) (pe_callB call_len (by rfl) T.z_len (by decide +kernel) (pa_cons (pv 12) pa_nil)) (pe_callB call_len (by rfl) T.z_len (by decide +kernel) (pa_cons (pv 8) pa_nil)) (nomark _)) pa_nil)))
      (pss_cons (ps_expr (pe_bm PySem.F.plainAttrs_list PySem.F.slot_list_append PySem.F.type_list_append mt_append (pv 15) (pa_cons (pe_cmpR (c_eq hr.units) (pe_callB call_len (by rfl) T.z_len (by decide +kernel) (pa_cons (pv 12) pa_nil)) (pe_callB call_len (by rfl) T.z_len (by decide +kernel) (pa_cons (pv 11) pa_nil)) (nomark _)) pa_nil)))
      (pss_cons (ps_if (pt_not (pt_truth (pe_call G__law_asked (hr.mono (by decide)) (by rfl) T.m__law_asked T.F__law_asked.kp T.b__law_asked .nil pass0 (pa_cons (pv 13) (pa_cons (pv 14) (pa_cons (pv 15) pa_nil)))) (by intro _; rfl))) (pss_cons (ps_ret pe_bl)
      pss_nil) pss_nil)
      (pss_cons (ps_set (i := 17) nd rfl (by first | exact Or.inl rfl | exact Or.inr rfl) (pe_lst (pa_cons (pe_ix ix_seq (pv 8) (pe_call G__law_draw (hr.mono (by decide)) (by rfl) T.m__law_draw T.F__law_draw.kp T.b__law_draw .nil pass0 (pa_cons (pv 0) (pa_cons (pe_callB call_len (by rfl) T.z_len (by decide +kernel) (pa_cons (pv 8) pa_nil)) pa_nil))) (fun _ _ => rfl)) (pa_cons (pe_ix ix_seq (pv 11) (pe_call G__law_draw (hr.mono (by decide)) (by rfl) T.m__law_draw T.F__law_draw.kp T.b__law_draw .nil pass0 (pa_cons (pv 0) (pa_cons (pe_callB call_len (by rfl) T.z_len (by decide +kernel) (pa_cons (pv 11) pa_nil)) pa_nil))) (fun _ _ => rfl)) pa_nil))))
      (pss_cons (ps_for PassesOwn.never rfl (pi_range1 (by rfl) T.z_range (pa_cons pe_int pa_nil)) (pg_name (i := 18) nd rfl (by first | exact Or.inl rfl | exact Or.inr rfl)) (pss_cons (ps_set (i := 9) nd rfl (by first | exact Or.inl rfl | exact Or.inr rfl) (pe_tup (pa_cons pe_int pa_nil)))
      (pss_cons (ps_for PassesOwn.never rfl (pi_range1 (by rfl) T.z_range (pa_cons (pv 1) pa_nil)) (pg_name (i := 4) nd rfl (by first | exact Or.inl rfl | exact Or.inr rfl)) (pss_cons (ps_set (i := 9) nd rfl (by first | exact Or.inl rfl | exact Or.inr rfl) (pe_op o_add (pv 9) (pe_tup (pa_cons (pe_op o_add (pe_op o_sub (pe_ix ix_seq (pv 2) (pv 4) (fun _ _ => rfl)) pe_int) (pe_call G__law_draw (hr.mono (by decide)) (by rfl) T.m__law_draw T.F__law_draw.kp T.b__law_draw .nil pass0 (pa_cons (pv 0) (pa_cons (pe_op o_add (pe_ix ix_seq (pv 3) (pv 4) (fun _ _ => rfl)) pe_int) pa_nil)))) pa_nil))))
      pss_nil))
      (pss_cons (ps_expr (pe_bm PySem.F.plainAttrs_list PySem.F.slot_list_append PySem.F.type_list_append mt_append (pv 17) (pa_cons (pv 9) pa_nil)))
      pss_nil))))
      (pss_cons (ps_ret (pe_call G__law_held (hr.mono (by decide)) (by rfl) T.m__law_held T.F__law_held.kp T.b__law_held .nil pass0 (pa_cons (pv 0) (pa_cons (pv 13) (pa_cons (pv 17) pa_nil)))))
      pss_nil)))))))))))))))))))))))))
def t__law_wide (K : PySem.W.Frag) (sp__law_held : Sp) (sp__law_draw : Sp) (sp__law_asked : Sp) (sp__law_closing : Sp) (sp__law_wide_table : Sp) : TS :=
    (tSeq (tAsg (tOp (rIx K) (tLst (tCons (tC (.int 5)) (tCons (tC (.int 6)) (tCons (tC (.int 7)) (tCons (tC (.int 8)) (tCons (tC (.int 5)) (tCons (tC (.int 6)) (tCons (tC (.int 7)) (tCons (tC (.int 12)) tNil))))))))) (tCall sp__law_draw [] E0 (tCons (tVar 0) (tCons (tC (.int 8)) tNil)))) (gName 1))
    (tSeq (tAsg (tTup (tCons (tC (.int 0)) tNil)) (gName 2))
    (tSeq (tAsg (tTup (tCons (tC (.int 0)) tNil)) (gName 3))
    (tSeq (tFor (iRng1 (tCons (tVar 1) tNil)) (gName 4) (tSeq (tAsg (tOp (xAdd K) (tOp (rIx K) (tLst (tCons (tC (.int 0)) (tCons (tUn xNeg (tC (.int 7))) (tCons (tOp xPow (tC (.int 10)) (tC (.int 30))) (tCons (tUn xNeg (tOp xPow (tC (.int 10)) (tC (.int 9)))) tNil))))) (tCall sp__law_draw [] E0 (tCons (tVar 0) (tCons (tC (.int 4)) tNil)))) (tCall sp__law_draw [] E0 (tCons (tVar 0) (tCons (tC (.int 40)) tNil)))) (gName 5))
    (tSeq (tAsg (tOp (xAdd K) (tVar 2) (tTup (tCons (tVar 5) tNil))) (gName 2))
    (tSeq (tAsg (tOp (xAdd K) (tVar 3) (tTup (tCons (tOp (xAdd K) (tVar 5) (tOp (rIx K) (tLst (tCons (tC (.int 0)) (tCons (tC (.int 0)) (tCons (tC (.int 0)) (tCons (tC (.int 1)) (tCons (tUn xNeg (tC (.int 1))) tNil)))))) (tCall sp__law_draw [] E0 (tCons (tVar 0) (tCons (tC (.int 5)) tNil))))) tNil))) (gName 3))
    tNext))))
    (tSeq (tAsg (tCall sp__law_wide_table [] E0 (tCons (tVar 0) (tCons (tVar 2) tNil))) (gName 6))
    (tSeq (tAsg (tCall sp__law_wide_table [] E0 (tCons (tVar 0) (tCons (tVar 3) tNil))) (gName 7))
    (tSeq (tAsg (tOp (xAdd K) (tVar 1) (tC (.int 1))) (gName 8))
    (tSeq (tAsg (tLst (tCons (tLc (iRngX (tCons (tC (.int 1)) (tCons (tVar 8) tNil))) (gName 4) tYes (tTup (tCons (tUn xNeg (tOp (rIx K) (tOp (rIx K) (tVar 6) (tC (.int 0))) (tVar 4))) (tCons (tOp (rIx K) (tOp (rIx K) (tVar 6) (tVar 4)) (tC (.int 0))) tNil))) [4]) tNil)) (gName 9))
    (tSeq (tDrop (tBM K "list" rAppend (tVar 9) (tCons (tCB (xTuple K) (tCons (tLc (iRngX (tCons (tC (.int 1)) (tCons (tVar 8) tNil))) (gName 4) tYes (tUn xNeg (tOp (rIx K) (tOp (rIx K) (tVar 6) (tC (.int 0))) (tVar 4))) [4]) tNil)) tNil)))
    (tSeq (tDrop (tBM K "list" rAppend (tVar 9) (tCons (tCB (xTuple K) (tCons (tLc (iRngX (tCons (tC (.int 1)) (tCons (tVar 8) tNil))) (gName 4) tYes (tOp (rIx K) (tOp (rIx K) (tVar 6) (tVar 4)) (tC (.int 0))) [4]) tNil)) tNil)))
    (tSeq (tAsg (tLst tNil) (gName 10))
    (tSeq (tAsg (tLst tNil) (gName 11))
    (tSeq (tFor (iRng1 (tCons (tVar 8) tNil)) (gName 12) (tSeq (tDrop (tBM K "list" rAppend (tVar 10) (tCons (tLc (iRng1 (tCons (tVar 8) tNil)) (gName 13) tYes (tCB (xMin2) (tCons (tOp (rIx K) (tOp (rIx K) (tVar 6) (tVar 12)) (tVar 13)) (tCons (tOp (rIx K) (tOp (rIx K) (tVar 7) (tVar 12)) (tVar 13)) tNil))) [13]) tNil)))
    (tSeq (tDrop (tBM K "list" rAppend (tVar 11) (tCons (tCB (xTuple K) (tCons (tLc (iRng1 (tCons (tVar 8) tNil)) (gName 13) tYes (tCB (xMax2) (tCons (tOp (rIx K) (tOp (rIx K) (tVar 6) (tVar 12)) (tVar 13)) (tCons (tOp (rIx K) (tOp (rIx K) (tVar 7) (tVar 12)) (tVar 13)) tNil))) [13]) tNil)) tNil)))
    tNext)))
    (tSeq (tDrop (tBM K "list" rAppend (tVar 9) (tCons (tCall sp__law_closing [] E0 (tCons (tVar 10) tNil)) tNil)))
    (tSeq (tDrop (tBM K "list" rAppend (tVar 9) (tCons (tCB (xTuple K) (tCons (tVar 11) tNil)) tNil)))
    (tSeq (tDrop (tBM K "list" rAppend (tVar 9) (tCons (tOp (xEq K) (tCB (xTuple K) (tCons (tVar 11) tNil)) (tVar 7)) tNil)))
    (tSeq (tDrop (tBM K "list" rAppend (tVar 9) (tCons (tOp (xEq K) (tCB (xTuple K) (tCons (tVar 11) tNil)) (tVar 6)) tNil)))
    (tSeq (tIfS (tNot (tTru K (tCall sp__law_asked [] E0 (tCons (tVar 6) (tCons (tVar 7) (tCons (tVar 9) tNil)))))) (tSeq (tRet (tC (.bl false)))
    tNext) tNext)
    (tSeq (tAsg (tLst (tCons (tVar 2) (tCons (tVar 3) tNil))) (gName 14))
    (tSeq (tFor (iRng1 (tCons (tC (.int 5)) tNil)) (gName 15) (tSeq (tAsg (tOp (xAdd K) (tC (.int 1)) (tCall sp__law_draw [] E0 (tCons (tVar 0) (tCons (tVar 1) tNil)))) (gName 4))
    (tSeq (tDrop (tBM K "list" rAppend (tVar 14) (tCons (tOp (xAdd K) (tOp (xAdd K) (tSl (xSl K) (tVar 2) tNoPart (tPart (tVar 4))) (tTup (tCons (tOp xSub (tOp (xAdd K) (tOp (rIx K) (tVar 2) (tVar 4)) (tCall sp__law_draw [] E0 (tCons (tVar 0) (tCons (tC (.int 13)) tNil)))) (tC (.int 6))) tNil))) (tSl (xSl K) (tVar 2) (tPart (tOp (xAdd K) (tVar 4) (tC (.int 1)))) tNoPart)) tNil)))
    tNext)))
    (tSeq (tRet (tCall sp__law_held [] E0 (tCons (tVar 0) (tCons (tVar 6) (tCons (tVar 14) tNil)))))
    tNext)))))))))))))))))))))
theorem ok__law_wide {P : Program} {w : World} {K : PySem.W.Frag} {mg : Str → Option Value} {base : Heap} {A : Ads} {D : Fds} (T : Txt K mg A D) {sp__law_held : Sp} (G__law_held : FnOk P w K mg base CX0 2 A._law_held D._law_held ["hand", "table", "points"] sp__law_held) {sp__law_draw : Sp} (G__law_draw : FnOk P w K mg base CX0 1 A._law_draw D._law_draw ["hand", "many"] sp__law_draw) {sp__law_asked : Sp} (G__law_asked : FnOk P w K mg base CX0 5 A._law_asked D._law_asked ["first", "second", "dues"] sp__law_asked) {sp__law_closing : Sp} (G__law_closing : FnOk P w K mg base CX0 1 A._law_closing D._law_closing ["rows"] sp__law_closing) {sp__law_wide_table : Sp} (G__law_wide_table : FnOk P w K mg base CX0 3 A._law_wide_table D._law_wide_table ["hand", "witness"] sp__law_wide_table) {sp : Sp} (len : ∀ vs H Q E, sp vs H Q E → vs.length = 1)
    (rd : ∀ vs H Q E, sp vs H Q E → t__law_wide K sp__law_held sp__law_draw sp__law_asked sp__law_closing sp__law_wide_table { nx := fun _ H' => Q .non H', rt := Q } (L2.start N__law_wide vs) H) : FnOk P w K mg base CX0 6 A._law_wide D._law_wide ["hand"] sp := by
  refine T.F__law_wide.ok sc__law_wide len (fun cdv A' outer s H vs Q E hr h => ⟨t__law_wide K sp__law_held sp__law_draw sp__law_asked sp__law_closing sp__law_wide_table, ?_, rd vs H Q E h⟩)
  have nd := sc__law_wide.nd
  exact (pss_cons (ps_set (i := 1) nd rfl (by first | exact Or.inl rfl | exact Or.inr rfl) (pe_ix ix_seq (pe_lst (pa_cons pe_int (pa_cons pe_int (pa_cons pe_int (pa_cons pe_int (pa_cons pe_int (pa_cons pe_int (pa_cons pe_int (pa_cons pe_int pa_nil))))))))) (pe_call G__law_draw (hr.mono (by decide)) (by rfl) T.m__law_draw T.F__law_draw.kp T.b__law_draw .nil pass0 (pa_cons (pv 0) (pa_cons pe_int pa_nil))) (fun _ _ => rfl)))
      (pss_cons (ps_set (i := 2) nd rfl (by first | exact Or.inl rfl | exact Or.inr rfl) (pe_tup (pa_cons pe_int pa_nil)))
      (pss_cons (ps_set (i := 3) nd rfl (by first | exact Or.inl rfl | exact Or.inr rfl) (pe_tup (pa_cons pe_int pa_nil)))
      (pss_cons (ps_for PassesOwn.never rfl (pi_range1 (by rfl) T.z_range (pa_cons (pv 1) pa_nil)) (pg_name (i := 4) nd rfl (by first | exact Or.inl rfl | exact Or.inr rfl)) (pss_cons (ps_set (i := 5) nd rfl (by first | exact Or.inl rfl | exact Or.inr rfl) (pe_op o_add (pe_ix ix_seq (pe_lst (pa_cons pe_int (pa_cons (pe_un un_neg pe_int) (pa_cons (pe_op o_pow pe_int pe_int) (pa_cons (pe_un un_neg (pe_op o_pow pe_int pe_int)) pa_nil))))) (pe_call G__law_draw (hr.mono (by decide)) (by rfl) T.m__law_draw T.F__law_draw.kp T.b__law_draw .nil pass0 (pa_cons (pv 0) (pa_cons pe_int pa_nil))) (fun _ _ => rfl)) (pe_call G__law_draw (hr.mono (by decide)) (by rfl) T.m__law_draw T.F__law_draw.kp T.b__law_draw .nil pass0 (pa_cons (pv 0) (pa_cons pe_int pa_nil)))))
      (pss_cons (ps_set (i := 2) nd rfl (by first | exact Or.inl rfl | exact Or.inr rfl) (pe_op o_add (pv 2) (pe_tup (pa_cons (pv 5) pa_nil))))
      (pss_cons (ps_set (i := 3) nd rfl (by first | exact Or.inl rfl | exact Or.inr rfl) (pe_op o_add (pv 3) (pe_tup (pa_cons (pe_op o_add (pv 5) (pe_ix ix_seq (pe_lst (pa_cons pe_int (pa_cons pe_int (pa_cons pe_int (pa_cons pe_int (pa_cons (pe_un un_neg pe_int) pa_nil)))))) (pe_call G__law_draw (hr.mono (by decide)) (by rfl) T.m__law_draw T.F__law_draw.kp T.b__law_draw .nil pass0 (pa_cons (pv 0) (pa_cons pe_int pa_nil))) (fun _ _ => rfl))) pa_nil))))
      pss_nil))))
      (pss_cons (ps_set (i := 6) nd rfl (by first | exact Or.inl rfl | exact Or.inr rfl) (pe_call G__law_wide_table (hr.mono (by decide)) (by rfl) T.m__law_wide_table T.F__law_wide_table.kp T.b__law_wide_table .nil pass0 (pa_cons (pv 0) (pa_cons (pv 2) pa_nil))))
      (pss_cons (ps_set (i := 7) nd rfl (by first | exact Or.inl rfl | exact Or.inr rfl) (pe_call G__law_wide_table (hr.mono (by decide)) (by rfl) T.m__law_wide_table T.F__law_wide_table.kp T.b__law_wide_table .nil pass0 (pa_cons (pv 0) (pa_cons (pv 3) pa_nil))))
      (pss_cons (ps_set (i := 8) nd rfl (by first | exact Or.inl rfl | exact Or.inr rfl) (pe_op o_add (pv 1) pe_int))
      (pss_cons (ps_set (i := 9) nd rfl (by first | exact Or.inl rfl | exact Or.inr rfl) (pe_lst (pa_cons (pe_lc (own := [("k", 4)]) (g := (gName 4)) (tt := tYes) rfl nd (pi_rangeX (by rfl) T.z_range (pa_cons pe_int (pa_cons (pv 8) pa_nil))) (blkOk_by (N := N__law_wide) (sc := (defScope s__law_wide)) (by decide +kernel)) (fun _ _ _ _ _ => (pg_name (i := 4) nd rfl (by first | exact Or.inl rfl | exact Or.inr rfl))) (fun _ _ _ _ _ => pts_nil) (fun _ _ _ _ _ => (pe_tup (pa_cons (pe_un un_neg (pe_ix ix_seq (pe_ix ix_seq (pv 6) pe_int (fun _ _ => rfl)) (pv 4) (fun _ _ => rfl))) (pa_cons (pe_ix ix_seq (pe_ix ix_seq (pv 6) (pv 4) (fun _ _ => rfl)) pe_int (fun _ _ => rfl)) pa_nil))))) pa_nil)))
      (pss_cons (ps_expr (pe_bm PySem.F.plainAttrs_list PySem.F.slot_list_append PySem.F.type_list_append mt_append (pv 9) (pa_cons (pe_callTy call_tuple_of (by rfl) T.z_tuple (by decide +kernel) (pa_cons (pe_lc (own := [("k", 4)]) (g := (gName 4)) (tt := tYes) rfl nd (pi_rangeX (by rfl) T.z_range (pa_cons pe_int (pa_cons (pv 8) pa_nil))) (blkOk_by (N := N__law_wide) (sc := (defScope s__law_wide)) (by decide +kernel)) (fun _ _ _ _ _ => (pg_name (i := 4) nd rfl (by first | exact Or.inl rfl | exact Or.inr rfl))) (fun _ _ _ _ _ => pts_nil) (fun _ _ _ _ _ => (pe_un un_neg (pe_ix ix_seq (pe_ix ix_seq (pv 6) pe_int (fun _ _ => rfl)) (pv 4) (fun _ _ => rfl))))) pa_nil)) pa_nil)))
      (pss_cons (ps_expr (pe_bm PySem.F.plainAttrs_list PySem.F.slot_list_append PySem.F.type_list_append mt_append (pv 9) (pa_cons (pe_callTy call_tuple_of (by rfl) T.z_tuple (by decide +kernel) (pa_cons (pe_lc (own := [("k", 4)]) (g := (gName 4)) (tt := tYes) rfl nd (pi_rangeX (by rfl) T.z_range (pa_cons pe_int (pa_cons (pv 8) pa_nil))) (blkOk_by (N := N__law_wide) (sc := (defScope s__law_wide)) (by decide +kernel)) (fun _ _ _ _ _ => (pg_name (i := 4) nd rfl (by first | exact Or.inl rfl | exact Or.inr rfl))) (fun _ _ _ _ _ => pts_nil) (fun _ _ _ _ _ => (pe_ix ix_seq (pe_ix ix_seq (pv 6) (pv 4) (fun _ _ => rfl)) pe_int (fun _ _ => rfl)))) pa_nil)) pa_nil)))
      (pss_cons (ps_set (i := 10) nd rfl (by first | exact Or.inl rfl | exact Or.inr rfl) (pe_lst pa_nil))
      (pss_cons (ps_set (i := 11) nd rfl (by first | exact Or.inl rfl | exact Or.inr rfl) (pe_lst pa_nil))
      (pss_cons (ps_for PassesOwn.never rfl (pi_range1 (by rfl) T.z_range (pa_cons (pv 8) pa_nil)) (pg_name (i := 12) nd rfl (by first | exact Or.inl rfl | exact Or.inr rfl)) (pss_cons (ps_expr (pe_bm PySem.F.plainAttrs_list PySem.F.slot_list_append PySem.F.type_list_append mt_append (pv 10) (pa_cons (pe_lc (own := [("v", 13)]) (g := (gName 13)) (tt := tYes) rfl nd (pi_range1 (by rfl) T.z_range (pa_cons (pv 8) pa_nil)) (blkOk_by (N := N__law_wide) (sc := (defScope s__law_wide)) (by decide +kernel)) (fun _ _ _ _ _ => (pg_name (i := 13) nd rfl (by first | exact Or.inl rfl | exact Or.inr rfl))) (fun _ _ _ _ _ => pts_nil) (fun _ _ _ _ _ => (pe_callB (call_min2 rfl) (by rfl) T.z_min (by decide +kernel) (pa_cons (pe_ix ix_seq (pe_ix ix_seq (pv 6) (pv 12) (fun _ _ => rfl)) (pv 13) (fun _ _ => rfl)) (pa_cons (pe_ix ix_seq (pe_ix ix_seq (pv 7) (pv 12) (fun _ _ => rfl)) (pv 13) (fun _ _ => rfl)) pa_nil))))) pa_nil)))
      (pss_cons (ps_expr (pe_bm PySem.F.plainAttrs_list PySem.F.slot_list_append PySem.F.type_list_append mt_append (pv 11) (pa_cons (pe_callTy call_tuple_of (by rfl) T.z_tuple (by decide +kernel) (pa_cons (pe_lc (own := [("v", 13)]) (g := (gName 13)) (tt := tYes) rfl nd (pi_range1 (by rfl) T.z_range (pa_cons (pv 8) pa_nil)) (blkOk_by (N := N__law_wide) (sc := (defScope s__law_wide)) (by decide +kernel)) (fun _ _ _ _ _ => (pg_name (i := 13) nd rfl (by first | exact Or.inl rfl | exact Or.inr rfl))) (fun _ _ _ _ _ => pts_nil) (fun _ _ _ _ _ => (pe_callB (call_max2 rfl) (by rfl) T.z_max (by decide +kernel) (pa_cons (pe_ix ix_seq (pe_ix ix_seq (pv 6) (pv 12) (fun _ _ => rfl)) (pv 13) (fun _ _ => rfl)) (pa_cons (pe_ix ix_seq (pe_ix ix_seq (pv 7) (pv 12) (fun _ _ => rfl)) (pv 13) (fun _ _ => rfl)) pa_nil))))) pa_nil)) pa_nil)))
      pss_nil)))
      (pss_cons (ps_expr (pe_bm PySem.F.plainAttrs_list PySem.F.slot_list_append PySem.F.type_list_append mt_append (pv 9) (pa_cons (pe_call G__law_closing (hr.mono (by decide)) (by rfl) T.m__law_closing T.F__law_closing.kp T.b__law_closing .nil pass0 (pa_cons (pv 10) pa_nil)) pa_nil)))
      (pss_cons (ps_expr (pe_bm PySem.F.plainAttrs_list PySem.F.slot_list_append PySem.F.type_list_append mt_append (pv 9) (pa_cons (pe_callTy call_tuple_of (by rfl) T.z_tuple (by decide +kernel) (pa_cons (pv 11) pa_nil)) pa_nil)))
      (pss_cons (ps_expr (pe_bm PySem.F.plainAttrs_list PySem.F.slot_list_append PySem.F.type_list_append mt_append (pv 9) (pa_cons (pe_cmpR (c_eq hr.units) (pe_callTy call_tuple_of (by rfl) T.z_tuple (by decide +kernel) (pa_cons (pv 11) pa_nil)) (pv 7) (nomark _)) pa_nil)))
      (pss_cons (ps_expr (pe_bm PySem.F.plainAttrs_list PySem.F.slot_list_append PySem.F.type_list_append mt_append (pv 9) (pa_cons (pe_cmpR (c_eq hr.units) (pe_callTy call_tuple_of (by rfl) T.z_tuple (by decide +kernel) (pa_cons (pv 11) pa_nil)) (pv 6) (nomark _)) pa_nil)))
      (pss_cons (ps_if (pt_not (pt_truth (pe_call G__law_asked (hr.mono (by decide)) (by rfl) T.m__law_asked T.F__law_asked.kp T.b__law_asked .nil pass0 (pa_cons (pv 6) (pa_cons (pv 7) (pa_cons (pv 9) pa_nil)))) (by intro _; rfl))) (pss_cons (ps_ret pe_bl)
      pss_nil) pss_nil)
      (pss_cons (ps_set (i := 14) nd rfl (by first | exact Or.inl rfl | exact Or.inr rfl) (pe_lst (pa_cons (pv 2) (pa_cons (pv 3) pa_nil))))
      (pss_cons (ps_for PassesOwn.never rfl (pi_range1 (by rfl) T.z_range (pa_cons pe_int pa_nil)) (pg_name (i := 15) nd rfl (by first | exact Or.inl rfl | exact Or.inr rfl)) (pss_cons (ps_set (i := 4) nd rfl (by first | exact Or.inl rfl | exact Or.inr rfl) (pe_op o_add pe_int (pe_call G__law_draw (hr.mono (by decide)) (by rfl) T.m__law_draw T.F__law_draw.kp T.b__law_draw .nil pass0 (pa_cons (pv 0) (pa_cons (pv 1) pa_nil)))))
      (pss_cons (ps_expr (pe_bm PySem.F.plainAttrs_list PySem.F.slot_list_append PySem.F.type_list_append mt_append (pv 14) (pa_cons (pe_op o_add (pe_op o_add (pe_slice s_any (pv 2) po_none (po_some (pv 4))) (pe_tup (pa_cons (pe_op o_sub (pe_op o_add (pe_ix ix_seq (pv 2) (pv 4) (fun _ _ => rfl)) (pe_call G__law_draw (hr.mono (by decide)) (by rfl) T.m__law_draw T.F__law_draw.kp T.b__law_draw .nil pass0 (pa_cons (pv 0) (pa_cons pe_int pa_nil)))) pe_int) pa_nil))) (pe_slice s_any (pv 2) (po_some (pe_op o_add (pv 4) pe_int)) po_none)) pa_nil)))
      pss_nil)))
      (pss_cons (ps_ret (pe_call G__law_held (hr.mono (by decide)) (by rfl) T.m__law_held T.F__law_held.kp T.b__law_held .nil pass0 (pa_cons (pv 0) (pa_cons (pv 6) (pa_cons (pv 14) pa_nil)))))
      pss_nil)))))))))))))))))))))
def t_law (K : PySem.W.Frag) (sp__law_small : Sp) (sp__law_draw : Sp) (sp__law_wide : Sp) (sp__law_hand : Sp) : TS :=
    (tSeq (tAsg (tCall sp__law_hand [] E0 (tCons (tVar 0) tNil)) (gName 1))
    (tSeq (tIfS (tTest (tOp (xEq K) (tCall sp__law_draw [] E0 (tCons (tVar 1) (tCons (tC (.int 5)) tNil))) (tC (.int 4)))) (tSeq (tRet (tCall sp__law_wide [] E0 (tCons (tVar 1) tNil)))
    tNext) tNext)
    (tSeq (tRet (tCall sp__law_small [] E0 (tCons (tVar 1) tNil)))
    tNext)))
theorem ok_law {P : Program} {w : World} {K : PySem.W.Frag} {mg : Str → Option Value} {base : Heap} {A : Ads} {D : Fds} (T : Txt K mg A D) {sp__law_small : Sp} (G__law_small : FnOk P w K mg base CX0 6 A._law_small D._law_small ["hand"] sp__law_small) {sp__law_draw : Sp} (G__law_draw : FnOk P w K mg base CX0 1 A._law_draw D._law_draw ["hand", "many"] sp__law_draw) {sp__law_wide : Sp} (G__law_wide : FnOk P w K mg base CX0 6 A._law_wide D._law_wide ["hand"] sp__law_wide) {sp__law_hand : Sp} (G__law_hand : FnOk P w K mg base CX0 1 A._law_hand D._law_hand ["script"] sp__law_hand) {sp : Sp} (len : ∀ vs H Q E, sp vs H Q E → vs.length = 1)
    (rd : ∀ vs H Q E, sp vs H Q E → t_law K sp__law_small sp__law_draw sp__law_wide sp__law_hand { nx := fun _ H' => Q .non H', rt := Q } (L2.start N_law vs) H) : FnOk P w K mg base CX0 7 A.law D.law ["script"] sp := by
  refine T.F_law.ok sc_law len (fun cdv A' outer s H vs Q E hr h => ⟨t_law K sp__law_small sp__law_draw sp__law_wide sp__law_hand, ?_, rd vs H Q E h⟩)
  have nd := sc_law.nd
  exact (pss_cons (ps_set (i := 1) nd rfl (by first | exact Or.inl rfl | exact Or.inr rfl) (pe_call G__law_hand (hr.mono (by decide)) (by rfl) T.m__law_hand T.F__law_hand.kp T.b__law_hand .nil pass0 (pa_cons (pv 0) pa_nil)))
      (pss_cons (ps_if (pt_cmpR (c_eq hr.units) (pe_call G__law_draw (hr.mono (by decide)) (by rfl) T.m__law_draw T.F__law_draw.kp T.b__law_draw .nil pass0 (pa_cons (pv 1) (pa_cons pe_int pa_nil))) pe_int (nomark _)) (pss_cons (ps_ret (pe_call G__law_wide (hr.mono (by decide)) (by rfl) T.m__law_wide T.F__law_wide.kp T.b__law_wide .nil pass0 (pa_cons (pv 1) pa_nil)))
      pss_nil) pss_nil)
      (pss_cons (ps_ret (pe_call G__law_small (hr.mono (by decide)) (by rfl) T.m__law_small T.F__law_small.kp T.b__law_small .nil pass0 (pa_cons (pv 1) pa_nil)))
      pss_nil)))
end K52

set_option maxHeartbeats 2000000
namespace DL
open PySem PySem.Spec PyProof.Rows L2

/-! ### operators over data -/
section
variable {K : PySem.W.Frag} {B : Base} {Γ : List Slot} {ta tb tc : TE} {tt tu : TT} {d da db : D} {ds es xs ys : List D} {i j : Int} {k n : Nat}
theorem od_v {r : R2} {x y z : V} (h : ∀ H (Q : VK), Q z H → r x y H Q) : OpD r (.v x) (.v y) (fun d => d = .v z) := fun M H a b _ ra rb Q q => by
  rw [rep_v.mp ra, rep_v.mp rb]
  exact h H Q (q _ z H rfl (Same.refl H) (rep_v.mpr rfl))
theorem un_v {r : V → Hp → VK → Prop} {x z : V} (h : ∀ H (Q : VK), Q z H → r x H Q) : UnD r (.v x) (fun d => d = .v z) := fun M H a _ ra Q q => by
  rw [rep_v.mp ra]
  exact h H Q (q _ z H rfl (Same.refl H) (rep_v.mpr rfl))
theorem cb_v {r : List V → Hp → VK → Prop} {xs : List V} {z : V} (h : ∀ H (Q : VK), Q z H → r xs H Q) : CallD r (xs.map D.v) (fun d => d = .v z) := fun M H a _ ra Q q => by
  rw [reps_vs.mp ra]
  exact h H Q (q _ z H rfl (Same.refl H) (rep_v.mpr rfl))
theorem ed_un {r : V → Hp → VK → Prop} {P : D → Prop} (ha : Ed B Γ ta da) (hr : UnD r da P) : Ev B Γ (tUn r ta) P := ev_un ha fun _ e => by rw [e]; exact hr
theorem ea_1 (ha : Ed B Γ ta da) : Ea B Γ (tCons ta tNil) (fun x => x = [da]) := ead_cons ha ea_nil
theorem ea_2 (ha : Ed B Γ ta da) (hb : Ed B Γ tb db) : Ea B Γ (tCons ta (tCons tb tNil)) (fun x => x = [da, db]) := ead_cons ha (ead_cons hb ea_nil)
theorem Ev.eq {d e : D} {te : TE} (h : Ed B Γ te d) (z : d = e) : Ed B Γ te e := z ▸ h
theorem EvN.eq {d e : List D} {te : TE} (h : EdN B Γ te d) (z : d = e) : EdN B Γ te e := z ▸ h
theorem EvN.imp {te : TE} {R R' : List D → Prop} (h : EvN B Γ te R) (f : ∀ d, R d → R' d) : EvN B Γ te R' := fun as H σ S Q q => h as H σ S Q fun d p vs H' r => q d p vs H' (f d r)

/-! ints -/
theorem od_add : OpD (xAdd K) (.int i) (.int j) (fun d => d = .int (i + j)) := od_v fun H Q q => .inl ⟨i, j, rfl, rfl, q⟩
theorem od_sub : OpD xSub (.int i) (.int j) (fun d => d = .int (i - j)) := od_v fun H Q q => ⟨i, j, rfl, rfl, q⟩
theorem od_mul (h : CMulW i j) : OpD xMul (.int i) (.int j) (fun d => d = .int (i * j)) := od_v fun H Q q => .inl ⟨i, j, rfl, rfl, h, q⟩
theorem od_div (h : 0 < j ∧ j < 1073741824) : OpD xDiv (.int i) (.int j) (fun d => d = .int (i / j)) := od_v fun H Q q => ⟨i, j, rfl, rfl, h, q⟩
theorem od_mod (h : 0 < j) : OpD xMod (.int i) (.int j) (fun d => d = .int (i % j)) := od_v fun H Q q => ⟨i, j, rfl, rfl, h, q⟩
theorem od_pow (h : CPow i j) : OpD xPow (.int i) (.int j) (fun d => d = .int (i ^ j.toNat)) := od_v fun H Q q => ⟨i, j, rfl, rfl, h, q⟩
theorem ed_add (ha : Ed B Γ ta (.int i)) (hb : Ed B Γ tb (.int j)) : Ed B Γ (tOp (xAdd K) ta tb) (.int (i + j)) := ed_op ha hb od_add
theorem ed_sub (ha : Ed B Γ ta (.int i)) (hb : Ed B Γ tb (.int j)) : Ed B Γ (tOp xSub ta tb) (.int (i - j)) := ed_op ha hb od_sub
theorem ed_neg (ha : Ed B Γ ta (.int i)) : Ed B Γ (tUn xNeg ta) (.int (-i)) := ed_un ha (un_v fun H Q q => ⟨i, rfl, q⟩)
theorem ed_mul (ha : Ed B Γ ta (.int i)) (hb : Ed B Γ tb (.int j)) (h : CMulW i j) : Ed B Γ (tOp xMul ta tb) (.int (i * j)) := ed_op ha hb (od_mul h)
theorem ed_div (ha : Ed B Γ ta (.int i)) (hb : Ed B Γ tb (.int j)) (h : 0 < j ∧ j < 1073741824) : Ed B Γ (tOp xDiv ta tb) (.int (i / j)) := ed_op ha hb (od_div h)
theorem ed_mod (ha : Ed B Γ ta (.int i)) (hb : Ed B Γ tb (.int j)) (h : 0 < j) : Ed B Γ (tOp xMod ta tb) (.int (i % j)) := ed_op ha hb (od_mod h)
theorem ed_pow (ha : Ed B Γ ta (.int i)) (hb : Ed B Γ tb (.int j)) (h : CPow i j) : Ed B Γ (tOp xPow ta tb) (.int (i ^ j.toNat)) := ed_op ha hb (od_pow h)
/-- an int with p -/
abbrev Ei (B : Base) (Γ : List Slot) (te : TE) (p : Int → Prop) : Prop := Ev B Γ te (fun d => ∃ i, d = .int i ∧ p i)
theorem Ei.of (h : Ed B Γ ta (.int i)) : Ei B Γ ta (fun x => x = i) := h.imp fun d e => ⟨i, e, rfl⟩
section
variable {p q r : Int → Prop}
theorem ei_add (ha : Ei B Γ ta p) (hb : Ei B Γ tb q) (h : ∀ i j, p i → q j → r (i + j)) : Ei B Γ (tOp (xAdd K) ta tb) r := ev_op ha hb fun _ _ ⟨i, e1, p1⟩ ⟨j, e2, p2⟩ => by
  subst e1 e2
  intro M H x y hM rx ry Q k
  exact od_add M H x y hM rx ry Q fun d z H' e => k d z H' ⟨_, e, h i j p1 p2⟩
theorem ei_sub (ha : Ei B Γ ta p) (hb : Ei B Γ tb q) (h : ∀ i j, p i → q j → r (i - j)) : Ei B Γ (tOp xSub ta tb) r := ev_op ha hb fun _ _ ⟨i, e1, p1⟩ ⟨j, e2, p2⟩ => by
  subst e1 e2
  intro M H x y hM rx ry Q k
  exact od_sub M H x y hM rx ry Q fun d z H' e => k d z H' ⟨_, e, h i j p1 p2⟩
theorem ei_mod (ha : Ei B Γ ta p) (hb : Ei B Γ tb q) (h0 : ∀ j, q j → 0 < j) (h : ∀ i j, p i → q j → r (i % j)) : Ei B Γ (tOp xMod ta tb) r := ev_op ha hb fun _ _ ⟨i, e1, p1⟩ ⟨j, e2, p2⟩ => by
  subst e1 e2
  intro M H x y hM rx ry Q k
  exact od_mod (h0 j p2) M H x y hM rx ry Q fun d z H' e => k d z H' ⟨_, e, h i j p1 p2⟩
end

/-! tuples and lists laid anew -/
theorem laid_tup {M : List Addr} {H : Hp} {p : Addr} {vs : List V} (hM : ∀ m ∈ M, H m ≠ none) (hp : H p = none) (r : Reps (wo H M) ds vs) : Rep (wo (upd H p (.tup vs)) M) (.tup ds) (.ref p) :=
  rep_tup.mpr ⟨p, vs, rfl, wo_some.mpr ⟨fun z => hM p z hp, upd_same⟩, r.up (same_wo (same_upd hp))⟩
theorem laid_lst {M : List Addr} {H : Hp} {p : Addr} {vs : List V} (hM : ∀ m ∈ M, H m ≠ none) (hp : H p = none) (r : Reps (wo H M) ds vs) : Rep (wo (upd H p (.lst vs)) M) (.lst ds) (.ref p) :=
  rep_lst.mpr ⟨p, vs, rfl, wo_some.mpr ⟨fun z => hM p z hp, upd_same⟩, r.up (same_wo (same_upd hp))⟩
theorem laid_new {M : List Addr} {H : Hp} {p : Addr} {us vs : List V} (hM : ∀ m ∈ M, H m ≠ none) (hp : H p = none) (r : Reps (wo H M) ds vs) : Reps (wo (upd H p (.lst us)) (p :: M)) ds vs := by
  refine r.up fun b o z => ?_
  obtain ⟨h1, h2⟩ := wo_some.mp z
  have hb : b ≠ p := ne_of_none h2 hp
  refine wo_some.mpr ⟨fun q => (List.mem_cons.mp q).elim hb h1, ?_⟩
  rw [upd_ne hb]
  exact h2
theorem sqL_rep {M : List Addr} {H : Hp} {x : V} (r : Rep (wo H M) (.lst ds) x) : ∃ a vs, x = .ref a ∧ SqL K H a vs ∧ Reps (wo H M) ds vs ∧ H a = some (.lst vs) := by
  obtain ⟨a, vs, e, h, t⟩ := rep_lst.mp r
  exact ⟨a, vs, e, SqL.of (wo_some.mp h).2, t, (wo_some.mp h).2⟩
theorem sqT_rep {M : List Addr} {H : Hp} {x : V} (r : Rep (wo H M) (.tup ds) x) : ∃ a vs, x = .ref a ∧ SqT K H a vs ∧ Reps (wo H M) ds vs ∧ H a = some (.tup vs) := by
  obtain ⟨a, vs, e, h, t⟩ := rep_tup.mp r
  exact ⟨a, vs, e, SqT.of (wo_some.mp h).2, t, (wo_some.mp h).2⟩
theorem ev_tup {tas : TA} {P : List D → Prop} (h : Ea B Γ tas P) (hz : ∀ ds, P ds → ds.length ≤ sizeLine) : Ev B Γ (tTup tas) (fun d => ∃ ds, d = .tup ds ∧ P ds) := fun as H σ S Q q =>
  h as H σ S _ fun ds vs H1 p S1 e1 r1 => ⟨by rw [← r1.len]; exact hz ds p, fun a ha => q (.tup ds) (.ref a) _ ⟨ds, rfl, p⟩ (S1.grow (same_upd ha)) (e1.trans (Same.off (same_upd ha))) (laid_tup S1.W.inM ha r1)⟩
theorem ed_tup {tas : TA} (h : Ea B Γ tas (fun x => x = ds)) (hz : ds.length ≤ sizeLine) : Ed B Γ (tTup tas) (.tup ds) := (ev_tup h fun _ e => by rw [e]; exact hz).imp fun _ ⟨_, e1, e2⟩ => by rw [e1, e2]
theorem evn_lst {tas : TA} {P : List D → Prop} (h : Ea B Γ tas P) (hz : ∀ ds, P ds → ds.length ≤ sizeLine) : EvN B Γ (tLst tas) P := fun as H σ S Q q =>
  h as H σ S _ fun ds vs H1 p S1 e1 r1 => ⟨by rw [← r1.len]; exact hz ds p, fun a ha =>
    have hM := S1.not_new ha
    q ds a vs _ p (S.back e1 ha hM) hM (S1.grow (same_upd ha)) (e1.trans (Same.off (same_upd ha))) upd_same (laid_new S1.W.inM ha r1)⟩
theorem edn_lst {tas : TA} (h : Ea B Γ tas (fun x => x = ds)) (hz : ds.length ≤ sizeLine) : EdN B Γ (tLst tas) ds := evn_lst h fun _ e => by rw [e]; exact hz
theorem edn_nil : EdN B Γ (tLst tNil) [] := edn_lst ea_nil (Nat.zero_le _)
theorem od_catT (hz : xs.length + ys.length ≤ sizeLine) : OpD (xAdd K) (.tup xs) (.tup ys) (fun d => d = .tup (xs ++ ys)) := fun M H x y hM rx ry Q q => by
  obtain ⟨a, vs, e1, h1, t1, g1⟩ := sqT_rep (K := K) rx
  obtain ⟨b, us, e2, h2, t2, g2⟩ := sqT_rep (K := K) ry
  have l1 := t1.len
  have l2 := t2.len
  refine .inr (.inl ⟨a, b, vs, us, e1, e2, h1, h2, by omega, fun z => ?_, fun _ z => ?_, fun _ _ p hp => ?_⟩)
  · subst z
    have : xs = [] := List.eq_nil_of_length_eq_zero l1
    subst this
    exact q _ _ H rfl (Same.refl H) (e2 ▸ ry)
  · subst z
    have : ys = [] := List.eq_nil_of_length_eq_zero l2
    subst this
    rw [List.append_nil] at q
    exact q _ _ H rfl (Same.refl H) (e1 ▸ rx)
  · exact q _ _ _ rfl (same_upd hp) (laid_tup hM hp (t1.append t2))
theorem ed_catT (ha : Ed B Γ ta (.tup xs)) (hb : Ed B Γ tb (.tup ys)) (hz : xs.length + ys.length ≤ sizeLine) : Ed B Γ (tOp (xAdd K) ta tb) (.tup (xs ++ ys)) := ed_op ha hb (od_catT hz)
theorem evn_catL {P R T : List D → Prop} (ha : Ev B Γ ta (fun d => ∃ ds, d = .lst ds ∧ P ds)) (hb : Ev B Γ tb (fun d => ∃ ds, d = .lst ds ∧ R ds)) (hz : ∀ xs ys, P xs → R ys → xs.length + ys.length ≤ sizeLine ∧ T (xs ++ ys)) : EvN B Γ (tOp (xAdd K) ta tb) T := fun as H σ S Q q => by
  refine ha as H σ S _ fun da x H1 ⟨xs, ex, px⟩ S1 e1 r1 => ?_
  refine hb as H1 σ S1 _ fun db y H2 ⟨ys, ey, py⟩ S2 e2 r2 => ?_
  subst ex ey
  obtain ⟨a, vs, f1, h1, t1, g1⟩ := sqL_rep (K := K) (r1.up (S1.eo e2))
  obtain ⟨b, us, f2, h2, t2, g2⟩ := sqL_rep (K := K) r2
  obtain ⟨z1, z2⟩ := hz xs ys px py
  have l1 := t1.len
  have l2 := t2.len
  refine .inr (.inr (.inl ⟨a, b, vs, us, f1, f2, g1, g2, by omega, fun p hp => ?_⟩))
  have hM := S2.not_new hp
  exact q _ p _ _ z2 (S.back (e1.trans e2) hp hM) hM (S2.grow (same_upd hp)) ((e1.trans e2).trans (Same.off (same_upd hp))) upd_same (laid_new S2.W.inM hp (t1.append t2))
theorem edn_catL (ha : Ed B Γ ta (.lst xs)) (hb : Ed B Γ tb (.lst ys)) (hz : xs.length + ys.length ≤ sizeLine) : EdN B Γ (tOp (xAdd K) ta tb) (xs ++ ys) :=
  evn_catL (P := fun z => z = xs) (R := fun z => z = ys) (ha.imp fun _ e => ⟨_, e, rfl⟩) (hb.imp fun _ e => ⟨_, e, rfl⟩) fun _ _ e1 e2 => by rw [e1, e2]; exact ⟨hz, rfl⟩
theorem ed_tuple (ha : Ed B Γ ta (.lst ds)) : Ed B Γ (tCB (xTuple K) (tCons ta tNil)) (.tup ds) := ed_cb (ea_1 ha) fun M H vs hM r Q q => by
  obtain ⟨v, t, e, r1, r2⟩ := reps_cons.mp r
  have e3 := reps_nil.mp r2
  subst e3 e
  obtain ⟨a, us, f1, h1, t1, g1⟩ := sqL_rep (K := K) r1
  subst f1
  exact ⟨a, us, rfl, .inl ⟨h1, fun l hl => q _ _ _ rfl (same_upd hl) (laid_tup hM hl t1)⟩⟩
theorem ed_tupleT (ha : Ed B Γ ta (.tup ds)) : Ed B Γ (tCB (xTuple K) (tCons ta tNil)) (.tup ds) := ed_cb (ea_1 ha) fun M H vs hM r Q q => by
  obtain ⟨v, t, e, r1, r2⟩ := reps_cons.mp r
  have e3 := reps_nil.mp r2
  subst e3 e
  obtain ⟨a, us, f1, h1, t1, g1⟩ := sqT_rep (K := K) r1
  subst f1
  exact ⟨a, us, rfl, .inr ⟨h1, q _ _ _ rfl (Same.refl H) r1⟩⟩
theorem cn_list (h : ∀ M H x, Rep (wo H M) da x → ∃ a us, x = .ref a ∧ (SqL K H a us ∨ SqT K H a us) ∧ Reps (wo H M) ds us) : CallN (xList K) [da] (fun x => x = ds) := fun M H vs hM r Q q => by
  obtain ⟨v, t, e, r1, r2⟩ := reps_cons.mp r
  have e3 := reps_nil.mp r2
  subst e3 e
  obtain ⟨a, us, f1, h1, t1⟩ := h M H v r1
  subst f1
  exact ⟨a, us, rfl, h1, fun l hl => q _ _ _ _ rfl hl (same_upd hl) upd_same (laid_new hM hl t1)⟩
theorem edn_list (ha : Ed B Γ ta (.lst ds)) : EdN B Γ (tCB (xList K) (tCons ta tNil)) ds := evn_cb (ea_1 ha) fun _ e => by
  rw [e]
  exact cn_list fun M H x r => let ⟨a, us, f1, h1, t1, _⟩ := sqL_rep (K := K) r; ⟨a, us, f1, .inl h1, t1⟩
theorem edn_listT (ha : Ed B Γ ta (.tup ds)) : EdN B Γ (tCB (xList K) (tCons ta tNil)) ds := evn_cb (ea_1 ha) fun _ e => by
  rw [e]
  exact cn_list fun M H x r => let ⟨a, us, f1, h1, t1, _⟩ := sqT_rep (K := K) r; ⟨a, us, f1, .inr h1, t1⟩

/-! len, index, slices -/
theorem ed_len (ha : Ed B Γ ta (.lst ds)) : Ed B Γ (tCB (xLen K) (tCons ta tNil)) (.int ds.length) := ed_cb (ea_1 ha) fun M H vs hM r Q q => by
  obtain ⟨v, t, e, r1, r2⟩ := reps_cons.mp r
  have e3 := reps_nil.mp r2
  subst e3 e
  obtain ⟨a, us, f1, h1, t1, g1⟩ := sqL_rep (K := K) r1
  subst f1
  exact ⟨_, us.length, rfl, .inl ⟨us, h1, rfl⟩, q _ _ H rfl (Same.refl H) (rep_v.mpr (by rw [t1.len]))⟩
theorem ed_lenT (ha : Ed B Γ ta (.tup ds)) : Ed B Γ (tCB (xLen K) (tCons ta tNil)) (.int ds.length) := ed_cb (ea_1 ha) fun M H vs hM r Q q => by
  obtain ⟨v, t, e, r1, r2⟩ := reps_cons.mp r
  have e3 := reps_nil.mp r2
  subst e3 e
  obtain ⟨a, us, f1, h1, t1, g1⟩ := sqT_rep (K := K) r1
  subst f1
  exact ⟨_, us.length, rfl, .inr ⟨us, h1, rfl⟩, q _ _ H rfl (Same.refl H) (rep_v.mpr (by rw [t1.len]))⟩
end
end DL

set_option maxHeartbeats 2000000
namespace DL
open PySem PySem.Spec PyProof.Rows L2

section
variable {K : PySem.W.Frag} {B : Base} {Γ : List Slot} {ta tb tc : TE} {tt tu : TT} {d da db : D} {ds es xs ys : List D} {i j : Int} {k n : Nat}
/-! ### index -/
theorem Reps.atI {H : Hp} {vs : List V} (r : Reps H ds vs) (h : L2.atI ds i = some d) : ∃ v, L2.atI vs i = some v ∧ Rep H d v := by
  unfold L2.atI at h ⊢
  rw [← r.len]
  cases e : ixN ds.length i with
  | none => rw [e] at h; cases h
  | some j => rw [e] at h; exact r.get h
theorem od_ixL (h : L2.atI ds i = some d) : OpD (rIx K) (.lst ds) (.int i) (fun x => x = d) := fun M H x y hM rx ry Q q => by
  obtain ⟨a, vs, e1, h1, t1, g1⟩ := sqL_rep (K := K) rx
  obtain ⟨v, h2, r2⟩ := t1.atI h
  exact .inl ⟨a, vs, i, v, e1, rep_v.mp ry, h1, h2, q _ _ H rfl (Same.refl H) r2⟩
theorem od_ixT (h : L2.atI ds i = some d) : OpD (rIx K) (.tup ds) (.int i) (fun x => x = d) := fun M H x y hM rx ry Q q => by
  obtain ⟨a, vs, e1, h1, t1, g1⟩ := sqT_rep (K := K) rx
  obtain ⟨v, h2, r2⟩ := t1.atI h
  exact .inr (.inl ⟨a, vs, i, v, e1, rep_v.mp ry, h1, h2, q _ _ H rfl (Same.refl H) r2⟩)
theorem ed_ixL (ha : Ed B Γ ta (.lst ds)) (hb : Ed B Γ tb (.int i)) (h : L2.atI ds i = some d) : Ed B Γ (tOp (rIx K) ta tb) d := ed_op ha hb (od_ixL h)
theorem ed_ixT (ha : Ed B Γ ta (.tup ds)) (hb : Ed B Γ tb (.int i)) (h : L2.atI ds i = some d) : Ed B Γ (tOp (rIx K) ta tb) d := ed_op ha hb (od_ixT h)
theorem range_get {α : Type} {g : Nat → α} (h : k < n) : ((List.range n).map g)[k]? = some (g k) := by
  rw [List.getElem?_map, List.getElem?_range h] <;> rfl
theorem ed_ixLR {g : Nat → D} (ha : Ed B Γ ta (.lst ((List.range n).map g))) (hb : Ed B Γ tb (.int (k : Nat))) (h : k < n) : Ed B Γ (tOp (rIx K) ta tb) (g k) := ed_ixL ha hb (atI_nat (range_get h))
theorem ed_ixTR {g : Nat → D} (ha : Ed B Γ ta (.tup ((List.range n).map g))) (hb : Ed B Γ tb (.int (k : Nat))) (h : k < n) : Ed B Γ (tOp (rIx K) ta tb) (g k) := ed_ixT ha hb (atI_nat (range_get h))
theorem ed_ixL0 {g : Nat → D} (ha : Ed B Γ ta (.lst ((List.range n).map g))) (h : 0 < n) : Ed B Γ (tOp (rIx K) ta (tC (.int 0))) (g 0) := ed_ixLR (k := 0) ha ev_c h
theorem ed_ixT0 {g : Nat → D} (ha : Ed B Γ ta (.tup ((List.range n).map g))) (h : 0 < n) : Ed B Γ (tOp (rIx K) ta (tC (.int 0))) (g 0) := ed_ixTR (k := 0) ha ev_c h
theorem atI_in {xs : List D} {i : Int} (h0 : 0 ≤ i) (h1 : i < xs.length) : ∃ d, L2.atI xs i = some d ∧ xs[i.toNat]? = some d := by
  obtain ⟨k, rfl⟩ := Int.eq_ofNat_of_zero_le h0
  have hk : k < xs.length := by omega
  refine ⟨xs[k], ?_, ?_⟩
  · exact atI_nat (by simp [hk])
  · simp [hk]
/-- an item, the index an int with p -/
theorem ev_ixL {p : Int → Prop} {P : D → Prop} (ha : Ed B Γ ta (.lst ds)) (hb : Ei B Γ tb p) (h : ∀ i, p i → 0 ≤ i ∧ i < ds.length ∧ ∀ d, ds[i.toNat]? = some d → P d) : Ev B Γ (tOp (rIx K) ta tb) P := ev_op ha hb fun da db e ⟨i, e2, pi⟩ => by
  subst e e2
  obtain ⟨h0, h1, h2⟩ := h i pi
  obtain ⟨d, g1, g2⟩ := atI_in h0 h1
  intro M H x y hM rx ry Q q
  exact od_ixL g1 M H x y hM rx ry Q fun d' z H' e => q d' z H' (e ▸ h2 d g2)
theorem ev_ixT {p : Int → Prop} {P : D → Prop} (ha : Ed B Γ ta (.tup ds)) (hb : Ei B Γ tb p) (h : ∀ i, p i → 0 ≤ i ∧ i < ds.length ∧ ∀ d, ds[i.toNat]? = some d → P d) : Ev B Γ (tOp (rIx K) ta tb) P := ev_op ha hb fun da db e ⟨i, e2, pi⟩ => by
  subst e e2
  obtain ⟨h0, h1, h2⟩ := h i pi
  obtain ⟨d, g1, g2⟩ := atI_in h0 h1
  intro M H x y hM rx ry Q q
  exact od_ixT g1 M H x y hM rx ry Q fun d' z H' e => q d' z H' (e ▸ h2 d g2)

/-! ### slices -/
theorem cut_from (vs : List V) (k : Nat) : cutV vs (some (k : Int)) none = vs.drop k := by
  unfold cutV
  rw [HT.sIx_nat, HT.sIx_none]
  by_cases h : k ≤ vs.length
  · rw [Nat.min_eq_left h, List.take_of_length_le (by rw [List.length_drop]; omega)]
  · rw [Nat.min_eq_right (by omega), List.drop_length, List.drop_eq_nil_of_le (by omega), List.take_nil]
theorem cut_to (vs : List V) (k : Nat) : cutV vs none (some (k : Int)) = vs.take k := by
  unfold cutV
  rw [HT.sIx_nat, HT.sIx_none, List.drop_zero, Nat.sub_zero]
  by_cases h : k ≤ vs.length
  · rw [Nat.min_eq_left h]
  · rw [Nat.min_eq_right (by omega), List.take_length, List.take_of_length_le (by omega)]
theorem slT_laid {M : List Addr} {H : Hp} {x : V} {lo hi : Option Int} {Q : VK} (hM : ∀ m ∈ M, H m ≠ none) (r : Rep (wo H M) (.tup ds) x) (hc : ∀ vs : List V, vs.length = ds.length → Reps (wo H M) ds vs → Reps (wo H M) es (cutV vs lo hi))
    (q : ∀ z H', Same H H' → Rep (wo H' M) (.tup es) z → Q z H') : xSl K x lo hi H Q := by
  obtain ⟨a, vs, e1, h1, t1, g1⟩ := sqT_rep (K := K) r
  have hr := hc vs t1.len.symm t1
  refine .inr (.inl ⟨a, vs, e1, h1, fun w => ?_, fun _ p hp => q _ _ (same_upd hp) (laid_tup hM hp hr)⟩)
  have e : cutV vs lo hi = vs := by
    unfold cutV
    rw [w.1, w.2, List.drop_zero, Nat.sub_zero, List.take_length]
  rw [e] at hr
  obtain ⟨a', vs', f1, f2, f3⟩ := rep_tup.mp r
  rw [e1] at f1
  cases f1
  have ev : vs' = vs := by
    have := (wo_some.mp f2).2
    rw [g1] at this
    cases this
    rfl
  subst ev
  exact q _ H (Same.refl H) (rep_tup.mpr ⟨a, vs', rfl, f2, hr⟩)
theorem ed_slFrom (ha : Ed B Γ ta (.tup ds)) (hb : Ed B Γ tb (.int (k : Nat))) : Ed B Γ (tSl (xSl K) ta (tPart tb) tNoPart) (.tup (ds.drop k)) := fun as H σ S Q q => by
  refine ha as H σ S _ fun da x H1 ea S1 e1 r1 => ?_
  refine hb as H1 σ S1 _ fun db y H2 eb S2 e2 r2 => ?_
  subst ea eb
  refine ⟨k, rep_v.mp r2, ?_⟩
  exact slT_laid S2.W.inM (r1.up (S1.eo e2)) (fun vs _ r => by rw [cut_from]; exact r.drop k) fun z H' e r => q _ z H' rfl (S2.grow e) ((e1.trans e2).trans (Same.off e)) r
theorem ed_slTo (ha : Ed B Γ ta (.tup ds)) (hb : Ed B Γ tb (.int (k : Nat))) : Ed B Γ (tSl (xSl K) ta tNoPart (tPart tb)) (.tup (ds.take k)) := fun as H σ S Q q => by
  refine ha as H σ S _ fun da x H1 ea S1 e1 r1 => ?_
  refine hb as H1 σ S1 _ fun db y H2 eb S2 e2 r2 => ?_
  subst ea eb
  refine ⟨k, rep_v.mp r2, ?_⟩
  exact slT_laid S2.W.inM (r1.up (S1.eo e2)) (fun vs _ r => by rw [cut_to]; exact r.take k) fun z H' e r => q _ z H' rfl (S2.grow e) ((e1.trans e2).trans (Same.off e)) r
theorem edn_slTo (ha : Ed B Γ ta (.lst ds)) (hb : Ed B Γ tb (.int (k : Nat))) : EdN B Γ (tSl (xSl K) ta tNoPart (tPart tb)) (ds.take k) := fun as H σ S Q q => by
  refine ha as H σ S _ fun da x H1 ea S1 e1 r1 => ?_
  refine hb as H1 σ S1 _ fun db y H2 eb S2 e2 r2 => ?_
  subst ea eb
  refine ⟨k, rep_v.mp r2, ?_⟩
  obtain ⟨a, vs, f1, h1, t1, g1⟩ := sqL_rep (K := K) (r1.up (S1.eo e2))
  refine .inl ⟨a, vs, f1, h1, fun p hp => ?_⟩
  have hM := S2.not_new hp
  exact q _ p _ _ rfl (S.back (e1.trans e2) hp hM) hM (S2.grow (same_upd hp)) ((e1.trans e2).trans (Same.off (same_upd hp))) upd_same (laid_new S2.W.inM hp (by rw [cut_to]; exact t1.take k))
theorem edn_slFrom (ha : Ed B Γ ta (.lst ds)) (hb : Ed B Γ tb (.int (k : Nat))) : EdN B Γ (tSl (xSl K) ta (tPart tb) tNoPart) (ds.drop k) := fun as H σ S Q q => by
  refine ha as H σ S _ fun da x H1 ea S1 e1 r1 => ?_
  refine hb as H1 σ S1 _ fun db y H2 eb S2 e2 r2 => ?_
  subst ea eb
  refine ⟨k, rep_v.mp r2, ?_⟩
  obtain ⟨a, vs, f1, h1, t1, g1⟩ := sqL_rep (K := K) (r1.up (S1.eo e2))
  refine .inl ⟨a, vs, f1, h1, fun p hp => ?_⟩
  have hM := S2.not_new hp
  exact q _ p _ _ rfl (S.back (e1.trans e2) hp hM) hM (S2.grow (same_upd hp)) ((e1.trans e2).trans (Same.off (same_upd hp))) upd_same (laid_new S2.W.inM hp (by rw [cut_from]; exact t1.drop k))

/-! ### greatest, least -/
def lmax (ns : List Int) : Int := ns.max?.getD 0
def lmin (ns : List Int) : Int := ns.min?.getD 0
theorem lmax_mem {ns : List Int} (h : ns ≠ []) : lmax ns ∈ ns ∧ ∀ y ∈ ns, y ≤ lmax ns := by
  cases e : ns.max? with
  | none => exact absurd (List.max?_eq_none_iff.mp e) h
  | some m =>
    have hm := List.max?_eq_some_iff.mp e
    unfold lmax
    rw [e]
    exact hm
theorem lmin_mem {ns : List Int} (h : ns ≠ []) : lmin ns ∈ ns ∧ ∀ y ∈ ns, lmin ns ≤ y := by
  cases e : ns.min? with
  | none => exact absurd (List.min?_eq_none_iff.mp e) h
  | some m =>
    have hm := List.min?_eq_some_iff.mp e
    unfold lmin
    rw [e]
    exact hm
theorem lmax_eq {ns : List Int} {m : Int} (h1 : m ∈ ns) (h2 : ∀ y ∈ ns, y ≤ m) : lmax ns = m := by
  have h := lmax_mem (List.ne_nil_of_mem h1)
  have := h.2 m h1
  have := h2 _ h.1
  omega
theorem lmin_eq {ns : List Int} {m : Int} (h1 : m ∈ ns) (h2 : ∀ y ∈ ns, m ≤ y) : lmin ns = m := by
  have h := lmin_mem (List.ne_nil_of_mem h1)
  have := h.2 m h1
  have := h2 _ h.1
  omega
theorem ed_max {ns : List Int} (ha : Ed B Γ ta (.lst (ns.map D.int))) (h : ns ≠ []) : Ed B Γ (tCB (rMax K) (tCons ta tNil)) (.int (lmax ns)) := ed_cb (ea_1 ha) fun M H vs hM r Q q => by
  obtain ⟨v, t, e, r1, r2⟩ := reps_cons.mp r
  have e3 := reps_nil.mp r2
  subst e3 e
  obtain ⟨a, us, f1, h1, t1, g1⟩ := sqL_rep (K := K) r1
  subst f1
  have eu := reps_ints.mp t1
  subst eu
  refine ⟨a, ns, rfl, h1, List.length_pos_iff.mpr h, fun m h1 h2 => ?_⟩
  rw [← lmax_eq h1 h2]
  exact q _ _ H rfl (Same.refl H) (rep_v.mpr rfl)
theorem ed_min {ns : List Int} (ha : Ed B Γ ta (.lst (ns.map D.int))) (h : ns ≠ []) : Ed B Γ (tCB (rMin K) (tCons ta tNil)) (.int (lmin ns)) := ed_cb (ea_1 ha) fun M H vs hM r Q q => by
  obtain ⟨v, t, e, r1, r2⟩ := reps_cons.mp r
  have e3 := reps_nil.mp r2
  subst e3 e
  obtain ⟨a, us, f1, h1, t1, g1⟩ := sqL_rep (K := K) r1
  subst f1
  have eu := reps_ints.mp t1
  subst eu
  refine ⟨a, ns, rfl, h1, List.length_pos_iff.mpr h, fun m h1 h2 => ?_⟩
  rw [← lmin_eq h1 h2]
  exact q _ _ H rfl (Same.refl H) (rep_v.mpr rfl)
theorem ed_max2 (ha : Ed B Γ ta (.int i)) (hb : Ed B Γ tb (.int j)) : Ed B Γ (tCB xMax2 (tCons ta (tCons tb tNil))) (.int (max i j)) := ed_cb (ea_2 ha hb) (cb_v (xs := [.int i, .int j]) fun H Q q => ⟨i, j, rfl, by rw [show (if j > i then j else i) = max i j by omega]; exact q⟩)
theorem ed_min2 (ha : Ed B Γ ta (.int i)) (hb : Ed B Γ tb (.int j)) : Ed B Γ (tCB xMin2 (tCons ta (tCons tb tNil))) (.int (min i j)) := ed_cb (ea_2 ha hb) (cb_v (xs := [.int i, .int j]) fun H Q q => ⟨i, j, rfl, by rw [show (if j < i then j else i) = min i j by omega]; exact q⟩)
theorem ed_all {bs : List Bool} (ha : Ed B Γ ta (.lst (bs.map D.bl))) : Ed B Γ (tCB (rAll K) (tCons ta tNil)) (.bl (bs.all id)) := ed_cb (ea_1 ha) fun M H vs hM r Q q => by
  obtain ⟨v, t, e, r1, r2⟩ := reps_cons.mp r
  have e3 := reps_nil.mp r2
  subst e3 e
  obtain ⟨a, us, f1, h1, t1, g1⟩ := sqL_rep (K := K) r1
  subst f1
  have eu := reps_bls.mp t1
  subst eu
  exact ⟨a, bs, rfl, h1, q _ _ H rfl (Same.refl H) (rep_v.mpr rfl)⟩
theorem ed_any {bs : List Bool} (ha : Ed B Γ ta (.lst (bs.map D.bl))) : Ed B Γ (tCB (rAny K) (tCons ta tNil)) (.bl (bs.any id)) := ed_cb (ea_1 ha) fun M H vs hM r Q q => by
  obtain ⟨v, t, e, r1, r2⟩ := reps_cons.mp r
  have e3 := reps_nil.mp r2
  subst e3 e
  obtain ⟨a, us, f1, h1, t1, g1⟩ := sqL_rep (K := K) r1
  subst f1
  have eu := reps_bls.mp t1
  subst eu
  exact ⟨a, bs, rfl, h1, q _ _ H rfl (Same.refl H) (rep_v.mpr rfl)⟩
theorem ed_int (ha : Ed B Γ ta (.int i)) : Ed B Γ (tCB xInt (tCons ta tNil)) (.int i) := ed_cb (ea_1 ha) (cb_v (xs := [.int i]) fun H Q q => .inl (.inl ⟨i, rfl, q⟩))

/-! ### tests -/
/-- a test that tells c -/
abbrev Ep (B : Base) (Γ : List Slot) (tt : TT) (c : Prop) : Prop := Eb B Γ tt (fun b => b = true ↔ c)
theorem ep_of {b : Bool} {c : Prop} (h : Ed B Γ ta (.bl b)) (z : b = true ↔ c) : Ep B Γ (tTest ta) c := eb_test (h.imp fun _ e => ⟨b, e, z⟩)
theorem ep_not {c : Prop} (h : Ep B Γ tt c) : Ep B Γ (tNot tt) (¬ c) := eb_not (h.imp fun b e => by cases b <;> simp_all)
theorem ep_or {c e : Prop} (h : Ep B Γ tt c) (h1 : ¬ c → Ep B Γ tu e) : Ep B Γ (tOr tt tu) (c ∨ e) := eb_or h (fun f => (h1 (by simpa using f)).imp fun b z => by simp_all) (fun f => by simp_all)
theorem ep_and {c e : Prop} (h : Ep B Γ tt c) (h1 : c → Ep B Γ tu e) : Ep B Γ (tAnd tt tu) (c ∧ e) := eb_and h (fun f => (h1 (by simpa using f)).imp fun b z => by simp_all) (fun f => by simp_all)
theorem Ep.eq {c e : Prop} (h : Ep B Γ tt c) (z : c ↔ e) : Ep B Γ tt e := h.imp fun b f => f.trans z
theorem ep_gt (ha : Ed B Γ ta (.int i)) (hb : Ed B Γ tb (.int j)) : Ep B Γ (tTest (tOp xGt ta tb)) (j < i) := ep_of (ed_op ha hb (od_v fun H Q q => ⟨i, j, rfl, rfl, q⟩)) (by simp)
theorem ep_ge (ha : Ed B Γ ta (.int i)) (hb : Ed B Γ tb (.int j)) : Ep B Γ (tTest (tOp xGe ta tb)) (j ≤ i) := ep_of (ed_op ha hb (od_v fun H Q q => ⟨i, j, rfl, rfl, q⟩)) (by simp)
theorem ep_lt (ha : Ed B Γ ta (.int i)) (hb : Ed B Γ tb (.int j)) : Ep B Γ (tTest (tOp (xLt K) ta tb)) (i < j) := ep_of (ed_op ha hb (od_v fun H Q q => .inl ⟨i, j, rfl, rfl, q⟩)) (by simp)
theorem ep_le (ha : Ed B Γ ta (.int i)) (hb : Ed B Γ tb (.int j)) : Ep B Γ (tTest (tOp (xLe K) ta tb)) (i ≤ j) := ep_of (ed_op ha hb (od_v fun H Q q => .inl ⟨i, j, rfl, rfl, q⟩)) (by simp)
theorem ed_lt (ha : Ed B Γ ta (.int i)) (hb : Ed B Γ tb (.int j)) : Ed B Γ (tOp (xLt K) ta tb) (.bl (decide (i < j))) := ed_op ha hb (od_v fun H Q q => .inl ⟨i, j, rfl, rfl, q⟩)
theorem ed_le (ha : Ed B Γ ta (.int i)) (hb : Ed B Γ tb (.int j)) : Ed B Γ (tOp (xLe K) ta tb) (.bl (decide (i ≤ j))) := ed_op ha hb (od_v fun H Q q => .inl ⟨i, j, rfl, rfl, q⟩)
theorem ed_eqS {x y : V} (ha : Ed B Γ ta (.v x)) (hb : Ed B Γ tb (.v y)) (h : scal x y = true) : Ed B Γ (tOp (xEq K) ta tb) (.bl (decide (x = y))) := ed_op ha hb (od_v fun H Q q => .inl ⟨h, q⟩)
theorem ed_neS {x y : V} (ha : Ed B Γ ta (.v x)) (hb : Ed B Γ tb (.v y)) (h : scal x y = true) : Ed B Γ (tOp (xNe K) ta tb) (.bl (!decide (x = y))) := ed_op ha hb (od_v fun H Q q => .inl ⟨h, q⟩)
theorem ep_eqS {x y : V} (ha : Ed B Γ ta (.v x)) (hb : Ed B Γ tb (.v y)) (h : scal x y = true) : Ep B Γ (tTest (tOp (xEq K) ta tb)) (x = y) := ep_of (ed_eqS ha hb h) (by simp)
theorem ep_neS {x y : V} (ha : Ed B Γ ta (.v x)) (hb : Ed B Γ tb (.v y)) (h : scal x y = true) : Ep B Γ (tTest (tOp (xNe K) ta tb)) (¬ x = y) := ep_of (ed_neS ha hb h) (by simp)
theorem ed_eqI (ha : Ed B Γ ta (.int i)) (hb : Ed B Γ tb (.int j)) : Ed B Γ (tOp (xEq K) ta tb) (.bl (decide (i = j))) := (ed_eqS ha hb rfl).eq (by simp)
theorem ep_eqI (ha : Ed B Γ ta (.int i)) (hb : Ed B Γ tb (.int j)) : Ep B Γ (tTest (tOp (xEq K) ta tb)) (i = j) := (ep_eqS ha hb rfl).eq (by simp)
theorem ep_neI (ha : Ed B Γ ta (.int i)) (hb : Ed B Γ tb (.int j)) : Ep B Γ (tTest (tOp (xNe K) ta tb)) (¬ i = j) := (ep_neS ha hb rfl).eq (by simp)
def D.v? : D → Option V
  | .v x => some x
  | _ => none
theorem ep_non (ha : Ed B Γ ta d) : Ep B Γ (tTest (tOp xIs ta (tC .non))) (d = .non) := by
  refine eb_test (ev_op ha ev_c fun da db e1 e2 => ?_)
  subst e1 e2
  intro M H x y hM rx ry Q q
  refine .inl ⟨rep_v.mp ry, q _ _ H ⟨_, rfl, ?_⟩ (Same.refl H) (rep_v.mpr rfl)⟩
  cases da with
  | v z => rw [rep_v.mp rx]; simp
  | tup ds => obtain ⟨a, vs, e, _⟩ := rep_tup.mp rx; subst e; simp
  | lst ds => obtain ⟨a, vs, e, _⟩ := rep_lst.mp rx; subst e; simp
theorem ep_nnon (ha : Ed B Γ ta d) : Ep B Γ (tTest (tOp xIsN ta (tC .non))) (¬ d = .non) := by
  refine eb_test (ev_op ha ev_c fun da db e1 e2 => ?_)
  subst e1 e2
  intro M H x y hM rx ry Q q
  refine .inl ⟨rep_v.mp ry, q _ _ H ⟨_, rfl, ?_⟩ (Same.refl H) (rep_v.mpr rfl)⟩
  cases da with
  | v z => rw [rep_v.mp rx]; simp
  | tup ds => obtain ⟨a, vs, e, _⟩ := rep_tup.mp rx; subst e; simp
  | lst ds => obtain ⟨a, vs, e, _⟩ := rep_lst.mp rx; subst e; simp
theorem ep_isB {b : Bool} (ha : Ed B Γ ta d) : Ep B Γ (tTest (tOp xIs ta (tC (.bl b)))) (d = .bl b) := by
  refine eb_test (ev_op ha ev_c fun da db e1 e2 => ?_)
  subst e1 e2
  intro M H x y hM rx ry Q q
  refine .inr ⟨b, rep_v.mp ry, q _ _ H ⟨_, rfl, ?_⟩ (Same.refl H) (rep_v.mpr rfl)⟩
  cases da with
  | v z => rw [rep_v.mp rx]; simp
  | tup ds => obtain ⟨a, vs, e, _⟩ := rep_tup.mp rx; subst e; simp
  | lst ds => obtain ⟨a, vs, e, _⟩ := rep_lst.mp rx; subst e; simp
theorem ep_tru {b : Bool} (ha : Ed B Γ ta (.bl b)) : Ep B Γ (tTru K ta) (b = true) := fun as H σ S Q q => ha as H σ S _ fun da x H1 ea S1 e1 r1 => by
  subst ea
  have e := rep_v.mp r1
  subst e
  exact ⟨b, rfl, q b H1 Iff.rfl S1 e1⟩
theorem ep_truL (ha : Ed B Γ ta (.lst ds)) : Ep B Γ (tTru K ta) (¬ ds = []) := fun as H σ S Q q => ha as H σ S _ fun da x H1 ea S1 e1 r1 => by
  subst ea
  obtain ⟨a, us, f1, h1, t1, g1⟩ := sqL_rep (K := K) r1
  subst f1
  refine ⟨!us.isEmpty, .inl ⟨us, h1, rfl⟩, q _ H1 ?_ S1 e1⟩
  have := t1.len
  cases us <;> cases ds <;> simp_all
theorem ep_truOwn {i : Nat} (h : Γ[i]? = some (.own ds)) : Ep B Γ (tTru K (tVar i)) (¬ ds = []) := fun as H σ S Q q => by
  obtain ⟨p, vs, h1, h2, h3, h4, h5⟩ := S.own h
  refine ⟨.ref p, h1, !vs.isEmpty, .inl ⟨vs, SqL.of h4, rfl⟩, q _ H ?_ S Off.refl⟩
  have := h5.len
  cases vs <;> cases ds <;> simp_all
/-- a test that may tell anything -/
theorem eb_eqAny {p q : Int → Prop} (ha : Ei B Γ ta p) (hb : Ei B Γ tb q) : Eb B Γ (tTest (tOp (xEq K) ta tb)) (fun _ => True) := eb_test (ev_op ha hb fun da db ⟨i, e1, _⟩ ⟨j, e2, _⟩ => by
  subst e1 e2
  intro M H x y hM rx ry Q q
  exact .inl ⟨by rw [rep_v.mp rx, rep_v.mp ry]; rfl, q _ _ H ⟨_, rfl, trivial⟩ (Same.refl H) (rep_v.mpr rfl)⟩)
theorem eb_gtAny {p q : Int → Prop} (ha : Ei B Γ ta p) (hb : Ei B Γ tb q) : Eb B Γ (tTest (tOp xGt ta tb)) (fun _ => True) := eb_test (ev_op ha hb fun da db ⟨i, e1, _⟩ ⟨j, e2, _⟩ => by
  subst e1 e2
  intro M H x y hM rx ry Q q
  exact ⟨i, j, rep_v.mp rx, rep_v.mp ry, q _ _ H ⟨_, rfl, trivial⟩ (Same.refl H) (rep_v.mpr rfl)⟩)
theorem tr_ifP {c : Prop} {t t' u : TS} {E : Post} (h : Ep B Γ tt c) (h1 : c → Tr B Γ t { E with nx := fun Γ' => Tr B Γ' u E }) (h2 : ¬ c → Tr B Γ t' { E with nx := fun Γ' => Tr B Γ' u E }) : Tr B Γ (tSeq (tIfS tt t t') u) E :=
  tr_if h (fun z => h1 (by simpa using z)) (fun z => h2 (by simpa using z))
/-- a check that passes: if not .. : return -/
theorem tr_pass {c : Prop} {t u : TS} {E : Post} (h : Ep B Γ tt c) (z : ¬ c) (k : Tr B Γ u E) : Tr B Γ (tSeq (tIfS tt t tNext) u) E := tr_ifP h (fun w => absurd w z) fun _ => tr_next k
end
end DL

set_option maxHeartbeats 2000000
namespace DL
open PySem PySem.Spec PyProof.Rows L2

section
variable {K : PySem.W.Frag} {B : Base} {Γ : List Slot} {ta tb tc te : TE} {tt tu : TT} {d da db : D} {ds es xs ys : List D} {i j : Int} {k n : Nat}
/-! ### what is walked -/
theorem wk_itl {a : Addr} : Wk [(.lst ds, .ref a)] (Itl K a) ds := fun M H i hg hM => by
  obtain ⟨a', vs, e, h1, t1, g1⟩ := sqL_rep (K := K) (hg _ (List.mem_singleton_self _))
  cases e
  refine ⟨fun h => ⟨vs, h1, by rw [← t1.len]; exact h⟩, fun d hd => ?_⟩
  obtain ⟨v, hv, rv⟩ := t1.get hd
  refine ⟨⟨vs, v, h1, hv⟩, fun x H' y => ?_⟩
  obtain ⟨e, y2⟩ := y
  subst e
  have := y2 vs h1
  rw [hv] at this
  cases this
  exact ⟨Same.refl _, rv⟩
theorem wk_itt {a : Addr} : Wk [(.tup ds, .ref a)] (Itt K a) ds := fun M H i hg hM => by
  obtain ⟨a', vs, e, h1, t1, g1⟩ := sqT_rep (K := K) (hg _ (List.mem_singleton_self _))
  cases e
  refine ⟨fun h => ⟨vs, h1, by rw [← t1.len]; exact h⟩, fun d hd => ?_⟩
  obtain ⟨v, hv, rv⟩ := t1.get hd
  refine ⟨⟨vs, v, h1, hv⟩, fun x H' y => ?_⟩
  obtain ⟨e, y2⟩ := y
  subst e
  have := y2 vs h1
  rw [hv] at this
  cases this
  exact ⟨Same.refl _, rv⟩
theorem gh1 {H : Hp} {d : D} {v : V} (r : Rep H d v) : ∀ p ∈ [(d, v)], Rep H p.1 p.2 := fun p hp => by
  rw [List.mem_singleton.mp hp]
  exact r
theorem gh2 {H : Hp} {d e : D} {v w : V} (r : Rep H d v) (s : Rep H e w) : ∀ p ∈ [(d, v), (e, w)], Rep H p.1 p.2 := fun p hp => by
  rcases List.mem_cons.mp hp with h | h
  · rw [h]; exact r
  · rw [List.mem_singleton.mp h]; exact s
theorem eit_lst {P : List D → Prop} (ha : Ev B Γ ta (fun d => ∃ ds, d = .lst ds ∧ P ds)) : Eit B Γ (iAny K ta) P := fun as H σ S R q => by
  refine ha as H σ S _ fun da x H1 ⟨ds, ea, p⟩ S1 e1 r1 => ?_
  subst ea
  obtain ⟨a, vs, e, h1, t1, g1⟩ := sqL_rep (K := K) r1
  subst e
  exact .inl ⟨a, rfl, ⟨vs, h1⟩, q ds _ _ H1 p S1 e1 (gh1 r1) wk_itl⟩
theorem eit_tup {P : List D → Prop} (ha : Ev B Γ ta (fun d => ∃ ds, d = .tup ds ∧ P ds)) : Eit B Γ (iAny K ta) P := fun as H σ S R q => by
  refine ha as H σ S _ fun da x H1 ⟨ds, ea, p⟩ S1 e1 r1 => ?_
  subst ea
  obtain ⟨a, vs, e, h1, t1, g1⟩ := sqT_rep (K := K) r1
  subst e
  exact .inr ⟨a, rfl, ⟨vs, h1⟩, q ds _ _ H1 p S1 e1 (gh1 r1) wk_itt⟩
theorem edt_lst (ha : Ed B Γ ta (.lst ds)) : Edt B Γ (iAny K ta) ds := eit_lst (ha.imp fun _ e => ⟨_, e, rfl⟩)
theorem edt_tup (ha : Ed B Γ ta (.tup ds)) : Edt B Γ (iAny K ta) ds := eit_tup (ha.imp fun _ e => ⟨_, e, rfl⟩)
/-- lo, lo + 1, .. -/
def rngD (lo : Int) (n : Nat) : List D := (List.range n).map fun k => .int (lo + (k : Nat))
theorem rngD_len {lo : Int} {n : Nat} : (rngD lo n).length = n := by unfold rngD; rw [List.length_map, List.length_range]
theorem rngD_get {lo : Int} {n i : Nat} {d : D} (h : (rngD lo n)[i]? = some d) : i < n ∧ d = .int (lo + (i : Nat)) := by
  unfold rngD at h
  rw [List.getElem?_map] at h
  by_cases hi : i < n
  · rw [List.getElem?_range hi] at h
    cases h
    exact ⟨hi, rfl⟩
  · rw [List.getElem?_eq_none (by rw [List.length_range]; omega)] at h
    cases h
theorem wk_itr {lo : Int} {n : Nat} : Wk [] (Itr lo n) (rngD lo n) := fun M H i hg hM => by
  refine ⟨fun h => by rw [rngD_len] at h; exact h, fun d hd => ?_⟩
  obtain ⟨hi, e⟩ := rngD_get hd
  subst e
  refine ⟨hi, fun x H' y => ?_⟩
  obtain ⟨e, e2⟩ := y
  subst e e2
  exact ⟨Same.refl _, rep_v.mpr rfl⟩
theorem nil_gh {H : Hp} : ∀ p ∈ ([] : List (D × V)), Rep H p.1 p.2 := fun _ h => nomatch h
theorem eit_rng {p : Int → Prop} (ha : Ei B Γ ta p) (h : ∀ i, p i → i < 2 ^ 62 ∧ -(2 ^ 62) ≤ i) : Eit B Γ (iRng1 (tCons ta tNil)) (fun ds => ∃ i, p i ∧ ds = rngD 0 i.toNat) := fun as H σ S R q => by
  refine ha as H σ S _ fun da x H1 ⟨i, ea, pi⟩ S1 e1 r1 => ?_
  subst ea
  have e := rep_v.mp r1
  subst e
  obtain ⟨h1, h2⟩ := h i pi
  exact ⟨i, rfl, h2, h1, q _ _ [] H1 ⟨i, pi, rfl⟩ S1 e1 nil_gh wk_itr⟩
theorem edt_rng (ha : Ed B Γ ta (.int (n : Nat))) (h : n < 2 ^ 62) : Edt B Γ (iRng1 (tCons ta tNil)) (rngD 0 n) := fun as H σ S R q => eit_rng (Ei.of ha) (fun i e => by omega) as H σ S R fun ds J g H' ⟨i, e1, e2⟩ S' e hg wk => by
  subst e1
  exact q ds J g H' e2 S' e hg wk
theorem eit_rngX {p q : Int → Prop} (ha : Ei B Γ ta p) (hb : Ei B Γ tb q) : Eit B Γ (iRngX (tCons ta (tCons tb tNil))) (fun ds => ∃ i j, p i ∧ q j ∧ ds = rngD i (j - i).toNat) := fun as H σ S R k => by
  refine ha as H σ S _ fun da x H1 ⟨i, ea, pi⟩ S1 e1 r1 => ?_
  refine hb as H1 σ S1 _ fun db y H2 ⟨j, eb, pj⟩ S2 e2 r2 => ?_
  subst ea eb
  have e := rep_v.mp r1
  subst e
  have e := rep_v.mp r2
  subst e
  exact ⟨i, j, rfl, k _ _ [] H2 ⟨i, j, pi, pj, rfl⟩ S2 (e1.trans e2) nil_gh wk_itr⟩
theorem edt_rngX (ha : Ed B Γ ta (.int i)) (hb : Ed B Γ tb (.int j)) : Edt B Γ (iRngX (tCons ta (tCons tb tNil))) (rngD i (j - i).toNat) := fun as H σ S R k =>
  eit_rngX (Ei.of ha) (Ei.of hb) as H σ S R fun ds J g H' ⟨i, j, e1, e2, e3⟩ S' e hg wk => by
    subst e1 e2
    exact k ds J g H' e3 S' e hg wk
/-- pairs of one row and another -/
def zipD (xs ys : List D) : List D := List.zipWith (fun x y => .tup [x, y]) xs ys
theorem zipD_get {xs ys : List D} {i : Nat} {d : D} (h : (zipD xs ys)[i]? = some d) : ∃ x y, xs[i]? = some x ∧ ys[i]? = some y ∧ d = .tup [x, y] := by
  unfold zipD at h
  rw [List.getElem?_zipWith] at h
  split at h
  · rename_i x y h1 h2
    cases h
    exact ⟨x, y, h1, h2, rfl⟩
  · cases h
theorem zipD_range {g h : Nat → D} {n : Nat} : zipD ((List.range n).map g) ((List.range n).map h) = (List.range n).map fun u => .tup [g u, h u] := by
  unfold zipD
  rw [List.zipWith_map]
  simp
theorem pair_laid {M : List Addr} {H : Hp} {p : Addr} {x y : D} {v w : V} (hM : ∀ m ∈ M, H m ≠ none) (hp : H p = none) (r : Rep (wo H M) x v) (s : Rep (wo H M) y w) : Rep (wo (upd H p (.tup [v, w])) M) (.tup [x, y]) (.ref p) := laid_tup hM hp (.cons r (.cons s .nil))
theorem wk_itz {a b : Addr} : Wk [(.lst xs, .ref a), (.lst ys, .ref b)] (Itz K a b) (zipD xs ys) := fun M H i hg hM => by
  obtain ⟨a', vs, e, h1, t1, g1⟩ := sqL_rep (K := K) (hg (.lst xs, .ref a) (List.mem_cons_self ..))
  obtain ⟨b', us, e', h2, t2, g2⟩ := sqL_rep (K := K) (hg (.lst ys, .ref b) (List.mem_cons_of_mem _ (List.mem_singleton_self _)))
  cases e
  cases e'
  have l1 := t1.len
  have l2 := t2.len
  have lz : (zipD xs ys).length = min xs.length ys.length := by unfold zipD; rw [List.length_zipWith]
  refine ⟨fun h => ⟨vs, us, h1, h2, by omega⟩, fun d hd => ?_⟩
  obtain ⟨x, y, hx, hy, e⟩ := zipD_get hd
  subst e
  obtain ⟨v, hv, rv⟩ := t1.get hx
  obtain ⟨w, hw, rw'⟩ := t2.get hy
  refine ⟨⟨vs, us, v, w, h1, h2, hv, hw⟩, fun z H' yl => ?_⟩
  obtain ⟨T, x', y', e1, hT, e2, f1, f2⟩ := yl
  have q1 := f1 vs h1
  have q2 := f2 us h2
  rw [hv] at q1
  rw [hw] at q2
  cases q1
  cases q2
  subst e1 e2
  exact ⟨same_upd hT, pair_laid hM hT rv rw'⟩
theorem wk_itzT {a b : Addr} : Wk [(.tup xs, .ref a), (.tup ys, .ref b)] (RZ.ItzT K a b) (zipD xs ys) := fun M H i hg hM => by
  obtain ⟨a', vs, e, h1, t1, g1⟩ := sqT_rep (K := K) (hg (.tup xs, .ref a) (List.mem_cons_self ..))
  obtain ⟨b', us, e', h2, t2, g2⟩ := sqT_rep (K := K) (hg (.tup ys, .ref b) (List.mem_cons_of_mem _ (List.mem_singleton_self _)))
  cases e
  cases e'
  have l1 := t1.len
  have l2 := t2.len
  have lz : (zipD xs ys).length = min xs.length ys.length := by unfold zipD; rw [List.length_zipWith]
  refine ⟨fun h => ⟨vs, us, h1, h2, by omega⟩, fun d hd => ?_⟩
  obtain ⟨x, y, hx, hy, e⟩ := zipD_get hd
  subst e
  obtain ⟨v, hv, rv⟩ := t1.get hx
  obtain ⟨w, hw, rw'⟩ := t2.get hy
  refine ⟨⟨vs, us, v, w, h1, h2, hv, hw⟩, fun z H' yl => ?_⟩
  obtain ⟨T, x', y', e1, hT, e2, f1, f2⟩ := yl
  have q1 := f1 vs h1
  have q2 := f2 us h2
  rw [hv] at q1
  rw [hw] at q2
  cases q1
  cases q2
  subst e1 e2
  exact ⟨same_upd hT, pair_laid hM hT rv rw'⟩
theorem edt_zipL (ha : Ed B Γ ta (.lst xs)) (hb : Ed B Γ tb (.lst ys)) : Edt B Γ (RZ.iZipA K (tCons ta (tCons tb tNil))) (zipD xs ys) := fun as H σ S R k => by
  refine ha as H σ S _ fun da x H1 ea S1 e1 r1 => ?_
  refine hb as H1 σ S1 _ fun db y H2 eb S2 e2 r2 => ?_
  subst ea eb
  have r1' := r1.up (S1.eo e2)
  obtain ⟨a, vs, f1, h1, t1, g1⟩ := sqL_rep (K := K) r1'
  obtain ⟨b, us, f2, h2, t2, g2⟩ := sqL_rep (K := K) r2
  subst f1 f2
  exact ⟨a, b, vs, us, rfl, .inl ⟨h1, h2, k _ _ _ H2 rfl S2 (e1.trans e2) (gh2 r1' r2) wk_itz⟩⟩
theorem edt_zipT (ha : Ed B Γ ta (.tup xs)) (hb : Ed B Γ tb (.tup ys)) : Edt B Γ (RZ.iZipA K (tCons ta (tCons tb tNil))) (zipD xs ys) := fun as H σ S R k => by
  refine ha as H σ S _ fun da x H1 ea S1 e1 r1 => ?_
  refine hb as H1 σ S1 _ fun db y H2 eb S2 e2 r2 => ?_
  subst ea eb
  have r1' := r1.up (S1.eo e2)
  obtain ⟨a, vs, f1, h1, t1, g1⟩ := sqT_rep (K := K) r1'
  obtain ⟨b, us, f2, h2, t2, g2⟩ := sqT_rep (K := K) r2
  subst f1 f2
  exact ⟨a, b, vs, us, rfl, .inr ⟨h1, h2, k _ _ _ H2 rfl S2 (e1.trans e2) (gh2 r1' r2) wk_itzT⟩⟩
theorem edt_zipLR {g h : Nat → D} (ha : Ed B Γ ta (.lst ((List.range n).map g))) (hb : Ed B Γ tb (.lst ((List.range n).map h))) : Edt B Γ (RZ.iZipA K (tCons ta (tCons tb tNil))) ((List.range n).map fun u => .tup [g u, h u]) := by
  rw [← zipD_range]
  exact edt_zipL ha hb
theorem edt_zipTR {g h : Nat → D} (ha : Ed B Γ ta (.tup ((List.range n).map g))) (hb : Ed B Γ tb (.tup ((List.range n).map h))) : Edt B Γ (RZ.iZipA K (tCons ta (tCons tb tNil))) ((List.range n).map fun u => .tup [g u, h u]) := by
  rw [← zipD_range]
  exact edt_zipT ha hb
/-- numbered items -/
theorem enum_get {g : Nat → D} {n i : Nat} {d : D} (h : ((List.range n).map g)[i]? = some d) : i < n ∧ d = g i := by
  rw [List.getElem?_map] at h
  by_cases hi : i < n
  · rw [List.getElem?_range hi] at h
    cases h
    exact ⟨hi, rfl⟩
  · rw [List.getElem?_eq_none (by rw [List.length_range]; omega)] at h
    cases h
theorem rm_len {α : Type} {g : Nat → α} {n : Nat} : ((List.range n).map g).length = n := by rw [List.length_map, List.length_range]
theorem wk_ite {a : Addr} {g : Nat → D} : Wk [(.lst ((List.range n).map g), .ref a)] (Ite K a) ((List.range n).map fun u => .tup [.int (u : Nat), g u]) := fun M H i hg hM => by
  obtain ⟨a', vs, e, h1, t1, g1⟩ := sqL_rep (K := K) (hg _ (List.mem_singleton_self _))
  cases e
  have l1 := t1.len
  rw [rm_len] at l1
  refine ⟨fun h => ⟨vs, h1, by rw [rm_len] at h; omega⟩, fun d hd => ?_⟩
  obtain ⟨hi, e⟩ := enum_get hd
  subst e
  obtain ⟨v, hv, rv⟩ := t1.get (range_get hi)
  refine ⟨⟨vs, v, h1, hv⟩, fun z H' yl => ?_⟩
  obtain ⟨T, x', e1, hT, e2, f1⟩ := yl
  have q1 := f1 vs h1
  rw [hv] at q1
  cases q1
  subst e1 e2
  exact ⟨same_upd hT, pair_laid hM hT (rep_v.mpr rfl) rv⟩
theorem wk_iteT {a : Addr} {g : Nat → D} : Wk [(.tup ((List.range n).map g), .ref a)] (IteT K a) ((List.range n).map fun u => .tup [.int (u : Nat), g u]) := fun M H i hg hM => by
  obtain ⟨a', vs, e, h1, t1, g1⟩ := sqT_rep (K := K) (hg _ (List.mem_singleton_self _))
  cases e
  have l1 := t1.len
  rw [rm_len] at l1
  refine ⟨fun h => ⟨vs, h1, by rw [rm_len] at h; omega⟩, fun d hd => ?_⟩
  obtain ⟨hi, e⟩ := enum_get hd
  subst e
  obtain ⟨v, hv, rv⟩ := t1.get (range_get hi)
  refine ⟨⟨vs, v, h1, hv⟩, fun z H' yl => ?_⟩
  obtain ⟨T, x', e1, hT, e2, f1⟩ := yl
  have q1 := f1 vs h1
  rw [hv] at q1
  cases q1
  subst e1 e2
  exact ⟨same_upd hT, pair_laid hM hT (rep_v.mpr rfl) rv⟩
theorem edt_enumL {g : Nat → D} (ha : Ed B Γ ta (.lst ((List.range n).map g))) : Edt B Γ (iEnumX K (tCons ta tNil)) ((List.range n).map fun u => .tup [.int (u : Nat), g u]) := fun as H σ S R k => by
  refine ha as H σ S _ fun da x H1 ea S1 e1 r1 => ?_
  subst ea
  obtain ⟨a, vs, f1, h1, t1, g1⟩ := sqL_rep (K := K) r1
  subst f1
  exact ⟨a, vs, rfl, .inl ⟨h1, k _ _ _ H1 rfl S1 e1 (gh1 r1) wk_ite⟩⟩
theorem edt_enumT {g : Nat → D} (ha : Ed B Γ ta (.tup ((List.range n).map g))) : Edt B Γ (iEnumX K (tCons ta tNil)) ((List.range n).map fun u => .tup [.int (u : Nat), g u]) := fun as H σ S R k => by
  refine ha as H σ S _ fun da x H1 ea S1 e1 r1 => ?_
  subst ea
  obtain ⟨a, vs, f1, h1, t1, g1⟩ := sqT_rep (K := K) r1
  subst f1
  exact ⟨a, vs, rfl, .inr ⟨h1, k _ _ _ H1 rfl S1 e1 (gh1 r1) wk_iteT⟩⟩
/-- list(zip(t, u)) -/
theorem edn_listZip {g h : Nat → D} (ha : Ed B Γ ta (.tup ((List.range n).map g))) (hb : Ed B Γ tb (.tup ((List.range n).map h))) : EdN B Γ (tListZip K (tCons ta (tCons tb tNil))) ((List.range n).map fun u => .tup [g u, h u]) := fun as H σ S Q q => by
  refine ha as H σ S _ fun da x H1 ea S1 e1 r1 => ?_
  refine hb as H1 σ S1 _ fun db y H2 eb S2 e2 r2 => ?_
  subst ea eb
  have r1' := r1.up (S1.eo e2)
  obtain ⟨a, vs, f1, h1, t1, g1⟩ := sqT_rep (K := K) r1'
  obtain ⟨b, us, f2, h2, t2, g2⟩ := sqT_rep (K := K) r2
  subst f1 f2
  have l1 := t1.len
  have l2 := t2.len
  rw [rm_len] at l1 l2
  refine ⟨a, b, vs, us, rfl, h1, h2, by omega, fun H' p ts sm hp hts hn hp' hl hz => ?_⟩
  have hM := S2.not_new hp
  refine q _ p _ H' rfl (S.back (e1.trans e2) hp hM) hM (S2.grow sm) ((e1.trans e2).trans (Same.off sm)) hp' ?_
  refine .of (by rw [rm_len, List.length_map]; omega) fun i d v hd hv => ?_
  obtain ⟨hi, e⟩ := enum_get hd
  subst e
  rw [List.getElem?_map] at hv
  cases ht : ts[i]? with
  | none => rw [ht] at hv; cases hv
  | some t =>
    rw [ht] at hv
    cases hv
    obtain ⟨x, y, hx, hy, ho⟩ := hz i t ht
    have mt := List.mem_of_getElem? ht
    have up : Same (wo H2 (MM B as)) (wo H' (p :: MM B as)) := fun b o z => by
      obtain ⟨z1, z2⟩ := wo_some.mp z
      exact wo_some.mpr ⟨fun w => (List.mem_cons.mp w).elim (ne_of_none z2 hp) z1, sm _ _ z2⟩
    refine rep_tup.mpr ⟨t, [x, y], rfl, wo_some.mpr ⟨fun w => ?_, ho⟩, .cons ((t1.at (range_get hi) hx).up up) (.cons ((t2.at (range_get hi) hy).up up) .nil)⟩
    rcases List.mem_cons.mp w with z | z
    · exact hn (z ▸ mt)
    · exact S2.not_new (hts t mt) z
end
end DL

set_option maxHeartbeats 2000000
namespace DL
open PySem PySem.Spec PyProof.Rows L2

section
variable {K : PySem.W.Frag} {B : Base} {Γ : List Slot} {ta tb tc te : TE} {tt tu : TT} {d da db : D} {ds es xs ys : List D} {i j : Int} {k n : Nat} {t u : TS} {E : Post}
/-! ### comprehensions -/
theorem filt_map {α β : Type} (c : α → Bool) (f : α → β) (b0 : β) : ∀ l : List α, ((List.range l.length).filter (fun i => match l[i]? with | some a => c a | none => false)).map (fun i => match l[i]? with | some a => f a | none => b0) = (l.filter c).map f
  | [] => rfl
  | a :: l => by
    have ih := filt_map c f b0 l
    rw [List.length_cons, List.range_succ_eq_map, List.filter_cons, List.filter_map, List.filter_cons]
    simp only [List.getElem?_cons_zero]
    have e : ((fun i => match (a :: l)[i]? with | some a => c a | none => false) ∘ Nat.succ) = (fun i => match l[i]? with | some a => c a | none => false) := by
      funext i
      simp
    rw [e]
    have e2 : (List.map Nat.succ (List.filter (fun i => match l[i]? with | some a => c a | none => false) (List.range l.length))).map (fun i => match (a :: l)[i]? with | some a => f a | none => b0) = (l.filter c).map f := by
      rw [List.map_map, ← ih]
      congr 1
    split
    · rw [List.map_cons, e2]
      rfl
    · rw [e2]
theorem filter_all {α : Type} (l : List α) : l.filter (fun _ => true) = l := List.filter_eq_self.mpr fun _ _ => rfl
/-- [te for gt in ..], items of a row -/
theorem edn_lcR {g f : Nat → D} {wi : TI} {gt : TG} {vs js : List Nat} (hi : Edt B Γ wi ((List.range n).map g)) (hz : n < sizeLine) (hj : ∀ j ∈ js, j ∈ vs)
    (ht : ∀ u, u < n → ∀ B' : Base, B'.hd = B.hd → Tg B' (wipeG (Γ.map dem) vs) gt js (g u) (fun Γ2 => Ed B' Γ2 te (f u))) : EdN B Γ (tLc wi gt tYes te vs) ((List.range n).map f) := by
  have h := evn_lc (c := fun _ => true) (f := f) (te := te) (tt := tYes) hi (by rw [rm_len]; exact hz) hj fun i d hd B' hB => by
    obtain ⟨h1, h2⟩ := enum_get hd
    subst h2
    intro as H σ v S r Q q
    exact ht i h1 B' hB as H σ v S r Q fun as' σ' Γ' k => q as' σ' Γ' ⟨fun as H σ S Q q => q true H rfl S Off.refl, fun _ => k⟩
  rw [rm_len, filter_all] at h
  exact h
/-- [te for gt in .. if tt], a list of items of a kind -/
theorem edn_lcF {α : Type} {pts : List α} {g f : α → D} {c : α → Bool} {wi : TI} {gt : TG} {vs js : List Nat} (hi : Edt B Γ wi (pts.map g)) (hz : pts.length < sizeLine) (hj : ∀ j ∈ js, j ∈ vs)
    (ht : ∀ p, p ∈ pts → ∀ B' : Base, B'.hd = B.hd → Tg B' (wipeG (Γ.map dem) vs) gt js (g p) (fun Γ2 => Ep B' Γ2 tt (c p = true) ∧ (c p = true → Ed B' Γ2 te (f p)))) : EdN B Γ (tLc wi gt tt te vs) ((pts.filter c).map f) := by
  rw [← filt_map c f .non pts]
  have h := evn_lc (c := fun i => match pts[i]? with | some a => c a | none => false) (f := fun i => match pts[i]? with | some a => f a | none => .non) (te := te) (tt := tt) hi (by rw [List.length_map]; exact hz) hj fun i d hd B' hB => by
    rw [List.getElem?_map] at hd
    cases e : pts[i]? with
    | none => rw [e] at hd; cases hd
    | some p =>
      rw [e] at hd
      cases hd
      have := ht p (List.mem_of_getElem? e) B' hB
      simp only [e]
      intro as H σ v S r Q q
      exact this as H σ v S r Q fun as' σ' Γ' k => q as' σ' Γ' ⟨k.1.imp fun b z => by cases b <;> cases hc : c p <;> simp_all, k.2⟩
  rw [List.length_map] at h
  exact h
theorem edn_lcA {α : Type} {pts : List α} {g f : α → D} {wi : TI} {gt : TG} {vs js : List Nat} (hi : Edt B Γ wi (pts.map g)) (hz : pts.length < sizeLine) (hj : ∀ j ∈ js, j ∈ vs)
    (ht : ∀ p, p ∈ pts → ∀ B' : Base, B'.hd = B.hd → Tg B' (wipeG (Γ.map dem) vs) gt js (g p) (fun Γ2 => Ed B' Γ2 te (f p))) : EdN B Γ (tLc wi gt tYes te vs) (pts.map f) := by
  have h := edn_lcF (c := fun _ => true) (f := f) (te := te) (tt := tYes) hi hz hj fun p hp B' hB => by
    intro as H σ v S r Q q
    exact ht p hp B' hB as H σ v S r Q fun as' σ' Γ' k => q as' σ' Γ' ⟨fun as H σ S Q q => q true H (by simp) S Off.refl, fun _ => k⟩
  rw [filter_all] at h
  exact h
theorem edt_rngN (ha : Ed B Γ ta (.int (n : Nat))) (h : n < 2 ^ 62) : Edt B Γ (iRng1 (tCons ta tNil)) ((List.range n).map fun u => .int (u : Nat)) := by
  have e : rngD 0 n = (List.range n).map fun u => .int (u : Nat) := by
    unfold rngD
    refine List.map_congr_left fun u _ => ?_
    rw [Int.zero_add]
  rw [← e]
  exact edt_rng ha h
/-! ### loops over a row -/
theorem tr_forR {g : Nat → D} {wi : TI} {gt : TG} {tb : TS} {js : List Nat} (hi : Edt B Γ wi ((List.range n).map g)) (I : Nat → List Slot → Prop) (h0 : I 0 Γ)
    (hs : ∀ u Γ' gg, u < n → I u Γ' → Tg (B.gh gg) Γ' gt js (g u) (fun Γ2 => Tr (B.gh gg) Γ2 tb ⟨I (u + 1), E.rt, fun Γ3 => Tr B Γ3 t E, I (u + 1)⟩))
    (hd : ∀ Γ', I n Γ' → Tr B Γ' t E) : Tr B Γ (tSeq (tFor wi gt tb) t) E := by
  refine tr_for (js := js) hi (fun _ => I) (fun _ _ => h0) (fun ds i d Γ' gg pd hd2 hI => ?_) (fun ds Γ' pd hI => ?_)
  · subst pd
    obtain ⟨h1, h2⟩ := enum_get hd2
    subst h2
    exact hs i Γ' gg h1 hI
  · subst pd
    rw [rm_len] at hI
    exact hd Γ' hI
/-- .. over the items of a list -/
theorem tr_forP {α : Type} {pts : List α} {g : α → D} {wi : TI} {gt : TG} {tb : TS} {js : List Nat} (hi : Edt B Γ wi (pts.map g)) (I : Nat → List Slot → Prop) (h0 : I 0 Γ)
    (hs : ∀ u p Γ' gg, pts[u]? = some p → I u Γ' → Tg (B.gh gg) Γ' gt js (g p) (fun Γ2 => Tr (B.gh gg) Γ2 tb ⟨I (u + 1), E.rt, fun Γ3 => Tr B Γ3 t E, I (u + 1)⟩))
    (hd : ∀ Γ', I pts.length Γ' → Tr B Γ' t E) : Tr B Γ (tSeq (tFor wi gt tb) t) E := by
  refine tr_for (js := js) hi (fun _ => I) (fun _ _ => h0) (fun ds i d Γ' gg pd hd2 hI => ?_) (fun ds Γ' pd hI => ?_)
  · subst pd
    rw [List.getElem?_map] at hd2
    cases e : pts[i]? with
    | none => rw [e] at hd2; cases hd2
    | some p =>
      rw [e] at hd2
      cases hd2
      exact hs i p Γ' gg e hI
  · subst pd
    rw [List.length_map] at hI
    exact hd Γ' hI

/-! ### own lists, read -/
theorem Sat.thaw {as : List (List Addr)} {H H' : Hp} {σ : L2.St} {i : Nat} (S : Sat B as H σ Γ) {as' : List (List Addr)} {Γ' : List Slot} (S' : Sat B as' H' σ Γ') (e : Off B.ho H H') : Sat B as H' σ Γ := S.off e fun h q => by
  obtain ⟨ns, a, x, y, z, g1, g2, g3, g4⟩ := S'.W.hand h q
  obtain ⟨ns', a', x', y', z', f1, f2, f3, f4⟩ := S.W.hand h q
  exact ⟨ns, a, x, y, z, g1, g2, f3, g4⟩
theorem eb_ro {i : Nat} {P : Bool → Prop} (h : Γ[i]? = some (.own ds)) (k : Eb B (Γ.set i (.d (.lst ds))) tt P) : Eb B Γ tt P := fun as H σ S Q q =>
  k _ H σ (S.freeze h) Q fun b H' p S' e => q b H' p (S.thaw (i := i) S' e) e
theorem ev_ro {i : Nat} {P : D → Prop} (h : Γ[i]? = some (.own ds)) (k : Ev B (Γ.set i (.d (.lst ds))) te P) (hs : ∀ d, P d → ∃ x, d = .v x) : Ev B Γ te P := fun as H σ S Q q =>
  k _ H σ (S.freeze h) Q fun d v H' p S' e r => q d v H' p (S.thaw (i := i) S' e) e (by
    obtain ⟨x, ex⟩ := hs d p
    subst ex
    exact rep_v.mpr (rep_v.mp r))
theorem ed_ixOwn {i : Nat} {z : Int} (h : Γ[i]? = some (.own ds)) (hb : Ed B Γ tb (.int z)) (hz : L2.atI ds z = some d) : Ed B Γ (tOp (rIx K) (tVar i) tb) d := fun as H σ S Q q => by
  obtain ⟨p, vs, h1, h2, h3, h4, h5⟩ := S.own h
  refine ⟨.ref p, h1, ?_⟩
  refine hb as H σ S _ fun db y H2 eb S2 e2 r2 => ?_
  subst eb
  obtain ⟨p', us, g1, g2, g3, g4, g5⟩ := S2.own h
  have ep : p' = p := by rw [g1] at h1; cases h1; rfl
  subst ep
  obtain ⟨v, hv, rv⟩ := g5.atI hz
  exact .inl ⟨p', us, z, v, rfl, rep_v.mp r2, SqL.of g4, hv, q _ v H2 rfl S2 e2 rv⟩
/-- gt.. = own.pop() -/
theorem tr_pop {i : Nat} {gt : TG} {js : List Nat} (h : Γ[i]? = some (.own (ds ++ [d]))) (k : Tg B (Γ.set i (.own ds)) gt js d (fun Γ2 => Tr B Γ2 t E)) : Tr B Γ (tSeq (tAsg (tBM0 K "list" rPop (tVar i)) gt) t) E := fun as H σ S Dn m => by
  obtain ⟨p, vs, h1, h2, h3, h4, h5⟩ := S.own h
  have hl := h5.len
  rw [List.length_append, List.length_singleton] at hl
  have hg : (ds ++ [d])[vs.length - 1]? = some d := by
    rw [← hl, Nat.add_sub_cancel, List.getElem?_append_right (Nat.le_refl _), Nat.sub_self] <;> rfl
  obtain ⟨v, hv, rv⟩ := h5.get hg
  refine ⟨.ref p, h1, .inl ⟨rfl, vs, SqL.of h4⟩, p, vs, v, rfl, rfl, h4, hv, ?_⟩
  have r' : Reps (wo H (MM B as)) ds vs.dropLast := by
    have := h5.dropLast
    rw [List.dropLast_concat] at this
    exact this
  have S2 := S.ownUpd h h2 h1 r'
  have hM : p ∈ MM B as := List.mem_append_left _ h3
  refine k as _ σ v S2 (by rw [wo_upd hM]; exact rv) _ fun as' σ' Γ' kk S' _ _ => kk as' _ σ' S' Dn m

/-! ### isinstance -/
def D.cls : D → Option String
  | .v .non => some "NoneType"
  | .v (.bl _) => some "bool"
  | .v (.int _) => some "int"
  | .v (.str _) => some "str"
  | .tup _ => some "tuple"
  | .lst _ => some "list"
  | _ => none
theorem ed_isi {c n : String} {b : Bool} (ha : Ed B Γ ta d) (hc : d.cls = some c) (hk : kitB c n = some b) : Ed B Γ (tCB (rIsi K) (tCons ta (tCons (tC (.ty n)) tNil))) (.bl b) := ed_cb (ea_2 ha ev_c) fun M H vs hM r Q q => by
  obtain ⟨v, t, e, r1, r2⟩ := reps_cons.mp r
  obtain ⟨v2, t2, e2, r3, r4⟩ := reps_cons.mp r2
  have e3 := reps_nil.mp r4
  have e4 := rep_v.mp r3
  subst e3 e e2 e4
  have ty : TyX K H v (.type c) := by
    cases d with
    | v x =>
      have e := rep_v.mp r1
      subst e
      cases v <;> cases hc
      · exact .base .non
      · exact .base (.bl _)
      · exact .base (.int _)
      · exact .base (.str _)
    | tup ds =>
      cases hc
      obtain ⟨a, us, f1, h1, t1, g1⟩ := sqT_rep (K := K) r1
      subst f1
      exact .base (.tup g1)
    | lst ds =>
      cases hc
      obtain ⟨a, us, f1, h1, t1, g1⟩ := sqL_rep (K := K) r1
      subst f1
      exact .base (.lst g1)
  exact ⟨v, .ty n, .type c, .type n, b, rfl, .ty n, ty, kit_ty hk, q _ _ H rfl (Same.refl H) (rep_v.mpr rfl)⟩
/-! ### calls with keywords alone -/
theorem ev_fk {α : Type} {arg : α → List D} {pre : α → Prop} {res : α → RV → Prop} {gV : List V → List V → List V} {tk : TA} {Pt : List D → Prop} {P : D → Prop} {EE : XK} (ht : Ea B Γ tk Pt)
    (h : ∀ ds, Pt ds → ∃ x, (∀ H vs, Reps H ds vs → Reps H (arg x) (gV [] vs)) ∧ pre x ∧ ∀ r, res x r → P r.d) : Ev B Γ (tCallK (FSp arg pre res) gV EE tNil tk) P := fun as H σ S Q q => by
  refine ht as H σ S _ fun ds vs H1 p S1 e1 r1 => ?_
  obtain ⟨x, ex, hp, hr⟩ := h ds p
  refine ⟨x, MM B as, S1.W.inM, ex _ _ r1, hp, fun r v H2 rr sm ok => ?_⟩
  have S2 := S1.grow sm
  refine q r.d v H2 (hr r rr) S2 (e1.trans (Same.off sm)) ?_
  cases r with
  | known d => exact ok
  | new ds =>
    obtain ⟨p, vs, e, hn, hp, rs⟩ := ok
    exact rep_lst.mpr ⟨p, vs, e, wo_some.mpr ⟨S1.not_new hn, hp⟩, rs.up (wo_sub fun b hb => List.mem_cons_of_mem _ hb)⟩
theorem reps_2 {H : Hp} {x y : D} {vs : List V} (r : Reps H [x, y] vs) : ∃ v w, vs = [v, w] ∧ Rep H x v ∧ Rep H y w := by
  obtain ⟨v, t, e, r1, r2⟩ := reps_cons.mp r
  obtain ⟨v2, t2, e2, r3, r4⟩ := reps_cons.mp r2
  have e3 := reps_nil.mp r4
  subst e3 e e2
  exact ⟨v, v2, rfl, r1, r3⟩
theorem reps_1 {H : Hp} {x : D} {vs : List V} (r : Reps H [x] vs) : ∃ v, vs = [v] ∧ Rep H x v := by
  obtain ⟨v, t, e, r1, r2⟩ := reps_cons.mp r
  have e3 := reps_nil.mp r2
  subst e3 e
  exact ⟨v, rfl, r1⟩
end
end DL

set_option maxHeartbeats 2000000
namespace DL
open PySem PySem.Spec PyProof.Rows L2

/-! ### own lists of own lists -/
abbrev Rws (M : List Addr) (H : Hp) : List Addr → List (List D) → Prop := Paired (fun q row => ∃ vs, H q = some (.lst vs) ∧ Reps (wo H M) row vs)
section
variable {M M' : List Addr} {H H' : Hp} {qs : List Addr} {rows : List (List D)} {row : List D} {u : Nat} {q : Addr}
theorem Rws.up (h : Rws M H qs rows) (e1 : ∀ p ∈ qs, ∀ o, H p = some o → H' p = some o) (e2 : Same (wo H M) (wo H' M')) : Rws M' H' qs rows := by
  induction h with
  | nil => exact .nil
  | cons r t ih =>
    obtain ⟨vs, q1, q2⟩ := r
    exact .cons ⟨vs, e1 _ List.mem_cons_self _ q1, q2.up e2⟩ (ih fun q hq => e1 q (List.mem_cons_of_mem _ hq))
theorem Rws.len (h : Rws M H qs rows) : qs.length = rows.length := by
  induction h with
  | nil => rfl
  | cons _ _ ih => rw [List.length_cons, List.length_cons, ih]
theorem Rws.get (h : Rws M H qs rows) (e : rows[u]? = some row) : ∃ q vs, qs[u]? = some q ∧ q ∈ qs ∧ H q = some (.lst vs) ∧ Reps (wo H M) row vs := by
  induction h generalizing u with
  | nil => simp at e
  | cons r t ih =>
    obtain ⟨vs, q1, q2⟩ := r
    cases u with
    | zero =>
      simp at e
      subst e
      exact ⟨_, vs, rfl, List.mem_cons_self, q1, q2⟩
    | succ u =>
      simp at e
      obtain ⟨q, vs, h1, h2, h3, h4⟩ := ih e
      exact ⟨q, vs, by simpa using h1, List.mem_cons_of_mem _ h2, h3, h4⟩
theorem Rws.set {us : List V} (h : Rws M H qs rows) (hn : qs.Nodup) (hm : ∀ q ∈ qs, q ∈ M) (hq : qs[u]? = some q) (r : Reps (wo H M) row us) : Rws M (upd H q (.lst us)) qs (rows.set u row) := by
  induction h generalizing u with
  | nil => simp at hq
  | @cons a b as bs r0 t ih =>
    have ew : wo (upd H q (.lst us)) M = wo H M := wo_upd (hm q (List.mem_of_getElem? hq))
    obtain ⟨hn1, hn2⟩ := List.nodup_cons.mp hn
    cases u with
    | zero =>
      simp at hq
      subst hq
      refine .cons ⟨us, upd_same, by rw [ew]; exact r⟩ (Rws.up t (fun p hp o z => ?_) (by rw [ew]; exact Same.refl _))
      rw [upd_ne (fun e => hn1 (by rw [← e]; exact hp))]
      exact z
    | succ u =>
      simp at hq
      obtain ⟨vs, q1, q2⟩ := r0
      refine .cons ⟨vs, ?_, by rw [ew]; exact q2⟩ (ih hn2 (fun p hp => hm p (List.mem_cons_of_mem _ hp)) hq)
      rw [upd_ne (fun e => hn1 (by rw [e]; exact List.mem_of_getElem? hq))]
      exact q1
theorem Rws.snoc {us : List V} (h : Rws M H qs rows) (hq : H q = some (.lst us)) (r : Reps (wo H M) row us) : Rws M H (qs ++ [q]) (rows ++ [row]) := by
  induction h with
  | nil => exact .cons ⟨us, hq, r⟩ .nil
  | cons r0 t ih => exact .cons r0 ih
end

section
variable {K : PySem.W.Frag} {B : Base} {Γ : List Slot} {ta tb tc te tu tv : TE} {tt : TT} {d da db : D} {ds es xs ys : List D} {k n : Nat} {t : TS} {E : Post} {as : List (List Addr)} {H H' : Hp} {σ : L2.St} {i : Nat} {rows : List (List D)} {p q : Addr} {qs : List Addr}
/-- a new list of new lists -/
def EvM (B : Base) (Γ : List Slot) (te : TE) (rows : List (List D)) : Prop := ∀ as H σ, Sat B as H σ Γ → ∀ Q : VK,
  (∀ p qs H', (p :: qs).Nodup → (∀ x ∈ p :: qs, H x = none ∧ x ∉ MM B as) → Sat B as H' σ Γ → Off B.ho H H' → H' p = some (.lst (qs.map V.ref)) → Rws (p :: qs ++ MM B as) H' qs rows → Q (.ref p) H') → te σ H Q
theorem Sat.mat (S : Sat B as H σ Γ) (h : Γ[i]? = some (.mat rows)) : ∃ p qs, σ[i]? = some (some (.ref p)) ∧ as[i]? = some (p :: qs) ∧ H p = some (.lst (qs.map V.ref)) ∧ Rws (MM B as) H qs rows ∧ (p :: qs).Nodup ∧ ∀ x ∈ p :: qs, x ∈ as.flatten := by
  obtain ⟨o, a, h1, h2, p, qs, e1, e2, h3, h4⟩ := S.slot i _ h
  subst e1 e2
  refine ⟨p, qs, h1, h2, h3, h4, ?_, fun x hx => mem_flat h2 hx⟩
  have : ∀ {l : List (List Addr)} {j : Nat} {a : List Addr}, l.flatten.Nodup → l[j]? = some a → a.Nodup := by
    intro l
    induction l with
    | nil => intro j a _ h; simp at h
    | cons b l ih =>
      intro j a hn h
      rw [List.flatten_cons] at hn
      obtain ⟨n1, n2, _⟩ := List.nodup_append.mp hn
      cases j with
      | zero => simp at h; subst h; exact n1
      | succ j => simp at h; exact ih n2 h
  exact this S.nd h2
/-- a slot takes new lists -/
theorem Sat.setM {s : Slot} {v : V} {nw : List Addr} (S : Sat B as H σ Γ) (S' : Sat B as H' σ Γ) (e : Off B.ho H H') (hn : nw.Nodup) (hnew : ∀ x ∈ nw, H x = none ∧ x ∉ MM B as) (hall : ∀ x ∈ nw, H' x ≠ none)
    (hs : ∀ M', Same (wo H' (nw ++ MM B as)) (wo H' M') → SlotOk M' H' (some v) s nw) : Sat B (as.set i nw) H' (σ.set i (some v)) (Γ.set i s) := by
  have sub : ∀ b, b ∈ MM B (as.set i nw) → b ∈ nw ++ MM B as := fun b hb => by
    rcases List.mem_append.mp hb with z | z
    · rcases flat_set z with q | q
      · exact List.mem_append_left _ q
      · exact List.mem_append_right _ (List.mem_append_left _ q)
    · exact List.mem_append_right _ (List.mem_append_right _ z)
  have up : Same (wo H (MM B as)) (wo H' (MM B (as.set i nw))) := fun b o z => by
    obtain ⟨h1, h2⟩ := wo_some.mp z
    refine wo_some.mpr ⟨fun q => ?_, e b o (fun q => h1 (S.hM b q)) h2⟩
    rcases List.mem_append.mp (sub b q) with w | w
    · rw [(hnew b w).1] at h2; cases h2
    · exact h1 w
  refine ⟨by rw [List.length_set, List.length_set, S.l1], by rw [List.length_set, List.length_set, S.l2], fun j s' hj => ?_, nd_set S.nd hn (fun q hq z => (hnew q hq).2 (List.mem_append_left _ z)), fun q hq => ?_, ?_⟩
  · rw [List.getElem?_set] at hj
    split at hj
    · rename_i e'
      subst e'
      split at hj
      · rename_i hl
        cases hj
        refine ⟨some v, nw, ?_, ?_, hs _ (wo_sub sub)⟩
        · rw [List.getElem?_set_self (by rw [S.l1]; exact hl)]
        · rw [List.getElem?_set_self (by rw [S.l2]; exact hl)]
      · cases hj
    · rename_i hne
      obtain ⟨o, a, h1, h2, h3⟩ := S.slot j s' hj
      refine ⟨o, a, ?_, ?_, h3.up (fun q hq o z => e q o (S.ne_hd (mem_flat h2 hq)) z) up⟩
      · rw [List.getElem?_set_ne hne]; exact h1
      · rw [List.getElem?_set_ne hne]; exact h2
  · rcases flat_set hq with z | z
    · exact ⟨S.new0 (hnew q z).1, fun w => (hnew q z).2 (List.mem_append_right _ w)⟩
    · exact S.fresh q z
  · refine ⟨fun m hm => ?_, S'.W.off, fun p hp => (S.W.gh p hp).up up, S.W.hin, fun q hq => ?_⟩
    · rcases List.mem_append.mp (sub m hm) with z | z
      · exact hall m z
      · exact S'.W.inM m z
    · obtain ⟨ns, a1, x, y, z, g1, g2, g3, g4⟩ := S'.W.hand q hq
      obtain ⟨ns', a1', x', y', z', g1', g2', g3', g4'⟩ := S.W.hand q hq
      refine ⟨ns, a1, x, y, z, g1, g2, fun w => ?_, g4⟩
      rcases List.mem_append.mp (sub _ w) with u | u
      · rw [(hnew _ u).1] at g2'; cases g2'
      · exact g3 u
theorem tr_mat (h : EvM B Γ te rows) (k : Tr B (Γ.set i (.mat rows)) t E) : Tr B Γ (tSeq (tAsg te (gName i)) t) E := fun as H σ S Dn m =>
  h as H σ S _ fun p qs H' hn hnew S' e hp rs => k _ H' _ (S.setM S' e hn hnew (fun x hx => by
    rcases List.mem_cons.mp hx with z | z
    · rw [z, hp]; exact (fun z => nomatch z)
    · obtain ⟨j, hj⟩ := List.getElem?_of_mem z
      have hl := rs.len
      have hj2 : j < rows.length := by
        have := (List.getElem?_eq_some_iff.mp hj).1
        omega
      obtain ⟨q, vs, h1, _, h2, _⟩ := rs.get (u := j) (row := rows[j]) (by simp [hj2])
      rw [hj] at h1
      cases h1
      rw [h2]
      exact (fun z => nomatch z)) fun M' sm => ⟨p, qs, rfl, rfl, hp, Rws.up rs (fun _ _ _ z => z) sm⟩) Dn m
/-- the addresses of slot i given up -/
theorem Sat.freezeM (S : Sat B as H σ Γ) (h : Γ[i]? = some (.mat rows)) : Sat B (as.set i []) H σ (Γ.set i (.d (.lst (rows.map D.lst)))) := by
  obtain ⟨p, qs, h1, h2, h3, h4, h5, h6⟩ := S.mat h
  obtain ⟨hl1, hl2, hl3⟩ := S.lt h
  have sub : ∀ b, b ∈ MM B (as.set i []) → b ∈ MM B as := fun b hb => by
    rcases List.mem_append.mp hb with z | z
    · rcases flat_set z with q | q
      · cases q
      · exact List.mem_append_left _ q
    · exact List.mem_append_right _ z
  have nin : ∀ x ∈ p :: qs, x ∉ MM B (as.set i []) := fun x hx hb => by
    rcases List.mem_append.mp hb with z | z
    · obtain ⟨l, q1, q2⟩ := List.mem_flatten.mp z
      obtain ⟨j, hj⟩ := List.getElem?_of_mem q1
      rw [List.getElem?_set] at hj
      split at hj
      · cases hj; cases q2
      · rename_i hne
        exact hne (nd_apart S.nd h2 hj hx q2)
    · exact S.nM (h6 x hx) z
  have hr : Rep (wo H (MM B (as.set i []))) (.lst (rows.map D.lst)) (.ref p) := by
    refine rep_lst.mpr ⟨p, qs.map V.ref, rfl, wo_some.mpr ⟨nin p List.mem_cons_self, h3⟩, ?_⟩
    have hl := h4.len
    refine .of (by rw [List.length_map, List.length_map, hl]) fun j d v hd hv => ?_
    rw [List.getElem?_map] at hd hv
    cases e1 : rows[j]? with
    | none => rw [e1] at hd; cases hd
    | some row =>
      rw [e1] at hd
      cases hd
      obtain ⟨q, vs, g1, g2, g3, g4⟩ := h4.get e1
      rw [g1] at hv
      cases hv
      exact rep_lst.mpr ⟨q, vs, rfl, wo_some.mpr ⟨nin q (List.mem_cons_of_mem _ g2), g3⟩, g4.up (wo_sub sub)⟩
  refine ⟨by rw [List.length_set, S.l1], by rw [List.length_set, List.length_set, S.l2], fun j s hj => ?_, nd_set S.nd List.nodup_nil (fun _ q => nomatch q), fun q hq => ?_, ?_⟩
  · rw [List.getElem?_set] at hj
    split at hj
    · rename_i e
      subst e
      cases hj
      exact ⟨_, [], h1, List.getElem?_set_self hl2, rfl, _, rfl, hr⟩
    · rename_i hne
      obtain ⟨o, a, g1, g2, g3⟩ := S.slot j s hj
      exact ⟨o, a, g1, by rw [List.getElem?_set_ne hne]; exact g2, g3.up (fun _ _ _ z => z) (wo_sub sub)⟩
  · rcases flat_set hq with z | z
    · cases z
    · exact S.fresh q z
  · exact ⟨fun m hm => S.W.inM m (sub m hm), S.W.off, fun p hp => (S.W.gh p hp).up (wo_sub sub), S.W.hin, fun h q => (S.W.hand h q).up (fun _ z => z) (wo_sub sub)⟩
theorem tr_freezeM (h : Γ[i]? = some (.mat rows)) (k : Tr B (Γ.set i (.d (.lst (rows.map D.lst)))) t E) : Tr B Γ t E := fun as H σ S Dn m => k _ H σ (S.freezeM h) Dn m
theorem eb_roM {P : Bool → Prop} (h : Γ[i]? = some (.mat rows)) (k : Eb B (Γ.set i (.d (.lst (rows.map D.lst)))) tt P) : Eb B Γ tt P := fun as H σ S Q q =>
  k _ H σ (S.freezeM h) Q fun b H' p S' e => q b H' p (S.thaw (i := i) S' e) e
theorem ev_roM {P : D → Prop} (h : Γ[i]? = some (.mat rows)) (k : Ev B (Γ.set i (.d (.lst (rows.map D.lst)))) te P) (hs : ∀ d, P d → ∃ x, d = .v x) : Ev B Γ te P := fun as H σ S Q q =>
  k _ H σ (S.freezeM h) Q fun d v H' p S' e r => q d v H' p (S.thaw (i := i) S' e) e (by
    obtain ⟨x, ex⟩ := hs d p
    subst ex
    exact rep_v.mpr (rep_v.mp r))
theorem ed_roM {x : V} (h : Γ[i]? = some (.mat rows)) (k : Ed B (Γ.set i (.d (.lst (rows.map D.lst)))) te (.v x)) : Ed B Γ te (.v x) := ev_roM h k fun d e => ⟨x, e⟩
theorem ed_ro {x : V} (h : Γ[i]? = some (.own ds)) (k : Ed B (Γ.set i (.d (.lst ds))) te (.v x)) : Ed B Γ te (.v x) := ev_ro h k fun d e => ⟨x, e⟩
/-- the row u takes new items -/
theorem Sat.matUpd {u : Nat} {row : List D} {us : List V} (S : Sat B as H σ Γ) (h : Γ[i]? = some (.mat rows)) (hi : as[i]? = some (p :: qs)) (hσ : σ[i]? = some (some (.ref p))) (hp : H p = some (.lst (qs.map V.ref))) (hr : Rws (MM B as) H qs rows) (hn : (p :: qs).Nodup) (hq : qs[u]? = some q) (r : Reps (wo H (MM B as)) row us) :
    Sat B as (upd H q (.lst us)) σ (Γ.set i (.mat (rows.set u row))) := by
  have mq : q ∈ p :: qs := List.mem_cons_of_mem _ (List.mem_of_getElem? hq)
  have fl : ∀ x ∈ p :: qs, x ∈ as.flatten := fun x hx => mem_flat hi hx
  have hM : q ∈ MM B as := List.mem_append_left _ (fl q mq)
  obtain ⟨hl1, hl2, hl3⟩ := S.lt h
  have ew : Same (wo H (MM B as)) (wo (upd H q (.lst us)) (MM B as)) := by rw [wo_upd hM]; exact Same.refl _
  obtain ⟨n1, n2⟩ := List.nodup_cons.mp hn
  refine ⟨by rw [List.length_set, S.l1], by rw [List.length_set, S.l2], fun j s hj => ?_, S.nd, S.fresh, ?_⟩
  · rw [List.getElem?_set] at hj
    split at hj
    · rename_i e'
      subst e'
      cases hj
      refine ⟨_, _, hσ, hi, p, qs, rfl, rfl, ?_, hr.set n2 (fun x hx => List.mem_append_left _ (fl x (List.mem_cons_of_mem _ hx))) hq r⟩
      rw [upd_ne (fun e => n1 (by rw [e]; exact List.mem_of_getElem? hq))]
      exact hp
    · rename_i hne
      obtain ⟨o, a, h1, h2, h3⟩ := S.slot j s hj
      refine ⟨o, a, h1, h2, h3.up (fun x hx o z => ?_) ew⟩
      rw [upd_ne (fun e' => hne (nd_apart S.nd hi h2 mq (by rw [← e']; exact hx)))]
      exact z
  · refine ⟨fun m hm => ?_, fun b o n z => ?_, fun p hp => (S.W.gh p hp).up ew, S.W.hin, fun w hw => (S.W.hand w hw).up (fun o z => ?_) ew⟩
    · by_cases e : m = q
      · rw [e, upd_same]; exact (fun z => nomatch z)
      · rw [upd_ne e]; exact S.W.inM m hm
    · rw [upd_ne (fun e => by rw [e, (S.fresh q (fl q mq)).1] at z; cases z)]
      exact S.W.off b o n z
    · rw [upd_ne (fun e => S.ne_hd (fl q mq) (by rw [← e]; exact Base.some_ho hw))]
      exact z
/-- m[u][v] = e -/
theorem tr_matSet {P : D → Prop} {zu zv : Int} {u v : Nat} {row : List D} (h : Γ[i]? = some (.mat rows)) (he : Ev B Γ te P) (hu : Ed B Γ tu (.int zu)) (hv : Ed B Γ tv (.int zv)) (ju : ixN rows.length zu = some u) (hrow : rows[u]? = some row) (jv : ixN row.length zv = some v)
    (k : ∀ d, P d → Tr B (Γ.set i (.mat (rows.set u (row.set v d)))) t E) : Tr B Γ (tSeq (tAsg te (gSub (tOp (rIx K) (tVar i) tu) tv rSetL)) t) E := fun as H σ S Dn m => by
  refine he as H σ S _ fun d x H' pd S' e r => ?_
  obtain ⟨p, qs, h1, h2, h3, h4, h5, h6⟩ := S'.mat h
  refine ⟨.ref p, h1, ?_⟩
  refine hu as H' σ S' _ fun d2 v2 H2 e2 S2 e2' r2 => ?_
  subst e2
  have e3 := rep_v.mp r2
  subst e3
  obtain ⟨p', qs', g1, g2, g3, g4, g5, g6⟩ := S2.mat h
  have ep : p' = p := by rw [g1] at h1; cases h1; rfl
  subst ep
  obtain ⟨q, vs, f1, f2, f3, f4⟩ := g4.get hrow
  have hl := g4.len
  refine .inl ⟨p', qs'.map V.ref, zu, .ref q, rfl, rfl, SqL.of g3, ?_, ?_⟩
  · unfold L2.atI
    rw [List.length_map, hl, ju]
    show (qs'.map V.ref)[u]? = _
    rw [List.getElem?_map, f1]
    rfl
  refine hv as H2 σ S2 _ fun d3 v3 H3 e3 S3 e3' r3 => ?_
  subst e3
  have e4 := rep_v.mp r3
  subst e4
  obtain ⟨p2, qs2, a1, a2, a3, a4, a5, a6⟩ := S3.mat h
  rw [g2] at a2
  cases a2
  obtain ⟨q', us, b1, b2, b3, b4⟩ := a4.get hrow
  rw [f1] at b1
  cases b1
  refine ⟨q, us, zv, v, rfl, rfl, b3, by rw [← b4.len]; exact jv, ?_⟩
  exact k d pd as _ σ (S3.matUpd h g2 a1 a3 a4 a5 f1 (b4.set v ((r.up (S'.eo e2')).up (S2.eo e3')))) Dn m
/-- own [] as a list of lists -/
theorem tr_asMat (h : Γ[i]? = some (.own [])) (k : Tr B (Γ.set i (.mat [])) t E) : Tr B Γ t E := fun as H σ S Dn m => by
  obtain ⟨p, vs, h1, h2, h3, h4, h5⟩ := S.own h
  have ev := reps_nil.mp h5
  subst ev
  obtain ⟨hl1, hl2, hl3⟩ := S.lt h
  refine k as H σ ⟨by rw [List.length_set, S.l1], by rw [List.length_set, S.l2], fun j s hj => ?_, S.nd, S.fresh, S.W⟩ Dn m
  rw [List.getElem?_set] at hj
  split at hj
  · rename_i e'
    subst e'
    cases hj
    exact ⟨_, _, h1, h2, p, [], rfl, rfl, h4, .nil⟩
  · exact S.slot j s hj
/-- m.append(a new list) -/
theorem tr_matApp (h : Γ[i]? = some (.mat rows)) (he : EdN B Γ te ds) (hz : rows.length < sizeLine) (k : Tr B (Γ.set i (.mat (rows ++ [ds]))) t E) : Tr B Γ (tSeq (tDrop (tBM K "list" rAppend (tVar i) (tCons te tNil))) t) E := fun as H σ S Dn m => by
  obtain ⟨p, qs, h1, h2, h3, h4, h5, h6⟩ := S.mat h
  refine ⟨.ref p, h1, .inl ⟨rfl, _, SqL.of h3⟩, ?_⟩
  refine he as H σ S _ fun ds' w vs H' ed hn hw S' e hw' rs => ?_
  subst ed
  obtain ⟨p', qs', g1, g2, g3, g4, g5, g6⟩ := S'.mat h
  rw [h2] at g2
  cases g2
  have hl := g4.len
  refine ⟨p, qs.map V.ref, .ref w, rfl, rfl, g3, by rw [List.length_map, hl]; exact hz, ?_⟩
  have wf : w ∉ as.flatten := fun z => hw (List.mem_append_left _ z)
  have w0 : B.H0 w = none ∧ w ∉ B.M := ⟨S.new0 hn, fun z => hw (List.mem_append_right _ z)⟩
  have wpq : w ∉ p :: qs := fun z => wf (h6 w z)
  have wp : w ≠ p := fun z => wpq (z ▸ List.mem_cons_self)
  obtain ⟨hl1, hl2, hl3⟩ := S.lt h
  have sub : ∀ b, b ∈ MM B (as.set i (p :: (qs ++ [w]))) → b ∈ w :: MM B as := fun b hb => by
    rcases List.mem_append.mp hb with z | z
    · rcases flat_set z with q | q
      · rcases List.mem_cons.mp q with y | y
        · exact List.mem_cons_of_mem _ (List.mem_append_left _ (h6 b (y ▸ List.mem_cons_self)))
        · rcases List.mem_append.mp y with x | x
          · exact List.mem_cons_of_mem _ (List.mem_append_left _ (h6 b (List.mem_cons_of_mem _ x)))
          · exact List.mem_cons.mpr (.inl (List.mem_singleton.mp x))
      · exact List.mem_cons_of_mem _ (List.mem_append_left _ q)
    · exact List.mem_cons_of_mem _ (List.mem_append_right _ z)
  have hpM : p ∈ MM B as := List.mem_append_left _ (h6 p List.mem_cons_self)
  have ew1 : Same (wo H' (w :: MM B as)) (wo (upd H' p (.lst (qs.map V.ref ++ [.ref w]))) (MM B (as.set i (p :: (qs ++ [w]))))) := by
    rw [← wo_upd (H := H') (o := .lst (qs.map V.ref ++ [.ref w])) (List.mem_cons_of_mem w hpM)]
    exact wo_sub sub
  have ew : Same (wo H (MM B as)) (wo (upd H' p (.lst (qs.map V.ref ++ [.ref w]))) (MM B (as.set i (p :: (qs ++ [w]))))) := fun b o z => by
    obtain ⟨z1, z2⟩ := wo_some.mp z
    refine ew1 b o (wo_some.mpr ⟨fun y => (List.mem_cons.mp y).elim (fun x => by rw [x, hn] at z2; cases z2) z1, e b o (fun x => z1 (S.hM b x)) z2⟩)
  have keep : ∀ x ∈ as.flatten, x ≠ p → ∀ o, H x = some o → upd H' p (.lst (qs.map V.ref ++ [.ref w])) x = some o := fun x hx hne o z => by
    rw [upd_ne hne]
    exact e x o (S.ne_hd hx) z
  obtain ⟨n1, n2⟩ := List.nodup_cons.mp h5
  have nd2 : (p :: (qs ++ [w])).Nodup := List.nodup_cons.mpr ⟨fun z => (List.mem_append.mp z).elim n1 fun y => wp (List.mem_singleton.mp y).symm, List.nodup_append.mpr ⟨n2, List.nodup_cons.mpr ⟨fun z => (nomatch z), List.nodup_nil⟩, fun a ha b hb eq => wpq (by rw [List.mem_singleton.mp hb] at eq; exact eq ▸ List.mem_cons_of_mem _ ha)⟩⟩
  have flset : ∀ {l : List (List Addr)} {j : Nat} {a : List Addr}, l.flatten.Nodup → l[j]? = some a → ∀ {b : List Addr}, b.Nodup → (∀ x ∈ b, x ∈ a ∨ x ∉ l.flatten) → (l.set j b).flatten.Nodup := by
    intro l
    induction l with
    | nil => intro j a _ h; simp at h
    | cons c l ih =>
      intro j a hn h b hb hx
      rw [List.flatten_cons] at hn
      obtain ⟨m1, m2, m3⟩ := List.nodup_append.mp hn
      cases j with
      | zero =>
        simp at h
        subst h
        rw [List.set_cons_zero, List.flatten_cons]
        refine List.nodup_append.mpr ⟨hb, m2, fun x hxb y hy eq => ?_⟩
        rcases hx x hxb with z | z
        · exact m3 x z y hy eq
        · exact z (by rw [List.flatten_cons, eq]; exact List.mem_append_right _ hy)
      | succ j =>
        simp at h
        rw [List.set_cons_succ, List.flatten_cons]
        refine List.nodup_append.mpr ⟨m1, ih m2 h hb (fun x hxb => (hx x hxb).imp id fun z y => z (by rw [List.flatten_cons]; exact List.mem_append_right _ y)), fun x hxc y hy eq => ?_⟩
        subst eq
        rcases flat_set hy with z | z
        · rcases hx x z with y | y
          · exact m3 x hxc x (mem_flat h y) rfl
          · exact y (by rw [List.flatten_cons]; exact List.mem_append_left _ hxc)
        · exact m3 x hxc x z rfl
  have nds : (as.set i (p :: (qs ++ [w]))).flatten.Nodup := flset S.nd h2 nd2 fun x hx => by
    rcases List.mem_cons.mp hx with z | z
    · exact .inl (z ▸ List.mem_cons_self)
    · rcases List.mem_append.mp z with y | y
      · exact .inl (List.mem_cons_of_mem _ y)
      · rw [List.mem_singleton.mp y]; exact .inr wf
  refine k (as.set i (p :: (qs ++ [w]))) _ σ ⟨by rw [List.length_set, S.l1], by rw [List.length_set, List.length_set, S.l2], fun j s hj => ?_, nds, fun x hx => ?_, ?_⟩ Dn m
  · rw [List.getElem?_set] at hj
    split at hj
    · rename_i e'
      subst e'
      cases hj
      refine ⟨_, p :: (qs ++ [w]), g1, List.getElem?_set_self hl2, p, qs ++ [w], rfl, ?_, ?_, ?_⟩
      · rfl
      · rw [upd_same, List.map_append]; rfl
      · have r0 := Rws.up (H' := upd H' p (.lst (qs.map V.ref ++ [.ref w]))) h4 (fun x hx o z => keep x (h6 x (List.mem_cons_of_mem _ hx)) (fun eq => n1 (eq ▸ hx)) o z) ew
        exact r0.snoc (us := vs) (by rw [upd_ne wp]; exact hw') (rs.up ew1)
    · rename_i hne
      obtain ⟨o, a, f1, f2, f3⟩ := S.slot j s hj
      refine ⟨o, a, f1, by rw [List.getElem?_set_ne hne]; exact f2, f3.up (fun x hx o z => keep x (mem_flat f2 hx) (fun eq => hne (nd_apart S.nd h2 f2 List.mem_cons_self (eq ▸ hx))) o z) ew⟩
  · rcases flat_set hx with z | z
    · rcases List.mem_cons.mp z with y | y
      · exact S.fresh x (h6 x (y ▸ List.mem_cons_self))
      · rcases List.mem_append.mp y with y | y
        · exact S.fresh x (h6 x (List.mem_cons_of_mem _ y))
        · rw [List.mem_singleton.mp y]; exact w0
    · exact S.fresh x z
  · refine ⟨fun b hb => ?_, fun b o nb z => ?_, fun x hx => (S.W.gh x hx).up ew, S.W.hin, fun hh hq => ?_⟩
    · by_cases eq : b = p
      · rw [eq, upd_same]; exact (fun z => nomatch z)
      · rw [upd_ne eq]
        rcases List.mem_cons.mp (sub b hb) with y | y
        · rw [y, hw']; exact (fun z => nomatch z)
        · exact S'.W.inM b y
    · rw [upd_ne (fun eq => by rw [eq, (S.fresh p (h6 p List.mem_cons_self)).1] at z; cases z)]
      exact S'.W.off b o nb z
    · obtain ⟨ns, a1, x, y, z, c1, c2, c3, c4⟩ := S'.W.hand hh hq
      obtain ⟨ns', a1', x', y', z', d1, d2, d3, d4⟩ := S.W.hand hh hq
      refine ⟨ns, a1, x, y, z, ?_, ?_, fun q => ?_, c4⟩
      · rw [upd_ne (fun eq => S.ne_hd (h6 p List.mem_cons_self) (by rw [← eq]; exact Base.some_ho hq))]; exact c1
      · rw [upd_ne (fun eq => c3 (by rw [eq]; exact hpM))]; exact c2
      · rcases List.mem_cons.mp (sub _ q) with r | r
        · rw [r, hn] at d2; cases d2
        · exact c3 r
/-- the lists of slot i were changed by another def, and are left -/
theorem Sat.spend (S : Sat B as H σ Γ) (hi : as[i]? = some (p :: qs)) (sm : Same (wo H (p :: qs)) H') : Sat B (as.set i []) H' σ (Γ.set i .no) := by
  have fl : ∀ x ∈ p :: qs, x ∈ as.flatten := fun x hx => mem_flat hi hx
  have sub : ∀ b, b ∈ MM B (as.set i []) → b ∈ MM B as := fun b hb => by
    rcases List.mem_append.mp hb with z | z
    · rcases flat_set z with q | q
      · cases q
      · exact List.mem_append_left _ q
    · exact List.mem_append_right _ z
  have nin : ∀ x ∈ p :: qs, x ∉ MM B (as.set i []) := fun x hx hb => by
    rcases List.mem_append.mp hb with z | z
    · obtain ⟨l, q1, q2⟩ := List.mem_flatten.mp z
      obtain ⟨j, hj⟩ := List.getElem?_of_mem q1
      rw [List.getElem?_set] at hj
      split at hj
      · split at hj
        · cases hj; cases q2
        · cases hj
      · rename_i hne
        exact hne (nd_apart S.nd hi hj hx q2)
    · exact S.nM (fl x hx) z
  have keep : ∀ b o, b ∉ p :: qs → H b = some o → H' b = some o := fun b o hb z => sm b o (wo_some.mpr ⟨hb, z⟩)
  have ew : Same (wo H (MM B as)) (wo H' (MM B (as.set i []))) := fun b o z => by
    obtain ⟨z1, z2⟩ := wo_some.mp z
    exact wo_some.mpr ⟨fun y => z1 (sub b y), keep b o (fun y => z1 (List.mem_append_left _ (fl b y))) z2⟩
  refine ⟨by rw [List.length_set, S.l1], by rw [List.length_set, List.length_set, S.l2], fun j s hj => ?_, nd_set S.nd List.nodup_nil (fun _ q => nomatch q), fun q hq => ?_, ?_⟩
  · rw [List.getElem?_set] at hj
    split at hj
    · rename_i e
      subst e
      split at hj
      · rename_i hl
        cases hj
        exact ⟨_, [], List.getElem?_eq_getElem (by rw [S.l1]; exact hl), List.getElem?_set_self (by rw [S.l2]; exact hl), rfl⟩
      · cases hj
    · rename_i hne
      obtain ⟨o, a, g1, g2, g3⟩ := S.slot j s hj
      exact ⟨o, a, g1, by rw [List.getElem?_set_ne hne]; exact g2, g3.up (fun x hx o z => keep x o (fun y => hne (nd_apart S.nd hi g2 y hx)) z) ew⟩
  · rcases flat_set hq with z | z
    · cases z
    · exact S.fresh q z
  · refine ⟨fun m hm => ?_, fun b o nb z => ?_, fun x hx => (S.W.gh x hx).up ew, S.W.hin, fun hh hq => (S.W.hand hh hq).up (fun o z => keep _ o (fun y => ?_) z) ew⟩
    · cases z : H m with
      | none => exact absurd z (S.W.inM m (sub m hm))
      | some o => rw [keep m o (fun y => nin m y hm) z]; exact (fun z => nomatch z)
    · refine keep b o (fun y => ?_) (S.W.off b o nb z)
      rw [(S.fresh b (fl b y)).1] at z
      cases z
    · exact S.nM (fl _ y) (S.W.hin hh hq)
end
end DL

set_option maxHeartbeats 2000000
namespace DL
open PySem PySem.Spec PyProof.Rows L2

section
variable {K : PySem.W.Frag} {B : Base} {Γ : List Slot} {ta tb tc te tu tv : TE} {tt : TT} {d da db : D} {ds es xs ys : List D} {k n : Nat} {t : TS} {E : Post} {as : List (List Addr)} {H H' : Hp} {σ : L2.St} {i : Nat} {rows : List (List D)} {p q : Addr} {qs : List Addr}
theorem yes_mp {σ : L2.St} {H : Hp} {A C : Hp → Prop} (h : A H) : tYes σ H (fun b H3 => if b = true then A H3 else C H3) := by
  show (if true = true then A H else C H)
  exact iteT h
theorem Sat.ban {M' : List Addr} (S : Sat B as H σ Γ) (S' : Sat B as H' σ Γ) (e : Off B.ho H H') (hn : H p = none) (hp : p ∉ MM B as) (ho : H' p ≠ none) (hM' : ∀ b, b ∈ M' ↔ b = p ∨ b ∈ B.M) : Sat ⟨M', B.hd, B.H0, B.g⟩ as H' σ Γ := by
  have sub : ∀ b, b ∈ MM ⟨M', B.hd, B.H0, B.g⟩ as → b = p ∨ b ∈ MM B as := fun b hb => by
    rcases List.mem_append.mp hb with z | z
    · exact .inr (List.mem_append_left _ z)
    · exact ((hM' b).mp z).imp id fun y => List.mem_append_right _ y
  have up : Same (wo H (MM B as)) (wo H' (MM ⟨M', B.hd, B.H0, B.g⟩ as)) := fun b o z => by
    obtain ⟨h1, h2⟩ := wo_some.mp z
    refine wo_some.mpr ⟨fun q => ?_, e b o (fun q => h1 (S.hM b q)) h2⟩
    rcases sub b q with w | w
    · rw [w, hn] at h2; cases h2
    · exact h1 w
  refine ⟨S.l1, S.l2, fun j s hj => ?_, S.nd, fun q hq => ⟨(S.fresh q hq).1, fun z => ((hM' q).mp z).elim (fun y => hp (y ▸ List.mem_append_left _ hq)) (S.fresh q hq).2⟩, ?_⟩
  · obtain ⟨o, a, h1, h2, h3⟩ := S.slot j s hj
    exact ⟨o, a, h1, h2, h3.up (fun q hq o z => e q o (S.ne_hd (mem_flat h2 hq)) z) up⟩
  · refine ⟨fun m hm => ?_, S'.W.off, fun p hp => (S.W.gh p hp).up up, fun h q => (hM' _).mpr (.inr (S.W.hin h q)), fun q hq => ?_⟩
    · rcases sub m hm with z | z
      · rw [z]; exact ho
      · exact S'.W.inM m z
    · obtain ⟨ns, a1, x, y, z, g1, g2, g3, g4⟩ := S'.W.hand q hq
      obtain ⟨ns', a1', x', y', z', g1', g2', g3', g4'⟩ := S.W.hand q hq
      refine ⟨ns, a1, x, y, z, g1, g2, fun w => ?_, g4⟩
      rcases sub _ w with u | u
      · rw [u, hn] at g2'; cases g2'
      · exact g3 u
/-- [[..] for gt in ..], a new list of new lists -/
theorem evm_lc {g : Nat → D} {f : Nat → List D} {wi : TI} {gt : TG} {vs js : List Nat} (hi : Edt B Γ wi ((List.range n).map g)) (hz : n < sizeLine) (hj : ∀ j ∈ js, j ∈ vs)
    (ht : ∀ u, u < n → ∀ B' : Base, B'.hd = B.hd → Tg B' (wipeG (Γ.map dem) vs) gt js (g u) (fun Γ2 => EdN B' Γ2 te (f u))) :
    EvM B Γ (tLc wi gt tYes te vs) ((List.range n).map f) := fun as H σ S Q q => by
  refine hi as H σ S _ fun ds' J gg H1 pd S1 e1 hg wk => ?_
  subst pd
  intro Dl hDl
  have hDM : Dl ∉ MM B as := S1.not_new hDl
  have S0 : Sat ⟨Dl :: MM B as, B.hd, H1, gg ++ B.g⟩ _ (upd H1 Dl (.lst [])) (L2.wipe σ vs) (wipeG (Γ.map dem) vs) := (S1.inner hDl hg).wipe vs (dem_ok Γ)
  generalize hAs : List.replicate (Γ.map dem).length ([] : List Addr) = as0 at S0
  have eAs : as0.flatten = [] := by rw [← hAs, flat_nil]
  have eMM : ∀ M hd H0 g', MM ⟨M, hd, H0, g'⟩ as0 = M := fun M hd H0 g' => by unfold MM; rw [eAs] <;> rfl
  refine ⟨fun i m H' => m = n - i ∧ i ≤ n ∧ ∃ qs, qs.Nodup ∧ Dl ∉ qs ∧ (∀ x ∈ qs, H1 x = none ∧ x ∉ MM B as) ∧ Sat ⟨qs ++ Dl :: MM B as, B.hd, H1, gg ++ B.g⟩ as0 H' (L2.wipe σ vs) (wipeG (Γ.map dem) vs) ∧ H' Dl = some (.lst (qs.map V.ref)) ∧ Rws (qs ++ Dl :: MM B as) H' qs ((List.range i).map f),
    ⟨n, by simp, Nat.zero_le _, [], List.nodup_nil, (fun z => nomatch z), (fun _ z => nomatch z), S0, upd_same, .nil⟩, ?_⟩
  rintro i m H2 ⟨rfl, hi2, qs, nq, nDl, fq, S2, ha, hr⟩
  have lq := hr.len
  rw [rm_len] at lq
  generalize hB' : (⟨qs ++ Dl :: MM B as, B.hd, H1, gg ++ B.g⟩ : Base) = B' at S2
  have ehd : B'.hd = B.hd := by rw [← hB'] <;> rfl
  have eH0 : B'.H0 = H1 := by rw [← hB'] <;> rfl
  have eM : B'.M = qs ++ Dl :: MM B as := by rw [← hB'] <;> rfl
  have eMB : MM B' as0 = qs ++ Dl :: MM B as := by unfold MM; rw [eAs, eM] <;> rfl
  have egh : ∀ p ∈ gg, p ∈ B'.g := fun p hp => by rw [← hB']; exact List.mem_append_left _ hp
  have eDM : Dl ∈ B'.M := by rw [eM]; exact List.mem_append_right _ List.mem_cons_self
  have hho : ∀ x, x ∈ Dl :: qs → B'.ho ≠ some x := fun x hx e => by
    obtain ⟨h, h1, h2⟩ := Base.ho_some e
    rw [ehd] at h1
    have := S1.hM h.1 (Base.some_ho h1)
    rw [h2] at this
    rcases List.mem_cons.mp hx with z | z
    · exact hDM (z ▸ this)
    · exact (fq x z).2 this
  obtain ⟨w1, w2⟩ := wk (MM B' as0) H2 i (fun p hp => S2.W.gh p (egh p hp)) S2.W.inM
  by_cases hl : i < n
  · obtain ⟨go, yl⟩ := w2 (g i) (range_get hl)
    refine .inr ⟨go, fun H' => ∃ qs, qs.Nodup ∧ Dl ∉ qs ∧ (∀ x ∈ qs, H1 x = none ∧ x ∉ MM B as) ∧ Sat ⟨qs ++ Dl :: MM B as, B.hd, H1, gg ++ B.g⟩ as0 H' (L2.wipe σ vs) (wipeG (Γ.map dem) vs) ∧ H' Dl = some (.lst (qs.map V.ref)) ∧ Rws (qs ++ Dl :: MM B as) H' qs ((List.range (i + 1)).map f),
      fun H' q => ⟨n - (i + 1), by omega, rfl, hl, q⟩, fun x H3 y => ?_⟩
    obtain ⟨sm, rx⟩ := yl x H3 y
    have S3 := S2.grow sm
    refine ht i hl B' ehd as0 H3 _ x S3 rx _ fun as2 σ2 Γ2 k S4 sub bt => ⟨wipe_but bt hj, ?_⟩
    have sub1 : ∀ b, b ∈ MM B' as0 → b ∈ MM B' as2 := fun b hb => by
      rcases List.mem_append.mp hb with z | z
      · rw [eAs] at z; cases z
      · exact List.mem_append_right _ z
    refine yes_mp ?_
    refine k as2 H3 σ2 S4 _ fun row w us H5 er hn hw S6 e6 hw' rs => ?_
    subst er
    have hDl5 : H5 Dl = some (.lst (qs.map V.ref)) := e6 _ _ (hho Dl List.mem_cons_self) (sm _ _ ha)
    have S7 : Sat B' as0 H5 (L2.wipe σ vs) (wipeG (Γ.map dem) vs) := S3.off e6 fun h q => (S6.W.hand h q).up (fun _ z => z) (wo_sub sub1)
    have hw0 : w ∉ MM B' as0 := fun z => hw (sub1 w z)
    have wq : w ∉ qs := fun z => hw0 (by rw [eMB]; exact List.mem_append_left _ z)
    have wD : w ≠ Dl := fun z => hw0 (by rw [eMB, z]; exact List.mem_append_right _ List.mem_cons_self)
    have wM : w ∉ MM B as := fun z => hw0 (by rw [eMB]; exact List.mem_append_right _ (List.mem_cons_of_mem _ z))
    have w1' : H1 w = none := by
      have := S3.new0 hn
      rw [eH0] at this
      exact this
    have S8 : Sat ⟨(qs ++ [w]) ++ Dl :: MM B as, B'.hd, B'.H0, B'.g⟩ as0 H5 (L2.wipe σ vs) (wipeG (Γ.map dem) vs) := S3.ban S7 e6 hn hw0 (by rw [hw']; exact (fun z => nomatch z)) fun b => by
      rw [eM]
      constructor
      · intro z
        rcases List.mem_append.mp z with y | y
        · rcases List.mem_append.mp y with x | x
          · exact .inr (List.mem_append_left _ x)
          · exact .inl (List.mem_singleton.mp x)
        · exact .inr (List.mem_append_right _ y)
      · intro z
        rcases z with y | y
        · rw [y]; exact List.mem_append_left _ (List.mem_append_right _ (List.mem_singleton_self _))
        · rcases List.mem_append.mp y with x | x
          · exact List.mem_append_left _ (List.mem_append_left _ x)
          · exact List.mem_append_right _ x
    have eB8 : (⟨(qs ++ [w]) ++ Dl :: MM B as, B'.hd, B'.H0, B'.g⟩ : Base) = ⟨(qs ++ [w]) ++ Dl :: MM B as, B.hd, H1, gg ++ B.g⟩ := by rw [← hB']
    rw [eB8] at S8
    refine ⟨qs.map V.ref, hDl5, by rw [List.length_map]; omega, qs ++ [w], List.nodup_append.mpr ⟨nq, List.nodup_cons.mpr ⟨fun z => (nomatch z), List.nodup_nil⟩, fun a ha b hb eq => wq (by rw [List.mem_singleton.mp hb] at eq; exact eq ▸ ha)⟩, fun z => (List.mem_append.mp z).elim nDl fun y => wD (List.mem_singleton.mp y).symm, fun x hx => ?_, ?_, ?_, ?_⟩
    · rcases List.mem_append.mp hx with z | z
      · exact fq x z
      · rw [List.mem_singleton.mp z]; exact ⟨w1', wM⟩
    · refine S8.updM (List.mem_append_right _ List.mem_cons_self) hDl (fun e => ?_) hDl5
      exact hho Dl List.mem_cons_self (by unfold Base.ho at e ⊢; rw [ehd]; exact e)
    · rw [upd_same, List.map_append]; rfl
    · have dm : Dl ∈ (qs ++ [w]) ++ Dl :: MM B as := List.mem_append_right _ List.mem_cons_self
      have upw : ∀ b, b ≠ Dl → upd H5 Dl (.lst (qs.map V.ref ++ [.ref w])) b = H5 b := fun b hb => upd_ne hb
      have ew : Same (wo H2 (qs ++ Dl :: MM B as)) (wo (upd H5 Dl (.lst (qs.map V.ref ++ [.ref w]))) ((qs ++ [w]) ++ Dl :: MM B as)) := by
        rw [wo_upd dm]
        intro b o z
        obtain ⟨z1, z2⟩ := wo_some.mp z
        refine wo_some.mpr ⟨fun y => ?_, e6 b o (fun r => z1 ?_) (sm _ _ z2)⟩
        · rcases List.mem_append.mp y with x | x
          · rcases List.mem_append.mp x with r | r
            · exact z1 (List.mem_append_left _ r)
            · rw [List.mem_singleton.mp r] at z2
              rw [sm _ _ z2] at hn
              cases hn
          · exact z1 (List.mem_append_right _ x)
        · obtain ⟨h, h1, h2⟩ := Base.ho_some r
          rw [ehd] at h1
          rw [← h2]
          exact List.mem_append_right _ (List.mem_cons_of_mem _ (S1.hM h.1 (Base.some_ho h1)))
      have r0 := Rws.up (H' := upd H5 Dl (.lst (qs.map V.ref ++ [.ref w]))) hr (fun x hx o z => by
        rw [upw x (fun eq => nDl (eq ▸ hx))]
        exact e6 x o (hho x (List.mem_cons_of_mem _ hx)) (sm _ _ z)) ew
      rw [List.range_succ, List.map_append]
      refine r0.snoc (us := us) (by rw [upw w wD]; exact hw') (rs.up ?_)
      rw [wo_upd dm]
      refine wo_sub fun b hb => ?_
      rcases List.mem_append.mp hb with y | y
      · rcases List.mem_append.mp y with x | x
        · exact List.mem_cons_of_mem _ (sub1 b (by rw [eMB]; exact List.mem_append_left _ x))
        · rw [List.mem_singleton.mp x]; exact List.mem_cons_self
      · exact List.mem_cons_of_mem _ (sub1 b (by rw [eMB]; exact List.mem_append_right _ y))
  · have e : i = n := by omega
    subst e
    have eo : Off B.ho H1 H2 := by
      have := S2.W.off
      rw [eH0] at this
      unfold Base.ho at this ⊢
      rw [ehd] at this
      exact this
    refine .inl ⟨w1 (by rw [rm_len]; exact Nat.le_refl _), q Dl qs H2 (List.nodup_cons.mpr ⟨nDl, nq⟩) (fun x hx => ?_) (S1.off eo fun h q => ?_) (e1.trans eo) ha (Rws.up hr (fun _ _ _ z => z) (wo_sub fun b hb => ?_))⟩
    · rcases List.mem_cons.mp hx with z | z
      · rw [z]; exact ⟨S.back e1 hDl hDM, hDM⟩
      · exact ⟨S.back e1 (fq x z).1 (fq x z).2, (fq x z).2⟩
    · have := S2.W.hand h (by rw [ehd]; exact q)
      rw [eMB] at this
      exact this.up (fun _ z => z) (wo_sub fun b hb => List.mem_append_right _ (List.mem_cons_of_mem _ hb))
    · rcases List.mem_append.mp hb with y | y
      · rcases List.mem_cons.mp y with x | x
        · rw [x]; exact List.mem_append_right _ List.mem_cons_self
        · exact List.mem_append_left _ x
      · exact List.mem_append_right _ (List.mem_cons_of_mem _ y)
end
end DL

set_option maxHeartbeats 2000000
namespace DL
open PySem PySem.Spec PyProof.Rows L2

section
variable {K : PySem.W.Frag} {B : Base} {Γ : List Slot} {ta tb tc te tu tv : TE} {tt tt1 : TT} {d da db : D} {ds xs ys : List D} {k n : Nat} {t : TS} {E : Post} {as : List (List Addr)} {H H' : Hp} {σ : L2.St} {i : Nat} {rows : List (List D)} {p q : Addr} {qs : List Addr}
theorem Sat.demote {g : List (D × V)} (S : Sat B as H σ Γ) (hg : ∀ q ∈ g, Rep (wo H (MM B as)) q.1 q.2) : Sat ⟨MM B as, B.hd, B.H0, g ++ B.g⟩ (List.replicate Γ.length []) H σ (Γ.map dem) := by
  have eM : MM ⟨MM B as, B.hd, B.H0, g ++ B.g⟩ (List.replicate Γ.length []) = MM B as := by
    show (List.replicate Γ.length ([] : List Addr)).flatten ++ MM B as = MM B as
    rw [flat_nil] <;> rfl
  refine ⟨by rw [List.length_map, S.l1], by rw [List.length_replicate, List.length_map], fun i s hs => ?_, by rw [flat_nil]; exact List.nodup_nil, by rw [flat_nil]; exact (fun _ z => nomatch z), ?_⟩
  · rw [eM]
    rw [List.getElem?_map] at hs
    cases q : Γ[i]? with
    | none => rw [q] at hs; cases hs
    | some s0 =>
      rw [q] at hs
      have e : dem s0 = s := Option.some.inj hs
      have hl : i < Γ.length := (List.getElem?_eq_some_iff.mp q).1
      obtain ⟨o, a, h1, h2, h3⟩ := S.slot i s0 q
      refine ⟨o, [], h1, by rw [List.getElem?_replicate, if_pos hl], ?_⟩
      subst e
      cases s0 with
      | d x =>
        obtain ⟨_, v, e, r⟩ := h3
        exact ⟨rfl, v, e, r⟩
      | no => exact rfl
      | own _ => exact rfl
      | mat _ => exact rfl
  · rw [eM]
    refine ⟨S.W.inM, S.W.off, fun q hq => (List.mem_append.mp hq).elim (hg q) (S.W.gh q), fun h q => List.mem_append_right _ (S.W.hin h q), S.W.hand⟩
/-- [te for gt in .. for gt1 in .. if tt1] -/
theorem evn_lc2 {g : Nat → D} {es : Nat → List D} {c : Nat → Nat → Bool} {f : Nat → Nat → D} {N : Nat} {wi wi1 : TI} {gt gt1 : TG} {vs vs1 js js1 : List Nat} (hi : Edt B Γ wi ((List.range n).map g)) (hz : n * N < sizeLine) (hj : ∀ j ∈ js, j ∈ vs) (hj1 : ∀ j ∈ js1, j ∈ vs1)
    (ht : ∀ i, i < n → (es i).length ≤ N ∧ ∀ B' : Base, B'.hd = B.hd → Tg B' (wipeG (Γ.map dem) vs) gt js (g i) (fun Γ2 => Edt B' Γ2 wi1 (es i) ∧
      ∀ j d, (es i)[j]? = some d → ∀ B2 : Base, B2.hd = B.hd → Tg B2 (wipeG (Γ2.map dem) vs1) gt1 js1 d (fun Γ3 => Eb B2 Γ3 tt1 (fun b => b = c i j) ∧ (c i j = true → Ed B2 Γ3 te (f i j))))) :
    EdN B Γ (tLc2 wi gt tYes wi1 gt1 tt1 te vs vs1) ((List.range n).map fun i => ((List.range (es i).length).filter (c i)).map (f i)).flatten := fun as H σ S Q q => by
  refine hi as H σ S _ fun ds' J gg H1 pd S1 e1 hg wk => ?_
  subst pd
  intro Dl hDl
  have hDM : Dl ∉ MM B as := S1.not_new hDl
  have S0 : Sat ⟨Dl :: MM B as, B.hd, H1, gg ++ B.g⟩ _ (upd H1 Dl (.lst [])) (L2.wipe σ vs) (wipeG (Γ.map dem) vs) := (S1.inner hDl hg).wipe vs (dem_ok Γ)
  generalize hB' : (⟨Dl :: MM B as, B.hd, H1, gg ++ B.g⟩ : Base) = B' at S0
  generalize hAs : List.replicate (Γ.map dem).length ([] : List Addr) = as0 at S0
  have eAs : as0.flatten = [] := by rw [← hAs, flat_nil]
  have eMM : MM B' as0 = Dl :: MM B as := by unfold MM; rw [eAs, ← hB'] <;> rfl
  have ehd : B'.hd = B.hd := by rw [← hB'] <;> rfl
  have eH0 : B'.H0 = H1 := by rw [← hB'] <;> rfl
  have egh : ∀ p ∈ gg, p ∈ B'.g := fun p hp => by rw [← hB']; exact List.mem_append_left _ hp
  have eDM : Dl ∈ B'.M := by rw [← hB']; exact List.mem_cons_self
  have hho : B'.ho ≠ some Dl := fun e => by
    obtain ⟨h, h1, h2⟩ := Base.ho_some e
    rw [ehd] at h1
    exact hDM (by rw [← h2]; exact S1.hM h.1 (Base.some_ho h1))
  generalize hrow : (fun i => ((List.range (es i).length).filter (c i)).map (f i)) = row
  refine ⟨fun i m H' => m = n - i ∧ i ≤ n ∧ Sat B' as0 H' (L2.wipe σ vs) (wipeG (Γ.map dem) vs) ∧ ∃ acc, H' Dl = some (.lst acc) ∧ Reps (wo H' (MM B' as0)) (((List.range i).map row).flatten) acc ∧ acc.length ≤ i * N,
    ⟨n, by simp, Nat.zero_le _, S0, [], upd_same, .nil, Nat.zero_le _⟩, ?_⟩
  rintro i m H2 ⟨rfl, hi2, S2, acc, ha, hr, hlen⟩
  obtain ⟨w1, w2⟩ := wk (MM B' as0) H2 i (fun p hp => S2.W.gh p (egh p hp)) S2.W.inM
  by_cases hl : i < n
  · obtain ⟨go, yl⟩ := w2 (g i) (range_get hl)
    obtain ⟨hN, ht2⟩ := ht i hl
    refine .inr ⟨go, fun H' => Sat B' as0 H' (L2.wipe σ vs) (wipeG (Γ.map dem) vs) ∧ ∃ acc, H' Dl = some (.lst acc) ∧ Reps (wo H' (MM B' as0)) (((List.range (i + 1)).map row).flatten) acc ∧ acc.length ≤ (i + 1) * N,
      fun H' q => ⟨n - (i + 1), by omega, rfl, hl, q⟩, fun x H3 y => ?_⟩
    obtain ⟨sm, rx⟩ := yl x H3 y
    have S3 := S2.grow sm
    refine ht2 B' ehd as0 H3 _ x S3 rx _ fun as2 σ2 Γ2 k S4 sub bt => ⟨wipe_but bt hj, yes_mp ?_⟩
    obtain ⟨k1, k2⟩ := k
    have sub1 : ∀ b, b ∈ MM B' as0 → b ∈ MM B' as2 := fun b hb => by
      rcases List.mem_append.mp hb with z | z
      · rw [eAs] at z; cases z
      · exact List.mem_append_right _ z
    refine k1 as2 H3 σ2 S4 _ fun es' J1 g1 H4 pd S5 e5 hg1 wk1 => ?_
    subst pd
    have S6 : Sat ⟨MM B' as2, B'.hd, B'.H0, g1 ++ B'.g⟩ _ H4 (L2.wipe σ2 vs1) (wipeG (Γ2.map dem) vs1) := (S5.demote hg1).wipe vs1 (dem_ok Γ2)
    generalize hB2 : (⟨MM B' as2, B'.hd, B'.H0, g1 ++ B'.g⟩ : Base) = B2 at S6
    generalize hAs2 : List.replicate (Γ2.map dem).length ([] : List Addr) = as3 at S6
    have eAs2 : as3.flatten = [] := by rw [← hAs2, flat_nil]
    have ehd2 : B2.hd = B.hd := by rw [← hB2]; exact ehd
    have eho2 : B2.ho = B'.ho := by rw [← hB2] <;> rfl
    have eH02 : B2.H0 = H1 := by rw [← hB2]; exact eH0
    have eM2 : B2.M = MM B' as2 := by rw [← hB2] <;> rfl
    have egh2 : ∀ p ∈ g1, p ∈ B2.g := fun p hp => by rw [← hB2]; exact List.mem_append_left _ hp
    have eDM2 : Dl ∈ B2.M := by rw [eM2]; exact List.mem_append_right _ eDM
    have sub3 : ∀ a b, b ∈ MM B' as0 → b ∈ MM B2 a := fun a b hb => List.mem_append_right _ (by rw [eM2]; exact sub1 b hb)
    have S5' : Sat B' as0 H4 (L2.wipe σ vs) (wipeG (Γ.map dem) vs) := S3.off e5 fun h q => (S5.W.hand h q).up (fun _ z => z) (wo_sub sub1)
    have acc4 : H4 Dl = some (.lst acc) := e5 _ _ hho (sm _ _ ha)
    have r4 := (hr.up (same_wo sm)).up (S3.eo e5)
    refine ⟨fun j k H' => k = (es i).length - j ∧ j ≤ (es i).length ∧ Sat B2 as3 H' (L2.wipe σ2 vs1) (wipeG (Γ2.map dem) vs1) ∧ Sat B' as0 H' (L2.wipe σ vs) (wipeG (Γ.map dem) vs) ∧ ∃ acc, H' Dl = some (.lst acc) ∧ Reps (wo H' (MM B' as0)) (((List.range i).map row).flatten ++ ((List.range j).filter (c i)).map (f i)) acc ∧ acc.length ≤ i * N + j,
      ⟨(es i).length, by simp, Nat.zero_le _, S6, S5', acc, acc4, by simpa using r4, by simpa using hlen⟩, ?_⟩
    rintro j kk H5 ⟨rfl, hj2, T2, T1, acc2, ha2, hr2, hlen2⟩
    obtain ⟨u1, u2⟩ := wk1 (MM B2 as3) H5 j (fun p hp => T2.W.gh p (egh2 p hp)) T2.W.inM
    by_cases hl2 : j < (es i).length
    · obtain ⟨d, hd⟩ : ∃ d, (es i)[j]? = some d := ⟨(es i)[j], by simp [hl2]⟩
      obtain ⟨go1, yl1⟩ := u2 d hd
      refine .inr ⟨go1, fun H' => Sat B2 as3 H' (L2.wipe σ2 vs1) (wipeG (Γ2.map dem) vs1) ∧ Sat B' as0 H' (L2.wipe σ vs) (wipeG (Γ.map dem) vs) ∧ ∃ acc, H' Dl = some (.lst acc) ∧ Reps (wo H' (MM B' as0)) (((List.range i).map row).flatten ++ ((List.range (j + 1)).filter (c i)).map (f i)) acc ∧ acc.length ≤ i * N + (j + 1),
        fun H' q => ⟨(es i).length - (j + 1), by omega, rfl, hl2, q⟩, fun x2 H6 y2 => ?_⟩
      obtain ⟨sm2, rx2⟩ := yl1 x2 H6 y2
      have T3 := T2.grow sm2
      have T3' := T1.grow sm2
      refine k2 j d hd B2 ehd2 as3 H6 _ x2 T3 rx2 _ fun as4 σ3 Γ3 kk T4 sub4 bt2 => ⟨wipe_but bt2 hj1, ?_⟩
      obtain ⟨kc, kf⟩ := kk
      have sub5 : ∀ b, b ∈ MM B2 as3 → b ∈ MM B2 as4 := fun b hb => by
        rcases List.mem_append.mp hb with z | z
        · rw [eAs2] at z; cases z
        · exact List.mem_append_right _ z
      have hlt : acc2.length < sizeLine := by
        have h1 : (i + 1) * N ≤ n * N := Nat.mul_le_mul_right N hl
        rw [Nat.add_mul, Nat.one_mul] at h1
        omega
      refine kc as4 H6 σ3 T4 _ fun b H7 pb T5 e6 => ?_
      cases b with
      | true =>
        refine iteT (kf pb.symm as4 H7 σ3 T5 _ fun d' y H8 ed T6 e7 ry => ?_)
        subst ed
        have e8 : Off B2.ho H6 H8 := e6.trans e7
        have e8' : Off B'.ho H6 H8 := by rw [← eho2]; exact e8
        have a8 : H8 Dl = some (.lst acc2) := e8' _ _ hho (sm2 _ _ ha2)
        have U1 : Sat B' as0 H8 (L2.wipe σ vs) (wipeG (Γ.map dem) vs) := T3'.off e8' fun h q => (T6.W.hand h (by rw [ehd2, ← ehd]; exact q)).up (fun _ z => z) (wo_sub (sub3 as4))
        have U2 : Sat B2 as3 H8 (L2.wipe σ2 vs1) (wipeG (Γ2.map dem) vs1) := T3.off e8 fun h q => (T6.W.hand h q).up (fun _ z => z) (wo_sub sub5)
        have r8 := (hr2.up (same_wo sm2)).up (T3'.eo e8')
        refine ⟨acc2, a8, hlt, U2.updM eDM2 (by rw [eH02]; exact hDl) (by rw [eho2]; exact hho) a8, U1.updM eDM (by rw [eH0]; exact hDl) hho a8, acc2 ++ [y], upd_same, ?_, by rw [List.length_append, List.length_singleton]; omega⟩
        rw [wo_upd (List.mem_append_right _ eDM), List.range_succ, List.filter_append, List.map_append, List.filter_cons, if_pos pb.symm, ← List.append_assoc]
        exact r8.append (.cons (ry.up (wo_sub (sub3 as4))) .nil)
      | false =>
        refine iteF ?_
        have e8' : Off B'.ho H6 H7 := by rw [← eho2]; exact e6
        have a8 : H7 Dl = some (.lst acc2) := e8' _ _ hho (sm2 _ _ ha2)
        have U1 : Sat B' as0 H7 (L2.wipe σ vs) (wipeG (Γ.map dem) vs) := T3'.off e8' fun h q => (T5.W.hand h (by rw [ehd2, ← ehd]; exact q)).up (fun _ z => z) (wo_sub (sub3 as4))
        have U2 : Sat B2 as3 H7 (L2.wipe σ2 vs1) (wipeG (Γ2.map dem) vs1) := T3.off e6 fun h q => (T5.W.hand h q).up (fun _ z => z) (wo_sub sub5)
        refine ⟨U2, U1, acc2, a8, ?_, by omega⟩
        rw [List.range_succ, List.filter_append, List.map_append, List.filter_cons, if_neg (by rw [← pb]; decide), List.filter_nil, List.map_nil, List.append_nil]
        exact (hr2.up (same_wo sm2)).up (T3'.eo e8')
    · have e : j = (es i).length := by omega
      subst e
      refine .inl ⟨u1 (Nat.le_refl _), T1, acc2, ha2, ?_, by rw [Nat.add_mul, Nat.one_mul]; omega⟩
      rw [List.range_succ, List.map_append, List.flatten_append]
      have : ([i].map row).flatten = ((List.range (es i).length).filter (c i)).map (f i) := by
        rw [← hrow]
        simp
      rw [this]
      exact hr2
  · have e : i = n := by omega
    subst e
    rw [eMM] at hr
    have eo : Off B.ho H1 H2 := by
      have := S2.W.off
      rw [eH0] at this
      unfold Base.ho at this ⊢
      rw [ehd] at this
      exact this
    refine .inl ⟨w1 (by rw [rm_len]; exact Nat.le_refl _), q _ Dl acc H2 (by rw [← hrow]) (S.back e1 hDl hDM) hDM (S1.off eo fun h q => ?_) (e1.trans eo) ha hr⟩
    have := S2.W.hand h (by rw [ehd]; exact q)
    rw [eMM] at this
    exact this.up (fun _ z => z) (wo_sub fun b hb => List.mem_cons_of_mem _ hb)
end

/-! ### data laid deep, compared -/
mutual
def pd : D → PyData
  | .v .non => .none
  | .v (.bl b) => .bool b
  | .v (.int i) => .int i
  | .v (.str x) => .str x
  | .v _ => .none
  | .tup ds => .tuple (pds ds)
  | .lst ds => .list (pds ds)
def pds : List D → List PyData
  | [] => []
  | d :: ds => pd d :: pds ds
end
mutual
/-- none, ints, texts in lists and tuples -/
def D.plain : D → Bool
  | .v .non => true
  | .v (.int _) => true
  | .v (.str x) => PyData.strOk x
  | .v _ => false
  | .tup ds => D.plains ds
  | .lst ds => D.plains ds
def D.plains : List D → Bool
  | [] => true
  | d :: ds => D.plain d && D.plains ds
end
mutual
theorem dp_of {K : PySem.W.Frag} {M : List Addr} {H : Hp} : ∀ (d : D) {x : V}, Rep (wo H M) d x → d.plain = true → Dp K H x (pd d)
  | .v .non, x, r, h => by rw [rep_v.mp r]; exact .non
  | .v (.int i), x, r, h => by rw [rep_v.mp r]; exact .int i
  | .v (.str i), x, r, h => by rw [rep_v.mp r]; exact .str i
  | .v (.bl b), x, r, h => by cases h
  | .v (.byt b), x, r, h => by cases h
  | .v (.flt b), x, r, h => by cases h
  | .v (.ref b), x, r, h => by cases h
  | .v (.ty b), x, r, h => by cases h
  | .tup ds, x, r, h => by
    obtain ⟨a, vs, e, h1, t1, g1⟩ := sqT_rep (K := K) r
    subst e
    exact .tup h1 (dps_of ds t1 h)
  | .lst ds, x, r, h => by
    obtain ⟨a, vs, e, h1, t1, g1⟩ := sqL_rep (K := K) r
    subst e
    exact .lst h1 (dps_of ds t1 h)
theorem dps_of {K : PySem.W.Frag} {M : List Addr} {H : Hp} : ∀ (ds : List D) {vs : List V}, Reps (wo H M) ds vs → D.plains ds = true → DpAll K H vs (pds ds)
  | [], vs, r, h => by rw [reps_nil.mp r]; exact .nil
  | d :: ds, vs, r, h => by
    obtain ⟨v, us, e, r1, r2⟩ := reps_cons.mp r
    subst e
    have h' : (D.plain d && D.plains ds) = true := h
    obtain ⟨h1, h2⟩ := Bool.and_eq_true_iff.mp h'
    exact .cons (dp_of d r1 h1) (dps_of ds r2 h2)
end
/-! nested how deep -/
mutual
def D.dep : D → Nat
  | .v _ => 0
  | .tup ds => D.deps ds + 1
  | .lst ds => D.deps ds + 1
def D.deps : List D → Nat
  | [] => 0
  | d :: ds => max (D.dep d) (D.deps ds)
end
mutual
theorem pd_depth : ∀ d : D, (pd d).depth = d.dep
  | .v .non => rfl
  | .v (.int i) => rfl
  | .v (.str i) => rfl
  | .v (.bl b) => rfl
  | .v (.byt b) => rfl
  | .v (.flt b) => rfl
  | .v (.ref b) => rfl
  | .v (.ty b) => rfl
  | .tup ds => by
    show PyData.depthAll (pds ds) + 1 = D.deps ds + 1
    rw [pds_depth ds]
  | .lst ds => by
    show PyData.depthAll (pds ds) + 1 = D.deps ds + 1
    rw [pds_depth ds]
theorem pds_depth : ∀ ds : List D, PyData.depthAll (pds ds) = D.deps ds
  | [] => rfl
  | d :: ds => by
    show max (pd d).depth (PyData.depthAll (pds ds)) = max d.dep (D.deps ds)
    rw [pd_depth d, pds_depth ds]
end
mutual
theorem pd_can : ∀ d : D, d.plain = true → (pd d).canLay0 = true
  | .v .non, _ => rfl
  | .v (.int i), _ => rfl
  | .v (.str i), h => h
  | .v (.bl b), _ => rfl
  | .v (.byt b), _ => rfl
  | .v (.flt b), _ => rfl
  | .v (.ref b), _ => rfl
  | .v (.ty b), _ => rfl
  | .tup ds, h => pds_can ds h
  | .lst ds, h => pds_can ds h
theorem pds_can : ∀ ds : List D, D.plains ds = true → PyData.canLayAll0 (pds ds) = true
  | [], _ => rfl
  | d :: ds, h => by
    have h' : (D.plain d && D.plains ds) = true := h
    obtain ⟨h1, h2⟩ := Bool.and_eq_true_iff.mp h'
    show ((pd d).canLay0 && PyData.canLayAll0 (pds ds)) = true
    rw [pd_can d h1, pds_can ds h2]
    rfl
end
theorem pd_shaped {d : D} (h : d.plain = true) (hd : d.dep ≤ 64) : SeqAt.shaped (pd d) = true := by
  unfold SeqAt.shaped
  rw [pd_can d h, pd_depth, decide_eq_true hd]
  rfl
mutual
theorem pd_eqv : ∀ d e : D, d.plain = true → e.plain = true → (PyData.eqv (pd d) (pd e) = true ↔ d = e)
  | .v .non, .v .non, _, _ => by simp [pd, PyData.eqv]
  | .v .non, .v (.int _), _, _ => by simp [pd, PyData.eqv]
  | .v .non, .v (.str _), _, _ => by simp [pd, PyData.eqv]
  | .v .non, .tup _, _, _ => by simp [pd, PyData.eqv]
  | .v .non, .lst _, _, _ => by simp [pd, PyData.eqv]
  | .v (.int _), .v .non, _, _ => by simp [pd, PyData.eqv]
  | .v (.int _), .v (.int _), _, _ => by simp [pd, PyData.eqv]
  | .v (.int _), .v (.str _), _, _ => by simp [pd, PyData.eqv]
  | .v (.int _), .tup _, _, _ => by simp [pd, PyData.eqv]
  | .v (.int _), .lst _, _, _ => by simp [pd, PyData.eqv]
  | .v (.str _), .v .non, _, _ => by simp [pd, PyData.eqv]
  | .v (.str _), .v (.int _), _, _ => by simp [pd, PyData.eqv]
  | .v (.str _), .v (.str _), _, _ => by simp [pd, PyData.eqv]
  | .v (.str _), .tup _, _, _ => by simp [pd, PyData.eqv]
  | .v (.str _), .lst _, _, _ => by simp [pd, PyData.eqv]
  | .tup _, .v .non, _, _ => by simp [pd, PyData.eqv]
  | .tup _, .v (.int _), _, _ => by simp [pd, PyData.eqv]
  | .tup _, .v (.str _), _, _ => by simp [pd, PyData.eqv]
  | .tup ds, .tup es, h1, h2 => by
    simp only [pd, PyData.eqv, D.tup.injEq]
    exact pds_eqv ds es h1 h2
  | .tup _, .lst _, _, _ => by simp [pd, PyData.eqv]
  | .lst _, .v .non, _, _ => by simp [pd, PyData.eqv]
  | .lst _, .v (.int _), _, _ => by simp [pd, PyData.eqv]
  | .lst _, .v (.str _), _, _ => by simp [pd, PyData.eqv]
  | .lst _, .tup _, _, _ => by simp [pd, PyData.eqv]
  | .lst ds, .lst es, h1, h2 => by
    simp only [pd, PyData.eqv, D.lst.injEq]
    exact pds_eqv ds es h1 h2
theorem pds_eqv : ∀ ds es : List D, D.plains ds = true → D.plains es = true → (PyData.eqvAll (pds ds) (pds es) = true ↔ ds = es)
  | [], [], _, _ => by simp [pds, PyData.eqvAll]
  | [], _ :: _, _, _ => by simp [pds, PyData.eqvAll]
  | _ :: _, [], _, _ => by simp [pds, PyData.eqvAll]
  | d :: ds, e :: es, h1, h2 => by
    have h1' : (D.plain d && D.plains ds) = true := h1
    have h2' : (D.plain e && D.plains es) = true := h2
    obtain ⟨a1, a2⟩ := Bool.and_eq_true_iff.mp h1'
    obtain ⟨b1, b2⟩ := Bool.and_eq_true_iff.mp h2'
    simp only [pds, PyData.eqvAll, Bool.and_eq_true, List.cons.injEq]
    rw [pd_eqv d e a1 b1, pds_eqv ds es a2 b2]
end
section
variable {K : PySem.W.Frag} {B : Base} {Γ : List Slot} {ta tb : TE} {d e : D}
theorem ed_eqD (ha : Ed B Γ ta d) (hb : Ed B Γ tb e) (h1 : d.plain = true) (h2 : e.plain = true) (z1 : d.dep ≤ 64) (z2 : e.dep ≤ 64) : Ev B Γ (tOp (xEq K) ta tb) (fun x => ∃ b : Bool, x = .bl b ∧ (b = true ↔ d = e)) := ev_op ha hb fun da db e1 e2 => by
  subst e1 e2
  intro M H x y hM rx ry Q q
  exact .inr ⟨pd da, pd db, dp_of da rx h1, dp_of db ry h2, pd_shaped h1 z1, pd_shaped h2 z2, q _ _ H ⟨_, rfl, pd_eqv da db h1 h2⟩ (Same.refl H) (rep_v.mpr rfl)⟩
theorem ed_neD (ha : Ed B Γ ta d) (hb : Ed B Γ tb e) (h1 : d.plain = true) (h2 : e.plain = true) (z1 : d.dep ≤ 64) (z2 : e.dep ≤ 64) : Ev B Γ (tOp (xNe K) ta tb) (fun x => ∃ b : Bool, x = .bl b ∧ (b = true ↔ ¬ d = e)) := ev_op ha hb fun da db e1 e2 => by
  subst e1 e2
  intro M H x y hM rx ry Q q
  refine .inr ⟨pd da, pd db, dp_of da rx h1, dp_of db ry h2, pd_shaped h1 z1, pd_shaped h2 z2, q _ _ H ⟨_, rfl, ?_⟩ (Same.refl H) (rep_v.mpr rfl)⟩
  rw [← pd_eqv da db h1 h2]
  cases PyData.eqv (pd da) (pd db) <;> simp
theorem ep_eqD (ha : Ed B Γ ta d) (hb : Ed B Γ tb e) (h1 : d.plain = true) (h2 : e.plain = true) (z1 : d.dep ≤ 64) (z2 : e.dep ≤ 64) : Ep B Γ (tTest (tOp (xEq K) ta tb)) (d = e) := eb_test (ed_eqD ha hb h1 h2 z1 z2)
theorem ep_neD (ha : Ed B Γ ta d) (hb : Ed B Γ tb e) (h1 : d.plain = true) (h2 : e.plain = true) (z1 : d.dep ≤ 64) (z2 : e.dep ≤ 64) : Ep B Γ (tTest (tOp (xNe K) ta tb)) (¬ d = e) := eb_test (ed_neD ha hb h1 h2 z1 z2)
theorem plains_iff {ds : List D} : D.plains ds = true ↔ ∀ d ∈ ds, d.plain = true := by
  induction ds with
  | nil => exact ⟨fun _ _ h => (nomatch h), fun _ => rfl⟩
  | cons d ds ih =>
    show (D.plain d && D.plains ds) = true ↔ _
    rw [Bool.and_eq_true, ih]
    simp
theorem deps_le {ds : List D} {n : Nat} : D.deps ds ≤ n ↔ ∀ d ∈ ds, d.dep ≤ n := by
  induction ds with
  | nil => exact ⟨fun _ _ h => (nomatch h), fun _ => Nat.zero_le _⟩
  | cons d ds ih =>
    show max d.dep (D.deps ds) ≤ n ↔ _
    rw [Nat.max_le, ih]
    simp
end
end DL

set_option maxHeartbeats 2000000
namespace DL
open PySem PySem.Spec PyProof.Rows L2
section
variable {K : PySem.W.Frag} {B : Base} {Γ : List Slot} {ta tb tc te tu tv : TE} {tt : TT} {d : D} {ds : List D} {n k i : Nat} {t : TS} {E : Post}
theorem ixN_nat {n k : Nat} (h : k < n) : ixN n (k : Int) = some k := by
  unfold ixN
  rw [if_pos (by omega), if_pos (by omega), Int.toNat_natCast]
theorem ed_lenR {g : Nat → D} (ha : Ed B Γ ta (.lst ((List.range n).map g))) : Ed B Γ (tCB (xLen K) (tCons ta tNil)) (.int (n : Nat)) := (ed_len ha).eq (by rw [rm_len])
theorem ed_lenTR {g : Nat → D} (ha : Ed B Γ ta (.tup ((List.range n).map g))) : Ed B Γ (tCB (xLen K) (tCons ta tNil)) (.int (n : Nat)) := (ed_lenT ha).eq (by rw [rm_len])
/-- a table of data -/
abbrev tD (n : Nat) (F : Nat → Nat → D) : List (List D) := (List.range n).map fun u => (List.range n).map fun v => F u v
theorem tD_lst {F : Nat → Nat → D} : (tD n F).map D.lst = (List.range n).map fun u => .lst ((List.range n).map fun v => F u v) := by
  unfold tD
  rw [List.map_map]
  rfl
def updD (F : Nat → Nat → D) (u v : Nat) (d : D) : Nat → Nat → D := fun a b => if a = u ∧ b = v then d else F a b
theorem range_set {α : Type} {g : Nat → α} {n u : Nat} {x : α} : ((List.range n).map g).set u x = (List.range n).map fun a => if a = u then x else g a := by
  refine List.ext_getElem? fun j => ?_
  rw [List.getElem?_set]
  by_cases hj : j < n
  · rw [range_get hj, range_get hj]
    by_cases e : u = j
    · subst e
      rw [if_pos rfl, if_pos (by rw [rm_len]; exact hj), if_pos rfl]
    · rw [if_neg e, if_neg (fun z => e z.symm)]
  · rw [List.getElem?_eq_none (by rw [rm_len]; omega), List.getElem?_eq_none (by rw [rm_len]; omega)]
    split
    · rw [if_neg (by rw [rm_len]; omega)]
    · rfl
theorem tD_set {F : Nat → Nat → D} {u v : Nat} : (tD n F).set u (((List.range n).map fun v => F u v).set v d) = tD n (updD F u v d) := by
  unfold tD
  rw [range_set]
  refine List.map_congr_left fun a _ => ?_
  unfold updD
  by_cases e : a = u
  · subst e
    rw [if_pos rfl, range_set]
    refine List.map_congr_left fun b _ => ?_
    by_cases e2 : b = v
    · rw [if_pos e2, if_pos ⟨rfl, e2⟩]
    · rw [if_neg e2, if_neg (fun z => e2 z.2)]
  · rw [if_neg e]
    refine List.map_congr_left fun b _ => ?_
    rw [if_neg (fun z => e z.1)]
theorem tD_congr {F G : Nat → Nat → D} (h : ∀ u v, u < n → v < n → F u v = G u v) : tD n F = tD n G := by
  refine List.map_congr_left fun u hu => List.map_congr_left fun v hv => ?_
  exact h u v (List.mem_range.mp hu) (List.mem_range.mp hv)
theorem tr_tabSet {F : Nat → Nat → D} {P : D → Prop} {u v : Nat} (h : Γ[i]? = some (.mat (tD n F))) (he : Ev B Γ te P) (hu : Ed B Γ tu (.int (u : Nat))) (hv : Ed B Γ tv (.int (v : Nat))) (lu : u < n) (lv : v < n)
    (k : ∀ d, P d → Tr B (Γ.set i (.mat (tD n (updD F u v d)))) t E) : Tr B Γ (tSeq (tAsg te (gSub (tOp (rIx K) (tVar i) tu) tv rSetL)) t) E :=
  tr_matSet h he hu hv (by rw [rm_len]; exact ixN_nat lu) (range_get lu) (by rw [rm_len]; exact ixN_nat lv) fun d p => by rw [tD_set]; exact k d p
theorem tr_tabFreeze {F : Nat → Nat → D} (h : Γ[i]? = some (.mat (tD n F))) (k : Tr B (Γ.set i (.d (.lst ((List.range n).map fun u => .lst ((List.range n).map fun v => F u v))))) t E) : Tr B Γ t E := tr_freezeM h (by rw [tD_lst]; exact k)
theorem ed_roT {F : Nat → Nat → D} {x : V} (h : Γ[i]? = some (.mat (tD n F))) (k : Ed B (Γ.set i (.d (.lst ((List.range n).map fun u => .lst ((List.range n).map fun v => F u v))))) te (.v x)) : Ed B Γ te (.v x) := ed_roM h (by rw [tD_lst]; exact k)
theorem eb_roT {F : Nat → Nat → D} {P : Bool → Prop} (h : Γ[i]? = some (.mat (tD n F))) (k : Eb B (Γ.set i (.d (.lst ((List.range n).map fun u => .lst ((List.range n).map fun v => F u v))))) tt P) : Eb B Γ tt P := eb_roM h (by rw [tD_lst]; exact k)
theorem drop1 {α : Type} {g : Nat → α} {m : Nat} : ((List.range (m + 1)).map g).drop 1 = (List.range m).map fun k => g (k + 1) := by
  rw [List.range_succ_eq_map, List.map_cons, List.map_map]
  rfl
theorem cons1 {α : Type} {g : Nat → α} {m : Nat} : g 0 :: (List.range m).map (fun k => g (k + 1)) = (List.range (m + 1)).map g := by
  rw [List.range_succ_eq_map, List.map_cons, List.map_map]
  rfl
theorem snoc1 {α : Type} {g : Nat → α} {m : Nat} {x : α} : (List.range m).map g ++ [x] = (List.range (m + 1)).map fun k => if k = m then x else g k := by
  rw [List.range_succ, List.map_append, List.map_singleton, if_pos rfl]
  congr 1
  refine List.map_congr_left fun a ha => ?_
  have := List.mem_range.mp ha
  rw [if_neg (by omega)]
end
end DL

set_option maxHeartbeats 2000000
namespace DL

/-! ### closed tables -/
abbrev Tb := Nat → Nat → Int
def Leq (n : Nat) (f g : Tb) : Prop := ∀ u v, u < n → v < n → f u v ≤ g u v
def Eqt (n : Nat) (f g : Tb) : Prop := ∀ u v, u < n → v < n → f u v = g u v
def Kept (n : Nat) (f : Tb) (p : Nat → Int) : Prop := ∀ u v, u < n → v < n → p u - p v ≤ f u v
def Closed (n : Nat) (h : Tb) : Prop := (∀ u, u < n → h u u = 0) ∧ ∀ u v m, u < n → v < n → m < n → h u v ≤ h u m + h m v
def mn (f g : Tb) : Tb := fun u v => min (f u v) (g u v)
def mx (f g : Tb) : Tb := fun u v => max (f u v) (g u v)
/-- o is the closing of f -/
def IsCl (n : Nat) (f : Tb) : Option Tb → Prop
  | none => ¬ ∃ h, Closed n h ∧ Leq n h f
  | some g => Closed n g ∧ Leq n g f ∧ ∀ h, Closed n h → Leq n h f → Leq n h g
def oEq (n : Nat) : Option Tb → Option Tb → Prop
  | none, none => True
  | some f, some g => Eqt n f g
  | _, _ => False
theorem IsCl.uniq {n : Nat} {f : Tb} : ∀ {o o' : Option Tb}, IsCl n f o → IsCl n f o' → oEq n o o'
  | none, none, _, _ => trivial
  | some g, none, ⟨a, b, _⟩, h => h ⟨g, a, b⟩
  | none, some g, h, ⟨a, b, _⟩ => h ⟨g, a, b⟩
  | some g, some g', ⟨a, b, c⟩, ⟨a', b', c'⟩ => fun u v hu hv => by
    have h1 := c g' a' b' u v hu hv
    have h2 := c' g a b u v hu hv
    omega
theorem IsCl.self {n : Nat} {f : Tb} (h : Closed n f) : IsCl n f (some f) := ⟨h, fun _ _ _ _ => Int.le_refl _, fun _ _ l => l⟩
theorem IsCl.congr {n : Nat} {f g : Tb} (e : Eqt n f g) : ∀ {o : Option Tb}, IsCl n f o → IsCl n g o
  | none, h => fun ⟨k, a, b⟩ => h ⟨k, a, fun u v hu hv => by rw [e u v hu hv]; exact b u v hu hv⟩
  | some k, ⟨a, b, c⟩ => ⟨a, fun u v hu hv => by rw [← e u v hu hv]; exact b u v hu hv, fun h x y => c h x fun u v hu hv => by rw [e u v hu hv]; exact y u v hu hv⟩

/-! the closing, table by table -/
def stp (m : Nat) (f : Tb) : Tb := fun u v => min (f u v) (f u m + f m v)
def fw (f : Tb) : Nat → Tb
  | 0 => f
  | k + 1 => stp k (fw f k)
def dg (f : Tb) : Tb := fun u v => if u = v ∧ 0 < f u u then 0 else f u v
/-- the outcome of the program's closing -/
def Clo (n : Nat) (f : Tb) : Option Tb → Prop
  | none => ∃ u, u < n ∧ fw (dg f) n u u < 0
  | some g => g = fw (dg f) n ∧ ∀ u, u < n → 0 ≤ g u u
theorem fw_low {n : Nat} {f h : Tb} (hc : Closed n h) (hl : Leq n h f) : ∀ k, k ≤ n → Leq n h (fw f k)
  | 0, _ => hl
  | k + 1, hk => fun u v hu hv => by
    have ih := fw_low hc hl k (by omega)
    have h1 := ih u v hu hv
    have h2 := ih u k hu (by omega)
    have h3 := ih k v (by omega) hv
    have h4 := hc.2 u v k hu hv (by omega)
    show h u v ≤ min (fw f k u v) (fw f k u k + fw f k k v)
    omega
theorem fw_dec {f : Tb} {u v : Nat} : ∀ j k, fw f (k + j) u v ≤ fw f k u v
  | 0, k => Int.le_refl _
  | j + 1, k => by
    have ih := fw_dec (f := f) (u := u) (v := v) j k
    have : fw f (k + (j + 1)) u v ≤ fw f (k + j) u v := by
      show min (fw f (k + j) u v) _ ≤ _
      omega
    omega
theorem tri_step {n k : Nat} {d e : Tb} (hk : k < n) (h0 : 0 ≤ d k k) (he : ∀ u v, u < n → v < n → e u v = min (d u v) (d u k + d k v))
    (ht : ∀ m u v, m < k → u < n → v < n → d u v ≤ d u m + d m v) : ∀ m u v, m < k + 1 → u < n → v < n → e u v ≤ e u m + e m v := fun m u v hm hu hv => by
  have e1 := he u v hu hv
  have e2 := he u m hu (by omega)
  have e3 := he m v (by omega) hv
  by_cases h : m = k
  · subst h
    omega
  · have hm' : m < k := by omega
    have t1 := ht m u v hm' hu hv
    have t2 := ht m k v hm' hk hv
    have t3 := ht m u k hm' hu hk
    have t4 := ht m k k hm' hk hk
    omega
theorem fw_tri {n : Nat} {f : Tb} (h0 : ∀ u, u < n → 0 ≤ fw f n u u) : ∀ k, k ≤ n → ∀ m u v, m < k → u < n → v < n → fw f k u v ≤ fw f k u m + fw f k m v
  | 0, _ => fun m u v hm => absurd hm (Nat.not_lt_zero m)
  | k + 1, hk => by
    refine tri_step (d := fw f k) (by omega) ?_ (fun u v _ _ => rfl) (fw_tri h0 k (by omega))
    have h1 := fw_dec (f := f) (u := k) (v := k) (n - k) k
    have h2 := h0 k (by omega)
    have e : k + (n - k) = n := by omega
    rw [e] at h1
    omega
theorem dg_le {f : Tb} {u v : Nat} : dg f u v ≤ f u v := by
  unfold dg
  split
  · rename_i h
    obtain ⟨e, h⟩ := h
    subst e
    omega
  · exact Int.le_refl _
theorem dg_diag {f : Tb} {u : Nat} : dg f u u ≤ 0 := by
  unfold dg
  split <;> omega
theorem dg_low {n : Nat} {f h : Tb} (hc : Closed n h) (hl : Leq n h f) : Leq n h (dg f) := fun u v hu hv => by
  unfold dg
  split
  · rename_i e
    obtain ⟨e, _⟩ := e
    subst e
    rw [hc.1 u hu]
    exact Int.le_refl _
  · exact hl u v hu hv
theorem Clo.isCl {n : Nat} {f : Tb} : ∀ {o : Option Tb}, Clo n f o → IsCl n f o
  | none, ⟨u, hu, hneg⟩ => fun ⟨h, a, b⟩ => by
    have := fw_low a (dg_low a b) n (Nat.le_refl _) u u hu hu
    rw [a.1 u hu] at this
    omega
  | some g, ⟨e, h0⟩ => by
    subst e
    have dc := fun u v => fw_dec (f := dg f) (u := u) (v := v) n 0
    simp only [Nat.zero_add] at dc
    refine ⟨⟨fun u hu => ?_, fun u v m hu hv hm => fw_tri h0 n (Nat.le_refl _) m u v hm hu hv⟩, fun u v hu hv => ?_, fun h a b => fw_low a (dg_low a b) n (Nat.le_refl _)⟩
    · have h1 := dc u u
      have h2 : dg f u u ≤ 0 := dg_diag
      have h3 := h0 u hu
      have h4 : fw (dg f) 0 u u = dg f u u := rfl
      omega
    · have h1 := dc u v
      have h2 : dg f u v ≤ f u v := dg_le
      have h4 : fw (dg f) 0 u v = dg f u v := rfl
      omega

/-! ### the closing in place, with entries that are not there -/
abbrev Ot := Nat → Nat → Option Int
/-- h under F -/
def Und (n : Nat) (h : Tb) (F : Ot) : Prop := ∀ u v c, u < n → v < n → F u v = some c → h u v ≤ c
def OCl (n : Nat) (F : Ot) : Option Tb → Prop
  | none => ¬ ∃ h, Closed n h ∧ Und n h F
  | some g => Closed n g ∧ Und n g F ∧ ∀ h, Closed n h → Und n h F → Leq n h g
def Low (n : Nat) (F G : Ot) : Prop := ∀ h, Closed n h → Und n h F → Und n h G
def Mono (n : Nat) (F G : Ot) : Prop := ∀ u v c, u < n → v < n → F u v = some c → ∃ c', c' ≤ c ∧ G u v = some c'
def Bad (n : Nat) (G : Ot) : Prop := ∃ u c, u < n ∧ G u u = some c ∧ c < 0
def Tri (n k : Nat) (G : Ot) : Prop := ∀ m u v a b, m < k → u < n → v < n → G u m = some a → G m v = some b → ∃ c, c ≤ a + b ∧ G u v = some c
theorem Mono.trans {n : Nat} {F G H : Ot} (a : Mono n F G) (b : Mono n G H) : Mono n F H := fun u v c hu hv e => by
  obtain ⟨c1, l1, e1⟩ := a u v c hu hv e
  obtain ⟨c2, l2, e2⟩ := b u v c1 hu hv e1
  exact ⟨c2, by omega, e2⟩
theorem Bad.mono {n : Nat} {F G : Ot} (a : Mono n F G) (b : Bad n F) : Bad n G := by
  obtain ⟨u, c, hu, e, hc⟩ := b
  obtain ⟨c1, l1, e1⟩ := a u u c hu hu e
  exact ⟨u, c1, hu, e1, by omega⟩
def rel (G : Ot) (k u v : Nat) : Option Int :=
  match G u k, G k v, G u v with
  | some a, some b, some c => some (if a + b < c then a + b else c)
  | some a, some b, none => some (a + b)
  | _, _, o => o
def prog (G : Ot) (k u v : Nat) : Ot := fun a b => if a < u ∨ (a = u ∧ b < v) then rel G k a b else G a b
/-- within the turn of k that began with G0 -/
structure Ph (n : Nat) (F : Ot) (k : Nat) (G0 : Ot) (u v : Nat) (G : Ot) : Prop where
  low : Low n F G
  mono : Mono n G0 G
  ex : ¬ Bad n G0 → ∀ a b, a < n → b < n → G a b = prog G0 k u v a b
def setO (G : Ot) (u v : Nat) (c : Int) : Ot := fun a b => if a = u ∧ b = v then some c else G a b
section
variable {n k u v : Nat} {F G0 G : Ot} {ah s : Int}
theorem Ph.start (hl : Low n F G0) : Ph n F k G0 0 0 G0 := ⟨hl, fun u v c _ _ e => ⟨c, Int.le_refl _, e⟩, fun _ a b _ _ => by unfold prog; rw [if_neg (by omega)]⟩
theorem Ph.row (h : Ph n F k G0 u n G) : Ph n F k G0 (u + 1) 0 G := ⟨h.low, h.mono, fun nb a b ha hb => by
  rw [h.ex nb a b ha hb]
  unfold prog
  by_cases e : a < u ∨ (a = u ∧ b < n)
  · rw [if_pos e, if_pos (by omega)]
  · rw [if_neg e, if_neg (by omega)]⟩
/-- on a diagonal of noughts the turn's own row and column stay -/
theorem rel_row (h : G0 k k = some 0) {b : Nat} : rel G0 k k b = G0 k b := by
  unfold rel
  rw [h]
  cases e : G0 k b with
  | none => rfl
  | some c => simp
theorem rel_col (h : G0 k k = some 0) {a : Nat} : rel G0 k a k = G0 a k := by
  unfold rel
  rw [h]
  cases e : G0 a k with
  | none => rfl
  | some c => simp
theorem prog_row (h : G0 k k = some 0) {b : Nat} : prog G0 k u v k b = G0 k b := by
  unfold prog
  split
  · exact rel_row h
  · rfl
theorem prog_col (h : G0 k k = some 0) {a : Nat} : prog G0 k u v a k = G0 a k := by
  unfold prog
  split
  · exact rel_col h
  · rfl
theorem prog_at : prog G0 k u v u v = G0 u v := by
  unfold prog
  rw [if_neg (by omega)]
theorem prog_succ {a b : Nat} (h : ¬ (a = u ∧ b = v)) : prog G0 k u (v + 1) a b = prog G0 k u v a b := by
  unfold prog
  by_cases e : a < u ∨ (a = u ∧ b < v)
  · rw [if_pos e, if_pos (by omega)]
  · rw [if_neg e, if_neg (by omega)]
theorem prog_new : prog G0 k u (v + 1) u v = rel G0 k u v := by
  unfold prog
  rw [if_pos (by omega)]
/-- what was read at the row's begin -/
structure Ah (n : Nat) (F : Ot) (k : Nat) (G0 : Ot) (u : Nat) (ah : Int) : Prop where
  low : ∀ h, Closed n h → Und n h F → h u k ≤ ah
  ex : ¬ Bad n G0 → G0 u k = some ah
theorem Ph.ahead (h : Ph n F k G0 u 0 G) (hd : ¬ Bad n G0 → G0 k k = some 0) (hu : u < n) (hk : k < n) (e : G u k = some ah) : Ah n F k G0 u ah := ⟨fun x hx hy => h.low x hx hy u k ah hu hk e, fun nb => by
  rw [← prog_col (u := u) (v := 0) (hd nb), ← h.ex nb u k hu hk, e]⟩
theorem Ph.noRow (h : Ph n F k G0 u 0 G) (hd : ¬ Bad n G0 → G0 k k = some 0) (hu : u < n) (hk : k < n) (e : G u k = none) : Ph n F k G0 (u + 1) 0 G := ⟨h.low, h.mono, fun nb a b ha hb => by
  rw [h.ex nb a b ha hb]
  have e0 : G0 u k = none := by rw [← prog_col (u := u) (v := 0) (hd nb), ← h.ex nb u k hu hk, e]
  unfold prog
  by_cases q : a < u ∨ (a = u ∧ b < 0)
  · rw [if_pos q, if_pos (by omega)]
  · rw [if_neg q]
    by_cases q2 : a = u
    · subst q2
      rw [if_pos (by omega)]
      unfold rel
      rw [e0]
    · rw [if_neg (by omega)]⟩
theorem Ph.noStep (h : Ph n F k G0 u v G) (hd : ¬ Bad n G0 → G0 k k = some 0) (hu : u < n) (hv : v < n) (hk : k < n) (e : G k v = none) : Ph n F k G0 u (v + 1) G := ⟨h.low, h.mono, fun nb a b ha hb => by
  rw [h.ex nb a b ha hb]
  have e0 : G0 k v = none := by rw [← prog_row (u := u) (v := v) (hd nb), ← h.ex nb k v hk hv, e]
  by_cases q : a = u ∧ b = v
  · obtain ⟨q1, q2⟩ := q
    subst q1 q2
    rw [prog_at, prog_new]
    unfold rel
    rw [e0]
    cases G0 a k <;> rfl
  · rw [prog_succ q]⟩
theorem Ph.keep (h : Ph n F k G0 u v G) (hA : Ah n F k G0 u ah) (hd : ¬ Bad n G0 → G0 k k = some 0) (hu : u < n) (hv : v < n) (hk : k < n) (e : G k v = some s) {c : Int} (ec : G u v = some c) (hc : ¬ ah + s < c) : Ph n F k G0 u (v + 1) G := ⟨h.low, h.mono, fun nb a b ha hb => by
  rw [h.ex nb a b ha hb]
  have e0 : G0 k v = some s := by rw [← prog_row (u := u) (v := v) (hd nb), ← h.ex nb k v hk hv, e]
  have e1 : G0 u v = some c := by rw [← prog_at (G0 := G0) (k := k), ← h.ex nb u v hu hv, ec]
  by_cases q : a = u ∧ b = v
  · obtain ⟨q1, q2⟩ := q
    subst q1 q2
    rw [prog_at, prog_new]
    unfold rel
    rw [e0, e1, hA.ex nb]
    simp only
    rw [if_neg hc]
  · rw [prog_succ q]⟩
theorem Ph.upd (h : Ph n F k G0 u v G) (hA : Ah n F k G0 u ah) (hd : ¬ Bad n G0 → G0 k k = some 0) (hu : u < n) (hv : v < n) (hk : k < n) (e : G k v = some s) (hc : ∀ c, G u v = some c → ah + s < c) : Ph n F k G0 u (v + 1) (setO G u v (ah + s)) := ⟨fun x hx hy a b c ha hb ec => by
    unfold setO at ec
    split at ec
    · rename_i q
      obtain ⟨q1, q2⟩ := q
      subst q1 q2
      cases ec
      have h1 := hA.low x hx hy
      have h2 := h.low x hx hy k b s hk hb e
      have h3 := hx.2 a b k ha hb hk
      omega
    · exact h.low x hx hy a b c ha hb ec, fun a b c ha hb ec => by
    obtain ⟨c1, l1, e1⟩ := h.mono a b c ha hb ec
    unfold setO
    by_cases q : a = u ∧ b = v
    · rw [if_pos q]
      obtain ⟨q1, q2⟩ := q
      subst q1 q2
      have := hc c1 e1
      exact ⟨ah + s, by omega, rfl⟩
    · rw [if_neg q]
      exact ⟨c1, l1, e1⟩, fun nb a b ha hb => by
    have e0 : G0 k v = some s := by rw [← prog_row (u := u) (v := v) (hd nb), ← h.ex nb k v hk hv, e]
    unfold setO
    by_cases q : a = u ∧ b = v
    · rw [if_pos q]
      obtain ⟨q1, q2⟩ := q
      subst q1 q2
      rw [prog_new]
      unfold rel
      rw [e0, hA.ex nb]
      have e1 : G0 a b = G a b := by rw [← prog_at (G0 := G0) (k := k), ← h.ex nb a b hu hv]
      rw [e1]
      cases e2 : G a b with
      | none => rfl
      | some c =>
        simp only
        rw [if_pos (hc c e2)]
    · rw [if_neg q, h.ex nb a b ha hb, prog_succ q]⟩
/-- between the turns -/
structure Tn (n : Nat) (F : Ot) (k : Nat) (G : Ot) : Prop where
  low : Low n F G
  mono : Mono n F G
  tri : ¬ Bad n G → Tri n k G
theorem Tn.first : Tn n F 0 F := ⟨fun _ _ h => h, fun u v c _ _ e => ⟨c, Int.le_refl _, e⟩, fun _ m _ _ _ _ hm => absurd hm (Nat.not_lt_zero m)⟩
theorem Tn.next (T : Tn n F k G0) (hk : k < n) (hd : ¬ Bad n G0 → G0 k k = some 0) (P : Ph n F k G0 n 0 G) : Tn n F (k + 1) G := by
  refine ⟨P.low, T.mono.trans P.mono, fun nb => ?_⟩
  have nb0 : ¬ Bad n G0 := fun h => nb (h.mono P.mono)
  have d0 := hd nb0
  have ex : ∀ a b, a < n → b < n → G a b = rel G0 k a b := fun a b ha hb => by
    rw [P.ex nb0 a b ha hb]
    unfold prog
    rw [if_pos (by omega)]
  have t0 := T.tri nb0
  -- relaxing
  have rle : ∀ a b x y, G0 a k = some x → G0 k b = some y → ∃ c, c ≤ x + y ∧ rel G0 k a b = some c := fun a b x y e1 e2 => by
    unfold rel
    rw [e1, e2]
    cases G0 a b with
    | none => exact ⟨x + y, Int.le_refl _, rfl⟩
    | some c => simp only; split <;> exact ⟨_, by omega, rfl⟩
  have rle0 : ∀ a b c, G0 a b = some c → ∃ c', c' ≤ c ∧ rel G0 k a b = some c' := fun a b c e => by
    unfold rel
    rw [e]
    cases G0 a k with
    | none => exact ⟨c, Int.le_refl _, rfl⟩
    | some x =>
      cases G0 k b with
      | none => exact ⟨c, Int.le_refl _, rfl⟩
      | some y => simp only; split <;> exact ⟨_, by omega, rfl⟩
  have rinv : ∀ a b c, rel G0 k a b = some c → G0 a b = some c ∨ ∃ x y, G0 a k = some x ∧ G0 k b = some y ∧ c = x + y := fun a b c e => by
    unfold rel at e
    split at e
    · rename_i x y z e1 e2 e3
      split at e
      · exact .inr ⟨x, y, e1, e2, (Option.some.inj e).symm⟩
      · exact .inl (e3.trans e)
    · rename_i x y e1 e2 e3
      exact .inr ⟨x, y, e1, e2, (Option.some.inj e).symm⟩
    · exact .inl e
  intro m a b x y hm ha hb e1 e2
  rw [ex a m ha (by omega)] at e1
  rw [ex m b (by omega) hb] at e2
  rw [ex a b ha hb]
  by_cases q : m = k
  · subst q
    rw [rel_col d0] at e1
    rw [rel_row d0] at e2
    exact rle a b x y e1 e2
  · have hm' : m < k := by omega
    rcases rinv a m x e1 with z1 | ⟨p1, p2, z1, z2, z3⟩
    · rcases rinv m b y e2 with w1 | ⟨r1, r2, w1, w2, w3⟩
      · obtain ⟨c, hc, e⟩ := t0 m a b x y hm' ha hb z1 w1
        obtain ⟨c', hc', e'⟩ := rle0 a b c e
        exact ⟨c', by omega, e'⟩
      · obtain ⟨c, hc, e⟩ := t0 m a k x r1 hm' ha hk z1 w1
        obtain ⟨c', hc', e'⟩ := rle a b c r2 e w2
        exact ⟨c', by omega, e'⟩
    · rcases rinv m b y e2 with w1 | ⟨r1, r2, w1, w2, w3⟩
      · obtain ⟨c, hc, e⟩ := t0 m k b p2 y hm' hk hb z2 w1
        obtain ⟨c', hc', e'⟩ := rle a b p1 c z1 e
        exact ⟨c', by omega, e'⟩
      · obtain ⟨c, hc, e⟩ := t0 m k k p2 r1 hm' hk hk z2 w1
        rw [d0] at e
        cases e
        obtain ⟨c', hc', e'⟩ := rle a b p1 r2 z1 w2
        exact ⟨c', by omega, e'⟩
/-- star-like and with a diagonal of noughts or less -/
structure Star (n : Nat) (F : Ot) : Prop where
  pos : 0 < n
  col : ∀ u, u < n → F u 0 ≠ none
  row : ∀ u, u < n → F 0 u ≠ none
  diag : ∀ u, u < n → ∃ c, c ≤ 0 ∧ F u u = some c
theorem Star.diagM (S : Star n F) (m : Mono n F G) (hu : u < n) : ∃ c, c ≤ 0 ∧ G u u = some c := by
  obtain ⟨c, hc, e⟩ := S.diag u hu
  obtain ⟨c', hc', e'⟩ := m u u c hu hu e
  exact ⟨c', by omega, e'⟩
theorem Star.diag0 (S : Star n F) (m : Mono n F G) (nb : ¬ Bad n G) (hu : u < n) : G u u = some 0 := by
  obtain ⟨c, hc, e⟩ := S.diagM m hu
  by_cases h : c < 0
  · exact absurd ⟨u, c, hu, e, h⟩ nb
  · rw [e]
    congr 1
    omega
theorem Tn.none (T : Tn n F k G) (b : Bad n G) : OCl n F none := fun ⟨h, a, c⟩ => by
  obtain ⟨u, c', hu, e, hc⟩ := b
  have := T.low h a c u u c' hu hu e
  rw [a.1 u hu] at this
  omega
theorem Tn.all (T : Tn n F n G) (S : Star n F) (nb : ¬ Bad n G) (hu : u < n) (hv : v < n) : ∃ c, G u v = some c := by
  have get : ∀ a b, F a b ≠ Option.none → a < n → b < n → ∃ c, G a b = some c := fun a b h ha hb => by
    cases e : F a b with
    | none => exact absurd e h
    | some c =>
      obtain ⟨c', _, e'⟩ := T.mono a b c ha hb e
      exact ⟨c', e'⟩
  obtain ⟨a, ea⟩ := get u 0 (S.col u hu) hu S.pos
  obtain ⟨b, eb⟩ := get 0 v (S.row v hv) S.pos hv
  obtain ⟨c, _, ec⟩ := T.tri nb 0 u v a b S.pos hu hv ea eb
  exact ⟨c, ec⟩
theorem Tn.some (T : Tn n F n G) (S : Star n F) (nb : ¬ Bad n G) : OCl n F (some fun u v => (G u v).getD 0) := by
  have at_ : ∀ u v, u < n → v < n → G u v = Option.some ((G u v).getD 0) := fun u v hu hv => by
    obtain ⟨c, e⟩ := T.all S nb hu hv
    rw [e]
    rfl
  refine ⟨⟨fun u hu => ?_, fun u v m hu hv hm => ?_⟩, fun u v c hu hv e => ?_, fun h a b u v hu hv => T.low h a b u v _ hu hv (at_ u v hu hv)⟩
  · show (G u u).getD 0 = 0
    rw [S.diag0 T.mono nb hu]
    rfl
  · obtain ⟨c, hc, e⟩ := T.tri nb m u v _ _ hm hu hv (at_ u m hu hm) (at_ m v hm hv)
    show (G u v).getD 0 ≤ _
    rw [e]
    exact hc
  · obtain ⟨c', hc, e'⟩ := T.mono u v c hu hv e
    show (G u v).getD 0 ≤ c
    rw [e']
    exact hc
end
theorem ocl_int {n : Nat} {f : Tb} : ∀ {o : Option Tb}, OCl n (fun u v => some (f u v)) o → IsCl n f o
  | none, h => fun ⟨k, a, b⟩ => h ⟨k, a, fun u v c hu hv e => by cases e; exact b u v hu hv⟩
  | some g, ⟨a, b, c⟩ => ⟨a, fun u v hu hv => b u v _ hu hv rfl, fun h x y => c h x fun u v c hu hv e => by cases e; exact y u v hu hv⟩
end DL

set_option maxHeartbeats 2000000
namespace DL
open PySem PySem.Spec PyProof.Rows L2

/-! ### a def walked heap by heap -/
def Rv (te : TE) (σ : L2.St) (H : Hp) (v : V) : Prop := ∀ Q : VK, Q v H → te σ H Q
def Rt (tt : TT) (σ : L2.St) (H : Hp) (b : Bool) : Prop := ∀ Q : Bool → Hp → Prop, Q b H → tt σ H Q
section
variable {K : PySem.W.Frag} {σ : L2.St} {H : Hp} {ta tb te tq ti : TE} {tt t1 t2 : TT} {t t' u : TS} {Dn : Ends} {v w x y : V} {i j k : Int} {m n : Nat} {a b : Bool} {p c : Addr} {xs : List V}
theorem rv_var (h : σ[n]? = some (some v)) : Rv (tVar n) σ H v := fun Q q => ⟨v, h, q⟩
theorem rv_c : Rv (tC v) σ H v := fun Q q => q
theorem rv_op {r : R2} {z : V} (ha : Rv ta σ H x) (hb : Rv tb σ H y) (h : ∀ Q : VK, Q z H → r x y H Q) : Rv (tOp r ta tb) σ H z := fun Q q => ha _ (hb _ (h _ q))
theorem rv_add (ha : Rv ta σ H (.int i)) (hb : Rv tb σ H (.int j)) : Rv (tOp (xAdd K) ta tb) σ H (.int (i + j)) := rv_op ha hb fun Q q => .inl ⟨i, j, rfl, rfl, q⟩
theorem rv_mul (ha : Rv ta σ H (.int i)) (hb : Rv tb σ H (.int j)) (h : CMulW i j) : Rv (tOp xMul ta tb) σ H (.int (i * j)) := rv_op ha hb fun Q q => .inl ⟨i, j, rfl, rfl, h, q⟩
theorem rv_mod (ha : Rv ta σ H (.int i)) (hb : Rv tb σ H (.int j)) (h : 0 < j) : Rv (tOp xMod ta tb) σ H (.int (i % j)) := rv_op ha hb fun Q q => ⟨i, j, rfl, rfl, h, q⟩
theorem rv_div (ha : Rv ta σ H (.int i)) (hb : Rv tb σ H (.int j)) (h : 0 < j ∧ j < 1073741824) : Rv (tOp xDiv ta tb) σ H (.int (i / j)) := rv_op ha hb fun Q q => ⟨i, j, rfl, rfl, h, q⟩
theorem rv_pow (ha : Rv ta σ H (.int i)) (hb : Rv tb σ H (.int j)) (h : CPow i j) : Rv (tOp xPow ta tb) σ H (.int (i ^ j.toNat)) := rv_op ha hb fun Q q => ⟨i, j, rfl, rfl, h, q⟩
theorem rv_int (ha : Rv ta σ H (.int i)) : Rv (tCB xInt (tCons ta tNil)) σ H (.int i) := fun Q q => ha _ (.inl (.inl ⟨i, rfl, q⟩))
theorem rv_ix (ha : Rv ta σ H (.ref p)) (hb : Rv tb σ H (.int i)) (hp : H p = some (.lst xs)) (h : L2.atI xs i = some v) : Rv (tOp (rIx K) ta tb) σ H v := rv_op ha hb fun Q q => .inl ⟨p, xs, i, v, rfl, rfl, SqL.of hp, h, q⟩
theorem rv_len (ha : Rv ta σ H (.ref p)) (hp : H p = some (.lst xs)) : Rv (tCB (xLen K) (tCons ta tNil)) σ H (.int xs.length) := fun Q q => ha _ ⟨.ref p, xs.length, rfl, .inl ⟨xs, SqL.of hp, rfl⟩, q⟩
theorem rt_op {r : R2} (ha : Rv ta σ H x) (hb : Rv tb σ H y) (h : ∀ Q : VK, Q (.bl b) H → r x y H Q) : Rt (tTest (tOp r ta tb)) σ H b := fun Q q => ha _ (hb _ (h _ ⟨b, rfl, q⟩))
theorem rt_eqI (ha : Rv ta σ H (.int i)) (hb : Rv tb σ H (.int j)) : Rt (tTest (tOp (xEq K) ta tb)) σ H (decide (i = j)) := rt_op ha hb fun Q q => .inl ⟨rfl, by simpa using q⟩
theorem rt_lt (ha : Rv ta σ H (.int i)) (hb : Rv tb σ H (.int j)) : Rt (tTest (tOp (xLt K) ta tb)) σ H (decide (i < j)) := rt_op ha hb fun Q q => .inl ⟨i, j, rfl, rfl, q⟩
theorem rt_gt (ha : Rv ta σ H (.int i)) (hb : Rv tb σ H (.int j)) : Rt (tTest (tOp xGt ta tb)) σ H (decide (j < i)) := rt_op ha hb fun Q q => ⟨i, j, rfl, rfl, q⟩
theorem rt_ge (ha : Rv ta σ H (.int i)) (hb : Rv tb σ H (.int j)) : Rt (tTest (tOp xGe ta tb)) σ H (decide (j ≤ i)) := rt_op ha hb fun Q q => ⟨i, j, rfl, rfl, q⟩
theorem rt_and (h1 : Rt t1 σ H a) (h2 : Rt t2 σ H b) : Rt (tAnd t1 t2) σ H (a && b) := fun Q q => h1 _ (by
  cases a with
  | true => exact iteT (h2 _ q)
  | false => exact iteF q)
theorem xr_set (h : Rv te σ H v) (k : u Dn (σ.set n (some v)) H) : tSeq (tAsg te (gName n)) u Dn σ H := h _ k
theorem xr_put {j : Nat} (h : Rv te σ H v) (ho : Rv tq σ H (.ref p)) (hk : Rv ti σ H (.int k)) (hp : H p = some (.lst xs)) (hj : ixN xs.length k = some j) (kk : u Dn σ (upd H p (.lst (xs.set j v)))) : tSeq (tAsg te (gSub tq ti rSetL)) u Dn σ H :=
  h _ (ho _ (hk _ ⟨p, xs, k, j, rfl, rfl, hp, hj, kk⟩))
theorem xr_if (h : Rt tt σ H b) (h1 : b = true → t { Dn with nx := u Dn } σ H) (h2 : b = false → t' { Dn with nx := u Dn } σ H) : tSeq (tIfS tt t t') u Dn σ H := h _ (by
  cases b with
  | true => exact iteT (h1 rfl)
  | false => exact iteF (h2 rfl))
theorem xr_ret (h : Rv te σ H v) (k : Dn.rt v H) : tSeq (tRet te) u Dn σ H := h _ k
end
theorem log2_small {i : Int} {k : Nat} (h : i.natAbs < 2 ^ (k + 1)) : i.natAbs.log2 ≤ k := by
  by_cases e : i.natAbs = 0
  · rw [e, Nat.log2_zero]; exact Nat.zero_le _
  · exact Nat.le_of_lt_succ ((Nat.log2_lt e).mpr h)
theorem log2_60 : ((10 : Int) ^ (60 : Int).toNat).natAbs.log2 ≤ 200 := by decide +kernel

/-! ### the draw -/
def drawT (K : PySem.W.Frag) : TS :=
    (tSeq (tIfS (tAnd (tTest (tOp (xEq K) (tOp (rIx K) (tVar 0) (tC (.int 2))) (tC (.int 0)))) (tTest (tOp (xLt K) (tOp (rIx K) (tVar 0) (tC (.int 1))) (tCB (xLen K) (tCons (tOp (rIx K) (tVar 0) (tC (.int 0))) tNil))))) (tSeq (tAsg (tOp (rIx K) (tOp (rIx K) (tVar 0) (tC (.int 0))) (tOp (rIx K) (tVar 0) (tC (.int 1)))) (gName 2))
    (tSeq (tAsg (tOp (xAdd K) (tOp (rIx K) (tVar 0) (tC (.int 1))) (tC (.int 1))) (gSub (tVar 0) (tC (.int 1)) rSetL))
    (tSeq (tIfS (tTest (tOp xGe (tVar 2) (tOp xPow (tC (.int 10)) (tC (.int 18))))) (tSeq (tAsg (tOp xMod (tCB (xInt) (tCons (tVar 2) tNil)) (tOp xMul (tOp xMul (tOp xMul (tOp xPow (tC (.int 10)) (tC (.int 60))) (tOp xPow (tC (.int 10)) (tC (.int 60)))) (tOp xPow (tC (.int 10)) (tC (.int 60)))) (tOp xPow (tC (.int 10)) (tC (.int 60))))) (gSub (tVar 0) (tC (.int 2)) rSetL))
    tNext) (tSeq (tAsg (tOp xMod (tOp (xAdd K) (tOp (xAdd K) (tOp xMul (tOp (rIx K) (tVar 0) (tC (.int 3))) (tC (.int 48271))) (tOp xMod (tCB (xInt) (tCons (tVar 2) tNil)) (tC (.int 2147483647)))) (tC (.int 1))) (tC (.int 2147483647))) (gSub (tVar 0) (tC (.int 3)) rSetL))
    tNext))
    tNext))) tNext)
    (tSeq (tIfS (tTest (tOp xGt (tOp (rIx K) (tVar 0) (tC (.int 2))) (tC (.int 0)))) (tSeq (tAsg (tOp xMod (tCB (xInt) (tCons (tOp (rIx K) (tVar 0) (tC (.int 2))) tNil)) (tVar 1)) (gName 3))
    (tSeq (tAsg (tOp xDiv (tCB (xInt) (tCons (tOp (rIx K) (tVar 0) (tC (.int 2))) tNil)) (tVar 1)) (gSub (tVar 0) (tC (.int 2)) rSetL))
    (tSeq (tRet (tVar 3))
    tNext))) tNext)
    (tSeq (tAsg (tOp xMod (tOp (xAdd K) (tOp xMul (tOp (rIx K) (tVar 0) (tC (.int 3))) (tC (.int 48271))) (tC (.int 11))) (tC (.int 2147483647))) (gSub (tVar 0) (tC (.int 3)) rSetL))
    (tSeq (tAsg (tOp xMod (tOp (xAdd K) (tOp xMul (tOp (rIx K) (tVar 0) (tC (.int 4))) (tC (.int 69621))) (tOp xDiv (tOp (rIx K) (tVar 0) (tC (.int 3))) (tC (.int 7)))) (tC (.int 2147483629))) (gSub (tVar 0) (tC (.int 4)) rSetL))
    (tSeq (tRet (tOp xMod (tCB (xInt) (tCons (tOp xDiv (tOp (rIx K) (tVar 0) (tC (.int 4))) (tC (.int 11))) tNil)) (tVar 1)))
    tNext)))))
/-- the hand, opened -/
def HO5 (c : Addr) (i x y z : Int) : HO := .lst [.ref c, .int i, .int x, .int y, .int z]
def HOk (i x y z : Int) : Prop := 0 ≤ i ∧ 0 ≤ x ∧ x < 10 ^ 240 ∧ 0 ≤ y ∧ y < 2 ^ 31 ∧ 0 ≤ z ∧ z < 2 ^ 31
section
variable {K : PySem.W.Frag} {H : Hp} {a c : Addr} {ns : List Int} {i x y z m : Int} {Dn : Ends} {s2 s3 : Option V}
abbrev sg (a : Addr) (m : Int) (s2 s3 : Option V) : L2.St := [some (.ref a), some (.int m), s2, s3]
theorem hd_ix {k : Nat} {v : V} {σ : L2.St} (hσ : σ[0]? = some (some (.ref a))) (h : [V.ref c, .int i, .int x, .int y, .int z][k]? = some v) : Rv (tOp (rIx K) (tVar 0) (tC (.int (k : Nat)))) σ (upd H a (HO5 c i x y z)) v := rv_ix (rv_var hσ) rv_c upd_same (atI_nat h)
/-- behind the reading of a cell -/
theorem draw_late (hk : HOk i x y z) (h0 : 0 < m) (h1 : m < 1073741824) (q : ∀ r i' x' y' z', HOk i' x' y' z' → 0 ≤ r → r < m → Dn.rt (.int r) (upd H a (HO5 c i' x' y' z'))) :
    (tSeq (tIfS (tTest (tOp xGt (tOp (rIx K) (tVar 0) (tC (.int 2))) (tC (.int 0)))) (tSeq (tAsg (tOp xMod (tCB (xInt) (tCons (tOp (rIx K) (tVar 0) (tC (.int 2))) tNil)) (tVar 1)) (gName 3))
    (tSeq (tAsg (tOp xDiv (tCB (xInt) (tCons (tOp (rIx K) (tVar 0) (tC (.int 2))) tNil)) (tVar 1)) (gSub (tVar 0) (tC (.int 2)) rSetL))
    (tSeq (tRet (tVar 3))
    tNext))) tNext)
    (tSeq (tAsg (tOp xMod (tOp (xAdd K) (tOp xMul (tOp (rIx K) (tVar 0) (tC (.int 3))) (tC (.int 48271))) (tC (.int 11))) (tC (.int 2147483647))) (gSub (tVar 0) (tC (.int 3)) rSetL))
    (tSeq (tAsg (tOp xMod (tOp (xAdd K) (tOp xMul (tOp (rIx K) (tVar 0) (tC (.int 4))) (tC (.int 69621))) (tOp xDiv (tOp (rIx K) (tVar 0) (tC (.int 3))) (tC (.int 7)))) (tC (.int 2147483629))) (gSub (tVar 0) (tC (.int 4)) rSetL))
    (tSeq (tRet (tOp xMod (tCB (xInt) (tCons (tOp xDiv (tOp (rIx K) (tVar 0) (tC (.int 4))) (tC (.int 11))) tNil)) (tVar 1)))
    tNext)))) Dn (sg a m s2 s3) (upd H a (HO5 c i x y z)) := by
  obtain ⟨k0, k1, k2, k3, k4, k5, k6⟩ := hk
  refine xr_if (rt_gt (hd_ix (k := 2) rfl rfl) rv_c) (fun hb => ?_) (fun hb => ?_)
  · have hx : 0 < x := by simpa using hb
    refine xr_set (rv_mod (rv_int (hd_ix (k := 2) rfl rfl)) (rv_var rfl) h0) ?_
    refine xr_put (j := 2) (rv_div (rv_int (hd_ix (k := 2) rfl rfl)) (rv_var rfl) ⟨h0, h1⟩) (rv_var rfl) rv_c upd_same rfl ?_
    refine xr_ret (rv_var rfl) ?_
    rw [upd_upd]
    refine q (x % m) i (x / m) y z ⟨k0, Int.ediv_nonneg k1 (Int.le_of_lt h0), ?_, k3, k4, k5, k6⟩ (Int.emod_nonneg _ (by omega)) (Int.emod_lt_of_pos _ h0)
    exact Int.lt_of_le_of_lt (Int.ediv_le_self m k1) k2
  · show tSeq _ _ Dn _ _
    have l31 : ∀ w : Int, 0 ≤ w → w < 2 ^ 31 → w.natAbs.log2 ≤ 30 := fun w w0 w1 => log2_small (by omega)
    refine xr_put (j := 3) (rv_mod (rv_add (rv_mul (hd_ix (k := 3) rfl rfl) rv_c ?_) rv_c) rv_c (by decide)) (rv_var rfl) rv_c upd_same rfl ?_
    · show y.natAbs.log2 + (48271 : Int).natAbs.log2 < 1000000
      have h1 := l31 y k3 k4
      have h2 : (48271 : Int).natAbs.log2 ≤ 30 := l31 _ (by decide) (by decide)
      omega
    rw [upd_upd]
    show tSeq _ _ Dn _ (upd H a (HO5 c i x ((y * 48271 + 11) % 2147483647) z))
    generalize hy : (y * 48271 + 11) % 2147483647 = y'
    have hy0 : 0 ≤ y' := by rw [← hy]; exact Int.emod_nonneg _ (by decide)
    have hy1 : y' < 2147483647 := by rw [← hy]; exact Int.emod_lt_of_pos _ (by decide)
    refine xr_put (j := 4) (rv_mod (rv_add (rv_mul (hd_ix (k := 4) rfl rfl) rv_c ?_) (rv_div (hd_ix (k := 3) rfl rfl) rv_c (by decide))) rv_c (by decide)) (rv_var rfl) rv_c upd_same rfl ?_
    · show z.natAbs.log2 + (69621 : Int).natAbs.log2 < 1000000
      have h1 := l31 z k5 k6
      have h2 : (69621 : Int).natAbs.log2 ≤ 30 := l31 _ (by decide) (by decide)
      omega
    rw [upd_upd]
    show tSeq _ _ Dn _ (upd H a (HO5 c i x y' ((z * 69621 + y' / 7) % 2147483629)))
    generalize hz : (z * 69621 + y' / 7) % 2147483629 = z'
    have hz0 : 0 ≤ z' := by rw [← hz]; exact Int.emod_nonneg _ (by decide)
    have hz1 : z' < 2147483629 := by rw [← hz]; exact Int.emod_lt_of_pos _ (by decide)
    refine xr_ret (rv_mod (rv_int (rv_div (hd_ix (k := 4) rfl rfl) rv_c (by decide))) (rv_var rfl) h0) ?_
    exact q _ i x y' z' ⟨k0, k1, k2, hy0, by omega, hz0, by omega⟩ (Int.emod_nonneg _ (by omega)) (Int.emod_lt_of_pos _ h0)
theorem draw_run (hc : c ≠ a) (hcells : H c = some (.lst (ns.map V.int))) (hk : HOk i x y z) (h0 : 0 < m) (h1 : m < 1073741824)
    (q : ∀ r i' x' y' z', HOk i' x' y' z' → 0 ≤ r → r < m → Dn.rt (.int r) (upd H a (HO5 c i' x' y' z'))) : drawT K Dn (sg a m none none) (upd H a (HO5 c i x y z)) := by
  have hcc : ∀ o, upd H a o c = some (.lst (ns.map V.int)) := fun o => by rw [upd_ne hc]; exact hcells
  obtain ⟨k0, k1, k2, k3, k4, k5, k6⟩ := hk
  have hk : HOk i x y z := ⟨k0, k1, k2, k3, k4, k5, k6⟩
  unfold drawT
  refine xr_if (rt_and (rt_eqI (hd_ix (k := 2) rfl rfl) rv_c) (rt_lt (hd_ix (k := 1) rfl rfl) (rv_len (hd_ix (k := 0) rfl rfl) (hcc _)))) (fun hb => ?_) (fun hb => ?_)
  · have hi : i < ns.length := by
      have := (Bool.and_eq_true_iff.mp hb).2
      simpa using this
    obtain ⟨n, rfl⟩ := Int.eq_ofNat_of_zero_le k0
    have hn : n < ns.length := by omega
    refine xr_set (v := .int ns[n]) (rv_ix (hd_ix (k := 0) rfl rfl) (hd_ix (k := 1) rfl rfl) (hcc _) (atI_nat (by simp [hn]))) ?_
    generalize hcell : ns[n] = cell
    refine xr_put (j := 1) (rv_add (hd_ix (k := 1) rfl rfl) rv_c) (rv_var rfl) rv_c upd_same rfl ?_
    rw [upd_upd]
    show tSeq _ _ _ _ (upd H a (HO5 c ((n : Int) + 1) x y z))
    refine xr_if (rt_ge (rv_var rfl) (rv_pow rv_c rv_c (by refine ⟨by decide, by decide, by decide⟩))) (fun _ => ?_) (fun _ => ?_)
    · have p1 : Rv (tOp xMul (tOp xMul (tOp xMul (tOp xPow (tC (.int 10)) (tC (.int 60))) (tOp xPow (tC (.int 10)) (tC (.int 60)))) (tOp xPow (tC (.int 10)) (tC (.int 60)))) (tOp xPow (tC (.int 10)) (tC (.int 60)))) (sg a m (some (.int cell)) none) (upd H a (HO5 c ((n : Int) + 1) x y z)) (.int (10 ^ (60 : Int).toNat * 10 ^ (60 : Int).toNat * 10 ^ (60 : Int).toNat * 10 ^ (60 : Int).toNat)) := by
        have pw : Rv (tOp xPow (tC (.int 10)) (tC (.int 60))) (sg a m (some (.int cell)) none) (upd H a (HO5 c ((n : Int) + 1) x y z)) (.int (10 ^ (60 : Int).toNat)) := rv_pow rv_c rv_c ⟨by decide, by decide, by decide⟩
        exact rv_mul (rv_mul (rv_mul pw pw (by unfold CMulW; decide +kernel)) pw (by unfold CMulW; decide +kernel)) pw (by unfold CMulW; decide +kernel)
      refine xr_put (j := 2) (rv_mod (rv_int (rv_var rfl)) p1 (by decide +kernel)) (rv_var rfl) rv_c upd_same rfl ?_
      rw [upd_upd]
      refine draw_late (K := K) (c := c) (i := (n : Int) + 1) (y := y) (z := z) ⟨by omega, Int.emod_nonneg _ (by decide +kernel), ?_, k3, k4, k5, k6⟩ h0 h1 q
      refine Int.lt_of_lt_of_le (Int.emod_lt_of_pos _ (by decide +kernel)) (by decide +kernel)
    · refine xr_put (j := 3) (rv_mod (rv_add (rv_add (rv_mul (hd_ix (k := 3) rfl rfl) rv_c ?_) (rv_mod (rv_int (rv_var rfl)) rv_c (by decide))) rv_c) rv_c (by decide)) (rv_var rfl) rv_c upd_same rfl ?_
      · show y.natAbs.log2 + (48271 : Int).natAbs.log2 < 1000000
        have h1 : y.natAbs.log2 ≤ 30 := log2_small (by omega)
        have h2 : (48271 : Int).natAbs.log2 ≤ 30 := log2_small (by decide)
        omega
      rw [upd_upd]
      refine draw_late (K := K) (c := c) (i := (n : Int) + 1) (x := x) (z := z) ⟨by omega, k1, k2, Int.emod_nonneg _ (by decide), ?_, k5, k6⟩ h0 h1 q
      exact Int.lt_of_lt_of_le (Int.emod_lt_of_pos _ (by decide)) (by decide)
  · exact draw_late hk h0 h1 q
theorem Hand.open_ {M : List Addr} {H : Hp} {h : Addr × Addr} (q : Hand M H h) (hM : h.1 ∈ M) : ∃ (ns : List Int) (i x y z : Int), H = upd H h.1 (HO5 h.2 i x y z) ∧ HOk i x y z ∧ H h.2 = some (.lst (ns.map V.int)) ∧ h.2 ∉ M ∧ ns.length ≤ 63 ∧ h.2 ≠ h.1 := by
  obtain ⟨ns, i, x, y, z, h1, h2, h3, h4, h5⟩ := q
  refine ⟨ns, i, x, y, z, ?_, h5, h2, h3, h4, fun e => h3 (e ▸ hM)⟩
  funext b
  by_cases e : b = h.1
  · rw [e, upd_same]; exact h1
  · rw [upd_ne e]
theorem Hand.close {M : List Addr} {H : Hp} {h : Addr × Addr} {ns : List Int} {i x y z : Int} (hk : HOk i x y z) (hc : H h.2 = some (.lst (ns.map V.int))) (hm : h.2 ∉ M) (hl : ns.length ≤ 63) (hne : h.2 ≠ h.1) : Hand M (upd H h.1 (HO5 h.2 i x y z)) h :=
  ⟨ns, i, x, y, z, upd_same, by rw [upd_ne hne]; exact hc, hm, hl, hk⟩
abbrev sp_draw : Sp := HSp (α := Int) (fun m => [.int m]) (fun m => 0 < m ∧ m < 1073741824) (fun m r => ∃ i, r = .known (.int i) ∧ 0 ≤ i ∧ i < m)
theorem rep_int (H : Hp) (i : Int) : Rep H (.int i) (.int i) := rep_v.mpr rfl
theorem rd_draw {N : List Str} (hN : N.length = 4) : ∀ vs H Q E, sp_draw vs H Q E → drawT K { nx := fun _ H' => Q .non H', rt := Q } (L2.start N vs) H := fun vs H Q E hs => by
  obtain ⟨m, M, h, us, e, hM, hin, hh, hr, ⟨m0, m1⟩, q⟩ := hs
  obtain ⟨v, e2, rv⟩ := reps_1 hr
  have e3 := rep_v.mp rv
  subst e e2 e3
  obtain ⟨ns, i, x, y, z, eH, hk, hc, hm, hl, hne⟩ := hh.open_ hin
  have eS : L2.start N [.ref h.1, .int m] = sg h.1 m none none := by unfold L2.start; rw [hN]; rfl
  have := draw_run (K := K) (Dn := { nx := fun _ H' => Q .non H', rt := Q }) (H := H) (a := h.1) (c := h.2) (ns := ns) hne hc hk m0 m1 fun r i' x' y' z' hk' r0 r1 => by
    refine q (.known (.int r)) (.int r) _ ⟨r, rfl, r0, r1⟩ ⟨fun b o hb z => ?_, fun h' e => ?_⟩ (rep_int (wo (upd H h.1 (HO5 h.2 i' x' y' z')) M) r)
    · have hb' : b ≠ h.1 := fun e => hb (by rw [e]; rfl)
      rw [upd_ne hb']
      exact z
    · cases e
      exact Hand.close hk' hc hm hl hne
  rw [eS, eH]
  exact this
end
end DL

set_option maxHeartbeats 2000000
namespace DL
open PySem PySem.Spec PyProof.Rows L2

/-! ### one and the same datum -/
mutual
def D.good : D → Bool
  | .v .non => true
  | .v (.bl _) => true
  | .v (.int _) => true
  | .v (.str _) => true
  | .v _ => false
  | .tup ds => D.goods ds
  | .lst ds => D.goods ds
def D.goods : List D → Bool
  | [] => true
  | d :: ds => D.good d && D.goods ds
end
mutual
def D.nds : D → Nat
  | .v _ => 1
  | .tup ds => D.ndss ds + 1
  | .lst ds => D.ndss ds + 1
def D.ndss : List D → Nat
  | [] => 0
  | d :: ds => D.nds d + D.ndss ds
end
theorem goods_iff {ds : List D} : D.goods ds = true ↔ ∀ d ∈ ds, d.good = true := by
  induction ds with
  | nil => exact ⟨fun _ _ h => (nomatch h), fun _ => rfl⟩
  | cons d ds ih =>
    show (D.good d && D.goods ds) = true ↔ _
    rw [Bool.and_eq_true, ih]
    simp
theorem goods_app {ds es : List D} : D.goods (ds ++ es) = true ↔ D.goods ds = true ∧ D.goods es = true := by
  rw [goods_iff, goods_iff, goods_iff]
  simp only [List.mem_append]
  exact ⟨fun h => ⟨fun d hd => h d (.inl hd), fun d hd => h d (.inr hd)⟩, fun h d hd => hd.elim (h.1 d) (h.2 d)⟩
theorem ndss_app {ds es : List D} : D.ndss (ds ++ es) = D.ndss ds + D.ndss es := by
  induction ds with
  | nil => show D.ndss es = 0 + D.ndss es; omega
  | cons d ds ih =>
    show D.nds d + D.ndss (ds ++ es) = D.nds d + D.ndss ds + D.ndss es
    rw [ih]
    omega
theorem nds_pos (d : D) : 0 < d.nds := by
  cases d with
  | v x => exact Nat.one_pos
  | tup ds => exact Nat.succ_pos _
  | lst ds => exact Nat.succ_pos _
theorem len_ndss {ds : List D} : ds.length ≤ D.ndss ds := by
  induction ds with
  | nil => exact Nat.le_refl _
  | cons d ds ih =>
    have := nds_pos d
    show ds.length + 1 ≤ D.nds d + D.ndss ds
    omega
theorem ndss_le {ds : List D} {k : Nat} (h : ∀ d ∈ ds, d.nds ≤ k) : D.ndss ds ≤ ds.length * k := by
  induction ds with
  | nil => exact Nat.zero_le _
  | cons d ds ih =>
    have h1 := h d List.mem_cons_self
    have h2 := ih fun d hd => h d (List.mem_cons_of_mem _ hd)
    show D.nds d + D.ndss ds ≤ (ds.length + 1) * k
    rw [Nat.add_mul, Nat.one_mul]
    omega
theorem ndss_take {ds : List D} {k : Nat} : D.ndss (ds.take k) ≤ D.ndss ds := by
  have := ndss_app (ds := ds.take k) (es := ds.drop k)
  rw [List.take_append_drop] at this
  omega
def dup (d : D) : D := .tup [d, d]
def sameT (K : PySem.W.Frag) : TS :=
    (tSeq (tAsg (tLst (tCons (tTup (tCons (tVar 0) (tCons (tVar 1) tNil))) tNil)) (gName 2))
    (tSeq (tWhile (tTru K (tVar 2)) (tSeq (tAsg (tBM0 K "list" rPop (tVar 2)) (gTup K 2 (gCons (gName 3) (gCons (gName 4) gNil))))
    (tSeq (tIfS (tTest (tOp xIs (tVar 4) (tC .non))) (tSeq (tIfS (tTest (tOp xIsN (tVar 3) (tC .non))) (tSeq (tRet (tC (.bl false)))
    tNext) tNext)
    tNext) (tSeq (tIfS (tOr (tTest (tOp xIs (tVar 4) (tC (.bl true)))) (tTest (tOp xIs (tVar 4) (tC (.bl false))))) (tSeq (tIfS (tOr (tNot (tTru K (tCB (rIsi K) (tCons (tVar 3) (tCons (tC (.ty "bool")) tNil))))) (tTest (tOp (xNe K) (tVar 3) (tVar 4)))) (tSeq (tRet (tC (.bl false)))
    tNext) tNext)
    tNext) (tSeq (tIfS (tTru K (tCB (rIsi K) (tCons (tVar 4) (tCons (tC (.ty "int")) tNil)))) (tSeq (tIfS (tOr (tNot (tTru K (tCB (rIsi K) (tCons (tVar 3) (tCons (tC (.ty "int")) tNil))))) (tOr (tTru K (tCB (rIsi K) (tCons (tVar 3) (tCons (tC (.ty "bool")) tNil)))) (tTest (tOp (xNe K) (tVar 3) (tVar 4))))) (tSeq (tRet (tC (.bl false)))
    tNext) tNext)
    tNext) (tSeq (tIfS (tTru K (tCB (rIsi K) (tCons (tVar 4) (tCons (tC (.ty "str")) tNil)))) (tSeq (tIfS (tOr (tNot (tTru K (tCB (rIsi K) (tCons (tVar 3) (tCons (tC (.ty "str")) tNil))))) (tTest (tOp (xNe K) (tVar 3) (tVar 4)))) (tSeq (tRet (tC (.bl false)))
    tNext) tNext)
    tNext) (tSeq (tIfS (tAnd (tTru K (tCB (rIsi K) (tCons (tVar 4) (tCons (tC (.ty "tuple")) tNil)))) (tNot (tTru K (tCB (rIsi K) (tCons (tVar 3) (tCons (tC (.ty "tuple")) tNil)))))) (tSeq (tRet (tC (.bl false)))
    tNext) tNext)
    (tSeq (tIfS (tAnd (tTru K (tCB (rIsi K) (tCons (tVar 4) (tCons (tC (.ty "list")) tNil)))) (tNot (tTru K (tCB (rIsi K) (tCons (tVar 3) (tCons (tC (.ty "list")) tNil)))))) (tSeq (tRet (tC (.bl false)))
    tNext) tNext)
    (tSeq (tIfS (tTest (tOp (xNe K) (tCB (xLen K) (tCons (tVar 3) tNil)) (tCB (xLen K) (tCons (tVar 4) tNil)))) (tSeq (tRet (tC (.bl false)))
    tNext) tNext)
    (tSeq (tFor (iRng1 (tCons (tCB (xLen K) (tCons (tVar 4) tNil)) tNil)) (gName 5) (tSeq (tDrop (tBM K "list" rAppend (tVar 2) (tCons (tTup (tCons (tOp (rIx K) (tVar 3) (tVar 5)) (tCons (tOp (rIx K) (tVar 4) (tVar 5)) tNil))) tNil)))
    tNext))
    tNext)))))
    tNext))
    tNext))
    tNext))
    tNext)))
    (tSeq (tRet (tC (.bl true)))
    tNext)))
abbrev sp_same : Sp := FSp (α := D) (fun d => [d, d]) (fun d => d.good = true ∧ d.nds < 1000000) (fun _ r => r = .known (.bl true))
section
variable {K : PySem.W.Frag}
theorem rd_same {N : List Str} (hN : N.length = 6) : ∀ vs H Q E, sp_same vs H Q E → sameT K { nx := fun _ H' => Q .non H', rt := Q } (L2.start N vs) H := fun vs H Q E h => by
  refine body_F (n := 2) (fun _ => rfl) (by omega) (fun d B hp _ => ?_) h
  obtain ⟨hg, hd⟩ := hp
  rw [hN]
  refine tr_new (edn_lst (ea_1 (ed_tup (ea_2 (ev_var rfl) (ev_var rfl)) (by simp [sizeLine]))) (by simp [sizeLine])) ?_
  refine tr_while (fun m Γ' => ∃ (ps : List D) (s3 s4 s5 : Slot), Γ' = [.d d, .d d, .own (ps.map dup), s3, s4, s5] ∧ D.goods ps = true ∧ D.ndss ps = m ∧ m ≤ d.nds) d.nds
    ⟨[d], _, _, _, rfl, by show (d.good && true) = true; rw [hg]; rfl, by show d.nds + 0 = _; rfl, Nat.le_refl _⟩ ?_
  rintro m _ ⟨ps, s3, s4, s5, rfl, hps, hm, hle⟩
  refine ⟨_, ep_truOwn (i := 2) rfl, fun hb => ?_, fun hb => tr_ret ev_c fun d e => by rw [e]⟩
  have hne : ps ≠ [] := fun e => by subst e; simp at hb
  obtain ⟨qs, e, rfl⟩ : ∃ qs e, ps = qs ++ [e] := ⟨ps.dropLast, ps.getLast hne, (List.dropLast_concat_getLast hne).symm⟩
  rw [List.map_append (l₁ := qs)]
  obtain ⟨gq, ge⟩ := goods_app.mp hps
  have ge : e.good = true := by
    have : (e.good && true) = true := ge
    simpa using this
  have hs : D.ndss qs + e.nds = m := by
    rw [ndss_app] at hm
    have : D.ndss [e] = e.nds := rfl
    omega
  refine tr_pop (i := 2) (ds := qs.map dup) (d := dup e) rfl (tg_tup rfl (tgs_cons (tg_name (tgs_cons (tg_name (tgs_nil ?_))))))
  have fin : ∀ (s3 s4 s5 : Slot), ∃ n', n' < m ∧ ∃ (ps : List D) (s3' s4' s5' : Slot), [Slot.d d, .d d, .own (qs.map dup), s3, s4, s5] = [.d d, .d d, .own (ps.map dup), s3', s4', s5'] ∧ D.goods ps = true ∧ D.ndss ps = n' ∧ n' ≤ d.nds := fun s3 s4 s5 =>
    ⟨D.ndss qs, by have := nds_pos e; omega, qs, s3, s4, s5, rfl, gq, rfl, by omega⟩
  have deep : ∀ ds : List D, D.ndss ds + 1 = e.nds → D.goods ds = true → (∀ k x, ds[k]? = some x → ∀ (B : Base) (Γ : List Slot) (ta : TE), Ed B Γ ta e → ∀ tb, Ed B Γ tb (.int (k : Nat)) → Ed B Γ (tOp (rIx K) ta tb) x) → (∀ (B : Base) (Γ : List Slot) (ta : TE), Ed B Γ ta e → Ed B Γ (tCB (xLen K) (tCons ta tNil)) (.int ds.length)) →
      ∀ (B : Base) (E : Post) (u : TS), (∀ s : Slot, Tr B [.d d, .d d, .own ((qs ++ ds).map dup), .d e, .d e, s] u E) → Tr B [.d d, .d d, .own (qs.map dup), .d e, .d e, s5] (tSeq (tFor (iRng1 (tCons (tCB (xLen K) (tCons (tVar 4) tNil)) tNil)) (gName 5) (tSeq (tDrop (tBM K "list" rAppend (tVar 2) (tCons (tTup (tCons (tOp (rIx K) (tVar 3) (tVar 5)) (tCons (tOp (rIx K) (tVar 4) (tVar 5)) tNil))) tNil))) tNext)) u) E := by
    intro ds hds hgd hix hlen B E u hk
    have hl := len_ndss (ds := ds)
    refine tr_forR (n := ds.length) (g := fun u => .int (u : Nat)) (js := [5]) (edt_rngN (hlen _ _ _ (ev_var rfl)) (by omega)) (fun k Γ' => ∃ s, Γ' = [.d d, .d d, .own ((qs ++ ds.take k).map dup), .d e, .d e, s]) ⟨s5, by rw [List.take_zero, List.append_nil]⟩ ?_ ?_
    · rintro k _ gg hk2 ⟨s, rfl⟩
      refine tg_name ?_
      have hx : ds[k]? = some ds[k] := by simp [hk2]
      refine tr_append (i := 2) rfl (P := fun x => x = dup ds[k]) (ed_tup (ea_2 (hix k _ hx _ _ _ (ev_var rfl) _ (ev_var rfl)) (hix k _ hx _ _ _ (ev_var rfl) _ (ev_var rfl))) (by simp [sizeLine])) ?_ fun x ex => tr_next ⟨.d (.int (k : Nat)), ?_⟩
      · have h1 := len_ndss (ds := qs)
        have h2 := len_ndss (ds := ds.take k)
        have h3 := ndss_take (ds := ds) (k := k)
        rw [List.length_map, List.length_append]
        have : sizeLine = 16777216 := by decide
        omega
      · subst ex
        have e2 : (qs ++ ds.take (k + 1)).map dup = (qs ++ ds.take k).map dup ++ [dup ds[k]] := by
          rw [take_snoc hx, ← List.append_assoc, List.map_append]
          rfl
        rw [e2]
        rfl
    · rintro _ ⟨s, rfl⟩
      rw [List.take_length]
      exact hk s
  have fin2 : ∀ ds : List D, D.ndss ds + 1 = e.nds → D.goods ds = true → ∀ (s3 s4 s5 : Slot), ∃ n', n' < m ∧ ∃ (ps : List D) (s3' s4' s5' : Slot), [Slot.d d, .d d, .own ((qs ++ ds).map dup), s3, s4, s5] = [.d d, .d d, .own (ps.map dup), s3', s4', s5'] ∧ D.goods ps = true ∧ D.ndss ps = n' ∧ n' ≤ d.nds := fun ds hds hgd s3 s4 s5 =>
    ⟨D.ndss (qs ++ ds), by rw [ndss_app]; omega, qs ++ ds, s3, s4, s5, rfl, goods_app.mpr ⟨gq, hgd⟩, rfl, by rw [ndss_app]; omega⟩
  cases e with
  | v x =>
    cases x with
    | non => exact tr_ifP (ep_non (ev_var rfl)) (fun _ => tr_pass (ep_nnon (ev_var rfl)) (by simp) (tr_next (tr_next (fin _ _ _)))) (fun h => absurd rfl h)
    | bl b =>
      refine tr_ifP (ep_non (ev_var rfl)) (fun h => by cases h) fun _ => ?_
      refine tr_ifP (ep_or (ep_isB (ev_var rfl)) fun _ => ep_isB (ev_var rfl)) (fun _ => ?_) (fun h => absurd (by cases b <;> simp) h)
      exact tr_pass (ep_or (ep_not (ep_tru (ed_isi (ev_var rfl) rfl rfl))) fun _ => ep_neS (ev_var rfl) (ev_var rfl) rfl) (by simp) (tr_next (tr_next (tr_next (fin _ _ _))))
    | int i =>
      refine tr_ifP (ep_non (ev_var rfl)) (fun h => by cases h) fun _ => ?_
      refine tr_ifP (ep_or (ep_isB (ev_var rfl)) fun _ => ep_isB (ev_var rfl)) (fun h => by rcases h with h | h <;> cases h) fun _ => ?_
      refine tr_ifP (ep_tru (ed_isi (ev_var rfl) rfl rfl)) (fun _ => ?_) (fun h => absurd rfl h)
      exact tr_pass (ep_or (ep_not (ep_tru (ed_isi (ev_var rfl) rfl rfl))) fun _ => ep_or (ep_tru (ed_isi (b := false) (ev_var rfl) rfl rfl)) fun _ => ep_neS (ev_var rfl) (ev_var rfl) rfl) (by simp) (tr_next (tr_next (tr_next (tr_next (fin _ _ _)))))
    | str i =>
      refine tr_ifP (ep_non (ev_var rfl)) (fun h => by cases h) fun _ => ?_
      refine tr_ifP (ep_or (ep_isB (ev_var rfl)) fun _ => ep_isB (ev_var rfl)) (fun h => by rcases h with h | h <;> cases h) fun _ => ?_
      refine tr_ifP (ep_tru (ed_isi (ev_var rfl) rfl rfl)) (fun h => by cases h) fun _ => ?_
      refine tr_ifP (ep_tru (ed_isi (ev_var rfl) rfl rfl)) (fun _ => ?_) (fun h => absurd rfl h)
      exact tr_pass (ep_or (ep_not (ep_tru (ed_isi (ev_var rfl) rfl rfl))) fun _ => ep_neS (ev_var rfl) (ev_var rfl) rfl) (by simp) (tr_next (tr_next (tr_next (tr_next (tr_next (fin _ _ _))))))
    | byt _ => cases ge
    | flt _ => cases ge
    | ref _ => cases ge
    | ty _ => cases ge
  | tup ds =>
    refine tr_ifP (ep_non (ev_var rfl)) (fun h => by cases h) fun _ => ?_
    refine tr_ifP (ep_or (ep_isB (ev_var rfl)) fun _ => ep_isB (ev_var rfl)) (fun h => by rcases h with h | h <;> cases h) fun _ => ?_
    refine tr_ifP (ep_tru (ed_isi (ev_var rfl) rfl rfl)) (fun h => by cases h) fun _ => ?_
    refine tr_ifP (ep_tru (ed_isi (ev_var rfl) rfl rfl)) (fun h => by cases h) fun _ => ?_
    refine tr_pass (ep_and (ep_tru (ed_isi (ev_var rfl) rfl rfl)) fun _ => ep_not (ep_tru (ed_isi (ev_var rfl) rfl rfl))) (by simp) ?_
    refine tr_pass (ep_and (ep_tru (ed_isi (ev_var rfl) rfl rfl)) fun _ => ep_not (ep_tru (ed_isi (ev_var rfl) rfl rfl))) (by simp) ?_
    refine tr_pass (ep_neI (ed_lenT (ev_var rfl)) (ed_lenT (ev_var rfl))) (by simp) ?_
    exact deep ds rfl ge (fun k x hx B Γ ta ha tb hb => ed_ixT ha hb (atI_nat hx)) (fun B Γ ta ha => ed_lenT ha) _ _ _ fun s => tr_next (tr_next (tr_next (tr_next (tr_next (fin2 ds rfl ge _ _ _)))))
  | lst ds =>
    refine tr_ifP (ep_non (ev_var rfl)) (fun h => by cases h) fun _ => ?_
    refine tr_ifP (ep_or (ep_isB (ev_var rfl)) fun _ => ep_isB (ev_var rfl)) (fun h => by rcases h with h | h <;> cases h) fun _ => ?_
    refine tr_ifP (ep_tru (ed_isi (ev_var rfl) rfl rfl)) (fun h => by cases h) fun _ => ?_
    refine tr_ifP (ep_tru (ed_isi (ev_var rfl) rfl rfl)) (fun h => by cases h) fun _ => ?_
    refine tr_pass (ep_and (ep_tru (ed_isi (ev_var rfl) rfl rfl)) fun _ => ep_not (ep_tru (ed_isi (ev_var rfl) rfl rfl))) (by simp) ?_
    refine tr_pass (ep_and (ep_tru (ed_isi (ev_var rfl) rfl rfl)) fun _ => ep_not (ep_tru (ed_isi (ev_var rfl) rfl rfl))) (by simp) ?_
    refine tr_pass (ep_neI (ed_len (ev_var rfl)) (ed_len (ev_var rfl))) (by simp) ?_
    exact deep ds rfl ge (fun k x hx B Γ ta ha tb hb => ed_ixL ha hb (atI_nat hx)) (fun B Γ ta ha => ed_len ha) _ _ _ fun s => tr_next (tr_next (tr_next (tr_next (tr_next (fin2 ds rfl ge _ _ _)))))
end
end DL

set_option maxHeartbeats 2000000
namespace DL
open PySem PySem.Spec PyProof.Rows L2
section
variable {K : PySem.W.Frag} {B : Base} {Γ : List Slot} {te : TE} {ns : List Int}
theorem sqL_up {H H' : Hp} {a : Addr} {xs : List V} (h : SqL K H a xs) (e : Same H H') : SqL K H' a xs := by
  rcases h with h | h
  · refine .inl ?_
    rcases h with z | ⟨ob, z⟩
    · exact .inl (e _ _ z)
    · exact .inr ⟨ob, e _ _ z⟩
  · exact .inr h
/-- the script, as far as the hand takes it -/
theorem edn_script {i k : Nat} {a : Addr} (hB : B.hd = none) (h : Γ[i]? = some (.d (.v (.ref a)))) (hs : SqL K B.H0 a (ns.map V.int)) : EdN B Γ (tSl (xSl K) (tVar i) tNoPart (tPart (tC (.int (k : Nat))))) ((ns.take k).map D.int) := fun as H σ S Q q => by
  obtain ⟨o, as', h1, h2, _, v, e, r⟩ := S.slot i _ h
  subst e
  have ev : v = .ref a := rep_v.mp r
  subst ev
  refine ⟨.ref a, h1, k, rfl, ?_⟩
  have sm : Same B.H0 H := by
    have := S.W.off
    unfold Base.ho at this
    rw [hB] at this
    exact Off.same this
  refine .inl ⟨a, _, rfl, sqL_up hs sm, fun p hp => ?_⟩
  have hM := S.not_new hp
  refine q _ p _ _ rfl hp hM (S.grow (same_upd hp)) (Same.off (same_upd hp)) upd_same ?_
  rw [cut_to, ← List.map_take]
  exact reps_ints.mpr rfl
def handT (K : PySem.W.Frag) : TS :=
    (tSeq (tRet (tLst (tCons (tLc (iAny K (tSl (xSl K) (tVar 0) tNoPart (tPart (tC (.int 63))))) (gName 1) tYes (tCB (xInt) (tCons (tVar 1) tNil)) [1]) (tCons (tC (.int 0)) (tCons (tC (.int 0)) (tCons (tC (.int 20011)) (tCons (tC (.int 48611)) tNil)))))))
    tNext)
def sp_hand (K : PySem.W.Frag) : Sp := fun vs H Q _ => ∃ (a : Addr) (ns : List Int), vs = [.ref a] ∧ SqL K H a (ns.map V.int) ∧ ∀ H' p c, Same H H' → H p = none → p ≠ c → H' p = some (HO5 c 0 0 20011 48611) → H' c = some (.lst ((ns.take 63).map V.int)) → Q (.ref p) H'
theorem sp_hand_len : ∀ vs H Q E, sp_hand K vs H Q E → vs.length = 1 := fun vs H Q E ⟨a, ns, e, _⟩ => by rw [e]; rfl
theorem rd_hand {N : List Str} (hN : N.length = 2) : ∀ vs H Q E, sp_hand K vs H Q E → handT K { nx := fun _ H' => Q .non H', rt := Q } (L2.start N vs) H := fun vs H Q E h => by
  obtain ⟨a, ns, e, hs, q⟩ := h
  subst e
  have W : Wd ⟨[], none, H, []⟩ [] H := ⟨(fun _ z => nomatch z), Off.refl, (fun _ z => nomatch z), (fun _ z => nomatch z), (fun _ z => nomatch z)⟩
  have S := sat0 (B := ⟨[], none, H, []⟩) (N := N) (ds := [.v (.ref a)]) (vs := [.ref a]) (k := 1) (by rw [hN]; rfl) (.cons (rep_v.mpr rfl) .nil) W
  have T : Tr ⟨[], none, H, []⟩ [.d (.v (.ref a)), .no] (handT K) ⟨fun _ => False, fun r => r = .new [.lst ((ns.take 63).map D.int), .int 0, .int 0, .int 20011, .int 48611], fun _ => False, fun _ => False⟩ := by
    refine tr_retN (edn_lst (ead_cons (edn_lcA (pts := ns.take 63) (g := D.int) (f := D.int) (js := [1]) (edt_lst (edn_script (i := 0) (k := 63) rfl rfl hs).ed) (by rw [List.length_take]; exact Nat.lt_of_le_of_lt (Nat.min_le_left _ _) (by decide)) (by simp) fun p hp B' hB => tg_name (ed_int (ev_var rfl))).ed (ead_cons ev_c (ead_cons ev_c (ead_cons ev_c (ead_cons ev_c ea_nil))))) (by simp [sizeLine])) fun ds e => by rw [e]
  refine T _ H _ S _ ⟨fun _ _ _ _ z _ => z.elim, fun r v H' hr F ok => ?_, fun _ _ _ _ z => z.elim, fun _ _ _ _ z => z.elim⟩
  subst hr
  obtain ⟨p, vs, e, hn, hp, rs⟩ := ok
  subst e
  obtain ⟨v1, r1, e1, q1, t1⟩ := reps_cons.mp rs
  obtain ⟨c, us, e2, hc, tc⟩ := rep_lst.mp q1
  obtain ⟨c1, c2⟩ := wo_some.mp hc
  have t1' := reps_ints (ns := [0, 0, 20011, 48611]).mp t1
  subst e1 e2 t1'
  have ec := reps_ints.mp tc
  subst ec
  exact q H' p c (Off.same F.off) hn (fun e => c1 (e ▸ List.mem_cons_self)) hp c2
/-! ### the law itself -/
def sp_law (K : PySem.W.Frag) : Sp := fun vs H Q _ => ∃ (a : Addr) (ns : List Int), vs = [.ref a] ∧ SqL K H a (ns.map V.int) ∧ ns.length ≤ 63 ∧ ∀ H', Q (.bl true) H'
theorem sp_law_len : ∀ vs H Q E, sp_law K vs H Q E → vs.length = 1 := fun vs H Q E ⟨a, ns, e, _⟩ => by rw [e]; rfl
theorem law_run {N : List Str} {n : Nat} {u : TS} (hN : N.length = n + 2) (hu : ∀ (B : Base) (h : Addr × Addr) (a : Addr), B.hd = some h → Tr B (.d (.v (.ref a)) :: .d (.v (.ref h.1)) :: List.replicate n .no) u ⟨fun _ => False, fun r => r = .known (.bl true), fun _ => False, fun _ => False⟩) :
    ∀ vs H Q E, sp_law K vs H Q E → tSeq (tAsg (tCall (sp_hand K) [] E0 (tCons (tVar 0) tNil)) (gName 1)) u { nx := fun _ H' => Q .non H', rt := Q } (L2.start N vs) H := fun vs H Q E h => by
  obtain ⟨a, ns, e, hs, hl, q⟩ := h
  subst e
  refine ⟨.ref a, rfl, a, ns, rfl, hs, fun H' p c sm hn hne hp hc => ?_⟩
  have cM : c ∉ [p] := fun z => hne (List.mem_singleton.mp z).symm
  have W : Wd ⟨[p], some (p, c), H', []⟩ [p] H' := ⟨fun m hm => by rw [List.mem_singleton.mp hm, hp]; exact (fun z => nomatch z), Off.refl, (fun _ z => nomatch z), fun h e => by cases e; exact List.mem_singleton_self _,
    fun h e => by
      cases e
      exact ⟨ns.take 63, 0, 0, 20011, 48611, hp, hc, cM, by rw [List.length_take]; exact Nat.min_le_left _ _, by decide, by decide, by decide +kernel, by decide, by decide, by decide, by decide⟩⟩
  have S := sat0 (B := ⟨[p], some (p, c), H', []⟩) (N := N) (ds := [.v (.ref a), .v (.ref p)]) (vs := [.ref a, .ref p]) (k := n) (by rw [hN]; show n + 2 = 2 + n; omega) (.cons (rep_v.mpr rfl) (.cons (rep_v.mpr rfl) .nil)) W
  have es : (L2.start N [.ref a]).set 1 (some (.ref p)) = L2.start N [.ref a, .ref p] := by
    unfold L2.start
    rw [hN]
    show (some (V.ref a) :: List.replicate (n + 1) none).set 1 (some (.ref p)) = some (V.ref a) :: some (V.ref p) :: List.replicate n none
    rw [List.replicate_succ]
    rfl
  show u _ ((L2.start N [.ref a]).set 1 (some (.ref p))) H'
  rw [es]
  exact hu ⟨[p], some (p, c), H', []⟩ (p, c) a rfl _ H' _ S _ ⟨fun _ _ _ _ z _ => z.elim, fun r v H2 hr F ok => by
    subst hr
    have e := rep_v.mp (show Rep (wo H2 [p]) (.v (.bl true)) v from ok)
    subst e
    exact q H2, fun _ _ _ _ z => z.elim, fun _ _ _ _ z => z.elim⟩
end
end DL

set_option maxHeartbeats 2000000
namespace DL
open PySem PySem.Spec PyProof.Rows L2
/-! ### a def that changes the list of lists that it is given -/
def MSp {α : Type} (rows : α → List (List D)) (pre : α → Prop) (res : α → RV → Prop) : Sp := fun vs H Q _ => ∃ (x : α) (M : List Addr) (p : Addr) (qs : List Addr), vs = [.ref p] ∧ (∀ m ∈ M, H m ≠ none) ∧ (p :: qs).Nodup ∧ (∀ y ∈ p :: qs, y ∉ M) ∧ H p = some (.lst (qs.map V.ref)) ∧ Rws (p :: qs ++ M) H qs (rows x) ∧ pre x ∧
  ∀ r v H', res x r → Same (wo H (p :: qs)) H' → RvOk ⟨M, none, wo H (p :: qs), []⟩ H' r v → Q v H'
theorem MSp.len {α : Type} {rows : α → List (List D)} {pre : α → Prop} {res : α → RV → Prop} : ∀ vs H Q E, MSp rows pre res vs H Q E → vs.length = 1 := fun vs H Q E ⟨x, M, p, qs, e, _⟩ => by rw [e]; rfl
theorem rws_all {M : List Addr} {H : Hp} {qs : List Addr} {rows : List (List D)} (h : Rws M H qs rows) : ∀ q ∈ qs, H q ≠ none := by
  induction h with
  | nil => exact fun _ z => nomatch z
  | cons r t ih =>
    obtain ⟨vs, h1, _⟩ := r
    intro q hq
    rcases List.mem_cons.mp hq with z | z
    · rw [z, h1]; exact (fun z => nomatch z)
    · exact ih q z
theorem body_M {α : Type} {rows : α → List (List D)} {pre : α → Prop} {res : α → RV → Prop} {N : List Str} {t : TS} {n : Nat} (hN : N.length = n + 1)
    (hb : ∀ (x : α) (B : Base), pre x → B.hd = none → Tr B (.mat (rows x) :: List.replicate n .no) t ⟨fun _ => res x (.known .non), res x, fun _ => False, fun _ => False⟩)
    {vs : List V} {H : Hp} {Q : VK} {E : XK} (h : MSp rows pre res vs H Q E) : t { nx := fun _ H' => Q .non H', rt := Q } (L2.start N vs) H := by
  obtain ⟨x, M, p, qs, e, hM, hn, hd, hp, hr, hpre, q⟩ := h
  subst e
  have eM : MM ⟨M, none, wo H (p :: qs), []⟩ ((p :: qs) :: List.replicate n []) = p :: qs ++ M := by
    show ((p :: qs) :: List.replicate n ([] : List Addr)).flatten ++ M = _
    rw [List.flatten_cons, flat_nil, List.append_nil]
  have eF : ((p :: qs) :: List.replicate n ([] : List Addr)).flatten = p :: qs := by rw [List.flatten_cons, flat_nil, List.append_nil]
  have all := rws_all hr
  have S : Sat ⟨M, none, wo H (p :: qs), []⟩ ((p :: qs) :: List.replicate n []) H (L2.start N [.ref p]) (.mat (rows x) :: List.replicate n .no) := by
    refine ⟨?_, ?_, fun i s hs => ?_, by rw [eF]; exact hn, fun y hy => ?_, ?_⟩
    · unfold L2.start
      rw [hN]
      simp
    · rw [List.length_cons, List.length_cons, List.length_replicate, List.length_replicate]
    · rw [eM]
      unfold L2.start
      rw [hN]
      show ∃ o a, ((some (V.ref p)) :: List.replicate (n + 1 - 1) none)[i]? = some o ∧ _
      cases i with
      | zero =>
        simp at hs
        subst hs
        exact ⟨_, _, rfl, rfl, p, qs, rfl, rfl, hp, hr⟩
      | succ i =>
        simp at hs
        obtain ⟨e, hi⟩ := get_nos (s := s) (n := n) (i := i) (by simpa [List.getElem?_replicate] using hs)
        subst e
        refine ⟨none, [], ?_, ?_, rfl⟩
        · rw [List.getElem?_cons_succ, List.getElem?_replicate, if_pos (by omega)]
        · rw [List.getElem?_cons_succ, List.getElem?_replicate, if_pos hi]
    · rw [eF] at hy
      refine ⟨?_, hd y hy⟩
      show wo H (p :: qs) y = none
      unfold wo
      rw [if_pos hy]
    · rw [eM]
      refine ⟨fun m hm => ?_, Same.off wo_same, (fun _ z => nomatch z), (fun _ z => nomatch z), (fun _ z => nomatch z)⟩
      rcases List.mem_append.mp hm with z | z
      · rcases List.mem_cons.mp z with y | y
        · rw [y, hp]; exact (fun z => nomatch z)
        · exact all m y
      · exact hM m z
  refine hb x ⟨M, none, wo H (p :: qs), []⟩ hpre rfl _ H _ S _ ⟨fun as H' σ Γ r S => ?_, fun r v H' hr' F ok => q r v H' hr' (Off.same F.off) ok, fun _ _ _ _ z => z.elim, fun _ _ _ _ z => z.elim⟩
  exact q (.known .non) .non H' r (Off.same S.W.off) (rep_non (wo H' M))
section
variable {K : PySem.W.Frag} {B : Base} {Γ : List Slot} {u : TS} {E : Post} {i j : Nat} {ds : List D} {α : Type} {rows : α → List (List D)} {pre : α → Prop} {res : α → RV → Prop} {EE : XK} {x : α} {as : List (List Addr)} {H H' : Hp} {σ : L2.St} {p : Addr} {qs : List Addr}
theorem Sat.apart (S : Sat B as H σ Γ) (hi : as[i]? = some (p :: qs)) : ∀ x ∈ p :: qs, x ∉ MM B (as.set i []) := fun x hx hb => by
  rcases List.mem_append.mp hb with z | z
  · obtain ⟨l, q1, q2⟩ := List.mem_flatten.mp z
    obtain ⟨j, hj⟩ := List.getElem?_of_mem q1
    rw [List.getElem?_set] at hj
    split at hj
    · split at hj
      · cases hj; cases q2
      · cases hj
    · rename_i hne
      exact hne (nd_apart S.nd hi hj hx q2)
  · exact S.nM (mem_flat hi hx) z
theorem Sat.subM : ∀ b, b ∈ MM B (as.set i []) → b ∈ MM B as := fun b hb => by
  rcases List.mem_append.mp hb with z | z
  · rcases flat_set z with q | q
    · cases q
    · exact List.mem_append_left _ q
  · exact List.mem_append_right _ z
theorem run_M {Q : VK} (S : Sat B as H σ Γ) (h : Γ[i]? = some (.mat (rows x))) (hp : pre x)
    (q : ∀ r v H' p qs, as[i]? = some (p :: qs) → res x r → Same (wo H (p :: qs)) H' → Sat B (as.set i []) H' σ (Γ.set i .no) → RvOk ⟨MM B (as.set i []), none, wo H (p :: qs), []⟩ H' r v → Q v H') : tCall (MSp rows pre res) [] EE (tCons (tVar i) tNil) σ H Q := by
  obtain ⟨p, qs, h1, h2, h3, h4, h5, h6⟩ := S.mat h
  refine ⟨.ref p, h1, x, MM B (as.set i []), p, qs, rfl, fun m hm => S.W.inM m (Sat.subM m hm), h5, S.apart h2, h3, Rws.up h4 (fun _ _ _ z => z) (wo_sub fun b hb => ?_), hp, fun r v H' hr sm ok => q r v H' p qs h2 hr sm (S.spend h2 sm) ok⟩
  rcases List.mem_append.mp hb with z | z
  · exact List.mem_append_left _ (h6 b z)
  · exact Sat.subM b z
/-- return f(m) -/
theorem tr_retM (h : Γ[i]? = some (.mat (rows x))) (hp : pre x) (k : ∀ r, res x r → E.rt r) : Tr B Γ (tSeq (tRet (tCall (MSp rows pre res) [] EE (tCons (tVar i) tNil))) u) E := fun as H σ S Dn m => by
  refine run_M S h hp fun r v H' p qs hi hr sm S2 ok => m.rt r v H' (k r hr) S2.fin ?_
  have sub : ∀ b, b ∈ B.M → b ∈ MM B (as.set i []) := fun b hb => List.mem_append_right _ hb
  cases r with
  | known d => exact Rep.up (show Rep (wo H' (MM B (as.set i []))) d v from ok) (wo_sub sub)
  | new ds =>
    obtain ⟨p', vs, e, hn, hp', rs⟩ := ok
    refine ⟨p', vs, e, ?_, hp', rs.up (wo_sub fun b hb => (List.mem_cons.mp hb).elim (fun z => by rw [z]; exact List.mem_cons_self) fun z => List.mem_cons_of_mem _ (sub b z))⟩
    have hn : wo H (p :: qs) p' = none := hn
    by_cases q : p' ∈ p :: qs
    · exact (S.fresh p' (mem_flat hi q)).1
    · unfold wo at hn
      rw [if_neg q] at hn
      exact S.new0 hn
/-- own.append(f(m)) -/
theorem tr_appM {P : D → Prop} (h : Γ[i]? = some (.mat (rows x))) (hj : Γ[j]? = some (.own ds)) (hz : ds.length < sizeLine) (hp : pre x) (hr : ∀ r, res x r → ∃ d, r = .known d ∧ P d) (k : ∀ d, P d → Tr B ((Γ.set i .no).set j (.own (ds ++ [d]))) u E) :
    Tr B Γ (tSeq (tDrop (tBM K "list" rAppend (tVar j) (tCons (tCall (MSp rows pre res) [] EE (tCons (tVar i) tNil)) tNil))) u) E := fun as H σ S Dn m => by
  have hij : i ≠ j := fun e => by subst e; rw [h] at hj; cases hj
  obtain ⟨o, vs, h1, h2, h3, h4, h5⟩ := S.own hj
  refine ⟨.ref o, h1, .inl ⟨rfl, vs, SqL.of h4⟩, ?_⟩
  refine run_M S h hp fun r v H' p qs hi hrr sm S2 ok => ?_
  obtain ⟨d, e, pd⟩ := hr r hrr
  subst e
  have hj2 : (Γ.set i .no)[j]? = some (.own ds) := by rw [List.getElem?_set_ne hij]; exact hj
  obtain ⟨o', us, g1, g2, g3, g4, g5⟩ := S2.own hj2
  have eo : o' = o := by rw [g1] at h1; cases h1; rfl
  subst eo
  refine ⟨o', us, v, rfl, rfl, g4, by rw [← g5.len]; exact hz, ?_⟩
  exact k d pd _ _ σ (S2.ownUpd hj2 g2 g1 (g5.snoc (show Rep (wo H' (MM B (as.set i []))) d v from ok))) Dn m
end
end DL

set_option maxHeartbeats 2000000
namespace K52
open PySem PySem.Spec PyProof.Rows L2 DL

/-! ### tables -/
abbrev rT (n : Nat) (g : Nat → Int) : D := .tup ((List.range n).map fun v => .int (g v))
abbrev rL (n : Nat) (g : Nat → Int) : D := .lst ((List.range n).map fun v => .int (g v))
abbrev tT (n : Nat) (f : Nat → Nat → Int) : D := .tup ((List.range n).map fun u => rT n (f u))
abbrev tL (n : Nat) (f : Nat → Nat → Int) : D := .lst ((List.range n).map fun u => rL n (f u))
abbrev tM (n : Nat) (f : Nat → Nat → Int) : List (List D) := (List.range n).map fun u => (List.range n).map fun v => .int (f u v)
theorem tM_lst {n : Nat} {f : Nat → Nat → Int} : D.lst ((tM n f).map D.lst) = tL n f := by
  show D.lst (((List.range n).map _).map _) = _
  rw [List.map_map]
  rfl
abbrev sz (n : Nat) : Prop := n < 1000

def oD (n : Nat) : Option (Nat → Nat → Int) → D
  | none => .non
  | some g => tT n g

section
variable {K : PySem.W.Frag}
/-! ### lesser -/
abbrev sp_lesser : Sp := FSp (α := Int × Int × Int) (fun x => [.int x.1, .int x.2.1, .int x.2.2]) (fun _ => True) (fun x r => r = .known (.int (min x.1 (x.2.1 + x.2.2))))
theorem rd_lesser : ∀ vs H Q E, sp_lesser vs H Q E → t_lesser K { nx := fun _ H' => Q .non H', rt := Q } (L2.start N_lesser vs) H := fun vs H Q E h => by
  refine body_F (n := 3) (fun _ => rfl) (by decide) (fun x B _ _ => ?_) h
  obtain ⟨b, l, r⟩ := x
  refine tr_pass (ep_or (ep_non (ev_var rfl)) fun _ => ep_non (ev_var rfl)) (by simp) ?_
  refine tr_pass (ep_non (ev_var rfl)) (by simp) ?_
  exact tr_ret (ed_min2 (ev_var rfl) (ed_add (ev_var rfl) (ev_var rfl))) fun d e => by rw [e]
/-! ### led_through -/
abbrev sp_led_through : Sp := FSp (α := Nat × (Nat → Nat → Int) × Nat) (fun x => [tL x.1 x.2.1, .int (x.2.2 : Nat)]) (fun x => sz x.1 ∧ x.2.2 < x.1) (fun x r => r = .new ((List.range x.1).map fun u => rL x.1 (stp x.2.2 x.2.1 u)))
theorem rd_led_through : ∀ vs H Q E, sp_led_through vs H Q E → t_led_through K sp_lesser { nx := fun _ H' => Q .non H', rt := Q } (L2.start N_led_through vs) H := fun vs H Q E h => by
  refine body_F (n := 2) (fun _ => rfl) (by decide) (fun x B hp _ => ?_) h
  obtain ⟨n, f, m⟩ := x
  obtain ⟨hn, hm⟩ := hp
  refine tr_set (ed_ixLR (ev_var rfl) (ev_var rfl) hm) ?_
  refine tr_retN (edn_lcR (js := [5]) (edt_lst (ev_var rfl)) (Nat.lt_trans hn (by decide)) (by simp) fun u hu B' hB => tg_name ?_) fun ds e => by rw [e]
  refine (edn_lcR (js := [3, 4]) (edt_zipLR (g := fun v => .int (f u v)) (h := fun v => .int (f m v)) (ev_var rfl) (ev_var rfl)) (Nat.lt_trans hn (by decide)) (by simp) fun v hv B2 hB2 => tg_tup rfl (tgs_cons (tg_name (tgs_cons (tg_name (tgs_nil ?_)))))).ed
  exact ev_f (ead_cons (ev_var rfl) (ead_cons (ed_ixLR (ev_var rfl) (ev_var rfl) hm) (ead_cons (ev_var rfl) ea_nil))) fun ds e => ⟨(f u v, f u m, f m v), e, trivial, fun r e => by rw [e]; rfl⟩

/-! ### closure -/
def dgk (k : Nat) (f : Nat → Nat → Int) : Nat → Nat → Int := fun u v => if u = v ∧ u < k ∧ 0 < f u u then 0 else f u v
theorem dgk_0 {f : Nat → Nat → Int} : dgk 0 f = f := by
  funext u v
  unfold dgk
  rw [if_neg (by omega)]
theorem dgk_keep {f : Nat → Nat → Int} {u : Nat} (h : ¬ 0 < f u u) : dgk (u + 1) f = dgk u f := by
  funext a b
  unfold dgk
  by_cases e : a = b ∧ a < u ∧ 0 < f a a
  · rw [if_pos e, if_pos ⟨e.1, by omega, e.2.2⟩]
  · rw [if_neg e]
    by_cases e2 : a = b ∧ a < u + 1 ∧ 0 < f a a
    · have : a = u := by
        by_cases h2 : a < u
        · exact absurd ⟨e2.1, h2, e2.2.2⟩ e
        · omega
      subst this
      exact absurd e2.2.2 h
    · rw [if_neg e2]
theorem dgk_set {f : Nat → Nat → Int} {u : Nat} (h : 0 < f u u) : updD (fun a b => .int (dgk u f a b)) u u (.int 0) = fun a b => .int (dgk (u + 1) f a b) := by
  funext a b
  unfold updD dgk
  by_cases e : a = u ∧ b = u
  · obtain ⟨e1, e2⟩ := e
    subst e1 e2
    rw [if_pos ⟨rfl, rfl⟩, if_pos ⟨rfl, by omega, h⟩]
  · rw [if_neg e]
    dsimp only
    by_cases e2 : a = b ∧ a < u ∧ 0 < f a a
    · rw [if_pos e2, if_pos ⟨e2.1, by omega, e2.2.2⟩]
    · rw [if_neg e2, if_neg]
      intro e3
      by_cases h2 : a < u
      · exact e2 ⟨e3.1, h2, e3.2.2⟩
      · exact e ⟨by omega, by omega⟩
theorem dgk_at {f : Nat → Nat → Int} {u : Nat} : dgk u f u u = f u u := by
  unfold dgk
  rw [if_neg (by omega)]
theorem dgk_n {f : Nat → Nat → Int} {n u v : Nat} (h : u < n) : dgk n f u v = dg f u v := by
  unfold dgk dg
  by_cases e : u = v ∧ 0 < f u u
  · rw [if_pos e, if_pos ⟨e.1, h, e.2⟩]
  · rw [if_neg e, if_neg (fun z => e ⟨z.1, z.2.2⟩)]
abbrev sp_closure : Sp := FSp (α := Nat × (Nat → Nat → Int)) (fun x => [tL x.1 x.2]) (fun x => sz x.1) (fun x r => ∃ o, r = .known (oD x.1 o) ∧ Clo x.1 x.2 o)
theorem rd_closure : ∀ vs H Q E, sp_closure vs H Q E → t_closure K sp_led_through { nx := fun _ H' => Q .non H', rt := Q } (L2.start N_closure vs) H := fun vs H Q E h => by
  refine body_F (n := 1) (fun _ => rfl) (by decide) (fun x B hn _ => ?_) h
  obtain ⟨n, f⟩ := x
  have hn : sz n := hn
  have n1 : n < sizeLine := Nat.lt_trans hn (by decide)
  have n2 : n < 2 ^ 62 := Nat.lt_trans hn (by decide)
  refine tr_mat (rows := tD n (fun u v => .int (f u v))) (evm_lc (g := fun u => rL n (f u)) (js := [2]) (edt_lst (ev_var rfl)) n1 (by simp) fun u hu B' hB => tg_name (edn_list (ev_var rfl))) ?_
  refine tr_forR (n := n) (g := fun u => .int (u : Nat)) (js := [3]) (edt_rngN (ed_roT (i := 1) (n := n) (F := fun u v => .int (f u v)) rfl (ed_lenR (ev_var rfl))) n2)
    (fun u Γ' => ∃ s, Γ' = [.d (tL n f), .mat (tD n (fun a b => .int (dgk u f a b))), .no, s, .no]) ⟨_, by rw [dgk_0]; rfl⟩ ?_ ?_
  · rintro u _ gg hu ⟨s, rfl⟩
    refine tg_name ?_
    have ix : ∀ (B : Base) (Γ : List Slot), Γ[1]? = some (.d (.lst ((List.range n).map fun a => .lst ((List.range n).map fun b => .int (dgk u f a b))))) → Γ[3]? = some (.d (.int (u : Nat))) → Ed B Γ (tOp (rIx K) (tOp (rIx K) (tVar 1) (tVar 3)) (tVar 3)) (.int (f u u)) := fun B Γ h1 h2 =>
      (ed_ixLR (g := fun b => .int (dgk u f u b)) (ed_ixLR (ev_var h1) (ev_var h2) hu) (ev_var h2) hu).eq (by rw [dgk_at])
    refine tr_ifP (c := 0 < f u u) (eb_roT (i := 1) (n := n) (F := fun a b => .int (dgk u f a b)) rfl ((ep_or (ep_non (ix _ _ rfl rfl)) fun _ => ep_gt (ix _ _ rfl rfl) ev_c).eq (by simp))) (fun h => ?_) (fun h => ?_)
    · refine tr_tabSet (i := 1) (n := n) (F := fun a b => .int (dgk u f a b)) (u := u) (v := u) rfl ev_c (ev_var rfl) (ev_var rfl) hu hu fun d ed => ?_
      subst ed
      refine tr_next (tr_next ⟨.d (.int (u : Nat)), ?_⟩)
      rw [dgk_set h]
      rfl
    · exact tr_next (tr_next ⟨.d (.int (u : Nat)), by rw [dgk_keep h]; rfl⟩)
  rintro _ ⟨s, rfl⟩
  refine tr_tabFreeze (i := 1) (n := n) (F := fun a b => .int (dgk n f a b)) rfl ?_
  have e0 : (List.range n).map (fun u => D.lst ((List.range n).map fun v => D.int (dgk n f u v))) = (List.range n).map (fun u => rL n (fw (dg f) 0 u)) := by
    refine List.map_congr_left fun u hu => congrArg D.lst (List.map_congr_left fun v _ => ?_)
    rw [dgk_n (List.mem_range.mp hu)]
    rfl
  rw [e0]
  refine tr_forR (n := n) (g := fun u => .int (u : Nat)) (js := [4]) (edt_rngN (ed_lenR (g := fun u => rL n (fw (dg f) 0 u)) (ev_var rfl)) n2)
    (fun k Γ' => ∃ s s', Γ' = [.d (tL n f), .d (tL n (fw (dg f) k)), .no, s, s']) ⟨_, _, rfl⟩ ?_ ?_
  · rintro k _ gg hk ⟨s, s', rfl⟩
    refine tg_name (tr_set (d := tL n (fw (dg f) (k + 1))) (ev_f (ea_2 (ev_var rfl) (ev_var rfl)) fun ds e => ⟨(n, fw (dg f) k, k), e, ⟨hn, hk⟩, fun r e => by rw [e]; rfl⟩) (tr_next ⟨_, _, rfl⟩))
  rintro _ ⟨s, s', rfl⟩
  generalize hG : fw (dg f) n = G
  refine tr_forR (n := n) (g := fun u => .int (u : Nat)) (js := [3]) (edt_rngN (ed_lenR (g := fun u => rL n (G u)) (ev_var rfl)) n2)
    (fun k Γ' => (∀ u, u < k → 0 ≤ G u u) ∧ ∃ s s', Γ' = [.d (tL n f), .d (tL n G), .no, s, s']) ⟨fun u h => absurd h (Nat.not_lt_zero u), _, _, rfl⟩ ?_ ?_
  · rintro k _ gg hk ⟨hG0, s, s', rfl⟩
    refine tg_name (tr_ifP (ep_lt (ed_ixLR (g := fun v => .int (G k v)) (ed_ixLR (g := fun u => rL n (G u)) (ev_var rfl) (ev_var rfl) hk) (ev_var rfl) hk) ev_c) (fun h => ?_) fun h => ?_)
    · refine tr_ret ev_c fun d e => ⟨none, by rw [e]; rfl, k, hk, ?_⟩
      show fw (dg f) n k k < 0
      rw [hG]
      exact h
    · refine tr_next (tr_next ⟨fun u hu => ?_, _, _, rfl⟩)
      by_cases e : u = k
      · rw [e]; omega
      · exact hG0 u (by omega)
  rintro _ ⟨hG0, s, s', rfl⟩
  refine tr_ret (ed_tuple (edn_lcR (f := fun u => rT n (G u)) (js := [2]) (edt_lst (ds := (List.range n).map fun u => rL n (G u)) (ev_var rfl)) n1 (by simp) fun u hu B' hB => tg_name (ed_tuple (ev_var rfl))).ed) fun d e => ⟨some G, by rw [e]; rfl, hG.symm, hG0⟩
end
end K52

set_option maxHeartbeats 2000000
namespace K52
open PySem PySem.Spec PyProof.Rows L2 DL
section
variable {K : PySem.W.Frag}
theorem szs {n : Nat} (h : sz n) : n < sizeLine := Nat.lt_trans h (by decide)
theorem szr {n : Nat} (h : sz n) : n < 2 ^ 62 := Nat.lt_trans h (by decide)
/-! ### holds -/
abbrev pV (b : Bool) (n : Nat) (p : Nat → Int) : D := if b then .tup ((List.range n).map fun k => .int (p (k + 1))) else .lst ((List.range n).map fun k => .int (p (k + 1)))
abbrev sp_holds : Sp := FSp (α := Nat × (Nat → Nat → Int) × (Nat → Int) × Bool) (fun x => [tT (x.1 + 1) x.2.1, pV x.2.2.2 x.1 x.2.2.1]) (fun x => sz (x.1 + 1) ∧ x.2.2.1 0 = 0) (fun x r => ∃ b, r = .known (.bl b) ∧ (b = true ↔ Kept (x.1 + 1) x.2.1 x.2.2.1))
theorem rd_holds : ∀ vs H Q E, sp_holds vs H Q E → t_holds K { nx := fun _ H' => Q .non H', rt := Q } (L2.start N_holds vs) H := fun vs H Q E h => by
  refine body_F (n := 2) (fun _ => rfl) (by decide) (fun x B hp _ => ?_) h
  obtain ⟨n, f, p, t⟩ := x
  obtain ⟨hn, hp0⟩ := hp
  have hn : sz (n + 1) := hn
  have hp0 : p 0 = 0 := hp0
  have hl : ∀ Γ, Γ[1]? = some (.d (pV t n p)) → EdN B Γ (tCB (xList K) (tCons (tVar 1) tNil)) ((List.range n).map fun k => .int (p (k + 1))) := fun Γ h => by
    cases t with
    | true => exact edn_listT (ev_var h)
    | false => exact edn_list (ev_var h)
  have e0 : [D.int 0] ++ (List.range n).map (fun k => D.int (p (k + 1))) = (List.range (n + 1)).map fun u => D.int (p u) := by
    rw [← cons1 (g := fun u => D.int (p u)), hp0]
    rfl
  refine tr_new (edn_catL (edn_lst (ea_1 ev_c) (by decide)).ed (hl _ rfl).ed (by rw [rm_len]; have := szs hn; show 1 + n ≤ _; omega)) ?_
  rw [e0]
  refine tr_freeze (i := 2) rfl ?_
  refine tr_forR (n := n + 1) (g := fun u => .tup [.int (u : Nat), rT (n + 1) (f u)]) (js := [3, 4]) (edt_enumT (g := fun u => rT (n + 1) (f u)) (ev_var rfl))
    (fun k Γ' => (∀ u v, u < k → v < n + 1 → p u - p v ≤ f u v) ∧ ∃ a b c d, Γ' = [.d (tT (n + 1) f), .d (pV t n p), .d (.lst ((List.range (n + 1)).map fun u => D.int (p u))), a, b, c, d]) ⟨fun u v h => absurd h (Nat.not_lt_zero u), _, _, _, _, rfl⟩ ?_ ?_
  · rintro u _ gg hu ⟨hk, a, b, c, d, rfl⟩
    refine tg_tup rfl (tgs_cons (tg_name (tgs_cons (tg_name (tgs_nil ?_)))))
    refine tr_forR (n := n + 1) (g := fun v => .tup [.int (v : Nat), .int (f u v)]) (js := [5, 6]) (edt_enumT (g := fun v => .int (f u v)) (ev_var rfl))
      (fun k Γ' => (∀ v, v < k → p u - p v ≤ f u v) ∧ ∃ c d, Γ' = [.d (tT (n + 1) f), .d (pV t n p), .d (.lst ((List.range (n + 1)).map fun u => D.int (p u))), .d (.int (u : Nat)), .d (rT (n + 1) (f u)), c, d]) ⟨fun v h => absurd h (Nat.not_lt_zero v), _, _, rfl⟩ ?_ ?_
    · rintro v _ gg2 hv ⟨hk2, c, d, rfl⟩
      refine tg_tup rfl (tgs_cons (tg_name (tgs_cons (tg_name (tgs_nil ?_)))))
      refine tr_ifP (ep_gt (ed_sub (ed_ixLR (g := fun u => D.int (p u)) (ev_var rfl) (ev_var rfl) hu) (ed_ixLR (g := fun u => D.int (p u)) (ev_var rfl) (ev_var rfl) hv)) (ev_var rfl)) (fun h => ?_) fun h => ?_
      · refine tr_ret ev_c fun d e => ⟨false, by rw [e], fun z => (nomatch z), fun z => ?_⟩
        have : p u - p v ≤ f u v := z u v hu hv
        exfalso
        exact absurd this (by omega)
      · refine tr_next (tr_next ⟨fun w hw => ?_, _, _, rfl⟩)
        by_cases e : w = v
        · rw [e]; omega
        · exact hk2 w (by omega)
    rintro _ ⟨hk2, c, d, rfl⟩
    refine tr_next ⟨fun w v hw hv => ?_, _, _, _, _, rfl⟩
    by_cases e : w = u
    · rw [e]; exact hk2 v hv
    · exact hk w v (by omega) hv
  rintro _ ⟨hk, a, b, c, d, rfl⟩
  exact tr_ret ev_c fun d e => ⟨true, by rw [e], fun _ => hk, fun _ => rfl⟩
/-! ### met, joined, lies_within -/
abbrev tabs (x : Nat × (Nat → Nat → Int) × (Nat → Nat → Int)) : List D := [tT x.1 x.2.1, tT x.1 x.2.2]
abbrev sp_met : Sp := FSp (α := Nat × (Nat → Nat → Int) × (Nat → Nat → Int)) tabs (fun x => sz x.1) (fun x r => ∃ o, r = .known (oD x.1 o) ∧ Clo x.1 (mn x.2.1 x.2.2) o)
theorem rd_met : ∀ vs H Q E, sp_met vs H Q E → t_met K sp_closure { nx := fun _ H' => Q .non H', rt := Q } (L2.start N_met vs) H := fun vs H Q E h => by
  refine body_F (n := 2) (fun _ => rfl) (by decide) (fun x B hn _ => ?_) h
  obtain ⟨n, f, g⟩ := x
  have hn : sz n := hn
  refine tr_ret (P := fun d => ∃ o, d = oD n o ∧ Clo n (mn f g) o) (ev_f (ea_1 (edn_lcR (f := fun u => rL n (mn f g u)) (js := [4, 5]) (edt_zipTR (g := fun u => rT n (f u)) (h := fun u => rT n (g u)) (ev_var rfl) (ev_var rfl)) (szs hn) (by simp) fun u hu B' hB => tg_tup rfl (tgs_cons (tg_name (tgs_cons (tg_name (tgs_nil ?_)))))).ed)
    fun ds e => ⟨(n, mn f g), e, hn, fun r ⟨o, e, c⟩ => ⟨o, by rw [e]; rfl, c⟩⟩) fun d ⟨o, e, c⟩ => ⟨o, by rw [e], c⟩
  exact (edn_lcR (f := fun v => .int (mn f g u v)) (js := [2, 3]) (edt_zipTR (g := fun v => .int (f u v)) (h := fun v => .int (g u v)) (ev_var rfl) (ev_var rfl)) (szs hn) (by simp) fun v hv B2 hB2 => tg_tup rfl (tgs_cons (tg_name (tgs_cons (tg_name (tgs_nil (ed_min2 (ev_var rfl) (ev_var rfl)))))))).ed
abbrev sp_joined : Sp := FSp (α := Nat × (Nat → Nat → Int) × (Nat → Nat → Int)) tabs (fun x => sz x.1) (fun x r => r = .known (tT x.1 (mx x.2.1 x.2.2)))
theorem rd_joined : ∀ vs H Q E, sp_joined vs H Q E → t_joined K { nx := fun _ H' => Q .non H', rt := Q } (L2.start N_joined vs) H := fun vs H Q E h => by
  refine body_F (n := 2) (fun _ => rfl) (by decide) (fun x B hn _ => ?_) h
  obtain ⟨n, f, g⟩ := x
  have hn : sz n := hn
  refine tr_set (d := tL n (mx f g)) (edn_lcR (f := fun u => rL n (mx f g u)) (js := [5, 6]) (edt_zipTR (g := fun u => rT n (f u)) (h := fun u => rT n (g u)) (ev_var rfl) (ev_var rfl)) (szs hn) (by simp) fun u hu B' hB => tg_tup rfl (tgs_cons (tg_name (tgs_cons (tg_name (tgs_nil ?_)))))).ed ?_
  · exact (edn_lcR (f := fun v => .int (mx f g u v)) (js := [3, 4]) (edt_zipTR (g := fun v => .int (f u v)) (h := fun v => .int (g u v)) (ev_var rfl) (ev_var rfl)) (szs hn) (by simp) fun v hv B2 hB2 => tg_tup rfl (tgs_cons (tg_name (tgs_cons (tg_name (tgs_nil (ed_max2 (ev_var rfl) (ev_var rfl)))))))).ed
  exact tr_ret (ed_tuple (edn_lcR (f := fun u => rT n (mx f g u)) (js := [5]) (edt_lst (ds := (List.range n).map fun u => rL n (mx f g u)) (ev_var rfl)) (szs hn) (by simp) fun u hu B' hB => tg_name (ed_tuple (ev_var rfl))).ed) fun d e => by rw [e]
abbrev sp_lies_within : Sp := FSp (α := Nat × (Nat → Nat → Int) × (Nat → Nat → Int)) tabs (fun x => sz x.1) (fun x r => ∃ b, r = .known (.bl b) ∧ (b = true ↔ Leq x.1 x.2.1 x.2.2))
theorem rd_lies_within : ∀ vs H Q E, sp_lies_within vs H Q E → t_lies_within K { nx := fun _ H' => Q .non H', rt := Q } (L2.start N_lies_within vs) H := fun vs H Q E h => by
  refine body_F (n := 2) (fun _ => rfl) (by decide) (fun x B hn _ => ?_) h
  obtain ⟨n, f, g⟩ := x
  have hn : sz n := hn
  refine tr_ret (ed_all (bs := ((List.range n).map fun u => (List.range n).map fun v => decide (f u v ≤ g u v)).flatten) ((evn_lc2 (n := n) (N := n) (es := fun u => (List.range n).map fun v => .tup [.int (f u v), .int (g u v)]) (c := fun _ _ => true) (f := fun u v => .bl (decide (f u v ≤ g u v))) (js := [2, 3]) (js1 := [4, 5])
    (edt_zipTR (g := fun u => rT n (f u)) (h := fun u => rT n (g u)) (ev_var rfl) (ev_var rfl)) (Nat.lt_of_le_of_lt (Nat.mul_le_mul (Nat.le_of_lt hn) (Nat.le_of_lt hn)) (by decide)) (by simp) (by simp) fun u hu => ⟨by rw [rm_len]; exact Nat.le_refl _, fun B' hB => tg_tup rfl (tgs_cons (tg_name (tgs_cons (tg_name (tgs_nil ⟨edt_zipTR (g := fun v => .int (f u v)) (h := fun v => .int (g u v)) (ev_var rfl) (ev_var rfl), fun v d hd B2 hB2 => ?T⟩)))))⟩).ed.eq ?E)) fun d e => ⟨_, congrArg RV.known e, ?R⟩
  case T =>
    obtain ⟨hv, e⟩ := enum_get hd
    subst e
    exact tg_tup rfl (tgs_cons (tg_name (tgs_cons (tg_name (tgs_nil ⟨fun as H σ S Q q => q true H rfl S Off.refl, fun _ => ed_le (ev_var rfl) (ev_var rfl)⟩)))))
  case E =>
    congr 1
    rw [List.map_flatten, List.map_map]
    congr 1
    refine List.map_congr_left fun u _ => ?_
    rw [rm_len, DL.filter_all]
    show _ = List.map D.bl (List.map _ _)
    rw [List.map_map]
    rfl
  case R =>
    rw [List.all_flatten, List.all_map, List.all_eq_true]
    constructor
    · intro z u v hu hv
      have := z u (List.mem_range.mpr hu)
      simp at this
      exact this v hv
    · intro z u hu
      simp only [Function.comp, List.all_map, List.all_eq_true, List.mem_range, id]
      intro v hv
      exact decide_eq_true (z u v (List.mem_range.mp hu) hv)
/-! ### least_of, greatest_of, spans -/
abbrev sp_least_of : Sp := FSp (α := Nat × (Nat → Nat → Int)) (fun x => [tT (x.1 + 1) x.2]) (fun x => sz (x.1 + 1)) (fun x r => r = .known (.tup ((List.range x.1).map fun k => .int (-(x.2 0 (k + 1))))))
theorem rd_least_of : ∀ vs H Q E, sp_least_of vs H Q E → t_least_of K { nx := fun _ H' => Q .non H', rt := Q } (L2.start N_least_of vs) H := fun vs H Q E h => by
  refine body_F (n := 1) (fun _ => rfl) (by decide) (fun x B hn _ => ?_) h
  obtain ⟨n, f⟩ := x
  have hn : sz (n + 1) := hn
  refine tr_ret (ed_tuple (edn_lcR (f := fun k => .int (-(f 0 (k + 1)))) (g := fun k => .int (f 0 (k + 1))) (n := n) (js := [1]) (edt_tup ((ed_slFrom (k := 1) (ed_ixTR (k := 0) (g := fun u => rT (n + 1) (f u)) (ev_var rfl) ev_c (Nat.succ_pos n)) ev_c).eq (by rw [drop1]))) (Nat.lt_trans (Nat.lt_succ_self n) (szs hn)) (by simp) fun u hu B' hB => tg_name (ed_neg (ev_var rfl))).ed) fun d e => by rw [e]
abbrev sp_greatest_of : Sp := FSp (α := Nat × (Nat → Nat → Int)) (fun x => [tT (x.1 + 1) x.2]) (fun x => sz (x.1 + 1)) (fun x r => r = .known (.tup ((List.range x.1).map fun k => .int (x.2 (k + 1) 0))))
theorem rd_greatest_of : ∀ vs H Q E, sp_greatest_of vs H Q E → t_greatest_of K { nx := fun _ H' => Q .non H', rt := Q } (L2.start N_greatest_of vs) H := fun vs H Q E h => by
  refine body_F (n := 1) (fun _ => rfl) (by decide) (fun x B hn _ => ?_) h
  obtain ⟨n, f⟩ := x
  have hn : sz (n + 1) := hn
  refine tr_ret (ed_tuple (edn_lcR (f := fun k => .int (f (k + 1) 0)) (g := fun k => rT (n + 1) (f (k + 1))) (n := n) (js := [1]) (edt_tup ((ed_slFrom (k := 1) (ds := (List.range (n + 1)).map fun u => rT (n + 1) (f u)) (ev_var rfl) ev_c).eq (by rw [drop1]))) (Nat.lt_trans (Nat.lt_succ_self n) (szs hn)) (by simp) fun u hu B' hB => tg_name (ed_ixTR (k := 0) (g := fun v => .int (f (u + 1) v)) (ev_var rfl) ev_c (Nat.succ_pos n))).ed) fun d e => by rw [e]
abbrev sp_spans : Sp := FSp (α := Nat × (Nat → Nat → Int)) (fun x => [tT (x.1 + 1) x.2]) (fun x => sz (x.1 + 1)) (fun x r => r = .new ((List.range x.1).map fun k => .tup [.int (-(x.2 0 (k + 1))), .int (x.2 (k + 1) 0)]))
theorem rd_spans : ∀ vs H Q E, sp_spans vs H Q E → t_spans K sp_greatest_of sp_least_of { nx := fun _ H' => Q .non H', rt := Q } (L2.start N_spans vs) H := fun vs H Q E h => by
  refine body_F (n := 1) (fun _ => rfl) (by decide) (fun x B hn _ => ?_) h
  obtain ⟨n, f⟩ := x
  have hn : sz (n + 1) := hn
  exact tr_retN (edn_listZip (n := n) (g := fun k => .int (-(f 0 (k + 1)))) (h := fun k => .int (f (k + 1) 0)) (ev_f (ea_1 (ev_var rfl)) fun ds e => ⟨(n, f), e, hn, fun r e => by rw [e]; rfl⟩) (ev_f (ea_1 (ev_var rfl)) fun ds e => ⟨(n, f), e, hn, fun r e => by rw [e]; rfl⟩)) fun ds e => by rw [e]
end
end K52

set_option maxHeartbeats 2000000
namespace K52
open PySem PySem.Spec PyProof.Rows L2 DL
section
variable {K : PySem.W.Frag} {B : Base} {Γ : List DL.Slot} {te : TE} {m : Int} {h : Addr × Addr} {j : Nat}
theorem ei_draw (hB : B.hd = some h) (hj : Γ[j]? = some (.d (.v (.ref h.1)))) (ht : Ed B Γ te (.int m)) (m0 : 0 < m) (m1 : m < 1073741824) : Ei B Γ (tCall sp_draw [] E0 (tCons (tVar j) (tCons te tNil))) (fun i => 0 ≤ i ∧ i < m) :=
  ev_h hB hj (ea_1 ht) fun ds e => ⟨m, e, ⟨m0, m1⟩, fun r ⟨i, e, h0⟩ => ⟨i, by rw [e]; rfl, h0⟩⟩
theorem range_snoc {α : Type} {g : Nat → α} {m : Nat} : (List.range (m + 1)).map g = (List.range m).map g ++ [g m] := by
  rw [List.range_succ, List.map_append]
  rfl
/-! ### points -/
def ext (q : Nat → Int) (j : Nat) (x : Int) : Nat → Int := fun u => if u = j then x else q u
def grow (low : Nat → Int) (sizes : Nat → Nat) (k : Nat) (pts : List (Nat → Int)) : List (Nat → Int) := (pts.map fun q => (List.range (sizes k)).map fun (s : Nat) => ext q (k + 1) (low k + (s : Nat))).flatten
def box (low : Nat → Int) (sizes : Nat → Nat) : Nat → List (Nat → Int)
  | 0 => [fun _ => 0]
  | k + 1 => grow low sizes k (box low sizes k)
theorem grow_len {low : Nat → Int} {sizes : Nat → Nat} {k s : Nat} (hs : sizes k ≤ s) : ∀ pts : List (Nat → Int), (grow low sizes k pts).length ≤ pts.length * s
  | [] => Nat.zero_le _
  | q :: pts => by
    have ih := grow_len (low := low) hs pts
    unfold grow at ih ⊢
    rw [List.map_cons, List.flatten_cons, List.length_append, rm_len, List.length_cons, Nat.add_mul, Nat.one_mul]
    omega
theorem box_len {low : Nat → Int} {sizes : Nat → Nat} {s n : Nat} (hs : ∀ k, k < n → sizes k ≤ s) : ∀ k, k ≤ n → (box low sizes k).length ≤ s ^ k
  | 0, _ => Nat.le_refl _
  | k + 1, h => by
    have h1 := box_len (low := low) hs k (by omega)
    have h2 := grow_len (low := low) (hs k (by omega)) (box low sizes k)
    show (grow low sizes k (box low sizes k)).length ≤ s ^ (k + 1)
    rw [Nat.pow_succ]
    exact Nat.le_trans h2 (Nat.mul_le_mul_right s h1)
theorem rT_ext {k : Nat} {q : Nat → Int} {x : Int} : (List.range (k + 1)).map (fun u => D.int (q u)) ++ [D.int x] = (List.range (k + 1 + 1)).map fun u => D.int (ext q (k + 1) x u) := by
  rw [snoc1]
  refine List.map_congr_left fun u _ => ?_
  unfold ext
  by_cases e : u = k + 1
  · rw [if_pos e, if_pos e]
  · rw [if_neg e, if_neg e]
/-- the points of a lot, laid -/
abbrev pL (n : Nat) (pts : List (Nat → Int)) : D := .lst (pts.map fun q => rT n q)
abbrev sp_points : Sp := FSp (α := Nat × (Nat → Int) × (Nat → Nat) × Nat) (fun x => [rL x.1 x.2.1, .lst ((List.range x.1).map fun k => .int (x.2.2.1 k : Nat))]) (fun x => x.1 ≤ 100 ∧ (∀ k, k < x.1 → x.2.2.1 k ≤ x.2.2.2) ∧ 1 ≤ x.2.2.2 ∧ x.2.2.2 ^ x.1 ≤ 100000) (fun x r => r = .known (pL (x.1 + 1) (box x.2.1 x.2.2.1 x.1)))
theorem rd_points : ∀ vs H Q E, sp_points vs H Q E → t__law_points K { nx := fun _ H' => Q .non H', rt := Q } (L2.start N__law_points vs) H := fun vs H Q E h => by
  refine body_F (n := 2) (fun _ => rfl) (by decide) (fun x B hp _ => ?_) h
  obtain ⟨n, low, sizes, s⟩ := x
  obtain ⟨hn, hs, s0, hz⟩ := hp
  have hn : n ≤ 100 := hn
  have hs : ∀ k, k < n → sizes k ≤ s := hs
  have s0 : 1 ≤ s := s0
  have hz : s ^ n ≤ 100000 := hz
  have bl : ∀ k, k ≤ n → (box low sizes k).length ≤ 100000 := fun k hk => Nat.le_trans (box_len hs k hk) (Nat.le_trans (Nat.pow_le_pow_right s0 hk) hz)
  refine tr_new (edn_lst (ea_1 (ed_tup (ea_1 ev_c) (by simp [sizeLine]))) (by simp [sizeLine])) (tr_freeze (i := 2) rfl ?_)
  have lowIx : ∀ (B : Base) (Γ : List DL.Slot) (k : Nat), k < n → Γ[0]? = some (.d (rL n low)) → Γ[3]? = some (.d (.int (k : Nat))) → Ed B Γ (tOp (rIx K) (tVar 0) (tVar 3)) (.int (low k)) := fun B Γ k hk h1 h2 => ed_ixLR (g := fun k => .int (low k)) (ev_var h1) (ev_var h2) hk
  refine tr_forR (n := n) (g := fun u => .int (u : Nat)) (js := [3]) (edt_rngN (ed_lenR (g := fun k => .int (sizes k : Nat)) (ev_var rfl)) (by omega))
    (fun k Γ' => ∃ a b c d, Γ' = [.d (rL n low), .d (.lst ((List.range n).map fun k => .int (sizes k : Nat))), .d (pL (k + 1) (box low sizes k)), a, b, c, d]) ⟨_, _, _, _, rfl⟩ ?_ ?_
  · rintro k _ gg hk ⟨a, b, c, d, rfl⟩
    refine tg_name (tr_new edn_nil ?_)
    generalize hb : box low sizes k = pts
    have hl : (grow low sizes k pts).length ≤ 100000 := by rw [← hb]; exact bl (k + 1) hk
    have pre : ∀ (i : Nat) (q : Nat → Int) (t : Nat), pts[i]? = some q → t ≤ sizes k → (grow low sizes k (pts.take i) ++ (List.range t).map fun (s : Nat) => ext q (k + 1) (low k + (s : Nat))).length ≤ 100000 := by
      intro i q t hq ht
      refine Nat.le_trans ?_ hl
      have e : pts = pts.take i ++ q :: pts.drop (i + 1) := by
        have hi := (List.getElem?_eq_some_iff.mp hq)
        obtain ⟨hi1, hi2⟩ := hi
        rw [← hi2, ← List.drop_eq_getElem_cons hi1, List.take_append_drop]
      have e2 : grow low sizes k pts = grow low sizes k (pts.take i) ++ ((List.range (sizes k)).map fun (s : Nat) => ext q (k + 1) (low k + (s : Nat))) ++ grow low sizes k (pts.drop (i + 1)) := by
        conv => lhs; rw [e]
        unfold grow
        rw [List.map_append, List.flatten_append, List.map_cons, List.flatten_cons, List.append_assoc]
      rw [e2, List.length_append, List.length_append, List.length_append, rm_len, rm_len]
      omega
    have gs : ∀ (i : Nat) (q : Nat → Int), pts[i]? = some q → grow low sizes k (pts.take (i + 1)) = grow low sizes k (pts.take i) ++ (List.range (sizes k)).map fun (s : Nat) => ext q (k + 1) (low k + (s : Nat)) := by
      intro i q hq
      unfold grow
      rw [List.take_add_one, hq]
      simp
    refine tr_forP (pts := pts) (g := fun q => rT (k + 1) q) (js := [5]) (edt_lst (edn_list (ds := pts.map fun q => rT (k + 1) q) (ev_var rfl)).ed)
      (fun i Γ' => ∃ c d, Γ' = [.d (rL n low), .d (.lst ((List.range n).map fun k => .int (sizes k : Nat))), .d (pL (k + 1) pts), .d (.int (k : Nat)), .own ((grow low sizes k (pts.take i)).map fun q => rT (k + 1 + 1) q), c, d]) ⟨c, d, by rw [List.take_zero]; rfl⟩ ?_ ?_
    · rintro i q _ gg2 hq ⟨c, d, rfl⟩
      refine tg_name ?_
      refine tr_forR (n := sizes k) (g := fun u => .int (u : Nat)) (js := [6]) (edt_rngN (ed_ixLR (g := fun k => .int (sizes k : Nat)) (ev_var rfl) (ev_var rfl) hk) ?_)
        (fun t Γ' => ∃ d, Γ' = [.d (rL n low), .d (.lst ((List.range n).map fun k => .int (sizes k : Nat))), .d (pL (k + 1) pts), .d (.int (k : Nat)), .own ((grow low sizes k (pts.take i) ++ (List.range t).map fun (s : Nat) => ext q (k + 1) (low k + (s : Nat))).map fun q => rT (k + 1 + 1) q), .d (rT (k + 1) q), d]) ⟨d, by rw [List.range_zero, List.map_nil, List.append_nil]; rfl⟩ ?_ ?_
      · have h1 := pre i q (sizes k) hq (Nat.le_refl _)
        rw [List.length_append, rm_len] at h1
        omega
      · rintro t _ gg3 ht ⟨d, rfl⟩
        refine tg_name (tr_append (i := 4) rfl (P := fun x => x = rT (k + 1 + 1) (ext q (k + 1) (low k + (t : Nat)))) ?_ ?_ ?_)
        · refine (ed_catT (xs := (List.range (k + 1)).map fun u => .int (q u)) (ev_var rfl) (ed_tup (ea_1 (ed_add (lowIx _ _ k hk rfl rfl) (ev_var rfl))) (by simp [sizeLine])) ?_).eq (by rw [rT_ext])
          rw [rm_len]
          show k + 1 + 1 ≤ _
          simp [sizeLine]
          omega
        · have h1 := pre i q t hq (Nat.le_of_lt ht)
          rw [List.length_map]
          exact Nat.lt_of_le_of_lt h1 (by decide)
        · intro x ex
          subst ex
          refine tr_next ⟨.d (.int (t : Nat)), ?_⟩
          rw [List.range_succ, List.map_append (l₁ := List.range t), ← List.append_assoc, List.map_append (l₂ := List.map _ [t])]
          rfl
      · rintro _ ⟨d, rfl⟩
        refine tr_next ⟨.d (rT (k + 1) q), d, ?_⟩
        rw [gs i q hq]
    · rintro _ ⟨c, d, rfl⟩
      rw [List.take_length]
      refine tr_freeze (i := 4) rfl (tr_set (ev_var rfl) (tr_next ⟨.d (.int (k : Nat)), .d (pL (k + 1 + 1) (grow low sizes k pts)), c, d, ?_⟩))
      show _ = [_, _, Slot.d (pL (k + 1 + 1) (grow low sizes k (box low sizes k))), _, _, _, _]
      rw [hb]
      rfl
  · rintro _ ⟨a, b, c, d, rfl⟩
    exact tr_ret (ev_var rfl) fun d e => by rw [e]
/-! ### keeps -/
abbrev Tie := Nat × Nat × Int
def dTie (t : Tie) : D := .tup [.int (t.1 : Nat), .int (t.2.1 : Nat), .int t.2.2]
def keepsB (p : Nat → Int) (ts : List Tie) : Bool := ts.all fun t => decide (p t.1 - p t.2.1 ≤ t.2.2)
def TiesOk (n : Nat) (ts : List Tie) : Prop := ∀ t ∈ ts, t.1 < n ∧ t.2.1 < n
abbrev sp_keeps : Sp := FSp (α := Nat × (Nat → Int) × List Tie) (fun x => [rT x.1 x.2.1, .lst (x.2.2.map dTie)]) (fun x => TiesOk x.1 x.2.2) (fun x r => r = .known (.bl (keepsB x.2.1 x.2.2)))
theorem rd_keeps : ∀ vs H Q E, sp_keeps vs H Q E → t__law_keeps K { nx := fun _ H' => Q .non H', rt := Q } (L2.start N__law_keeps vs) H := fun vs H Q E h => by
  refine body_F (n := 2) (fun _ => rfl) (by decide) (fun x B hp _ => ?_) h
  obtain ⟨n, p, ts⟩ := x
  have hp : TiesOk n ts := hp
  refine tr_forP (pts := ts) (g := dTie) (js := [2, 3, 4]) (edt_lst (ev_var rfl)) (fun i Γ' => (∀ t ∈ ts.take i, p t.1 - p t.2.1 ≤ t.2.2) ∧ ∃ a b c, Γ' = [.d (rT n p), .d (.lst (ts.map dTie)), a, b, c]) ⟨fun t ht => by simp at ht, _, _, _, rfl⟩ ?_ ?_
  · rintro i ⟨u, v, c⟩ _ gg hi ⟨hk, a, b, d, rfl⟩
    obtain ⟨hu, hv⟩ := hp _ (List.mem_of_getElem? hi)
    have hu : u < n := hu
    have hv : v < n := hv
    refine tg_tup rfl (tgs_cons (tg_name (tgs_cons (tg_name (tgs_cons (tg_name (tgs_nil ?_)))))))
    refine tr_ifP (ep_gt (ed_sub (ed_ixTR (g := fun u => D.int (p u)) (ev_var rfl) (ev_var rfl) hu) (ed_ixTR (g := fun u => D.int (p u)) (ev_var rfl) (ev_var rfl) hv)) (ev_var rfl)) (fun hh => ?_) fun hh => ?_
    · refine tr_ret ev_c fun d e => ?_
      rw [e]
      have : keepsB p ts = false := by
        unfold keepsB
        rw [List.all_eq_false]
        exact ⟨(u, v, c), List.mem_of_getElem? hi, by simpa using hh⟩
      show _ = RV.known (D.bl (keepsB p ts))
      rw [this]
    · refine tr_next (tr_next ⟨fun t ht => ?_, _, _, _, rfl⟩)
      rw [List.take_add_one, hi] at ht
      rcases List.mem_append.mp ht with z | z
      · exact hk t z
      · have : t = (u, v, c) := by simpa using z
        subst this
        show p u - p v ≤ c
        have hh : ¬ c < p u - p v := hh
        omega
  · rintro _ ⟨hk, a, b, c, rfl⟩
    rw [List.take_length] at hk
    refine tr_ret ev_c fun d e => ?_
    rw [e]
    have : keepsB p ts = true := by
      unfold keepsB
      rw [List.all_eq_true]
      exact fun t ht => decide_eq_true (hk t ht)
    show _ = RV.known (D.bl (keepsB p ts))
    rw [this]
/-! ### the tight table of a lot -/
def tab (pts : List (Nat → Int)) : Nat → Nat → Int := fun u v => lmax (pts.map fun p => p u - p v)
abbrev sp_table : Sp := FSp (α := Nat × List (Nat → Int)) (fun x => [pL (x.1 + 1) x.2]) (fun x => sz (x.1 + 1) ∧ x.2 ≠ [] ∧ x.2.length ≤ 100000) (fun x r => r = .known (tT (x.1 + 1) (tab x.2)))
theorem rd_table : ∀ vs H Q E, sp_table vs H Q E → t__law_table K { nx := fun _ H' => Q .non H', rt := Q } (L2.start N__law_table vs) H := fun vs H Q E h => by
  refine body_F (n := 1) (fun _ => rfl) (by decide) (fun x B hp _ => ?_) h
  obtain ⟨n, pts⟩ := x
  obtain ⟨hn, hne, hl⟩ := hp
  have hn : sz (n + 1) := hn
  have hne : pts ≠ [] := hne
  have hl : pts.length ≤ 100000 := hl
  obtain ⟨p0, hp0⟩ : ∃ p0, pts[0]? = some p0 := by
    cases pts with
    | nil => exact absurd rfl hne
    | cons p _ => exact ⟨p, rfl⟩
  have first : ∀ (B : Base) (Γ : List DL.Slot), Γ[0]? = some (.d (pL (n + 1) pts)) → Ed B Γ (tCB (xLen K) (tCons (tOp (rIx K) (tVar 0) (tC (.int 0))) tNil)) (.int ((n + 1 : Nat) : Int)) := fun B Γ h =>
    ed_lenTR (g := fun u => .int (p0 u)) (ed_ixL (i := 0) (ev_var h) ev_c (atI_nat (j := 0) (by rw [List.getElem?_map, hp0]; rfl)))
  refine tr_new edn_nil ?_
  refine tr_forR (n := n + 1) (g := fun u => .int (u : Nat)) (js := [2]) (edt_rngN (first _ _ rfl) (szr hn))
    (fun u Γ' => ∃ a b c d, Γ' = [.d (pL (n + 1) pts), .own ((List.range u).map fun u => rT (n + 1) (tab pts u)), a, b, c, d]) ⟨_, _, _, _, rfl⟩ ?_ ?_
  · rintro u _ gg hu ⟨a, b, c, d, rfl⟩
    refine tg_name (tr_new edn_nil ?_)
    refine tr_forR (n := n + 1) (g := fun u => .int (u : Nat)) (js := [4]) (edt_rngN (first _ _ rfl) (szr hn))
      (fun v Γ' => ∃ c d, Γ' = [.d (pL (n + 1) pts), .own ((List.range u).map fun u => rT (n + 1) (tab pts u)), .d (.int (u : Nat)), .own ((List.range v).map fun v => .int (tab pts u v)), c, d]) ⟨c, d, rfl⟩ ?_ ?_
    · rintro v _ gg2 hv ⟨c, d, rfl⟩
      refine tg_name (tr_append (i := 3) rfl (P := fun x => x = .int (tab pts u v)) ?_ ?_ ?_)
      · have hm := (edn_lcA (pts := pts) (g := fun q => rT (n + 1) q) (f := fun p => .int (p u - p v)) (js := [5]) (vs := [5]) (gt := gName 5) (te := tOp xSub (tOp (rIx K) (tVar 5) (tVar 2)) (tOp (rIx K) (tVar 5) (tVar 4))) (wi := iAny K (tVar 0)) (B := (B.gh gg).gh gg2) (Γ := [.d (pL (n + 1) pts), .own ((List.range u).map fun u => rT (n + 1) (tab pts u)), .d (.int (u : Nat)), .own ((List.range v).map fun v => .int (tab pts u v)), .d (.int (v : Nat)), d])
          (edt_lst (ev_var rfl)) (Nat.lt_of_le_of_lt hl (by decide)) (by simp) fun p hp B' hB => tg_name (ed_sub (ed_ixTR (g := fun u => D.int (p u)) (ev_var rfl) (ev_var rfl) hu) (ed_ixTR (g := fun u => D.int (p u)) (ev_var rfl) (ev_var rfl) hv))).ed
        exact ed_max (ns := pts.map fun p => p u - p v) (hm.eq (by rw [List.map_map]; rfl)) (by simpa using hne)
      · rw [rm_len]
        exact Nat.lt_trans hv (szs hn)
      · intro x ex
        subst ex
        refine tr_next ⟨.d (.int (v : Nat)), d, ?_⟩
        rw [range_snoc (m := v)]
        rfl
    · rintro _ ⟨c, d, rfl⟩
      refine tr_freeze (i := 3) rfl (tr_append (i := 1) rfl (P := fun x => x = rT (n + 1) (tab pts u)) (ed_tuple (ev_var rfl)) ?_ ?_)
      · rw [rm_len]
        exact Nat.lt_trans hu (szs hn)
      · intro x ex
        subst ex
        refine tr_next ⟨.d (.int (u : Nat)), .d (rL (n + 1) (tab pts u)), c, d, ?_⟩
        rw [range_snoc (m := u)]
        rfl
  · rintro _ ⟨a, b, c, d, rfl⟩
    exact tr_freeze (i := 1) rfl (tr_ret (ed_tuple (ev_var rfl)) fun d e => by rw [e])
/-! ### does the point keep the table -/
abbrev sp_lholds : Sp := FSp (α := Nat × (Nat → Nat → Int) × (Nat → Int)) (fun x => [tT x.1 x.2.1, rT x.1 x.2.2]) (fun x => sz x.1) (fun x r => ∃ b, r = .known (.bl b) ∧ (b = true ↔ Kept x.1 x.2.1 x.2.2))
theorem rd_lholds : ∀ vs H Q E, sp_lholds vs H Q E → t__law_holds K { nx := fun _ H' => Q .non H', rt := Q } (L2.start N__law_holds vs) H := fun vs H Q E h => by
  refine body_F (n := 2) (fun _ => rfl) (by decide) (fun x B hn _ => ?_) h
  obtain ⟨n, f, p⟩ := x
  have hn : sz n := hn
  refine tr_forR (n := n) (g := fun u => .int (u : Nat)) (js := [2]) (edt_rngN (ed_lenTR (g := fun u => .int (p u)) (ev_var rfl)) (szr hn))
    (fun k Γ' => (∀ u v, u < k → v < n → p u - p v ≤ f u v) ∧ ∃ a b, Γ' = [.d (tT n f), .d (rT n p), a, b]) ⟨fun u v h => absurd h (Nat.not_lt_zero u), _, _, rfl⟩ ?_ ?_
  · rintro u _ gg hu ⟨hk, a, b, rfl⟩
    refine tg_name ?_
    refine tr_forR (n := n) (g := fun u => .int (u : Nat)) (js := [3]) (edt_rngN (ed_lenTR (g := fun u => .int (p u)) (ev_var rfl)) (szr hn))
      (fun k Γ' => (∀ v, v < k → p u - p v ≤ f u v) ∧ ∃ b, Γ' = [.d (tT n f), .d (rT n p), .d (.int (u : Nat)), b]) ⟨fun v h => absurd h (Nat.not_lt_zero v), b, rfl⟩ ?_ ?_
    · rintro v _ gg2 hv ⟨hk2, d, rfl⟩
      refine tg_name ?_
      refine tr_ifP (ep_gt (ed_sub (ed_ixTR (g := fun u => D.int (p u)) (ev_var rfl) (ev_var rfl) hu) (ed_ixTR (g := fun u => D.int (p u)) (ev_var rfl) (ev_var rfl) hv)) (ed_ixTR (g := fun v => D.int (f u v)) (ed_ixTR (g := fun u => rT n (f u)) (ev_var rfl) (ev_var rfl) hu) (ev_var rfl) hv)) (fun h => ?_) fun h => ?_
      · refine tr_ret ev_c fun d e => ⟨false, by rw [e], fun z => (nomatch z), fun z => ?_⟩
        have : p u - p v ≤ f u v := z u v hu hv
        exfalso
        exact absurd this (by omega)
      · refine tr_next (tr_next ⟨fun w hw => ?_, _, rfl⟩)
        by_cases e : w = v
        · rw [e]; omega
        · exact hk2 w (by omega)
    rintro _ ⟨hk2, d, rfl⟩
    refine tr_next ⟨fun w v hw hv => ?_, _, _, rfl⟩
    by_cases e : w = u
    · rw [e]; exact hk2 v hv
    · exact hk w v (by omega) hv
  rintro _ ⟨hk, a, b, rfl⟩
  exact tr_ret ev_c fun d e => ⟨true, by rw [e], fun _ => hk, fun _ => rfl⟩
/-! ### drawn ties -/
def TiesAt (n : Nat) (w : Nat → Int) (ts : List Tie) : Prop := ∀ t ∈ ts, (t.1 < n ∧ t.2.1 < n) ∧ w t.1 - w t.2.1 ≤ t.2.2
abbrev sp_ties : Sp := HSp (α := Nat × (Nat → Int) × Nat × Int) (fun x => [rT (x.1 + 1) x.2.1, .int (x.2.2.1 : Nat), .int x.2.2.2]) (fun x => 1 ≤ x.1 ∧ sz (x.1 + 1) ∧ x.2.2.1 ≤ 1000 ∧ 0 < x.2.2.2 ∧ x.2.2.2 < 1073741824) (fun x r => ∃ ts, r = .new (ts.map dTie) ∧ ts.length ≤ x.2.2.1 ∧ TiesAt (x.1 + 1) x.2.1 ts)
theorem rd_ties : ∀ vs H Q E, sp_ties vs H Q E → t__law_ties K sp_draw { nx := fun _ H' => Q .non H', rt := Q } (L2.start N__law_ties vs) H := fun vs H Q E h => by
  refine body_H (n := 3) (fun _ => rfl) (by decide) (fun x B h hp hB => ?_) h
  obtain ⟨n, w, most, slack⟩ := x
  obtain ⟨n1, hn, hm, s0, s1⟩ := hp
  have n1 : 1 ≤ n := n1
  have hn : n + 1 < 1000 := hn
  have hm : most ≤ 1000 := hm
  refine tr_set ((ed_sub (ed_lenTR (n := n + 1) (g := fun u => .int (w u)) (ev_var rfl)) ev_c).eq (e := .int (n : Nat)) (by congr 2; omega)) ?_
  refine tr_new edn_nil ?_
  refine tr_for (js := [6]) (eit_rng (p := fun i => 0 ≤ i ∧ i < (most : Int) + 1) (ei_draw (m := (most : Int) + 1) hB rfl (ed_add (ev_var rfl) ev_c) (by omega) (by omega)) (fun i hi => by omega))
    (fun ds i Γ' => ds.length ≤ most ∧ ∃ ts a b c, Γ' = [.d (.v (.ref h.1)), .d (rT (n + 1) w), .d (.int (most : Nat)), .d (.int slack), .d (.int (n : Nat)), .own (ts.map dTie), a, b, c] ∧ ts.length = i ∧ TiesAt (n + 1) w ts) (fun ds ⟨i, hi, e⟩ => ⟨by rw [e, rngD_len]; omega, [], _, _, _, rfl, rfl, fun t ht => nomatch ht⟩) ?_ ?_
  · rintro ds i d0 _ gg ⟨k, hk, rfl⟩ hd ⟨hl, ts, a, b, c, rfl, hts, ht⟩
    have hi := (List.getElem?_eq_some_iff.mp hd).1
    rw [rngD_len] at hi hl
    refine tg_name ?_
    refine tr_asg (ei_draw (m := (n : Int) + 1) hB rfl (ed_add (ev_var rfl) ev_c) (by omega) (by omega)) fun d ⟨u, e, u0, u1⟩ => ?_
    subst e
    obtain ⟨u, rfl⟩ := Int.eq_ofNat_of_zero_le u0
    refine tr_asg (ei_mod (r := fun v => 0 ≤ v ∧ v < (n : Int) + 1) (ei_add (r := fun _ => True) (Ei.of (ed_add (ev_var rfl) ev_c)) (ei_draw (m := (n : Int)) hB rfl (ev_var rfl) (by omega) (by omega)) fun _ _ _ _ => trivial) (Ei.of (i := (n : Int) + 1) (ed_add (ev_var rfl) ev_c)) (fun j e => by omega) fun i j _ e => by
      subst e
      exact ⟨Int.emod_nonneg _ (by omega), Int.emod_lt_of_pos _ (by omega)⟩) fun d ⟨v, e, v0, v1⟩ => ?_
    subst e
    obtain ⟨v, rfl⟩ := Int.eq_ofNat_of_zero_le v0
    have hu : u < n + 1 := by omega
    have hv : v < n + 1 := by omega
    refine tr_append (i := 5) rfl (P := fun x => ∃ ds, x = .tup ds ∧ ∃ c, ds = [.int (u : Nat), .int (v : Nat), .int c] ∧ w u - w v ≤ c) (ev_tup (ea_cons (Pa := fun d => d = .int (u : Nat)) (Pt := fun ds => ∃ c, ds = [.int (v : Nat), .int c] ∧ w u - w v ≤ c) (ev_var rfl) (ea_cons (Pa := fun d => d = .int (v : Nat)) (Pt := fun ds => ∃ c, ds = [.int c] ∧ w u - w v ≤ c) (ev_var rfl)
      (ea_cons (Pa := fun d => ∃ c, d = .int c ∧ w u - w v ≤ c) (Pt := fun ds => ds = []) (ei_add (Ei.of (ed_sub (ed_ixTR (g := fun u => D.int (w u)) (ev_var rfl) (ev_var rfl) hu) (ed_ixTR (g := fun u => D.int (w u)) (ev_var rfl) (ev_var rfl) hv))) (ei_draw hB rfl (ev_var rfl) s0 s1) fun i j e ⟨j0, _⟩ => by omega) ea_nil (fun d ds ⟨c, e, hc⟩ e2 => ⟨c, by rw [e, e2], hc⟩)) fun d ds e ⟨c, e2, hc⟩ => ⟨c, by rw [e, e2], hc⟩) fun d ds e ⟨c, e2, hc⟩ => ⟨c, by rw [e, e2], hc⟩) (fun ds ⟨c, e, _⟩ => by rw [e]; simp [sizeLine])) ?_ ?_
    · rw [List.length_map, hts]
      exact Nat.lt_of_lt_of_le (show i < 1001 by omega) (by decide)
    · rintro d ⟨_, rfl, c, rfl, hc⟩
      refine tr_next ⟨by rw [rngD_len]; exact hl, ts ++ [(u, v, c)], .d d0, .d (.int (u : Nat)), .d (.int (v : Nat)), ?_, by rw [List.length_append, hts]; rfl, fun t htt => ?_⟩
      · rw [List.map_append]; rfl
      · rcases List.mem_append.mp htt with z | z
        · exact ht t z
        · rw [List.mem_singleton.mp z]
          exact ⟨⟨hu, hv⟩, hc⟩
  · rintro ds _ ⟨k, hk, rfl⟩ ⟨hl, ts, a, b, c, rfl, hts, ht⟩
    exact tr_retOwn (i := 5) rfl ⟨ts, rfl, by rw [hts]; exact hl, ht⟩
end
end K52

set_option maxHeartbeats 2000000
namespace K52
open PySem PySem.Spec PyProof.Rows L2 DL
section
variable {K : PySem.W.Frag}
def oI : Option Int → D
  | none => .non
  | some i => .int i
abbrev oT (n : Nat) (F : Ot) : List (List D) := tD n fun u v => oI (F u v)
theorem oI_non {o : Option Int} : oI o = .non ↔ o = none := by
  cases o with
  | none => exact ⟨fun _ => rfl, fun _ => rfl⟩
  | some i => simp [oI]
theorem oT_set {F : Ot} {u v : Nat} {c : Int} : updD (fun a b => oI (F a b)) u v (.int c) = fun a b => oI (setO F u v c a b) := by
  funext a b
  unfold updD setO
  split <;> rfl
/-! ### the law's closing -/
abbrev sp_lclosing : Sp := MSp (α := Nat × Ot) (fun x => oT x.1 x.2) (fun x => sz x.1 ∧ Star x.1 x.2) (fun x r => ∃ o, r = .known (oD x.1 o) ∧ OCl x.1 x.2 o)
theorem rd_lclosing : ∀ vs H Q E, sp_lclosing vs H Q E → t__law_closing K { nx := fun _ H' => Q .non H', rt := Q } (L2.start N__law_closing vs) H := fun vs H Q E h => by
  refine body_M (n := 7) rfl (fun x B hp _ => ?_) h
  obtain ⟨n, F⟩ := x
  obtain ⟨hn, hS⟩ := hp
  have hn : sz n := hn
  have hS : Star n F := hS
  have ix : ∀ (B : Base) (Γ : List DL.Slot) (G : Ot) (a b : Nat) (i j : Nat), Γ[0]? = some (.d (.lst ((List.range n).map fun u => .lst ((List.range n).map fun v => oI (G u v))))) → Γ[i]? = some (.d (.int (a : Nat))) → Γ[j]? = some (.d (.int (b : Nat))) → a < n → b < n → Ed B Γ (tOp (rIx K) (tOp (rIx K) (tVar 0) (tVar i)) (tVar j)) (oI (G a b)) := fun B Γ G a b i j h0 h1 h2 ha hb =>
    ed_ixLR (g := fun b => oI (G a b)) (ed_ixLR (g := fun u => .lst ((List.range n).map fun v => oI (G u v))) (ev_var h0) (ev_var h1) ha) (ev_var h2) hb
  have rd : ∀ (B : Base) (Γ : List DL.Slot) (G : Ot) (a b : Nat) (i j : Nat), Γ[0]? = some (.mat (oT n G)) → 0 < i → 0 < j → Γ[i]? = some (.d (.int (a : Nat))) → Γ[j]? = some (.d (.int (b : Nat))) → a < n → b < n → Ed B Γ (tOp (rIx K) (tOp (rIx K) (tVar 0) (tVar i)) (tVar j)) (oI (G a b)) := fun B Γ G a b i j h0 hi hj h1 h2 ha hb => by
    have l0 : 0 < Γ.length := (List.getElem?_eq_some_iff.mp h0).1
    have k := ix B (Γ.set 0 (.d (.lst ((List.range n).map fun u => .lst ((List.range n).map fun v => oI (G u v)))))) G a b i j (by rw [List.getElem?_set_self l0]) (by rw [List.getElem?_set_ne (by omega)]; exact h1) (by rw [List.getElem?_set_ne (by omega)]; exact h2) ha hb
    cases e : G a b with
    | none => rw [e] at k; exact ed_roT (i := 0) (n := n) (F := fun a b => oI (G a b)) h0 k
    | some c => rw [e] at k; exact ed_roT (i := 0) (n := n) (F := fun a b => oI (G a b)) h0 k
  refine tr_set (ed_roT (i := 0) (n := n) (F := fun u v => oI (F u v)) rfl (ed_lenR (ev_var rfl))) ?_
  refine tr_forR (n := n) (g := fun u => .int (u : Nat)) (js := [2]) (edt_rngN (ev_var rfl) (szr hn))
    (fun k Γ' => ∃ G s2 s3 s4 s5 s6 s7, Γ' = [.mat (oT n G), .d (.int (n : Nat)), s2, s3, s4, s5, s6, s7] ∧ Tn n F k G) ⟨F, _, _, _, _, _, _, rfl, Tn.first⟩ ?_ ?_
  · rintro k _ gg hk ⟨G0, s2, s3, s4, s5, s6, s7, rfl, T⟩
    have hd : ¬ Bad n G0 → G0 k k = some 0 := fun nb => hS.diag0 T.mono nb hk
    refine tg_name ?_
    refine tr_forR (n := n) (g := fun u => .int (u : Nat)) (js := [3]) (edt_rngN (ev_var rfl) (szr hn))
      (fun u Γ' => ∃ G s3 s4 s5 s6 s7, Γ' = [.mat (oT n G), .d (.int (n : Nat)), .d (.int (k : Nat)), s3, s4, s5, s6, s7] ∧ Ph n F k G0 u 0 G) ⟨G0, s3, s4, s5, s6, s7, rfl, Ph.start T.low⟩ ?_ ?_
    · rintro u _ gg2 hu ⟨G, s3, s4, s5, s6, s7, rfl, P⟩
      refine tg_name ?_
      refine tr_ifP ((ep_nnon (rd _ _ G u k 3 2 rfl (by decide) (by decide) rfl rfl hu hk)).eq (c := ¬ oI (G u k) = .non) (e := ¬ G u k = none) (not_congr oI_non)) (fun hne => ?_) (fun hne => ?_)
      · obtain ⟨ah, eah⟩ : ∃ ah, G u k = some ah := by
          cases e : G u k with
          | none => exact absurd e hne
          | some ah => exact ⟨ah, rfl⟩
        have hA := P.ahead hd hu hk eah
        refine tr_set (d := .int ah) ((rd _ _ G u k 3 2 rfl (by decide) (by decide) rfl rfl hu hk).eq (by rw [eah]; rfl)) ?_
        refine tr_forR (n := n) (g := fun u => .int (u : Nat)) (js := [5]) (edt_rngN (ev_var rfl) (szr hn))
          (fun v Γ' => ∃ G s5 s6 s7, Γ' = [.mat (oT n G), .d (.int (n : Nat)), .d (.int (k : Nat)), .d (.int (u : Nat)), .d (.int ah), s5, s6, s7] ∧ Ph n F k G0 u v G) ⟨G, s5, s6, s7, rfl, P⟩ ?_ ?_
        · rintro v _ gg3 hv ⟨G, s5, s6, s7, rfl, P⟩
          refine tg_name ?_
          refine tr_set (d := oI (G k v)) (rd _ _ G k v 2 5 rfl (by decide) (by decide) rfl rfl hk hv) ?_
          cases es : G k v with
          | none =>
            refine tr_ifP (ep_and (c := False) (e := False) ((ep_nnon (ev_var rfl)).eq (by simp [oI])) (fun z => z.elim)) (fun z => z.1.elim) (fun _ => tr_next (tr_next ⟨G, .d (.int (v : Nat)), .d .non, s7, rfl, P.noStep hd hu hv hk es⟩))
          | some s =>
            have t2 : ∀ (B : Base) (Γ : List DL.Slot), Γ[0]? = some (.mat (oT n G)) → Γ[3]? = some (.d (.int (u : Nat))) → Γ[5]? = some (.d (.int (v : Nat))) → Γ[4]? = some (.d (.int ah)) → Γ[6]? = some (.d (.int s)) →
                Ep B Γ (tOr (tTest (tOp xIs (tOp (rIx K) (tOp (rIx K) (tVar 0) (tVar 3)) (tVar 5)) (tC .non))) (tTest (tOp (xLt K) (tOp (xAdd K) (tVar 4) (tVar 6)) (tOp (rIx K) (tOp (rIx K) (tVar 0) (tVar 3)) (tVar 5))))) (∀ c, G u v = some c → ah + s < c) := fun B Γ h0 h3 h5 h4 h6 => by
              have q := rd B Γ G u v 3 5 h0 (by decide) (by decide) h3 h5 hu hv
              cases ec : G u v with
              | none =>
                rw [ec] at q
                exact (ep_or (e := True) (ep_non q) (fun z => absurd rfl z)).eq (by simp)
              | some c =>
                rw [ec] at q
                exact (ep_or (ep_non q) (fun z => ep_lt (ed_add (ev_var h4) (ev_var h6)) q)).eq (by simp [oI])
            refine tr_ifP (ep_and (c := True) ((ep_nnon (ev_var rfl)).eq (by simp [oI])) (fun _ => t2 _ _ rfl rfl rfl rfl rfl)) (fun z => ?_) (fun z => ?_)
            · refine tr_tabSet (i := 0) (n := n) (F := fun a b => oI (G a b)) (u := u) (v := v) rfl (P := fun d => d = .int (ah + s)) (ed_add (ev_var rfl) (ev_var rfl)) (ev_var rfl) (ev_var rfl) hu hv fun d ed => ?_
              subst ed
              rw [oT_set]
              exact tr_next (tr_next ⟨setO G u v (ah + s), .d (.int (v : Nat)), .d (.int s), s7, rfl, P.upd hA hd hu hv hk es z.2⟩)
            · obtain ⟨c, ec, hc⟩ : ∃ c, G u v = some c ∧ ¬ ah + s < c := by
                cases ec : G u v with
                | none => exact absurd ⟨trivial, fun c e => by rw [ec] at e; cases e⟩ z
                | some c => exact ⟨c, rfl, fun h => z ⟨trivial, fun c' e => by rw [ec] at e; cases e; exact h⟩⟩
              exact tr_next (tr_next ⟨G, .d (.int (v : Nat)), .d (.int s), s7, rfl, P.keep hA hd hu hv hk es ec hc⟩)
        · rintro _ ⟨G, s5, s6, s7, rfl, P⟩
          exact tr_next (tr_next ⟨G, .d (.int (u : Nat)), .d (.int ah), s5, s6, s7, rfl, P.row⟩)
      · have e : G u k = none := by simpa using hne
        exact tr_next (tr_next ⟨G, .d (.int (u : Nat)), s4, s5, s6, s7, rfl, P.noRow hd hu hk e⟩)
    · rintro _ ⟨G, s3, s4, s5, s6, s7, rfl, P⟩
      exact tr_next ⟨G, .d (.int (k : Nat)), s3, s4, s5, s6, s7, rfl, T.next hk hd P⟩
  · rintro _ ⟨G, s2, s3, s4, s5, s6, s7, rfl, T⟩
    refine tr_forR (n := n) (g := fun u => .int (u : Nat)) (js := [3]) (edt_rngN (ev_var rfl) (szr hn))
      (fun u Γ' => ∃ s3, Γ' = [.mat (oT n G), .d (.int (n : Nat)), s2, s3, s4, s5, s6, s7] ∧ ∀ w, w < u → G w w = some 0) ⟨s3, rfl, fun w h => absurd h (Nat.not_lt_zero w)⟩ ?_ ?_
    · rintro u _ gg hu ⟨s3, rfl, h0⟩
      obtain ⟨c, hc, ec⟩ := hS.diagM T.mono hu
      refine tg_name ?_
      refine tr_ifP (ep_lt ((rd _ _ G u u 3 3 rfl (by decide) (by decide) rfl rfl hu hu).eq (e := .int c) (by rw [ec]; rfl)) ev_c) (fun z => tr_ret ev_c fun d e => ⟨none, by rw [e]; rfl, T.none ⟨u, c, hu, ec, z⟩⟩) fun z => tr_next (tr_next ⟨.d (.int (u : Nat)), rfl, fun w hw => ?_⟩)
      by_cases e : w = u
      · subst e
        rw [ec]
        congr 1
        omega
      · exact h0 w (by omega)
    · rintro _ ⟨s3, rfl, h0⟩
      have nb : ¬ Bad n G := fun ⟨u, c, hu, ec, hc⟩ => by
        rw [h0 u hu] at ec
        cases ec
        exact absurd hc (by decide)
      refine tr_tabFreeze (i := 0) (n := n) (F := fun a b => oI (G a b)) rfl ?_
      have e0 : (List.range n).map (fun u => D.lst ((List.range n).map fun v => oI (G u v))) = (List.range n).map fun u => rL n fun v => (G u v).getD 0 := by
        refine List.map_congr_left fun u hu => congrArg D.lst (List.map_congr_left fun v hv => ?_)
        obtain ⟨c, e⟩ := T.all hS nb (List.mem_range.mp hu) (List.mem_range.mp hv)
        show oI (G u v) = D.int ((G u v).getD 0)
        rw [e]
        rfl
      rw [e0]
      exact tr_ret (ed_tuple (edn_lcR (f := fun u => rT n fun v => (G u v).getD 0) (js := [7]) (edt_lst (ds := (List.range n).map fun u => rL n fun v => (G u v).getD 0) (ev_var rfl)) (szs hn) (by simp) fun u hu B' hB => tg_name (ed_tuple (ev_var rfl))).ed) fun d e => ⟨some _, by rw [e]; rfl, T.some hS nb⟩
end
end K52

set_option maxHeartbeats 2000000
namespace K52
open PySem PySem.Spec PyProof.Rows L2 DL
section
variable {K : PySem.W.Frag} {B : Base} {Γ : List DL.Slot} {ta tb te : TE} {d : D} {n : Nat}
/-! ### data of tables -/
theorem good_R {g : Nat → D} (h : ∀ k, k < n → (g k).good = true) : D.goods ((List.range n).map g) = true := by
  rw [goods_iff]
  intro d hd
  obtain ⟨k, hk, rfl⟩ := List.mem_map.mp hd
  exact h k (List.mem_range.mp hk)
theorem nds_R {g : Nat → D} {c : Nat} (h : ∀ k, k < n → (g k).nds ≤ c) : D.ndss ((List.range n).map g) ≤ n * c := by
  have := ndss_le (ds := (List.range n).map g) (k := c) fun d hd => by
    obtain ⟨k, hk, rfl⟩ := List.mem_map.mp hd
    exact h k (List.mem_range.mp hk)
  rw [rm_len] at this
  exact this
theorem good_rT {g : Nat → Int} : (rT n g).good = true := good_R fun _ _ => rfl
theorem nds_rT {g : Nat → Int} : (rT n g).nds ≤ n + 1 := by
  have := nds_R (n := n) (g := fun v => D.int (g v)) (c := 1) fun _ _ => Nat.le_refl _
  show D.ndss _ + 1 ≤ _
  omega
theorem good_tT {f : Tb} : (tT n f).good = true := good_R fun _ _ => good_rT
theorem nds_tT {f : Tb} (h : sz n) : (tT n f).nds < 1000000 := by
  have h1 := nds_R (n := n) (g := fun u => rT n (f u)) (c := n + 1) fun _ _ => nds_rT
  have h2 : n * (n + 1) ≤ 999 * 1000 := Nat.mul_le_mul (by omega) (by omega)
  show D.ndss _ + 1 < _
  omega
theorem nds_bl {b : Bool} : (D.bl b).nds < 1000000 := by
  show 1 < 1000000
  decide
theorem good_oD {o : Option Tb} : (oD n o).good = true := by
  cases o with
  | none => rfl
  | some f => exact good_tT
theorem nds_oD {o : Option Tb} (h : sz n) : (oD n o).nds < 1000000 := by
  cases o with
  | none => show 1 < 1000000; decide
  | some f => exact nds_tT h
theorem tT_congr {f g : Tb} (h : Eqt n f g) : tT n f = tT n g := by
  refine congrArg D.tup (List.map_congr_left fun u hu => congrArg D.tup (List.map_congr_left fun v hv => ?_))
  rw [h u v (List.mem_range.mp hu) (List.mem_range.mp hv)]
theorem oD_congr : ∀ {o o' : Option Tb}, oEq n o o' → oD n o = oD n o'
  | none, none, _ => rfl
  | some f, some g, h => tT_congr h
theorem plain_R {g : Nat → D} (h : ∀ k, k < n → (g k).plain = true) : D.plains ((List.range n).map g) = true := by
  rw [plains_iff]
  intro d hd
  obtain ⟨k, hk, rfl⟩ := List.mem_map.mp hd
  exact h k (List.mem_range.mp hk)
theorem dep_R {g : Nat → D} {c : Nat} (h : ∀ k, k < n → (g k).dep ≤ c) : D.deps ((List.range n).map g) ≤ c := by
  rw [deps_le]
  intro d hd
  obtain ⟨k, hk, rfl⟩ := List.mem_map.mp hd
  exact h k (List.mem_range.mp hk)
/-- if not _law_same(a, b), where both are one datum -/
theorem ep_same (ha : Ed B Γ ta d) (hb : Ed B Γ tb d) (hg : d.good = true) (hn : d.nds < 1000000) : Ep B Γ (tNot (tTru K (tCall sp_same [] E0 (tCons ta (tCons tb tNil))))) False :=
  (ep_not (ep_tru (b := true) (ev_f (ea_2 ha hb) fun ds e => ⟨d, e, ⟨hg, hn⟩, fun r e => by rw [e]; rfl⟩))).eq (by simp)
theorem ed_same (ha : Ed B Γ ta d) (hb : Ed B Γ tb d) (hg : d.good = true) (hn : d.nds < 1000000) : Ed B Γ (tCall sp_same [] E0 (tCons ta (tCons tb tNil))) (.bl true) :=
  ev_f (ea_2 ha hb) fun ds e => ⟨d, e, ⟨hg, hn⟩, fun r e => by rw [e]; rfl⟩
theorem ep_or0 {t u : TT} (h : Ep B Γ t False) (k : Ep B Γ u False) : Ep B Γ (tOr t u) False := (ep_or h fun _ => k).eq (by simp)
theorem tr_pass0 {tt : TT} {t u : TS} {E : Post} (h : Ep B Γ tt False) (k : Tr B Γ u E) : Tr B Γ (tSeq (tIfS tt t tNext) u) E := tr_pass h id k
theorem ed_and {x : Bool} {y : D} (ha : Ed B Γ ta (.bl true)) (hb : Ed B Γ tb y) : Ed B Γ (tAndT K ta tb) y := fun as H σ S Q q => by
  refine ha as H σ S _ fun da v H1 e S1 e1 r1 => ?_
  subst e
  have ev := rep_v.mp r1
  subst ev
  exact ⟨true, rfl, iteT (hb as H1 σ S1 Q fun d v H2 p2 S2 e2 => q d v H2 p2 S2 (e1.trans e2))⟩
/-! ### held -/
abbrev sp_held : Sp := HSp (α := Nat × Tb × List (Nat → Int)) (fun x => [tT (x.1 + 1) x.2.1, pL (x.1 + 1) x.2.2]) (fun x => sz (x.1 + 1) ∧ ∀ p ∈ x.2.2, p 0 = 0) (fun _ r => r = .known (.bl true))
theorem rd_held : ∀ vs H Q E, sp_held vs H Q E → t__law_held K sp_draw sp_same sp_holds sp_lholds { nx := fun _ H' => Q .non H', rt := Q } (L2.start N__law_held vs) H := fun vs H Q E h => by
  refine body_H (n := 2) (fun _ => rfl) (by decide) (fun x B h hp hB => ?_) h
  obtain ⟨n, f, pts⟩ := x
  obtain ⟨hn, h0⟩ := hp
  have hn : sz (n + 1) := hn
  have h0 : ∀ p ∈ pts, p 0 = 0 := h0
  refine tr_forP (pts := pts) (g := fun p => rT (n + 1) p) (js := [3]) (edt_lst (ev_var rfl))
    (fun i Γ' => ∃ a b c, Γ' = [.d (.v (.ref h.1)), .d (tT (n + 1) f), .d (pL (n + 1) pts), a, b, c]) ⟨_, _, _, rfl⟩ ?_ ?_
  · rintro i p _ gg hi ⟨a, b, c, rfl⟩
    have p0 : p 0 = 0 := h0 p (List.mem_of_getElem? hi)
    refine tg_name ?_
    refine tr_asg (P := fun d => ∃ b : Bool, d = .bl b ∧ (b = true ↔ Kept (n + 1) f p)) (ev_f (ea_2 (ev_var rfl) (ev_var rfl)) fun ds e => ⟨(n + 1, f, p), e, hn, fun r ⟨b, e, z⟩ => ⟨b, by rw [e]; rfl, z⟩⟩) fun d ⟨b1, e, hb1⟩ => ?_
    subst e
    have ht : ∀ (t : Bool) (d : D), (∃ b : Bool, d = .bl b ∧ (b = true ↔ Kept (n + 1) f p)) → d = .bl b1 := fun t d ⟨b2, e, hb2⟩ => by
      rw [e]
      congr 2
      cases b1 <;> cases b2 <;> simp_all
    have cut : ∀ (B : Base) (Γ : List DL.Slot), Γ[3]? = some (.d (rT (n + 1) p)) → Ed B Γ (tSl (xSl K) (tVar 3) (tPart (tC (.int 1))) tNoPart) (.tup ((List.range n).map fun k => .int (p (k + 1)))) := fun B Γ h => (ed_slFrom (k := 1) (ev_var h) ev_c).eq (by rw [drop1])
    refine tr_if (eb_eqAny (ei_draw hB rfl ev_c (by decide) (by decide)) (Ei.of ev_c)) (fun _ => ?_) (fun _ => ?_)
    · refine tr_pass0 (ep_same (d := .bl b1) (Ev.imp (P := fun d => ∃ b : Bool, d = .bl b ∧ (b = true ↔ Kept (n + 1) f p)) (ev_f (ea_2 (ev_var rfl) (ed_tupleT (cut _ _ rfl))) fun ds e => ⟨(n, f, p, true), e, ⟨hn, p0⟩, fun r ⟨b, e, z⟩ => ⟨b, by rw [e]; rfl, z⟩⟩) (ht true)) (ev_var rfl) rfl nds_bl) ?_
      exact tr_next (tr_next ⟨_, _, _, rfl⟩)
    · refine tr_new (edn_listT (cut _ _ rfl)) (tr_freeze (i := 5) rfl ?_)
      refine tr_pass0 (ep_or0 (ep_same (d := .bl b1) (Ev.imp (P := fun d => ∃ b : Bool, d = .bl b ∧ (b = true ↔ Kept (n + 1) f p)) (ev_fk (ea_2 (ev_var rfl) (ev_var rfl)) fun ds e => ⟨(n, f, p, false), fun H vs r => ?_, ⟨hn, p0⟩, fun r ⟨b, e, z⟩ => ⟨b, by rw [e]; rfl, z⟩⟩) (ht false)) (ev_var rfl) rfl nds_bl)
        ((ep_neD (d := .lst ((List.range n).map fun k => .int (p (k + 1)))) (e := .lst ((List.range n).map fun k => .int (p (k + 1)))) (ev_var rfl) (edn_listT (cut _ _ rfl)).ed (plain_R fun _ _ => rfl) (plain_R fun _ _ => rfl) ?_ ?_).eq (by simp))) ?_
      · subst e
        obtain ⟨v, w, e, r1, r2⟩ := reps_2 r
        subst e
        exact .cons r2 (.cons r1 .nil)
      · show D.deps _ + 1 ≤ 64
        have := dep_R (n := n) (g := fun k => D.int (p (k + 1))) (c := 0) fun _ _ => Nat.le_refl _
        omega
      · show D.deps _ + 1 ≤ 64
        have := dep_R (n := n) (g := fun k => D.int (p (k + 1))) (c := 0) fun _ _ => Nat.le_refl _
        omega
      · exact tr_next (tr_next ⟨_, _, _, rfl⟩)
  · rintro _ ⟨a, b, c, rfl⟩
    exact tr_ret ev_c fun d e => by rw [e]
/-! ### asked -/
abbrev spD (n : Nat) (f : Tb) : List D := (List.range n).map fun k => .tup [.int (-(f 0 (k + 1))), .int (f (k + 1) 0)]
abbrev loD (n : Nat) (f : Tb) : D := .tup ((List.range n).map fun k => .int (-(f 0 (k + 1))))
abbrev hiD (n : Nat) (f : Tb) : D := .tup ((List.range n).map fun k => .int (f (k + 1) 0))
abbrev duesD (n : Nat) (f g : Tb) (o : Option Tb) (b1 b2 : Bool) : List D := [.lst (spD n f), loD n f, hiD n f, oD (n + 1) o, tT (n + 1) (mx f g), .bl b1, .bl b2]
abbrev AskT := Nat × Tb × Tb × Option Tb × Bool × Bool
abbrev sp_asked : Sp := FSp (α := AskT) (fun x => [tT (x.1 + 1) x.2.1, tT (x.1 + 1) x.2.2.1, .lst (duesD x.1 x.2.1 x.2.2.1 x.2.2.2.1 x.2.2.2.2.1 x.2.2.2.2.2)])
  (fun x => (sz (x.1 + 1) ∧ 1 ≤ x.1) ∧ Closed (x.1 + 1) x.2.2.1 ∧ IsCl (x.1 + 1) (mn x.2.1 x.2.2.1) x.2.2.2.1 ∧ (x.2.2.2.2.1 = true ↔ Leq (x.1 + 1) x.2.1 x.2.2.1) ∧ (x.2.2.2.2.2 = true ↔ Leq (x.1 + 1) x.2.2.1 x.2.1)) (fun _ r => r = .known (.bl true))
theorem rd_asked : ∀ vs H Q E, sp_asked vs H Q E → t__law_asked K sp_same sp_lies_within sp_met sp_joined sp_greatest_of sp_least_of sp_spans { nx := fun _ H' => Q .non H', rt := Q } (L2.start N__law_asked vs) H := fun vs H Q E h => by
  refine body_F (n := 3) (fun _ => rfl) (by decide) (fun x B hp hB => ?_) h
  obtain ⟨n, f, g, o, b1, b2⟩ := x
  obtain ⟨⟨hn, n0⟩, hc, ho, hb1, hb2⟩ := hp
  have hn : sz (n + 1) := hn
  have n0 : 1 ≤ n := n0
  have hc : Closed (n + 1) g := hc
  have ho : IsCl (n + 1) (mn f g) o := ho
  have hb1 : b1 = true ↔ Leq (n + 1) f g := hb1
  have hb2 : b2 = true ↔ Leq (n + 1) g f := hb2
  have n1 : n < 1000 := by omega
  have gsp : D.goods (spD n f) = true := good_R fun _ _ => rfl
  have nsp : D.ndss (spD n f) ≤ n * 3 := nds_R fun _ _ => Nat.le_refl _
  have glo : (loD n f).good = true := good_R fun _ _ => rfl
  have nlo : D.ndss ((List.range n).map fun k => D.int (-(f 0 (k + 1)))) ≤ n * 1 := nds_R fun _ _ => Nat.le_refl _
  have ghi : (hiD n f).good = true := good_R fun _ _ => rfl
  have nhi : D.ndss ((List.range n).map fun k => D.int (f (k + 1) 0)) ≤ n * 1 := nds_R fun _ _ => Nat.le_refl _
  have spn : ∀ (B : Base) (Γ : List DL.Slot), Γ[0]? = some (.d (tT (n + 1) f)) → EdN B Γ (tCall sp_spans [] E0 (tCons (tVar 0) tNil)) (spD n f) := fun B Γ h => evn_f (ea_1 (ev_var h)) fun ds e => ⟨(n, f), e, hn, fun r e => ⟨_, e, rfl⟩⟩
  refine tr_forR (n := 2) (g := fun u => .int (u : Nat)) (js := [3]) (edt_rngN ev_c (by decide))
    (fun i Γ' => ∃ a b, Γ' = [.d (tT (n + 1) f), .d (tT (n + 1) g), .d (.lst (duesD n f g o b1 b2)), a, b]) ⟨_, _, rfl⟩ ?_ ?_
  · rintro i _ gg hi ⟨a, b, rfl⟩
    refine tg_name (tr_new (spn _ _ rfl) ?_)
    refine tr_pass0 (eb_ro (i := 4) rfl (ep_same (d := .lst (spD n f)) (ev_var rfl) (ed_ixL (i := 0) (ev_var rfl) ev_c rfl) gsp (by show D.ndss _ + 1 < _; omega))) ?_
    refine tr_setItem (i := 4) (z := 0) (j := 0) rfl (P := fun d => d = .non) ev_c ev_c (ixN_nat (k := 0) (by rw [rm_len]; omega)) fun d e => ?_
    subst e
    refine tr_append (i := 4) rfl (P := fun _ => True) ((ed_tup (ea_2 ev_c ev_c) (by simp [sizeLine])).imp fun _ _ => trivial) (by rw [List.length_set, rm_len]; exact Nat.lt_trans n1 (by decide)) fun d _ => ?_
    exact tr_next ⟨_, _, rfl⟩
  rintro _ ⟨a, b, rfl⟩
  refine tr_pass0 (ep_or0 (ep_same (d := loD n f) (ev_f (ea_1 (ev_var rfl)) fun ds e => ⟨(n, f), e, hn, fun r e => by rw [e]; rfl⟩) (ed_ixL (i := 1) (ev_var rfl) ev_c rfl) glo (by show D.ndss _ + 1 < _; omega)) (ep_same (d := hiD n f) (ev_f (ea_1 (ev_var rfl)) fun ds e => ⟨(n, f), e, hn, fun r e => by rw [e]; rfl⟩) (ed_ixL (i := 2) (ev_var rfl) ev_c rfl) ghi (by show D.ndss _ + 1 < _; omega))) ?_
  have kw1 : ∀ {H : Hp} {x : D} {vs : List V}, Reps H [x] vs → Reps H [x] (gV_spans_0 [] vs) ∧ Reps H [x] (gV_least_of_0 [] vs) ∧ Reps H [x] (gV_greatest_of_0 [] vs) := fun {H x vs} r => by
    obtain ⟨v, e, r1⟩ := reps_1 r
    subst e
    exact ⟨.cons r1 .nil, .cons r1 .nil, .cons r1 .nil⟩
  refine tr_new (ds := [.lst (spD n f), loD n f, hiD n f]) (edn_lst (ead_cons (ev_fk (ea_1 (ev_var rfl)) fun ds e => ⟨(n, f), fun H vs r => (kw1 (e ▸ r)).1, hn, fun r e => by rw [e]; rfl⟩) (ead_cons (ev_fk (ea_1 (ev_var rfl)) fun ds e => ⟨(n, f), fun H vs r => (kw1 (e ▸ r)).2.1, hn, fun r e => by rw [e]; rfl⟩) (ead_cons (ev_fk (ea_1 (ev_var rfl)) fun ds e => ⟨(n, f), fun H vs r => (kw1 (e ▸ r)).2.2, hn, fun r e => by rw [e]; rfl⟩) ea_nil))) (by simp [sizeLine])) (tr_freeze (i := 4) rfl ?_)
  refine tr_pass0 (ep_same (d := .lst [.lst (spD n f), loD n f, hiD n f]) (ev_var rfl) (EdN.ed (edn_slTo (k := 3) (ds := duesD n f g o b1 b2) (ev_var rfl) ev_c)) ?_ ?_) ?_
  · show (D.goods (spD n f) && ((loD n f).good && ((hiD n f).good && true))) = true
    rw [gsp, glo, ghi]
    rfl
  · show (D.ndss (spD n f) + 1) + ((D.ndss _ + 1) + ((D.ndss _ + 1) + 0)) + 1 < 1000000
    omega
  have kw2 : ∀ {H : Hp} {x y : D} {vs : List V}, Reps H [x, y] vs → Reps H [y, x] (gV_met_10 [] vs) ∧ Reps H [y, x] (gV_joined_10 [] vs) ∧ Reps H [y, x] (gV_lies_within_10 [] vs) := fun {H x y vs} r => by
    obtain ⟨v, w, e, r1, r2⟩ := reps_2 r
    subst e
    exact ⟨.cons r2 (.cons r1 .nil), .cons r2 (.cons r1 .nil), .cons r2 (.cons r1 .nil)⟩
  have met1 : ∀ d, (∃ o', d = oD (n + 1) o' ∧ Clo (n + 1) (mn f g) o') → d = oD (n + 1) o := fun d ⟨o', e, c⟩ => by rw [e]; exact oD_congr (c.isCl.uniq ho)
  have met2 : ∀ d, (∃ o', d = oD (n + 1) o' ∧ Clo (n + 1) (mn g f) o') → d = oD (n + 1) o := fun d ⟨o', e, c⟩ => by
    rw [e]
    exact oD_congr ((c.isCl.congr (g := mn f g) fun u v _ _ => Int.min_comm _ _).uniq ho)
  refine tr_pass0 (ep_or0 (ep_same (d := oD (n + 1) o) (Ev.imp (P := fun d => ∃ o', d = oD (n + 1) o' ∧ Clo (n + 1) (mn f g) o') (ev_f (ea_2 (ev_var rfl) (ev_var rfl)) fun ds e => ⟨(n + 1, f, g), e, hn, fun r ⟨o', e, c⟩ => ⟨o', by rw [e]; rfl, c⟩⟩) met1) (ed_ixL (i := 3) (ev_var rfl) ev_c rfl) good_oD (nds_oD hn))
    (ep_same (d := oD (n + 1) o) (Ev.imp (P := fun d => ∃ o', d = oD (n + 1) o' ∧ Clo (n + 1) (mn g f) o') (ev_fk (ea_2 (ev_var rfl) (ev_var rfl)) fun ds e => ⟨(n + 1, g, f), fun H vs r => (kw2 (e ▸ r)).1, hn, fun r ⟨o', e, c⟩ => ⟨o', by rw [e]; rfl, c⟩⟩) met2) (ed_ixL (i := 3) (ev_var rfl) ev_c rfl) good_oD (nds_oD hn))) ?_
  refine tr_pass0 (ep_or0 (ep_same (d := tT (n + 1) (mx f g)) (ev_f (ea_2 (ev_var rfl) (ev_var rfl)) fun ds e => ⟨(n + 1, f, g), e, hn, fun r e => by rw [e]; rfl⟩) (ed_ixL (i := 4) (ev_var rfl) ev_c rfl) good_tT (nds_tT hn))
    (ep_same (d := tT (n + 1) (mx f g)) (ev_fk (ea_2 (ev_var rfl) (ev_var rfl)) fun ds e => ⟨(n + 1, g, f), fun H vs r => (kw2 (e ▸ r)).2.1, hn, fun r e => by rw [e]; exact tT_congr fun u v _ _ => Int.max_comm _ _⟩) (ed_ixL (i := 4) (ev_var rfl) ev_c rfl) good_tT (nds_tT hn))) ?_
  have lw : ∀ (f g : Tb) (b1 : Bool), (b1 = true ↔ Leq (n + 1) f g) → ∀ d : D, (∃ b : Bool, d = D.bl b ∧ (b = true ↔ Leq (n + 1) f g)) → d = D.bl b1 := fun f g b1 hb1 d ⟨b, e, c⟩ => by
    rw [e]
    congr 2
    cases b <;> cases b1 <;> simp_all
  refine tr_pass0 (ep_or0 (ep_same (d := .bl b1) (Ev.imp (P := fun d => ∃ b : Bool, d = .bl b ∧ (b = true ↔ Leq (n + 1) f g)) (ev_f (ea_2 (ev_var rfl) (ev_var rfl)) fun ds e => ⟨(n + 1, f, g), e, hn, fun r ⟨b, e, c⟩ => ⟨b, by rw [e]; rfl, c⟩⟩) (lw f g b1 hb1)) (ed_ixL (i := 5) (ev_var rfl) ev_c rfl) rfl nds_bl)
    (ep_same (d := .bl b2) (Ev.imp (P := fun d => ∃ b : Bool, d = .bl b ∧ (b = true ↔ Leq (n + 1) g f)) (ev_fk (ea_2 (ev_var rfl) (ev_var rfl)) fun ds e => ⟨(n + 1, g, f), fun H vs r => (kw2 (e ▸ r)).2.2, hn, fun r ⟨b, e, c⟩ => ⟨b, by rw [e]; rfl, c⟩⟩) (lw g f b2 hb2)) (ed_ixL (i := 6) (ev_var rfl) ev_c rfl) rfl nds_bl)) ?_
  refine tr_ret (ed_and (x := true) (ed_same (d := .bl true) (Ev.imp (P := fun d => ∃ b : Bool, d = .bl b ∧ (b = true ↔ Leq (n + 1) f f)) (ev_f (ea_2 (ev_var rfl) (ev_var rfl)) fun ds e => ⟨(n + 1, f, f), e, hn, fun r ⟨b, e, c⟩ => ⟨b, by rw [e]; rfl, c⟩⟩) (lw f f true ⟨fun _ _ _ _ _ => Int.le_refl _, fun _ => rfl⟩)) ev_c rfl (by decide))
    (ed_same (d := tT (n + 1) g) (Ev.imp (P := fun d => ∃ o', d = oD (n + 1) o' ∧ Clo (n + 1) (mn g g) o') (ev_f (ea_2 (ev_var rfl) (ev_var rfl)) fun ds e => ⟨(n + 1, g, g), e, hn, fun r ⟨o', e, c⟩ => ⟨o', by rw [e]; rfl, c⟩⟩) fun d ⟨o', e, c⟩ => ?_) (ev_var rfl) good_tT (nds_tT hn))) fun d e => by rw [e]
  rw [e]
  exact oD_congr (o' := some g) ((c.isCl.congr (g := g) fun u v _ _ => Int.min_self _).uniq (IsCl.self hc))
end
end K52

set_option maxHeartbeats 2000000
namespace K52
open PySem PySem.Spec PyProof.Rows L2 DL
section
variable {K : PySem.W.Frag} {B : Base} {Γ : List DL.Slot} {ta tb te : TE} {d : D} {n : Nat} {ds : List D} {u : TS} {E : Post}
/-! ### drawn data -/
theorem ei_pick {ns : List Int} {p : Int → Prop} (ha : Ed B Γ ta (.lst (ns.map D.int))) (hb : Ei B Γ tb p) (h : ∀ i, p i → 0 ≤ i ∧ i < ns.length) : Ei B Γ (tOp (rIx K) ta tb) (fun i => i ∈ ns) := ev_ixL ha hb fun i pi => by
  obtain ⟨h0, h1⟩ := h i pi
  refine ⟨h0, by rw [List.length_map]; exact h1, fun d hd => ?_⟩
  rw [List.getElem?_map] at hd
  cases e : ns[i.toNat]? with
  | none => rw [e] at hd; cases hd
  | some x => rw [e] at hd; cases hd; exact ⟨x, rfl, List.mem_of_getElem? e⟩
theorem ev_catT1 {xs : List D} {p : Int → Prop} (ha : Ed B Γ ta (.tup xs)) (hb : Ei B Γ tb p) (hz : xs.length < 1000000) : Ev B Γ (tOp (xAdd K) ta (tTup (tCons tb tNil))) (fun d => ∃ x, d = .tup (xs ++ [.int x]) ∧ p x) :=
  ev_op (Pb := fun d => ∃ ds, d = .tup ds ∧ ∃ x, ds = [.int x] ∧ p x) ha (ev_tup (ea_cons (Pt := fun ds => ds = []) hb ea_nil fun d ds ⟨x, e, px⟩ e2 => ⟨x, by rw [e, e2], px⟩) fun ds ⟨x, e, _⟩ => by rw [e]; simp [sizeLine]) fun da db e ⟨ds, e2, x, e3, px⟩ => by
    subst e e2 e3
    intro M H a b hM ra rb Q q
    exact od_catT (by rw [List.length_singleton]; simp [sizeLine]; omega) M H a b hM ra rb Q fun d z H' e => q d z H' ⟨x, e, px⟩
theorem edt_from1 {x : Int} (ha : Ed B Γ ta (.int x)) (hx : x = (n : Int) + 1) : Edt B Γ (iRngX (tCons (tC (.int 1)) (tCons ta tNil))) ((List.range n).map fun j => .int ((j + 1 : Nat) : Int)) := by
  have h := edt_rngX (B := B) (Γ := Γ) (ta := tC (.int 1)) (i := 1) (j := x) ev_c ha
  have e : rngD 1 (x - 1).toNat = (List.range n).map fun j => .int ((j + 1 : Nat) : Int) := by
    unfold rngD
    rw [show (x - 1).toNat = n by omega]
    refine List.map_congr_left fun j _ => ?_
    rw [show (1 : Int) + (j : Nat) = ((j + 1 : Nat) : Int) by omega]
  rw [e] at h
  exact h
theorem rT_get {f : Nat → Int} {g : Nat → Int} (h : rT n f = rT n g) : ∀ u, u < n → f u = g u := fun u hu => by
  have h1 : (List.range n).map (fun v => D.int (f v)) = (List.range n).map fun v => D.int (g v) := D.tup.inj h
  have h2 := congrArg (fun l => l[u]?) h1
  simp only [range_get hu] at h2
  exact V.int.inj (D.v.inj (Option.some.inj h2))
theorem tT_get {f g : Tb} (h : tT n f = tT n g) : Eqt n f g := fun u v hu hv => by
  have h1 : (List.range n).map (fun u => rT n (f u)) = (List.range n).map fun u => rT n (g u) := D.tup.inj h
  have h2 := congrArg (fun l => l[u]?) h1
  simp only [range_get hu] at h2
  exact rT_get (Option.some.inj h2) v hv
theorem plain_tT {f : Tb} : (tT n f).plain = true := plain_R fun _ _ => plain_R fun _ _ => rfl
theorem dep_tT {f : Tb} : (tT n f).dep ≤ 64 := by
  have h1 := dep_R (n := n) (g := fun u => rT n (f u)) (c := 1) fun u _ => by
    have := dep_R (n := n) (g := fun v => D.int (f u v)) (c := 0) fun _ _ => Nat.le_refl _
    show D.deps _ + 1 ≤ 1
    omega
  show D.deps _ + 1 ≤ 64
  omega
/-! ### an entry of the list of lists in slot r -/
theorem ed_oIx {r i j a b : Nat} {G : Ot} (h0 : Γ[r]? = some (.mat (oT n G))) (hi : r ≠ i) (hj : r ≠ j) (h1 : Γ[i]? = some (.d (.int (a : Nat)))) (h2 : Γ[j]? = some (.d (.int (b : Nat)))) (ha : a < n) (hb : b < n) : Ed B Γ (tOp (rIx K) (tOp (rIx K) (tVar r) (tVar i)) (tVar j)) (oI (G a b)) := by
  have l0 : r < Γ.length := (List.getElem?_eq_some_iff.mp h0).1
  have k : Ed B (Γ.set r (.d (.lst ((List.range n).map fun u => .lst ((List.range n).map fun v => oI (G u v)))))) (tOp (rIx K) (tOp (rIx K) (tVar r) (tVar i)) (tVar j)) (oI (G a b)) :=
    ed_ixLR (g := fun b => oI (G a b)) (ed_ixLR (g := fun u => .lst ((List.range n).map fun v => oI (G u v))) (ev_var (List.getElem?_set_self l0)) (ev_var (by rw [List.getElem?_set_ne hi]; exact h1)) ha) (ev_var (by rw [List.getElem?_set_ne hj]; exact h2)) hb
  cases e : G a b with
  | none => rw [e] at k; exact ed_roT (i := r) (n := n) (F := fun a b => oI (G a b)) h0 k
  | some c => rw [e] at k; exact ed_roT (i := r) (n := n) (F := fun a b => oI (G a b)) h0 k
theorem ep_oLess {r i j c a b : Nat} {G : Ot} {z : Int} (h0 : Γ[r]? = some (.mat (oT n G))) (hi : r ≠ i) (hj : r ≠ j) (h1 : Γ[i]? = some (.d (.int (a : Nat)))) (h2 : Γ[j]? = some (.d (.int (b : Nat)))) (h3 : Γ[c]? = some (.d (.int z))) (ha : a < n) (hb : b < n) :
    Ep B Γ (tOr (tTest (tOp xIs (tOp (rIx K) (tOp (rIx K) (tVar r) (tVar i)) (tVar j)) (tC .non))) (tTest (tOp (xLt K) (tVar c) (tOp (rIx K) (tOp (rIx K) (tVar r) (tVar i)) (tVar j))))) (∀ x, G a b = some x → z < x) := by
  have q := ed_oIx (K := K) (B := B) h0 hi hj h1 h2 ha hb
  cases ec : G a b with
  | none =>
    rw [ec] at q
    exact (ep_or (e := True) (ep_non q) (fun z => absurd rfl z)).eq (by simp)
  | some x =>
    rw [ec] at q
    exact (ep_or (ep_non q) (fun z => ep_lt (ev_var h3) q)).eq (by simp [oI])
/-! ### a table of many unknowns -/
def wit (w : Nat → Int) : Tb := fun u v => w u - w v
theorem wit_closed {w : Nat → Int} : Closed n (wit w) := ⟨fun u _ => by unfold wit; omega, fun u v m _ _ _ => by unfold wit; omega⟩
def dgO (k : Nat) : Ot := fun a b => if a = b ∧ a < k then some 0 else none
theorem dgO_succ {k : Nat} : setO (dgO k) k k 0 = dgO (k + 1) := by
  funext a b
  unfold setO dgO
  by_cases e : a = k ∧ b = k
  · rw [if_pos e, if_pos ⟨by omega, by omega⟩]
  · rw [if_neg e]
    by_cases e2 : a = b ∧ a < k
    · rw [if_pos e2, if_pos ⟨e2.1, by omega⟩]
    · rw [if_neg e2, if_neg (by omega)]
theorem ev_tie {a b : Nat} {p q r : Nat} {t : TE} {P : Int → Prop} (h1 : Ed B Γ ta (.int (a : Nat))) (h2 : Ed B Γ tb (.int (b : Nat))) (h3 : Ei B Γ t P) : Ev B Γ (tTup (tCons ta (tCons tb (tCons t tNil)))) (fun d => ∃ c, d = dTie (a, b, c) ∧ P c) :=
  (ev_tup (P := fun ds => ∃ c, ds = [D.int (a : Nat), D.int (b : Nat), D.int c] ∧ P c) (ea_cons (Pa := fun d => d = .int (a : Nat)) (Pt := fun ds => ∃ c, ds = [.int (b : Nat), .int c] ∧ P c) h1 (ea_cons (Pa := fun d => d = .int (b : Nat)) (Pt := fun ds => ∃ c, ds = [.int c] ∧ P c) h2
    (ea_cons (Pt := fun ds => ds = []) h3 ea_nil (fun d ds ⟨c, e, hc⟩ e2 => ⟨c, by rw [e, e2], hc⟩)) fun d ds e ⟨c, e2, hc⟩ => ⟨c, by rw [e, e2], hc⟩) fun d ds e ⟨c, e2, hc⟩ => ⟨c, by rw [e, e2], hc⟩) (fun ds ⟨c, e, _⟩ => by rw [e]; simp [sizeLine])).imp fun d ⟨ds, e, c, e2, hc⟩ => ⟨c, by rw [e, e2]; rfl, hc⟩
abbrev sp_wideTable : Sp := HSp (α := Nat × (Nat → Int)) (fun x => [rT (x.1 + 1) x.2]) (fun x => (1 ≤ x.1 ∧ sz (x.1 + 1)) ∧ x.2 0 = 0) (fun x r => ∃ g, r = .known (tT (x.1 + 1) g) ∧ Closed (x.1 + 1) g)
theorem rd_wideTable : ∀ vs H Q E, sp_wideTable vs H Q E → t__law_wide_table K sp_lclosing sp_ties sp_draw { nx := fun _ H' => Q .non H', rt := Q } (L2.start N__law_wide_table vs) H := fun vs H Q E h => by
  refine body_H (n := 1) (fun _ => rfl) (by decide) (fun x B h hp hB => ?_) h
  obtain ⟨m, w⟩ := x
  obtain ⟨⟨hm, hn⟩, w0⟩ := hp
  have hm : 1 ≤ m := hm
  have w0 : w 0 = 0 := w0
  have hn : sz (m + 1) := hn
  generalize hN : m + 1 = n at hn
  show Tr B ([.d (.v (.ref h.1)), .d (rT n w), .no, .no, .no, .no, .no, .no, .no]) _ _
  have nn : n < 1000 := hn
  refine tr_set (ed_lenTR (g := fun u => .int (w u)) (ev_var rfl)) ?_
  refine tr_mat (rows := oT n fun _ _ => none) (evm_lc (g := fun u => .int (u : Nat)) (js := [5]) (edt_rngN (ev_var rfl) (szr hn)) (szs hn) (by simp) fun u hu B' hB => tg_name (edn_lcR (g := fun u => .int (u : Nat)) (f := fun _ => .non) (js := [4]) (edt_rngN (ev_var rfl) (szr hn)) (szs hn) (by simp) fun v hv B2 hB2 => tg_name ev_c)) ?_
  refine tr_new edn_nil ?_
  refine tr_forR (n := n) (g := fun u => .int (u : Nat)) (js := [7]) (edt_rngN (ev_var rfl) (szr hn))
    (fun k Γ' => ∃ ts s7, Γ' = [.d (.v (.ref h.1)), .d (rT n w), .d (.int (n : Nat)), .mat (oT n (dgO k)), .no, .no, .own (ts.map dTie), s7, .no] ∧ TiesAt n w ts ∧ (∀ j, 1 ≤ j → j < k → (∃ c, (j, 0, c) ∈ ts) ∧ ∃ c, (0, j, c) ∈ ts) ∧ ts.length ≤ 2 * k)
    ⟨[], .no, by rw [show (fun _ _ => none : Ot) = dgO 0 by funext a b; unfold dgO; rw [if_neg (by omega)]]; rfl, fun t h => (nomatch h), fun j _ h => absurd h (Nat.not_lt_zero j), Nat.le_refl _⟩ ?_ ?_
  · rintro k _ gg hk ⟨ts, s7, rfl, hts, hin, hlen⟩
    refine tg_name ?_
    refine tr_tabSet (i := 3) (n := n) (F := fun a b => oI (dgO k a b)) (u := k) (v := k) rfl (P := fun d => d = .int 0) ev_c (ev_var rfl) (ev_var rfl) hk hk fun d ed => ?_
    subst ed
    rw [oT_set, dgO_succ]
    refine tr_ifP (ep_gt (ev_var rfl) ev_c) (fun h0 => ?_) (fun h0 => ?_)
    · have h0 : 0 < k := by omega
      refine tr_append (i := 6) rfl (P := fun d => ∃ c, d = dTie (k, 0, c) ∧ w k - w 0 ≤ c) (ev_tie (p := 0) (q := 0) (r := 0) (ev_var rfl) (b := 0) ev_c (ei_add (Ei.of (ed_ixTR (g := fun u => .int (w u)) (ev_var rfl) (ev_var rfl) hk)) (ei_draw hB rfl ev_c (by decide) (by decide)) fun i j e ⟨j0, _⟩ => by omega)) (by rw [List.length_map]; exact Nat.lt_of_le_of_lt hlen (Nat.lt_trans (show 2 * k < 3000 by omega) (by decide))) ?_
      rintro d ⟨c1, rfl, hc1⟩
      refine tr_append (i := 6) rfl (P := fun d => ∃ c, d = dTie (0, k, c) ∧ w 0 - w k ≤ c) (ev_tie (p := 0) (q := 0) (r := 0) (a := 0) ev_c (ev_var rfl) (ei_sub (ei_draw hB rfl ev_c (by decide) (by decide)) (Ei.of (ed_ixTR (g := fun u => .int (w u)) (ev_var rfl) (ev_var rfl) hk)) fun i j ⟨j0, _⟩ e => by omega)) (by rw [List.length_append, List.length_map]; exact Nat.lt_of_le_of_lt (Nat.add_le_add_right hlen 1) (Nat.lt_trans (show 2 * k + 1 < 3000 by omega) (by decide))) ?_
      rintro d ⟨c2, rfl, hc2⟩
      refine tr_next (tr_next ⟨ts ++ [(k, 0, c1)] ++ [(0, k, c2)], .d (.int (k : Nat)), by rw [List.map_append, List.map_append]; rfl, fun t ht => ?_, fun j j1 j2 => ?_, ?_⟩)
      · rcases List.mem_append.mp ht with z | z
        · rcases List.mem_append.mp z with z | z
          · exact hts t z
          · rw [List.mem_singleton.mp z]; exact ⟨⟨hk, by show 0 < n; omega⟩, hc1⟩
        · rw [List.mem_singleton.mp z]; exact ⟨⟨by show 0 < n; omega, hk⟩, hc2⟩
      · by_cases e : j = k
        · subst e
          exact ⟨⟨c1, by simp⟩, ⟨c2, by simp⟩⟩
        · obtain ⟨⟨a, ha⟩, ⟨b, hb⟩⟩ := hin j j1 (by omega)
          exact ⟨⟨a, by simp [ha]⟩, ⟨b, by simp [hb]⟩⟩
      · rw [List.length_append, List.length_append, List.length_singleton, List.length_singleton]
        omega
    · refine tr_next (tr_next ⟨ts, .d (.int (k : Nat)), rfl, hts, fun j j1 j2 => ?_, by omega⟩)
      have : k = 0 := by omega
      omega
  rintro _ ⟨ts, s7, rfl, hts, hin, hlen⟩
  refine tr_freeze (i := 6) rfl ?_
  refine tr_own (R := fun ds => ∃ ts2, ds = ts2.map dTie ∧ TiesAt n w ts2 ∧ (∀ j, 1 ≤ j → j < n → (∃ c, (j, 0, c) ∈ ts2) ∧ ∃ c, (0, j, c) ∈ ts2)) (evn_catL (P := fun ds => ds = ts.map dTie) (R := fun ds => ∃ ts3, ds = ts3.map dTie ∧ ts3.length ≤ 12 ∧ TiesAt n w ts3) ((ev_var rfl : Ed _ _ _ (.lst (ts.map dTie))).imp fun d e => ⟨_, e, rfl⟩)
    (ev_h hB rfl (ead_cons (ev_var rfl) (ead_cons ev_c (ead_cons ev_c ea_nil))) fun ds e => ⟨(m, w, 12, 4), by rw [e, ← hN]; rfl, ⟨hm, by rw [hN]; exact hn, (by decide : 12 ≤ 1000), (by decide : (0 : Int) < 4), (by decide : (4 : Int) < 1073741824)⟩, fun r ⟨ts3, e, l3, h3⟩ => ⟨ts3.map dTie, by rw [e]; rfl, ts3, rfl, l3, by rw [← hN]; exact h3⟩⟩)
    fun xs ys e ⟨ts3, e3, l3, h3⟩ => ⟨?_, ts ++ ts3, ?_, fun t ht => (List.mem_append.mp ht).elim (hts t) (h3 t), fun j j1 j2 => ?_⟩) ?_
  · rw [e, e3, List.length_map, List.length_map]
    exact Nat.le_trans (Nat.add_le_add hlen l3) (Nat.le_trans (show 2 * n + 12 ≤ 3000 by omega) (by decide))
  · rw [e, e3, List.map_append]
  · obtain ⟨⟨a, ha⟩, ⟨b, hb⟩⟩ := hin j j1 j2
    exact ⟨⟨a, by simp [ha]⟩, ⟨b, by simp [hb]⟩⟩
  rintro ds ⟨ts2, rfl, h2, hin2⟩
  refine tr_freeze (i := 6) rfl ?_
  refine tr_forP (pts := ts2) (g := dTie) (js := [5, 4, 8]) (edt_lst (ev_var rfl))
    (fun i Γ' => ∃ G s4 s5 s8, Γ' = [.d (.v (.ref h.1)), .d (rT n w), .d (.int (n : Nat)), .mat (oT n G), s4, s5, .d (.lst (ts2.map dTie)), s7, s8] ∧ Und n (wit w) G ∧ (∀ u, u < n → G u u = some 0) ∧ ∀ t ∈ ts2.take i, G t.1 t.2.1 ≠ none)
    ⟨dgO n, .no, .no, .no, rfl, fun u v c hu hv e => ?_, fun u hu => by unfold dgO; rw [if_pos ⟨rfl, hu⟩], fun t ht => by simp at ht⟩ ?_ ?_
  · unfold dgO at e
    split at e
    · rename_i z
      cases e
      obtain ⟨z, _⟩ := z
      subst z
      unfold wit
      omega
    · cases e
  · rintro i ⟨u, v, c⟩ _ gg hi ⟨G, s4, s5, s8, rfl, hU, hD, hG⟩
    obtain ⟨⟨hu, hv⟩, hc⟩ := h2 _ (List.mem_of_getElem? hi)
    have hu : u < n := hu
    have hv : v < n := hv
    have hc : w u - w v ≤ c := hc
    refine tg_tup rfl (tgs_cons (tg_name (tgs_cons (tg_name (tgs_cons (tg_name (tgs_nil ?_)))))))
    refine tr_ifP (ep_oLess (G := G) (z := c) (a := u) (b := v) rfl (by decide) (by decide) rfl rfl rfl hu hv) (fun z => ?_) (fun z => ?_)
    · refine tr_tabSet (i := 3) (n := n) (F := fun a b => oI (G a b)) (u := u) (v := v) rfl (P := fun d => d = .int c) (ev_var rfl) (ev_var rfl) (ev_var rfl) hu hv fun d ed => ?_
      subst ed
      rw [oT_set]
      have huv : u ≠ v := fun e => by
        subst e
        have := z 0 (hD u hu)
        omega
      refine tr_next (tr_next ⟨setO G u v c, .d (.int (v : Nat)), .d (.int (u : Nat)), .d (.int c), rfl, fun a b x ha hb e => ?_, fun a ha => ?_, fun t ht => ?_⟩)
      · unfold setO at e
        split at e
        · rename_i q
          obtain ⟨q1, q2⟩ := q
          subst q1 q2
          cases e
          exact hc
        · exact hU a b x ha hb e
      · unfold setO
        rw [if_neg (fun q => huv (q.1.symm.trans q.2))]
        exact hD a ha
      · unfold setO
        rw [List.take_add_one, hi] at ht
        split
        · exact fun z => nomatch z
        · rename_i q
          rcases List.mem_append.mp ht with y | y
          · exact hG t y
          · have : t = (u, v, c) := by simpa using y
            subst this
            exact absurd ⟨rfl, rfl⟩ q
    · refine tr_next (tr_next ⟨G, .d (.int (v : Nat)), .d (.int (u : Nat)), .d (.int c), rfl, hU, hD, fun t ht => ?_⟩)
      rw [List.take_add_one, hi] at ht
      rcases List.mem_append.mp ht with y | y
      · exact hG t y
      · have : t = (u, v, c) := by simpa using y
        subst this
        intro e
        exact z fun x e2 => by
          have e : G u v = none := e
          rw [e] at e2
          cases e2
  · rintro _ ⟨G, s4, s5, s8, rfl, hU, hD, hG⟩
    rw [List.take_length] at hG
    have S : Star n G := ⟨by omega, fun k hk => ?_, fun k hk => ?_, fun u hu => ⟨0, Int.le_refl _, hD u hu⟩⟩
    · refine tr_retM (i := 3) (x := (n, G)) rfl ⟨hn, S⟩ fun r ⟨o, e, c⟩ => ?_
      cases o with
      | none => exact absurd ⟨wit w, wit_closed, hU⟩ c
      | some g => exact ⟨g, by rw [e]; rfl, c.1⟩
    · by_cases e : k = 0
      · subst e
        rw [hD 0 hk]
        exact (fun z => nomatch z)
      · obtain ⟨⟨a, ha⟩, _⟩ := hin2 k (by omega) hk
        exact hG _ ha
    · by_cases e : k = 0
      · subst e
        rw [hD 0 hk]
        exact (fun z => nomatch z)
      · obtain ⟨_, ⟨a, ha⟩⟩ := hin2 k (by omega) hk
        exact hG _ ha
end
end K52

set_option maxHeartbeats 4000000
namespace K52
open PySem PySem.Spec PyProof.Rows L2 DL
section
variable {K : PySem.W.Frag} {B : Base} {Γ : List DL.Slot} {n : Nat}
theorem tens {j : Int} (h : CPow 10 j) : Ed B Γ (tOp xPow (tC (.int 10)) (tC (.int j))) (.int (10 ^ j.toNat)) := ed_pow ev_c ev_c h
theorem cut_join {w : Nat → Int} {k : Nat} {x : Int} (hk : k < n) : ((List.range n).map fun u => D.int (w u)).take k ++ [D.int x] ++ ((List.range n).map fun u => D.int (w u)).drop (k + 1) = (List.range n).map fun u => D.int (ext w k x u) := by
  refine List.ext_getElem? fun j => ?_
  have lt : (((List.range n).map fun u => D.int (w u)).take k).length = k := by rw [List.length_take, rm_len]; omega
  by_cases h1 : j < k
  · rw [List.append_assoc, List.getElem?_append_left (by omega), List.getElem?_take, if_pos h1, range_get (by omega), range_get (by omega)]
    unfold ext
    rw [if_neg (by omega)]
  · rw [List.append_assoc, List.getElem?_append_right (by omega), lt]
    by_cases h2 : j = k
    · subst h2
      rw [Nat.sub_self, range_get hk]
      unfold ext
      rw [if_pos rfl]
      rfl
    · rw [List.getElem?_append_right (by rw [List.length_singleton]; omega), List.length_singleton, List.getElem?_drop, show k + 1 + (j - k - 1) = j by omega]
      by_cases h3 : j < n
      · rw [range_get h3, range_get h3]
        unfold ext
        rw [if_neg h2]
      · rw [List.getElem?_eq_none (by rw [rm_len]; omega), List.getElem?_eq_none (by rw [rm_len]; omega)]
theorem mx_eq {f g : Tb} : Eqt n (mx f g) g ↔ Leq n f g := ⟨fun h u v hu hv => by
    have : max (f u v) (g u v) = g u v := h u v hu hv
    omega, fun h u v hu hv => by
    have := h u v hu hv
    show max (f u v) (g u v) = g u v
    omega⟩
theorem mx_eq' {f g : Tb} : Eqt n (mx f g) f ↔ Leq n g f := ⟨fun h u v hu hv => by
    have : max (f u v) (g u v) = f u v := h u v hu hv
    omega, fun h u v hu hv => by
    have := h u v hu hv
    show max (f u v) (g u v) = f u v
    omega⟩
abbrev sp_wide : Sp := HSp (α := Unit) (fun _ => []) (fun _ => True) (fun _ r => r = .known (.bl true))
theorem rd_wide : ∀ vs H Q E, sp_wide vs H Q E → t__law_wide K sp_held sp_draw sp_asked sp_lclosing sp_wideTable { nx := fun _ H' => Q .non H', rt := Q } (L2.start N__law_wide vs) H := fun vs H Q E h => by
  refine body_H (n := 0) (fun _ => rfl) (by decide) (fun x B h hp hB => ?_) h
  refine tr_asg (ei_pick (ns := [5, 6, 7, 8, 5, 6, 7, 12]) (edn_lst (ead_cons ev_c (ead_cons ev_c (ead_cons ev_c (ead_cons ev_c (ead_cons ev_c (ead_cons ev_c (ead_cons ev_c (ead_cons ev_c ea_nil)))))))) (by simp [sizeLine])).ed (ei_draw hB rfl ev_c (by decide) (by decide)) fun i hi => hi) fun d ⟨i, e, hi⟩ => ?_
  obtain ⟨m, rfl, m1, m2⟩ : ∃ m : Nat, i = (m : Int) ∧ 1 ≤ m ∧ m ≤ 12 := ⟨i.toNat, by
    simp at hi
    omega⟩
  subst e
  have hn : sz (m + 1) := by show m + 1 < 1000; omega
  have hs := szs hn
  refine tr_set (ed_tup (ea_1 ev_c) (by simp [sizeLine])) (tr_set (ed_tup (ea_1 ev_c) (by simp [sizeLine])) ?_)
  refine tr_forR (n := m) (g := fun u => .int (u : Nat)) (js := [4]) (edt_rngN (ev_var rfl) (by omega))
    (fun k Γ' => ∃ (w b : Nat → Int) (s4 s5 : DL.Slot), Γ' = [.d (.v (.ref h.1)), .d (.int (m : Nat)), .d (rT (k + 1) w), .d (rT (k + 1) b), s4, s5, .no, .no, .no, .no, .no, .no, .no, .no, .no, .no] ∧ w 0 = 0 ∧ b 0 = 0) ⟨fun _ => 0, fun _ => 0, .no, .no, rfl, rfl, rfl⟩ ?_ ?_
  · rintro k _ gg hk ⟨w, b, s4, s5, rfl, w0, b0⟩
    refine tg_name ?_
    have ten30 : ∀ (B : Base) (Γ : List DL.Slot), Ed B Γ (tOp xPow (tC (.int 10)) (tC (.int 30))) (.int (10 ^ (30 : Int).toNat)) := fun B Γ => tens ⟨by decide, by decide, by decide⟩
    have ten9 : ∀ (B : Base) (Γ : List DL.Slot), Ed B Γ (tOp xPow (tC (.int 10)) (tC (.int 9))) (.int (10 ^ (9 : Int).toNat)) := fun B Γ => tens ⟨by decide, by decide, by decide⟩
    refine tr_asg (ei_add (r := fun _ => True) (ei_pick (ns := [0, -7, 10 ^ (30 : Int).toNat, -(10 ^ (9 : Int).toNat)]) (edn_lst (ead_cons ev_c (ead_cons (ed_neg ev_c) (ead_cons (ten30 _ _) (ead_cons (ed_neg (ten9 _ _)) ea_nil)))) (by simp [sizeLine])).ed (ei_draw hB rfl ev_c (by decide) (by decide)) fun i hi => hi) (ei_draw hB rfl ev_c (by decide) (by decide)) fun _ _ _ _ => trivial) fun d ⟨x, e, _⟩ => ?_
    subst e
    have lk : ((List.range (k + 1)).map fun u => D.int (w u)).length < 1000000 := by rw [rm_len]; omega
    have lk2 : ((List.range (k + 1)).map fun u => D.int (b u)).length < 1000000 := by rw [rm_len]; omega
    refine tr_asg (ev_catT1 (xs := (List.range (k + 1)).map fun u => D.int (w u)) (ev_var rfl) (Ei.of (ev_var rfl)) lk) fun d ⟨y, e, _⟩ => ?_
    subst e
    refine tr_asg (ev_catT1 (xs := (List.range (k + 1)).map fun u => D.int (b u)) (ev_var rfl) (ei_add (r := fun _ => True) (Ei.of (ev_var rfl)) (ei_pick (ns := [0, 0, 0, 1, -1]) (edn_lst (ead_cons ev_c (ead_cons ev_c (ead_cons ev_c (ead_cons ev_c (ead_cons (ed_neg ev_c) ea_nil))))) (by simp [sizeLine])).ed (ei_draw hB rfl ev_c (by decide) (by decide)) fun i hi => hi) fun _ _ _ _ => trivial) lk2) fun d ⟨z, e, _⟩ => ?_
    subst e
    rw [rT_ext, rT_ext]
    exact tr_next ⟨ext w (k + 1) y, ext b (k + 1) z, .d (.int (k : Nat)), .d (.int x), rfl, by unfold ext; rw [if_neg (by omega)]; exact w0, by unfold ext; rw [if_neg (by omega)]; exact b0⟩
  rintro _ ⟨w, b, s4, s5, rfl, w0, b0⟩
  refine tr_asg (P := fun d => ∃ g, d = tT (m + 1) g ∧ Closed (m + 1) g) (ev_h hB rfl (ea_1 (ev_var rfl)) fun ds e => ⟨(m, w), e, ⟨⟨m1, hn⟩, w0⟩, fun r ⟨g, e, c⟩ => ⟨g, by rw [e]; rfl, c⟩⟩) fun d ⟨f, e, cf⟩ => ?_
  subst e
  refine tr_asg (P := fun d => ∃ g, d = tT (m + 1) g ∧ Closed (m + 1) g) (ev_h hB rfl (ea_1 (ev_var rfl)) fun ds e => ⟨(m, b), e, ⟨⟨m1, hn⟩, b0⟩, fun r ⟨g, e, c⟩ => ⟨g, by rw [e]; rfl, c⟩⟩) fun d ⟨g, e, cg⟩ => ?_
  subst e
  refine tr_set ((ed_add (ev_var rfl) ev_c).eq (e := .int ((m + 1 : Nat) : Int)) (by rw [Int.natCast_add]; rfl)) ?_
  have m0 : m < sizeLine := Nat.lt_trans (by omega) hs
  have f0 : ∀ (B : Base) (Γ : List DL.Slot) (k : Nat), Γ[6]? = some (.d (tT (m + 1) f)) → Γ[4]? = some (.d (.int ((k + 1 : Nat) : Int))) → k < m → Ed B Γ (tOp (rIx K) (tOp (rIx K) (tVar 6) (tC (.int 0))) (tVar 4)) (.int (f 0 (k + 1))) := fun B Γ k h6 h4 hk => ed_ixTR (g := fun v => .int (f 0 v)) (ed_ixT0 (g := fun u => rT (m + 1) (f u)) (ev_var h6) (Nat.succ_pos m)) (ev_var h4) (by omega)
  have f1 : ∀ (B : Base) (Γ : List DL.Slot) (k : Nat), Γ[6]? = some (.d (tT (m + 1) f)) → Γ[4]? = some (.d (.int ((k + 1 : Nat) : Int))) → k < m → Ed B Γ (tOp (rIx K) (tOp (rIx K) (tVar 6) (tVar 4)) (tC (.int 0))) (.int (f (k + 1) 0)) := fun B Γ k h6 h4 hk => ed_ixT0 (g := fun v => .int (f (k + 1) v)) (ed_ixTR (g := fun u => rT (m + 1) (f u)) (ev_var h6) (ev_var h4) (by omega)) (Nat.succ_pos m)
  have sizeE : ((m + 1 : Nat) : Int) = (m : Int) + 1 := by omega
  refine tr_new (ds := [.lst (spD m f)]) (edn_lst (ea_1 (edn_lcR (f := fun k => .tup [.int (-(f 0 (k + 1))), .int (f (k + 1) 0)]) (g := fun k => .int ((k + 1 : Nat) : Int)) (js := [4]) (edt_from1 (ev_var rfl) sizeE) m0 (by simp) fun k hk B' hB' => tg_name (ed_tup (ea_2 (ed_neg (f0 _ _ k rfl rfl hk)) (f1 _ _ k rfl rfl hk)) (by simp [sizeLine]))).ed) (by simp [sizeLine])) ?_
  refine tr_append (i := 9) rfl (P := fun d => d = loD m f) (ed_tuple (edn_lcR (f := fun k => .int (-(f 0 (k + 1)))) (g := fun k => .int ((k + 1 : Nat) : Int)) (js := [4]) (edt_from1 (ev_var rfl) sizeE) m0 (by simp) fun k hk B' hB' => tg_name (ed_neg (f0 _ _ k rfl rfl hk))).ed) (by simp [sizeLine]) fun d e => ?_
  subst e
  refine tr_append (i := 9) rfl (P := fun d => d = hiD m f) (ed_tuple (edn_lcR (f := fun k => .int (f (k + 1) 0)) (g := fun k => .int ((k + 1 : Nat) : Int)) (js := [4]) (edt_from1 (ev_var rfl) sizeE) m0 (by simp) fun k hk B' hB' => tg_name (f1 _ _ k rfl rfl hk)).ed) (by simp [sizeLine]) fun d e => ?_
  subst e
  refine tr_new edn_nil (tr_asMat (i := 10) rfl (tr_new edn_nil ?_))
  have fx : ∀ (B : Base) (Γ : List DL.Slot) (u v : Nat), Γ[6]? = some (.d (tT (m + 1) f)) → Γ[12]? = some (.d (.int (u : Nat))) → Γ[13]? = some (.d (.int (v : Nat))) → u < m + 1 → v < m + 1 → Ed B Γ (tOp (rIx K) (tOp (rIx K) (tVar 6) (tVar 12)) (tVar 13)) (.int (f u v)) := fun B Γ u v h1 h2 h3 hu hv => ed_ixTR (g := fun v => .int (f u v)) (ed_ixTR (g := fun u => rT (m + 1) (f u)) (ev_var h1) (ev_var h2) hu) (ev_var h3) hv
  have gx : ∀ (B : Base) (Γ : List DL.Slot) (u v : Nat), Γ[7]? = some (.d (tT (m + 1) g)) → Γ[12]? = some (.d (.int (u : Nat))) → Γ[13]? = some (.d (.int (v : Nat))) → u < m + 1 → v < m + 1 → Ed B Γ (tOp (rIx K) (tOp (rIx K) (tVar 7) (tVar 12)) (tVar 13)) (.int (g u v)) := fun B Γ u v h1 h2 h3 hu hv => ed_ixTR (g := fun v => .int (g u v)) (ed_ixTR (g := fun u => rT (m + 1) (g u)) (ev_var h1) (ev_var h2) hu) (ev_var h3) hv
  refine tr_forR (n := m + 1) (g := fun u => .int (u : Nat)) (js := [12]) (edt_rngN (ev_var rfl) (szr hn))
    (fun u Γ' => ∃ s12 : DL.Slot, Γ' = [.d (.v (.ref h.1)), .d (.int (m : Nat)), .d (rT (m + 1) w), .d (rT (m + 1) b), s4, s5, .d (tT (m + 1) f), .d (tT (m + 1) g), .d (.int ((m + 1 : Nat) : Int)), .own [.lst (spD m f), loD m f, hiD m f], .mat ((List.range u).map fun u => (List.range (m + 1)).map fun v => .int (mn f g u v)), .own ((List.range u).map fun u => rT (m + 1) (mx f g u)), s12, .no, .no, .no]) ⟨.no, rfl⟩ ?_ ?_
  · rintro u _ gg hu ⟨s12, rfl⟩
    refine tg_name ?_
    refine tr_matApp (i := 10) (ds := (List.range (m + 1)).map fun v => .int (mn f g u v)) rfl (edn_lcR (f := fun v => .int (mn f g u v)) (g := fun v => .int (v : Nat)) (js := [13]) (edt_rngN (ev_var rfl) (szr hn)) hs (by simp) fun v hv B' hB' => tg_name (ed_min2 (fx _ _ u v rfl rfl rfl hu hv) (gx _ _ u v rfl rfl rfl hu hv))) (by rw [rm_len]; omega) ?_
    refine tr_append (i := 11) rfl (P := fun d => d = rT (m + 1) (mx f g u)) (ed_tuple (edn_lcR (f := fun v => .int (mx f g u v)) (g := fun v => .int (v : Nat)) (js := [13]) (edt_rngN (ev_var rfl) (szr hn)) hs (by simp) fun v hv B' hB' => tg_name (ed_max2 (fx _ _ u v rfl rfl rfl hu hv) (gx _ _ u v rfl rfl rfl hu hv))).ed) (by rw [rm_len]; omega) fun d e => ?_
    subst e
    refine tr_next ⟨.d (.int (u : Nat)), ?_⟩
    rw [range_snoc (m := u), range_snoc (m := u)]
    rfl
  rintro _ ⟨s12, rfl⟩
  have St : Star (m + 1) (fun u v => some (mn f g u v)) := ⟨Nat.succ_pos m, fun _ _ z => (nomatch z), fun _ _ z => (nomatch z), fun u hu => ⟨mn f g u u, by
    show min (f u u) (g u u) ≤ 0
    rw [cf.1 u hu, cg.1 u hu]
    decide, rfl⟩⟩
  refine tr_appM (i := 10) (j := 9) (x := (m + 1, fun u v => some (mn f g u v))) (P := fun d => ∃ o, d = oD (m + 1) o ∧ IsCl (m + 1) (mn f g) o) rfl rfl (by simp [sizeLine]) ⟨hn, St⟩ (fun r ⟨o, e, c⟩ => ⟨oD (m + 1) o, e, o, rfl, ocl_int c⟩) fun d ⟨o, e, ho⟩ => ?_
  subst e
  refine tr_freeze (i := 11) rfl ?_
  refine tr_append (i := 9) rfl (P := fun d => d = tT (m + 1) (mx f g)) (ed_tuple (ev_var rfl)) (by simp [sizeLine]) fun d e => ?_
  subst e
  refine tr_append (i := 9) rfl (ed_eqD (d := tT (m + 1) (mx f g)) (e := tT (m + 1) g) (ed_tuple (ev_var rfl)) (ev_var rfl) plain_tT plain_tT dep_tT dep_tT) (by simp [sizeLine]) fun d ⟨b1, e, hb1⟩ => ?_
  subst e
  refine tr_append (i := 9) rfl (ed_eqD (d := tT (m + 1) (mx f g)) (e := tT (m + 1) f) (ed_tuple (ev_var rfl)) (ev_var rfl) plain_tT plain_tT dep_tT dep_tT) (by simp [sizeLine]) fun d ⟨b2, e, hb2⟩ => ?_
  subst e
  have hb1' : b1 = true ↔ Leq (m + 1) f g := hb1.trans ⟨fun e => mx_eq.mp (tT_get e), fun z => tT_congr (mx_eq.mpr z)⟩
  have hb2' : b2 = true ↔ Leq (m + 1) g f := hb2.trans ⟨fun e => mx_eq'.mp (tT_get e), fun z => tT_congr (mx_eq'.mpr z)⟩
  refine tr_freeze (i := 9) rfl ?_
  refine tr_pass0 ((ep_not (ep_tru (b := true) (ev_f (ead_cons (ev_var rfl) (ea_2 (ev_var rfl) (ev_var rfl))) fun ds e => ⟨(m, f, g, o, b1, b2), e, ⟨⟨hn, m1⟩, cg, ho, hb1', hb2'⟩, fun r e => by rw [e]; rfl⟩))).eq (by simp)) ?_
  refine tr_new (ds := [w, b].map fun p => rT (m + 1) p) (edn_lst (ea_2 (ev_var rfl) (ev_var rfl)) (by simp [sizeLine])) ?_
  refine tr_forR (n := 5) (g := fun u => .int (u : Nat)) (js := [15]) (edt_rngN ev_c (by decide))
    (fun i Γ' => ∃ (pts : List (Nat → Int)) (s4 s15 : DL.Slot), Γ' = [.d (.v (.ref h.1)), .d (.int (m : Nat)), .d (rT (m + 1) w), .d (rT (m + 1) b), s4, s5, .d (tT (m + 1) f), .d (tT (m + 1) g), .d (.int ((m + 1 : Nat) : Int)), .d (.lst (duesD m f g o b1 b2)), .no, .d (.lst ((List.range (m + 1)).map fun u => rT (m + 1) (mx f g u))), s12, .no, .own (pts.map fun p => rT (m + 1) p), s15] ∧ (∀ p ∈ pts, p 0 = 0) ∧ pts.length = 2 + i)
    ⟨[w, b], s4, .no, rfl, fun p hp => by
      rcases List.mem_cons.mp hp with z | z
      · rw [z]; exact w0
      · rw [List.mem_singleton.mp z]; exact b0, rfl⟩ ?_ ?_
  · rintro i _ gg hi ⟨pts, s4, s15, rfl, hp, hl⟩
    refine tg_name ?_
    refine tr_asg (ei_add (r := fun k => 1 ≤ k ∧ k ≤ m) (Ei.of ev_c) (ei_draw hB rfl (ev_var rfl) (by omega) (by omega)) fun i j e ⟨j0, j1⟩ => by omega) fun d ⟨k, e, k1, k2⟩ => ?_
    subst e
    obtain ⟨k, rfl⟩ := Int.eq_ofNat_of_zero_le (show 0 ≤ k by omega)
    have hk : k < m + 1 := by omega
    have hB' : (B.gh gg).hd = some h := hB
    refine tr_append (i := 14) rfl (P := fun d => ∃ x, d = rT (m + 1) (ext w k x)) ?_ (by rw [List.length_map, hl]; exact Nat.lt_trans (show 2 + i < 100 by omega) (by decide)) ?_
    · refine ev_op (Pa := fun d => ∃ x, d = .tup (((List.range (m + 1)).map fun u => D.int (w u)).take k ++ [.int x]) ∧ True) (Pb := fun d => d = .tup (((List.range (m + 1)).map fun u => D.int (w u)).drop (k + 1))) (ev_catT1 (ed_slTo (k := k) (ev_var rfl) (ev_var rfl)) (ei_sub (r := fun _ => True) (ei_add (r := fun _ => True) (Ei.of (ed_ixTR (g := fun u => .int (w u)) (ev_var rfl) (ev_var rfl) hk)) (ei_draw (m := 13) hB' rfl ev_c (by decide) (by decide)) fun _ _ _ _ => trivial) (Ei.of ev_c) fun _ _ _ _ => trivial) ?_) ((ed_slFrom (k := k + 1) (ev_var rfl) (by
        have := ed_add (K := K) (B := B.gh gg) (Γ := ([.d (.v (.ref h.1)), .d (.int (m : Nat)), .d (rT (m + 1) w), .d (rT (m + 1) b), s4, s5, .d (tT (m + 1) f), .d (tT (m + 1) g), .d (.int ((m + 1 : Nat) : Int)), .d (.lst (duesD m f g o b1 b2)), .no, .d (.lst ((List.range (m + 1)).map fun u => rT (m + 1) (mx f g u))), s12, .no, .own (pts.map fun p => rT (m + 1) p), s15].set 15 (.d (.int (i : Nat)))).set 4 (.d (.int (k : Nat)))) (ta := tVar 4) (tb := tC (.int 1)) (i := (k : Nat)) (j := 1) (ev_var rfl) ev_c
        exact this))) fun da db ⟨x, e1, _⟩ e2 => ?_
      · rw [List.length_take, rm_len]
        omega
      · subst e1 e2
        intro M H a b hM ra rb Q q
        refine od_catT (by rw [List.length_append, List.length_take, List.length_drop, rm_len, List.length_singleton]; simp [sizeLine]; omega) M H a b hM ra rb Q fun d z H' e => q d z H' ⟨x, ?_⟩
        rw [e, cut_join hk]
    · rintro d ⟨x, rfl⟩
      refine tr_next ⟨pts ++ [ext w k x], .d (.int (k : Nat)), .d (.int (i : Nat)), by rw [List.map_append]; rfl, fun p hp2 => ?_, by rw [List.length_append, hl]; rfl⟩
      rcases List.mem_append.mp hp2 with z | z
      · exact hp p z
      · rw [List.mem_singleton.mp z]
        unfold ext
        rw [if_neg (by omega)]
        exact w0
  · rintro _ ⟨pts, s4, s15, rfl, hp, hl⟩
    exact tr_freeze (i := 14) rfl (tr_ret (P := fun d => d = .bl true) (ev_h hB rfl (ea_2 (ev_var rfl) (ev_var rfl)) fun ds e => ⟨(m, f, pts), e, ⟨hn, hp⟩, fun r e => by rw [e]; rfl⟩) fun d e => by rw [e])
end
end K52

set_option maxHeartbeats 4000000
namespace K52
open PySem PySem.Spec PyProof.Rows L2 DL
/-! ### the points of a lot -/
section
variable {low : Nat → Int} {sizes : Nat → Nat} {m n : Nat} {p q w : Nat → Int} {ts ts2 : List Tie} {pts A : List (Nat → Int)} {u v : Nat} {h : Tb}
theorem mem_grow {k : Nat} : q ∈ grow low sizes k pts ↔ ∃ r ∈ pts, ∃ s, s < sizes k ∧ q = ext r (k + 1) (low k + (s : Nat)) := by
  unfold grow
  rw [List.mem_flatten]
  constructor
  · rintro ⟨l, hl, hq⟩
    obtain ⟨r, hr, rfl⟩ := List.mem_map.mp hl
    obtain ⟨s, hs, rfl⟩ := List.mem_map.mp hq
    exact ⟨r, hr, s, List.mem_range.mp hs, rfl⟩
  · rintro ⟨r, hr, s, hs, rfl⟩
    exact ⟨_, List.mem_map.mpr ⟨r, hr, rfl⟩, List.mem_map.mpr ⟨s, List.mem_range.mpr hs, rfl⟩⟩
theorem box_in : ∀ m, ∀ q, q ∈ box low sizes m → q 0 = 0 ∧ ∀ k, k < m → low k ≤ q (k + 1) ∧ q (k + 1) < low k + (sizes k : Nat)
  | 0, q, hq => by
    rw [List.mem_singleton.mp hq]
    exact ⟨rfl, fun k hk => absurd hk (Nat.not_lt_zero k)⟩
  | m + 1, q, hq => by
    obtain ⟨r, hr, s, hs, rfl⟩ := mem_grow.mp hq
    obtain ⟨r0, r1⟩ := box_in m r hr
    refine ⟨by unfold ext; rw [if_neg (by omega)]; exact r0, fun k hk => ?_⟩
    unfold ext
    by_cases e : k = m
    · subst e
      rw [if_pos rfl]
      omega
    · rw [if_neg (by omega)]
      exact r1 k (by omega)
theorem in_box (p0 : p 0 = 0) : ∀ m, (∀ k, k < m → low k ≤ p (k + 1) ∧ p (k + 1) < low k + (sizes k : Nat)) → ∃ q, q ∈ box low sizes m ∧ ∀ u, u < m + 1 → q u = p u
  | 0, _ => ⟨fun _ => 0, List.mem_singleton_self _, fun u hu => by rw [show u = 0 by omega, p0]⟩
  | m + 1, hp => by
    obtain ⟨r, hr, e⟩ := in_box p0 m fun k hk => hp k (by omega)
    obtain ⟨h1, h2⟩ := hp m (by omega)
    refine ⟨ext r (m + 1) (low m + ((p (m + 1) - low m).toNat : Nat)), mem_grow.mpr ⟨r, hr, _, by omega, rfl⟩, fun u hu => ?_⟩
    unfold ext
    by_cases z : u = m + 1
    · rw [if_pos z, z]
      omega
    · rw [if_neg z]
      exact e u (by omega)
theorem box_ne (hs : ∀ k, k < m → 1 ≤ sizes k) : box low sizes m ≠ [] := by
  obtain ⟨q, hq, _⟩ := in_box (low := low) (sizes := sizes) (p := fun u => if u = 0 then 0 else low (u - 1)) rfl m fun k hk => by
    have := hs k hk
    rw [if_neg (by omega), Nat.add_sub_cancel]
    omega
  exact List.ne_nil_of_mem hq
theorem keeps_iff : keepsB p ts = true ↔ ∀ t ∈ ts, p t.1 - p t.2.1 ≤ t.2.2 := by
  unfold keepsB
  rw [List.all_eq_true]
  exact ⟨fun h t ht => of_decide_eq_true (h t ht), fun h t ht => decide_eq_true (h t ht)⟩
theorem tab_le (hp : p ∈ pts) : p u - p v ≤ tab pts u v := (lmax_mem (List.ne_nil_of_mem (List.mem_map.mpr ⟨p, hp, rfl⟩))).2 _ (List.mem_map.mpr ⟨p, hp, rfl⟩)
theorem tab_at (hne : pts ≠ []) : ∃ p, p ∈ pts ∧ tab pts u v = p u - p v := by
  have := (lmax_mem (ns := pts.map fun p => p u - p v) (by simpa using hne)).1
  obtain ⟨p, hp, e⟩ := List.mem_map.mp this
  exact ⟨p, hp, e.symm⟩
theorem tab_closed (hne : pts ≠ []) : Closed n (tab pts) := by
  refine ⟨fun u _ => ?_, fun u v m _ _ _ => ?_⟩
  · obtain ⟨p, _, e⟩ := tab_at (u := u) (v := u) hne
    rw [e]
    omega
  · obtain ⟨p, hp, e⟩ := tab_at (u := u) (v := v) hne
    have h1 := tab_le (u := u) (v := m) hp
    have h2 := tab_le (u := m) (v := v) hp
    omega
/-- a closed table has a point for each of its differences -/
theorem point_of (hc : Closed n h) (h0 : 0 < n) (hv : v < n) : ∃ p : Nat → Int, p 0 = 0 ∧ Kept n h p ∧ ∀ u, u < n → p u - p v = h u v := by
  refine ⟨fun w => h w v - h 0 v, by simp, fun a b ha hb => ?_, fun u hu => ?_⟩
  · have := hc.2 a v b ha hv hb
    show h a v - h 0 v - (h b v - h 0 v) ≤ h a b
    omega
  · have := hc.1 v hv
    show h u v - h 0 v - (h v v - h 0 v) = h u v
    omega
/-- the values of a lot and what its table lets in are the same -/
theorem kept_in (hn : n = m + 1) (ht : TiesOk n ts) (hne : (box low sizes m).filter (fun p => keepsB p ts) ≠ []) (p0 : p 0 = 0) (hk : Kept n (tab ((box low sizes m).filter fun p => keepsB p ts)) p) :
    ∃ q, q ∈ (box low sizes m).filter (fun p => keepsB p ts) ∧ ∀ u, u < n → q u = p u := by
  generalize hO : (box low sizes m).filter (fun p => keepsB p ts) = one at *
  have mem : ∀ q ∈ one, q ∈ box low sizes m ∧ keepsB q ts = true := fun q hq => by rw [← hO] at hq; exact List.mem_filter.mp hq
  obtain ⟨q, hq, e⟩ := in_box (low := low) (sizes := sizes) p0 m fun k hk2 => by
    obtain ⟨a, ha, ea⟩ := tab_at (u := k + 1) (v := 0) hne
    obtain ⟨b, hb, eb⟩ := tab_at (u := 0) (v := k + 1) hne
    obtain ⟨a0, a1⟩ := box_in m a (mem a ha).1
    obtain ⟨b0, b1⟩ := box_in m b (mem b hb).1
    have h1 := hk (k + 1) 0 (by omega) (by omega)
    have h2 := hk 0 (k + 1) (by omega) (by omega)
    have h3 := a1 k hk2
    have h4 := b1 k hk2
    omega
  rw [← hn] at e
  refine ⟨q, ?_, e⟩
  rw [← hO]
  refine List.mem_filter.mpr ⟨hq, keeps_iff.mpr fun t htm => ?_⟩
  obtain ⟨h1, h2⟩ := ht t htm
  rw [e _ h1, e _ h2]
  obtain ⟨r, hr, er⟩ := tab_at (u := t.1) (v := t.2.1) hne
  have h3 := keeps_iff.mp (mem r hr).2 t htm
  have h4 := hk t.1 t.2.1 h1 h2
  omega
theorem kept_tr {f g : Tb} (h : Kept n f p) (l : Leq n f g) : Kept n g p := fun u v hu hv => Int.le_trans (h u v hu hv) (l u v hu hv)
theorem keeps_congr (ht : TiesOk n ts) (e : ∀ u, u < n → q u = p u) : keepsB q ts = keepsB p ts := by
  have h : keepsB q ts = true ↔ keepsB p ts = true := by
    rw [keeps_iff, keeps_iff]
    constructor
    · intro z t htm
      obtain ⟨h1, h2⟩ := ht t htm
      have := z t htm
      rw [e _ h1, e _ h2] at this
      exact this
    · intro z t htm
      obtain ⟨h1, h2⟩ := ht t htm
      rw [e _ h1, e _ h2]
      exact z t htm
  cases a : keepsB q ts <;> cases b : keepsB p ts <;> simp_all
section
variable (hn : n = m + 1) (h1 : TiesOk n ts) (h2 : TiesOk n ts2)
abbrev lotOf (low : Nat → Int) (sizes : Nat → Nat) (m : Nat) (ts : List Tie) : List (Nat → Int) := (box low sizes m).filter fun p => keepsB p ts
include hn h1 h2
theorem common_of {p : Nat → Int} (e1 : lotOf low sizes m ts ≠ []) (e2 : lotOf low sizes m ts2 ≠ []) (p0 : p 0 = 0) (k1 : Kept n (tab (lotOf low sizes m ts)) p) (k2 : Kept n (tab (lotOf low sizes m ts2)) p) :
    ∃ q, q ∈ (lotOf low sizes m ts).filter (fun p => keepsB p ts2) ∧ ∀ u, u < n → q u = p u := by
  obtain ⟨q, hq, e⟩ := kept_in hn h1 e1 p0 k1
  obtain ⟨r, hr, e'⟩ := kept_in hn h2 e2 p0 k2
  refine ⟨q, List.mem_filter.mpr ⟨hq, ?_⟩, e⟩
  rw [keeps_congr (q := q) (p := r) h2 fun u hu => by rw [e u hu, e' u hu]]
  exact (List.mem_filter.mp hr).2
theorem met_some (e1 : lotOf low sizes m ts ≠ []) (e2 : lotOf low sizes m ts2 ≠ []) (hne : (lotOf low sizes m ts).filter (fun p => keepsB p ts2) ≠ []) :
    IsCl n (mn (tab (lotOf low sizes m ts)) (tab (lotOf low sizes m ts2))) (some (tab ((lotOf low sizes m ts).filter fun p => keepsB p ts2))) := by
  refine ⟨tab_closed hne, fun u v hu hv => ?_, fun h a b u v hu hv => ?_⟩
  · obtain ⟨p, hp, e⟩ := tab_at (u := u) (v := v) hne
    obtain ⟨p1, p2⟩ := List.mem_filter.mp hp
    have l1 := tab_le (u := u) (v := v) p1
    have l2 := tab_le (u := u) (v := v) (pts := lotOf low sizes m ts2) (List.mem_filter.mpr ⟨(List.mem_filter.mp p1).1, p2⟩)
    rw [e]
    show p u - p v ≤ min _ _
    omega
  · obtain ⟨p, p0, pk, pe⟩ := point_of (v := v) a (by omega) hv
    have b1 : Leq n h (tab (lotOf low sizes m ts)) := fun u v hu hv => Int.le_trans (b u v hu hv) (Int.min_le_left _ _)
    have b2 : Leq n h (tab (lotOf low sizes m ts2)) := fun u v hu hv => Int.le_trans (b u v hu hv) (Int.min_le_right _ _)
    obtain ⟨q, hq, e⟩ := common_of hn h1 h2 e1 e2 p0 (kept_tr pk b1) (kept_tr pk b2)
    have := tab_le (u := u) (v := v) hq
    rw [e u hu, e v hv, pe u hu] at this
    exact this
theorem met_none (e1 : lotOf low sizes m ts ≠ []) (e2 : lotOf low sizes m ts2 ≠ []) (hne : (lotOf low sizes m ts).filter (fun p => keepsB p ts2) = []) :
    IsCl n (mn (tab (lotOf low sizes m ts)) (tab (lotOf low sizes m ts2))) none := fun ⟨h, a, b⟩ => by
  obtain ⟨p, p0, pk, pe⟩ := point_of (v := 0) a (by omega) (by omega)
  have b1 : Leq n h (tab (lotOf low sizes m ts)) := fun u v hu hv => Int.le_trans (b u v hu hv) (Int.min_le_left _ _)
  have b2 : Leq n h (tab (lotOf low sizes m ts2)) := fun u v hu hv => Int.le_trans (b u v hu hv) (Int.min_le_right _ _)
  obtain ⟨q, hq, e⟩ := common_of hn h1 h2 e1 e2 p0 (kept_tr pk b1) (kept_tr pk b2)
  rw [hne] at hq
  cases hq
/-- one lot within another -/
theorem within (e1 : lotOf low sizes m ts ≠ []) (e2 : lotOf low sizes m ts2 ≠ []) : Leq n (tab (lotOf low sizes m ts)) (tab (lotOf low sizes m ts2)) ↔ ∀ p ∈ lotOf low sizes m ts, keepsB p ts2 = true := by
  constructor
  · intro l p hp
    have p0 := (box_in m p (List.mem_filter.mp hp).1).1
    have k1 : Kept n (tab (lotOf low sizes m ts)) p := fun u v _ _ => tab_le hp
    obtain ⟨q, hq, e⟩ := kept_in hn h2 e2 p0 (kept_tr k1 l)
    rw [← keeps_congr (q := q) (p := p) h2 e]
    exact (List.mem_filter.mp hq).2
  · intro hall u v hu hv
    obtain ⟨p, hp, e⟩ := tab_at (u := u) (v := v) e1
    rw [e]
    exact tab_le (List.mem_filter.mpr ⟨(List.mem_filter.mp hp).1, hall p hp⟩)
end
theorem joined_is {a b : List (Nat → Int)} (ha : a ≠ []) (hb : b ≠ []) : Eqt n (tab (a ++ b)) (mx (tab a) (tab b)) := fun u v _ _ => by
  obtain ⟨p, hp, e⟩ := tab_at (pts := a ++ b) (u := u) (v := v) (by simp [ha])
  obtain ⟨q, hq, e1⟩ := tab_at (pts := a) (u := u) (v := v) ha
  obtain ⟨r, hr, e2⟩ := tab_at (pts := b) (u := u) (v := v) hb
  have l1 := tab_le (u := u) (v := v) (List.mem_append_left b hq)
  have l2 := tab_le (u := u) (v := v) (List.mem_append_right a hr)
  show tab (a ++ b) u v = max (tab a u v) (tab b u v)
  rcases List.mem_append.mp hp with z | z
  · have := tab_le (u := u) (v := v) z
    omega
  · have := tab_le (u := u) (v := v) z
    omega
theorem lo_is {k : Nat} (hne : pts ≠ []) (h0 : ∀ p ∈ pts, p 0 = 0) : lmin (pts.map fun p => p k) = -(tab pts 0 k) := by
  obtain ⟨p, hp, e⟩ := tab_at (u := 0) (v := k) hne
  have := h0 p hp
  refine lmin_eq (List.mem_map.mpr ⟨p, hp, by rw [e]; omega⟩) fun y hy => ?_
  obtain ⟨q, hq, rfl⟩ := List.mem_map.mp hy
  have := tab_le (u := 0) (v := k) hq
  have := h0 q hq
  omega
theorem hi_is {k : Nat} (hne : pts ≠ []) (h0 : ∀ p ∈ pts, p 0 = 0) : lmax (pts.map fun p => p k) = tab pts k 0 := by
  obtain ⟨p, hp, e⟩ := tab_at (u := k) (v := 0) hne
  have := h0 p hp
  refine lmax_eq (List.mem_map.mpr ⟨p, hp, by rw [e]; omega⟩) fun y hy => ?_
  obtain ⟨q, hq, rfl⟩ := List.mem_map.mp hy
  have := tab_le (u := k) (v := 0) hq
  have := h0 q hq
  omega
theorem filt_all {α : Type} {l : List α} {c : α → Bool} : (l.filter c).length = l.length ↔ ∀ p ∈ l, c p = true := by
  constructor
  · intro h p hp
    have := (List.filter_sublist (p := c) (l := l)).eq_of_length h
    rw [← this] at hp
    exact (List.mem_filter.mp hp).2
  · intro h
    rw [List.filter_eq_self.mpr h]
theorem filt_swap {α : Type} {l : List α} {c d : α → Bool} : (l.filter c).filter d = (l.filter d).filter c := by
  rw [List.filter_filter, List.filter_filter]
  congr 1
  funext a
  exact Bool.and_comm _ _
end
end K52

set_option maxHeartbeats 4000000
namespace K52
open PySem PySem.Spec PyProof.Rows L2 DL
section
variable {K : PySem.W.Frag} {B : Base} {Γ : List DL.Slot} {n : Nat}
def bnd (m : Nat) : Nat := if m = 1 then 9 else if m = 2 then 5 else 3
theorem bnd_pos {m : Nat} : 1 ≤ bnd m ∧ bnd m ≤ 9 := by
  unfold bnd
  split
  · omega
  · split <;> omega
theorem bnd_pow {m : Nat} (h0 : 1 ≤ m) (h1 : m ≤ 3) : bnd m ^ m ≤ 100000 := by
  rcases (show m = 1 ∨ m = 2 ∨ m = 3 by omega) with rfl | rfl | rfl <;> decide
theorem bnd_pow2 {m : Nat} (h0 : 1 ≤ m) (h1 : m ≤ 3) : bnd m ^ m ≤ 1000 := by
  rcases (show m = 1 ∨ m = 2 ∨ m = 3 by omega) with rfl | rfl | rfl <;> decide
theorem bnd_at {m : Nat} (h0 : 1 ≤ m) (h1 : m ≤ 3) : L2.atI [D.int 9, D.int 5, D.int 3] ((m : Int) - 1) = some (.int (bnd m : Nat)) := by
  rcases (show m = 1 ∨ m = 2 ∨ m = 3 by omega) with rfl | rfl | rfl <;> rfl
theorem snocI {k : Nat} {f : Nat → Int} {x : Int} : (List.range k).map (fun j => D.int (f j)) ++ [D.int x] = (List.range (k + 1)).map fun j => D.int (if j = k then x else f j) := by
  rw [snoc1]
  refine List.map_congr_left fun j _ => ?_
  by_cases e : j = k
  · rw [if_pos e, if_pos e]
  · rw [if_neg e, if_neg e]
theorem snocN {k : Nat} {f : Nat → Nat} {x : Nat} : (List.range k).map (fun j => D.int (f j : Nat)) ++ [D.int (x : Nat)] = (List.range (k + 1)).map fun j => D.int ((if j = k then x else f j : Nat) : Nat) := by
  rw [snoc1]
  refine List.map_congr_left fun j _ => ?_
  by_cases e : j = k
  · rw [if_pos e, if_pos e]
  · rw [if_neg e, if_neg e]
theorem tr_ifM {tt : TT} {t t' u : TS} {E : Post} (I : List DL.Slot → Prop) {P : Bool → Prop} (h : Eb B Γ tt P) (h1 : P true → Tr B Γ t { E with nx := I }) (h2 : P false → Tr B Γ t' { E with nx := I }) (k : ∀ Γ', I Γ' → Tr B Γ' u E) : Tr B Γ (tSeq (tIfS tt t t') u) E :=
  tr_if h (fun z => (h1 z).imp (fun Γ q => k Γ q) (fun _ q => q) (fun _ q => q) (fun _ q => q)) (fun z => (h2 z).imp (fun Γ q => k Γ q) (fun _ q => q) (fun _ q => q) (fun _ q => q))
/-- an item of a lot, the place drawn -/
theorem ev_pt {pts : List (Nat → Int)} {ta tb : TE} (ha : Ed B Γ ta (pL n pts)) (hb : Ei B Γ tb (fun i => 0 ≤ i ∧ i < (pts.length : Nat))) : Ev B Γ (tOp (rIx K) ta tb) (fun d => ∃ p, d = rT n p ∧ p ∈ pts) := ev_ixL ha hb fun i ⟨i0, i1⟩ => by
  refine ⟨i0, by rw [List.length_map]; exact i1, fun d hd => ?_⟩
  rw [List.getElem?_map] at hd
  cases e : pts[i.toNat]? with
  | none => rw [e] at hd; cases hd
  | some x => rw [e] at hd; cases hd; exact ⟨x, rfl, List.mem_of_getElem? e⟩
theorem ed_lenP {pts : List (Nat → Int)} {ta : TE} (ha : Ed B Γ ta (pL n pts)) : Ed B Γ (tCB (xLen K) (tCons ta tNil)) (.int (pts.length : Nat)) := (ed_len ha).eq (by rw [List.length_map])
theorem len_ne {α : Type} {l : List α} (h : l ≠ []) : 0 < l.length := List.length_pos_iff.mpr h
abbrev sp_small : Sp := HSp (α := Unit) (fun _ => []) (fun _ => True) (fun _ r => r = .known (.bl true))
theorem rd_small : ∀ vs H Q E, sp_small vs H Q E → t__law_small K sp_held sp_draw sp_asked sp_table sp_keeps sp_ties sp_points { nx := fun _ H' => Q .non H', rt := Q } (L2.start N__law_small vs) H := fun vs H Q E h => by
  refine body_H (n := 0) (fun _ => rfl) (by decide) (fun x B h hp hB => ?_) h
  refine tr_asg (ei_add (r := fun i => 1 ≤ i ∧ i ≤ 3) (Ei.of ev_c) (ei_draw hB rfl ev_c (by decide) (by decide)) fun i j e ⟨j0, j1⟩ => by omega) fun d ⟨i, e, i1, i2⟩ => ?_
  subst e
  obtain ⟨m, rfl⟩ := Int.eq_ofNat_of_zero_le (show 0 ≤ i by omega)
  have m1 : 1 ≤ m := by omega
  have m3 : m ≤ 3 := by omega
  have hn : sz (m + 1) := by show m + 1 < 1000; omega
  have hs := szs hn
  refine tr_new edn_nil (tr_new edn_nil ?_)
  refine tr_forR (n := m) (g := fun u => .int (u : Nat)) (js := [4]) (edt_rngN (ev_var rfl) (by omega))
    (fun k Γ' => ∃ (low : Nat → Int) (sizes : Nat → Nat) (s4 : DL.Slot), Γ' = [.d (.v (.ref h.1)), .d (.int (m : Nat)), .own ((List.range k).map fun j => .int (low j)), .own ((List.range k).map fun j => .int (sizes j : Nat)), s4, .no, .no, .no, .no, .no, .no, .no, .no, .no, .no, .no, .no, .no, .no] ∧ ∀ j, j < k → 1 ≤ sizes j ∧ sizes j ≤ bnd m) ⟨fun _ => 0, fun _ => 0, .no, rfl, fun j hj => absurd hj (Nat.not_lt_zero j)⟩ ?_ ?_
  · rintro k _ gg hk ⟨low, sizes, s4, rfl, hsz⟩
    refine tg_name ?_
    have ten30 : ∀ (B : Base) (Γ : List DL.Slot), Ed B Γ (tOp xPow (tC (.int 10)) (tC (.int 30))) (.int (10 ^ (30 : Int).toNat)) := fun B Γ => tens ⟨by decide, by decide, by decide⟩
    have ten9 : ∀ (B : Base) (Γ : List DL.Slot), Ed B Γ (tOp xPow (tC (.int 10)) (tC (.int 9))) (.int (10 ^ (9 : Int).toNat)) := fun B Γ => tens ⟨by decide, by decide, by decide⟩
    refine tr_append (i := 2) rfl (P := fun d => ∃ x, d = .int x ∧ True) (ei_sub (r := fun _ => True) (ei_add (r := fun _ => True) (ei_pick (ns := [0, 0, -7, 10 ^ (30 : Int).toNat, -(10 ^ (9 : Int).toNat)]) (edn_lst (ead_cons ev_c (ead_cons ev_c (ead_cons (ed_neg ev_c) (ead_cons (ten30 _ _) (ead_cons (ed_neg (ten9 _ _)) ea_nil))))) (by simp [sizeLine])).ed (ei_draw hB rfl ev_c (by decide) (by decide)) fun i hi => hi) (ei_draw hB rfl ev_c (by decide) (by decide)) fun _ _ _ _ => trivial) (Ei.of ev_c) fun _ _ _ _ => trivial) (by rw [rm_len]; exact Nat.lt_trans (show k < 100 by omega) (by decide)) ?_
    rintro d ⟨x, rfl, _⟩
    refine tr_append (i := 3) rfl (P := fun d => ∃ x, d = .int x ∧ (1 ≤ x ∧ x ≤ (bnd m : Nat))) (ei_add (Ei.of ev_c) (ei_draw (m := (bnd m : Nat)) hB rfl (ed_ixL (edn_lst (ead_cons ev_c (ea_2 ev_c ev_c)) (by simp [sizeLine])).ed (ed_sub (ev_var rfl) ev_c) (bnd_at m1 m3)) (by have := bnd_pos (m := m); omega) (by have := bnd_pos (m := m); omega)) fun i j e ⟨j0, j1⟩ => by omega) (by rw [rm_len]; exact Nat.lt_trans (show k < 100 by omega) (by decide)) ?_
    rintro d ⟨y, rfl, y1, y2⟩
    obtain ⟨y, rfl⟩ := Int.eq_ofNat_of_zero_le (show 0 ≤ y by omega)
    rw [snocI, snocN]
    refine tr_next ⟨_, _, .d (.int (k : Nat)), rfl, fun j hj => ?_⟩
    by_cases e : j = k
    · simp only [if_pos e]
      omega
    · simp only [if_neg e]
      exact hsz j (by omega)
  rintro _ ⟨low, sizes, s4, rfl, hsz⟩
  refine tr_freeze (i := 2) rfl (tr_freeze (i := 3) rfl ?_)
  generalize hA : box low sizes m = A
  have hAl2 : A.length ≤ 1000 := by rw [← hA]; exact Nat.le_trans (box_len (s := bnd m) (fun k hk => (hsz k hk).2) m (Nat.le_refl _)) (bnd_pow2 m1 m3)
  have hAl : A.length ≤ 100000 := by rw [← hA]; exact Nat.le_trans (box_len (s := bnd m) (fun k hk => (hsz k hk).2) m (Nat.le_refl _)) (bnd_pow m1 m3)
  have hAz : A.length < sizeLine := Nat.lt_of_le_of_lt hAl (by decide)
  have hAne : A ≠ [] := by rw [← hA]; exact box_ne fun k hk => (hsz k hk).1
  have hA0 : ∀ p ∈ A, p 0 = 0 := fun p hp => by rw [← hA] at hp; exact (box_in m p hp).1
  refine tr_set (d := pL (m + 1) A) (ev_f (ea_2 (ev_var rfl) (ev_var rfl)) fun ds e => ⟨(m, low, sizes, bnd m), e, ⟨by show m ≤ 100; omega, fun k hk => (hsz k hk).2, (bnd_pos (m := m)).1, bnd_pow m1 m3⟩, fun r e => by rw [e, ← hA]; rfl⟩) ?_
  have pick : ∀ (B : Base) (Γ : List DL.Slot), B.hd = some h → Γ[0]? = some (.d (.v (.ref h.1))) → Γ[5]? = some (.d (pL (m + 1) A)) → Ev B Γ (tOp (rIx K) (tVar 5) (tCall sp_draw [] E0 (tCons (tVar 0) (tCons (tCB (xLen K) (tCons (tVar 5) tNil)) tNil)))) (fun d => ∃ p, d = rT (m + 1) p ∧ p ∈ A) := fun B Γ hB h0 h5 =>
    ev_pt (ev_var h5) (ei_draw hB h0 (ed_lenP (ev_var h5)) (by have := len_ne hAne; omega) (by omega))
  refine tr_asg (pick _ _ hB rfl rfl) fun d ⟨w, e, hw⟩ => ?_
  subst e
  have ties : ∀ (B : Base) (Γ : List DL.Slot) (w : Nat → Int), B.hd = some h → Γ[0]? = some (.d (.v (.ref h.1))) → Γ[6]? = some (.d (rT (m + 1) w)) → EvN B Γ (tCall sp_ties [] E0 (tCons (tVar 0) (tCons (tVar 6) (tCons (tC (.int 3)) (tCons (tC (.int 3)) tNil))))) (fun ds => ∃ ts, ds = ts.map dTie ∧ TiesAt (m + 1) w ts) := fun B Γ w hB h0 h6 =>
    evn_h hB h0 (ead_cons (ev_var h6) (ea_2 ev_c ev_c)) fun ds e => ⟨(m, w, 3, 3), e, ⟨m1, hn, (by decide : 3 ≤ 1000), (by decide : (0 : Int) < 3), (by decide : (3 : Int) < 1073741824)⟩, fun r ⟨ts, e, l, z⟩ => ⟨ts.map dTie, e, ts, rfl, z⟩⟩
  refine tr_own (ties _ _ w hB rfl rfl) fun ds ⟨ts, e, hts⟩ => ?_
  subst e
  refine tr_freeze (i := 7) rfl ?_
  have tok : ∀ {w : Nat → Int} {ts : List Tie}, TiesAt (m + 1) w ts → TiesOk (m + 1) ts := fun z t ht => (z t ht).1
  have sift : ∀ (B : Base) (Γ : List DL.Slot) (i j : Nat) (pts : List (Nat → Int)) (ts : List Tie), TiesOk (m + 1) ts → pts.length < sizeLine → Γ[i]? = some (.d (pL (m + 1) pts)) → Γ[j]? = some (.d (.lst (ts.map dTie))) → j ≠ 9 → 9 < Γ.length →
      EdN B Γ (tLc (iAny K (tVar i)) (gName 9) (tTru K (tCall sp_keeps [] E0 (tCons (tVar 9) (tCons (tVar j) tNil)))) (tVar 9) [9]) ((pts.filter fun p => keepsB p ts).map fun p => rT (m + 1) p) := fun B Γ i j pts ts ht hz h1 h2 hj hl => by
    refine edn_lcF (pts := pts) (g := fun p => rT (m + 1) p) (f := fun p => rT (m + 1) p) (c := fun p => keepsB p ts) (js := [9]) (edt_lst (ev_var h1)) hz (by simp) fun p hp B' hB' => tg_name ?_
    have l9 : 9 < (wipeG (Γ.map dem) [9]).length := by rw [wipeG_len, List.length_map]; exact hl
    have e9 : ((wipeG (Γ.map dem) [9]).set 9 (.d (rT (m + 1) p)))[9]? = some (.d (rT (m + 1) p)) := List.getElem?_set_self l9
    have ej : ((wipeG (Γ.map dem) [9]).set 9 (.d (rT (m + 1) p)))[j]? = some (.d (.lst (ts.map dTie))) := by
      rw [List.getElem?_set_ne (fun e => hj e.symm), wipeG_get, if_neg (by simpa using hj), List.getElem?_map, h2]
      rfl
    exact ⟨ep_tru (b := keepsB p ts) (ev_f (ea_2 (ev_var e9) (ev_var ej)) fun ds e => ⟨(m + 1, p, ts), e, ht, fun r e => by rw [e]; rfl⟩), fun _ => ev_var e9⟩
  refine tr_new (sift _ _ 5 7 A ts (tok hts) hAz rfl rfl (by decide) (by simp)) (tr_freeze (i := 8) rfl ?_)
  generalize hO : A.filter (fun p => keepsB p ts) = one
  have one_ne : one ≠ [] := by
    rw [← hO]
    exact List.ne_nil_of_mem (List.mem_filter.mpr ⟨hw, keeps_iff.mpr fun t ht => (hts t ht).2⟩)
  have onel : one.length ≤ 100000 := by rw [← hO]; exact Nat.le_trans (List.length_filter_le _ _) hAl
  have onez : one.length < sizeLine := Nat.lt_of_le_of_lt onel (by decide)
  have one0 : ∀ p ∈ one, p 0 = 0 := fun p hp => by rw [← hO] at hp; exact hA0 p (List.mem_filter.mp hp).1
  refine tr_ifM (fun Γ' => ∃ w2, w2 ∈ A ∧ Γ' = [.d (.v (.ref h.1)), .d (.int (m : Nat)), .d (.lst ((List.range m).map fun j => .int (low j))), .d (.lst ((List.range m).map fun j => .int (sizes j : Nat))), s4, .d (pL (m + 1) A), .d (rT (m + 1) w2), .d (.lst (ts.map dTie)), .d (pL (m + 1) one), .no, .no, .no, .no, .no, .no, .no, .no, .no, .no]) (eb_gtAny (ei_draw hB rfl ev_c (by decide) (by decide)) (Ei.of ev_c)) (fun _ => ?_) (fun _ => tr_next ⟨w, hw, rfl⟩) ?_
  · refine tr_asg (pick _ _ hB rfl rfl) fun d ⟨w2, e, hw2⟩ => ?_
    subst e
    exact tr_next ⟨w2, hw2, rfl⟩
  rintro _ ⟨w2, hw2, rfl⟩
  refine tr_own (ties _ _ w2 hB rfl rfl) fun ds ⟨ts2, e, hts2⟩ => ?_
  subst e
  refine tr_freeze (i := 10) rfl ?_
  refine tr_new (sift _ _ 5 10 A ts2 (tok hts2) hAz rfl rfl (by decide) (by simp)) (tr_freeze (i := 11) rfl ?_)
  generalize hO2 : A.filter (fun p => keepsB p ts2) = oth
  have oth_ne : oth ≠ [] := by
    rw [← hO2]
    exact List.ne_nil_of_mem (List.mem_filter.mpr ⟨hw2, keeps_iff.mpr fun t ht => (hts2 t ht).2⟩)
  have othl : oth.length ≤ 100000 := by rw [← hO2]; exact Nat.le_trans (List.length_filter_le _ _) hAl
  have oth0 : ∀ p ∈ oth, p 0 = 0 := fun p hp => by rw [← hO2] at hp; exact hA0 p (List.mem_filter.mp hp).1
  refine tr_new (sift _ _ 8 10 one ts2 (tok hts2) onez rfl rfl (by decide) (by simp)) (tr_freeze (i := 12) rfl ?_)
  generalize hC : one.filter (fun p => keepsB p ts2) = com
  have coml : com.length ≤ 100000 := by rw [← hC]; exact Nat.le_trans (List.length_filter_le _ _) onel
  have tabE : ∀ (B : Base) (Γ : List DL.Slot) (te : TE) (pts : List (Nat → Int)), pts ≠ [] → pts.length ≤ 100000 → Ed B Γ te (pL (m + 1) pts) → Ed B Γ (tCall sp_table [] E0 (tCons te tNil)) (tT (m + 1) (tab pts)) := fun B Γ te pts hne hl he => ev_f (ea_1 he) fun ds e => ⟨(m, pts), e, ⟨hn, hne, hl⟩, fun r e => by rw [e]; rfl⟩
  refine tr_set (tabE _ _ _ one one_ne onel (ev_var rfl)) (tr_set (tabE _ _ _ oth oth_ne othl (ev_var rfl)) ?_)
  have sizeE : (m : Int) + 1 = (m : Int) + 1 := rfl
  have m0 : m < sizeLine := Nat.lt_trans (by omega) hs
  refine tr_new (ds := [.lst (spD m (tab one))]) (edn_lst (ea_1 (edn_lcR (f := fun k => .tup [.int (-(tab one 0 (k + 1))), .int (tab one (k + 1) 0)]) (g := fun k => .int ((k + 1 : Nat) : Int)) (js := [4]) (edt_from1 (ed_add (ev_var rfl) ev_c) sizeE) m0 (by simp) fun k hk B' hB' => tg_name ?_).ed) (by simp [sizeLine])) ?_
  · have col : ∀ (B : Base) (Γ : List DL.Slot), Γ[8]? = some (.d (pL (m + 1) one)) → Γ[4]? = some (.d (.int ((k + 1 : Nat) : Int))) → 9 < Γ.length → Ed B Γ (tLc (iAny K (tVar 8)) (gName 9) tYes (tOp (rIx K) (tVar 9) (tVar 4)) [9]) (.lst ((one.map fun p => p (k + 1)).map D.int)) := fun B Γ h8 h4 hl => by
      have := (edn_lcA (B := B) (Γ := Γ) (pts := one) (g := fun p => rT (m + 1) p) (f := fun p => .int (p (k + 1))) (wi := iAny K (tVar 8)) (gt := gName 9) (te := tOp (rIx K) (tVar 9) (tVar 4)) (vs := [9]) (js := [9]) (edt_lst (ev_var h8)) onez (by simp) fun p hp B' hB' => tg_name (ed_ixTR (k := k + 1) (g := fun u => .int (p u)) (ev_var (List.getElem?_set_self (by rw [wipeG_len, List.length_map]; exact hl))) (ev_var (by
        rw [List.getElem?_set_ne (by decide), wipeG_get, if_neg (by simp), List.getElem?_map, h4]
        rfl)) (by omega))).ed
      exact this.eq (by rw [List.map_map]; rfl)
    exact ed_tup (ea_2 ((ed_min (col _ _ rfl rfl (by simp [wipeG])) (by simpa using one_ne)).eq (by rw [lo_is one_ne one0])) ((ed_max (col _ _ rfl rfl (by simp [wipeG])) (by simpa using one_ne)).eq (by rw [hi_is one_ne one0]))) (by simp [sizeLine])
  refine tr_append (i := 15) rfl (P := fun d => d = loD m (tab one)) (ed_tuple (edn_lcR (f := fun k => .int (-(tab one 0 (k + 1)))) (g := fun k => .tup [.int (-(tab one 0 (k + 1))), .int (tab one (k + 1) 0)]) (js := [16]) (edt_lst (ed_ixOwn (i := 15) (z := 0) rfl ev_c rfl)) m0 (by simp) fun k hk B' hB' => tg_name (ed_ixT (i := 0) (ev_var rfl) ev_c rfl)).ed) (by simp [sizeLine]) fun d e => ?_
  subst e
  refine tr_append (i := 15) rfl (P := fun d => d = hiD m (tab one)) (ed_tuple (edn_lcR (f := fun k => .int (tab one (k + 1) 0)) (g := fun k => .tup [.int (-(tab one 0 (k + 1))), .int (tab one (k + 1) 0)]) (js := [16]) (edt_lst (ed_ixOwn (i := 15) (z := 0) rfl ev_c rfl)) m0 (by simp) fun k hk B' hB' => tg_name (ed_ixT (i := 1) (ev_var rfl) ev_c rfl)).ed) (by simp [sizeLine]) fun d e => ?_
  subst e
  have e1 : lotOf low sizes m ts = one := by rw [← hO, ← hA]
  have e2 : lotOf low sizes m ts2 = oth := by rw [← hO2, ← hA]
  have ms := met_some (low := low) (sizes := sizes) rfl (tok hts) (tok hts2) (by rw [e1]; exact one_ne) (by rw [e2]; exact oth_ne)
  have mo := met_none (low := low) (sizes := sizes) rfl (tok hts) (tok hts2) (by rw [e1]; exact one_ne) (by rw [e2]; exact oth_ne)
  have wi1 := within (low := low) (sizes := sizes) rfl (tok hts) (tok hts2) (by rw [e1]; exact one_ne) (by rw [e2]; exact oth_ne)
  have wi2 := within (low := low) (sizes := sizes) rfl (tok hts2) (tok hts) (by rw [e2]; exact oth_ne) (by rw [e1]; exact one_ne)
  rw [e1, e2, hC] at ms mo
  rw [e1, e2] at wi1 wi2
  refine tr_ifM (fun Γ' => ∃ o, IsCl (m + 1) (mn (tab one) (tab oth)) o ∧ Γ' = [.d (.v (.ref h.1)), .d (.int (m : Nat)), .d (.lst ((List.range m).map fun j => .int (low j))), .d (.lst ((List.range m).map fun j => .int (sizes j : Nat))), s4, .d (pL (m + 1) A), .d (rT (m + 1) w2), .d (.lst (ts.map dTie)), .d (pL (m + 1) one), .no, .d (.lst (ts2.map dTie)), .d (pL (m + 1) oth), .d (pL (m + 1) com), .d (tT (m + 1) (tab one)), .d (tT (m + 1) (tab oth)), .own [.lst (spD m (tab one)), loD m (tab one), hiD m (tab one), oD (m + 1) o], .no, .no, .no]) (ep_truL (ds := com.map fun p => rT (m + 1) p) (ev_var rfl)) (fun hc => ?_) (fun hc => ?_) ?_
  · have cne : com ≠ [] := fun e => by subst e; simp at hc
    refine tr_append (i := 15) rfl (P := fun d => d = oD (m + 1) (some (tab com))) (tabE _ _ _ com cne coml (ev_var rfl)) (by simp [sizeLine]) fun d e => ?_
    subst e
    exact tr_next ⟨some (tab com), ms cne, rfl⟩
  · have ce : com = [] := by simpa using hc
    refine tr_append (i := 15) rfl (P := fun d => d = oD (m + 1) none) ev_c (by simp [sizeLine]) fun d e => ?_
    subst e
    exact tr_next ⟨none, mo ce, rfl⟩
  rintro _ ⟨o, ho, rfl⟩
  refine tr_append (i := 15) rfl (P := fun d => d = tT (m + 1) (mx (tab one) (tab oth))) ((tabE _ _ _ (one ++ oth) (by simp [one_ne]) ?_ ((edn_catL (xs := one.map fun p => rT (m + 1) p) (ys := oth.map fun p => rT (m + 1) p) (ev_var rfl) (ev_var rfl) ?_).ed.eq (by rw [← List.map_append]))).eq (tT_congr (joined_is one_ne oth_ne))) (by simp [sizeLine]) fun d e => ?_
  · have l1 : one.length ≤ 1000 := by rw [← hO]; exact Nat.le_trans (List.length_filter_le _ _) hAl2
    have l2 : oth.length ≤ 1000 := by rw [← hO2]; exact Nat.le_trans (List.length_filter_le _ _) hAl2
    rw [List.length_append]
    omega
  · rw [List.length_map, List.length_map]
    exact Nat.le_trans (Nat.add_le_add onel othl) (by decide)
  subst e
  have lenc : ∀ (B : Base) (Γ : List DL.Slot) (i : Nat) (pts : List (Nat → Int)), Γ[12]? = some (.d (pL (m + 1) com)) → Γ[i]? = some (.d (pL (m + 1) pts)) → Ed B Γ (tOp (xEq K) (tCB (xLen K) (tCons (tVar 12) tNil)) (tCB (xLen K) (tCons (tVar i) tNil))) (.bl (decide (com.length = pts.length))) := fun B Γ i pts h1 h2 =>
    (ed_eqI (ed_lenP (ev_var h1)) (ed_lenP (ev_var h2))).eq (congrArg D.bl (decide_eq_decide.mpr ⟨fun z => by omega, fun z => by omega⟩))
  refine tr_append (i := 15) rfl (P := fun d => d = .bl (decide (com.length = one.length))) (lenc _ _ 8 one rfl rfl) (by simp [sizeLine]) fun d e => ?_
  subst e
  refine tr_append (i := 15) rfl (P := fun d => d = .bl (decide (com.length = oth.length))) (lenc _ _ 11 oth rfl rfl) (by simp [sizeLine]) fun d e => ?_
  subst e
  have com2 : com = oth.filter fun p => keepsB p ts := by rw [← hC, ← hO, ← hO2, filt_swap]
  have hb1 : decide (com.length = one.length) = true ↔ Leq (m + 1) (tab one) (tab oth) := by
    rw [decide_eq_true_iff, wi1, ← hC]
    exact filt_all
  have hb2 : decide (com.length = oth.length) = true ↔ Leq (m + 1) (tab oth) (tab one) := by
    rw [decide_eq_true_iff, wi2, com2]
    exact filt_all
  generalize decide (com.length = one.length) = b1 at hb1
  generalize decide (com.length = oth.length) = b2 at hb2
  refine tr_freeze (i := 15) rfl ?_
  refine tr_pass0 ((ep_not (ep_tru (b := true) (ev_f (ead_cons (ev_var rfl) (ea_2 (ev_var rfl) (ev_var rfl))) fun ds e => ⟨(m, tab one, tab oth, o, b1, b2), e, ⟨⟨hn, m1⟩, tab_closed oth_ne, ho, hb1, hb2⟩, fun r e => by rw [e]; rfl⟩))).eq (by simp)) ?_
  refine tr_own (R := fun ds => ∃ p q, ds = [p, q].map (fun p => rT (m + 1) p) ∧ p 0 = 0 ∧ q 0 = 0) (evn_lst (ea_cons (Pa := fun d => ∃ p, d = rT (m + 1) p ∧ p ∈ one) (Pt := fun ds => ∃ q, ds = [rT (m + 1) q] ∧ q ∈ oth) (ev_pt (ev_var rfl) (ei_draw hB rfl (ed_lenP (ev_var rfl)) (by have := len_ne one_ne; omega) (by omega)))
    (ea_cons (Pa := fun d => ∃ p, d = rT (m + 1) p ∧ p ∈ oth) (Pt := fun ds => ds = []) (ev_pt (ev_var rfl) (ei_draw hB rfl (ed_lenP (ev_var rfl)) (by have := len_ne oth_ne; omega) (by omega))) ea_nil fun d ds ⟨q, e, hq⟩ e2 => ⟨q, by rw [e, e2], hq⟩) fun d ds ⟨p, e, hp⟩ ⟨q, e2, hq⟩ => ⟨p, q, by rw [e, e2]; rfl, one0 p hp, oth0 q hq⟩) fun ds ⟨p, q, e, _⟩ => by rw [e]; simp [sizeLine]) fun ds ⟨p, q, e, p0, q0⟩ => ?_
  subst e
  refine tr_forR (n := 7) (g := fun u => .int (u : Nat)) (js := [18]) (edt_rngN ev_c (by decide))
    (fun i Γ' => ∃ (pts : List (Nat → Int)) (s4 s9 s18 : DL.Slot), Γ' = [.d (.v (.ref h.1)), .d (.int (m : Nat)), .d (.lst ((List.range m).map fun j => .int (low j))), .d (.lst ((List.range m).map fun j => .int (sizes j : Nat))), s4, .d (pL (m + 1) A), .d (rT (m + 1) w2), .d (.lst (ts.map dTie)), .d (pL (m + 1) one), s9, .d (.lst (ts2.map dTie)), .d (pL (m + 1) oth), .d (pL (m + 1) com), .d (tT (m + 1) (tab one)), .d (tT (m + 1) (tab oth)), .d (.lst (duesD m (tab one) (tab oth) o b1 b2)), .no, .own (pts.map fun p => rT (m + 1) p), s18] ∧ (∀ p ∈ pts, p 0 = 0) ∧ pts.length = 2 + i)
    ⟨[p, q], s4, .no, .no, rfl, fun r hr => by
      rcases List.mem_cons.mp hr with z | z
      · rw [z]; exact p0
      · rw [List.mem_singleton.mp z]; exact q0, rfl⟩ ?_ ?_
  · rintro i _ gg hi ⟨pts, s4, s9, s18, rfl, hp, hl⟩
    refine tg_name (tr_set (d := rT (0 + 1) (fun _ => 0)) (ed_tup (ea_1 ev_c) (by simp [sizeLine])) ?_)
    refine tr_forR (n := m) (g := fun u => .int (u : Nat)) (js := [4]) (edt_rngN (ev_var rfl) (by omega))
      (fun k Γ' => ∃ (r : Nat → Int) (s4 : DL.Slot), Γ' = [.d (.v (.ref h.1)), .d (.int (m : Nat)), .d (.lst ((List.range m).map fun j => .int (low j))), .d (.lst ((List.range m).map fun j => .int (sizes j : Nat))), s4, .d (pL (m + 1) A), .d (rT (m + 1) w2), .d (.lst (ts.map dTie)), .d (pL (m + 1) one), .d (rT (k + 1) r), .d (.lst (ts2.map dTie)), .d (pL (m + 1) oth), .d (pL (m + 1) com), .d (tT (m + 1) (tab one)), .d (tT (m + 1) (tab oth)), .d (.lst (duesD m (tab one) (tab oth) o b1 b2)), .no, .own (pts.map fun p => rT (m + 1) p), .d (.int (i : Nat))] ∧ r 0 = 0) ⟨fun _ => 0, s4, rfl, rfl⟩ ?_ ?_
    · rintro k _ gg2 hk ⟨r, s4, rfl, r0⟩
      have hB2 : ((B.gh gg).gh gg2).hd = some h := hB
      have hsz2 := hsz k hk
      have hb9 := bnd_pos (m := m)
      refine tg_name (tr_asg (ev_catT1 (xs := (List.range (k + 1)).map fun u => D.int (r u)) (ev_var rfl) (ei_add (r := fun _ => True) (Ei.of (ed_sub (ed_ixLR (g := fun j => .int (low j)) (ev_var rfl) (ev_var rfl) hk) ev_c)) (ei_draw (m := (sizes k : Nat) + 2) hB2 rfl (ed_add (ed_ixLR (g := fun j => .int (sizes j : Nat)) (ev_var rfl) (ev_var rfl) hk) ev_c) (by omega) (by omega)) fun _ _ _ _ => trivial) (by rw [rm_len]; omega)) fun d ⟨y, e, _⟩ => ?_)
      subst e
      rw [rT_ext]
      exact tr_next ⟨ext r (k + 1) y, .d (.int (k : Nat)), rfl, by unfold ext; rw [if_neg (by omega)]; exact r0⟩
    rintro _ ⟨r, s4, rfl, r0⟩
    refine tr_append (i := 17) rfl (P := fun d => d = rT (m + 1) r) (ev_var rfl) (by rw [List.length_map, hl]; exact Nat.lt_trans (show 2 + i < 100 by omega) (by decide)) fun d e => ?_
    subst e
    refine tr_next ⟨pts ++ [r], s4, .d (rT (m + 1) r), .d (.int (i : Nat)), by rw [List.map_append]; rfl, fun p hp2 => ?_, by rw [List.length_append, hl]; rfl⟩
    rcases List.mem_append.mp hp2 with z | z
    · exact hp p z
    · rw [List.mem_singleton.mp z]; exact r0
  · rintro _ ⟨pts, s4, s9, s18, rfl, hp, hl⟩
    exact tr_freeze (i := 17) rfl (tr_ret (P := fun d => d = .bl true) (ev_h hB rfl (ea_2 (ev_var rfl) (ev_var rfl)) fun ds e => ⟨(m, tab one, pts), e, ⟨hn, hp⟩, fun r e => by rw [e]; rfl⟩) fun d e => by rw [e])
/-! ### the law -/
theorem rd_law : ∀ vs H Q E, sp_law K vs H Q E → t_law K sp_small sp_draw sp_wide (sp_hand K) { nx := fun _ H' => Q .non H', rt := Q } (L2.start N_law vs) H :=
  law_run (n := 0) rfl fun B h a hB => tr_if (eb_eqAny (ei_draw hB rfl ev_c (by decide) (by decide)) (Ei.of ev_c))
    (fun _ => tr_ret (P := fun d => d = .bl true) (ev_h hB rfl ea_nil fun ds e => ⟨(), e, trivial, fun r e => by rw [e]; rfl⟩) fun d e => by rw [e])
    (fun _ => tr_next (tr_ret (P := fun d => d = .bl true) (ev_h hB rfl ea_nil fun ds e => ⟨(), e, trivial, fun r e => by rw [e]; rfl⟩) fun d e => by rw [e]))
end
end K52

set_option maxHeartbeats 4000000
namespace K52
open PySem PySem.Spec PyProof.Rows L2 DL
theorem all_ok {P : Program} {w : World} {K : PySem.W.Frag} {mg : Str → Option Value} {base : Heap} {A : Ads} {D : Fds} (T : Txt K mg A D) : FnOk P w K mg base CX0 7 A.law D.law ["script"] (sp_law K) := by
  have G__law_draw := ok__law_draw (P := P) (w := w) (base := base) T  (sp := sp_draw) (HSp.len fun _ => rfl) (rd_draw rfl)
  have G__law_same := ok__law_same (P := P) (w := w) (base := base) T  (sp := sp_same) (FSp.len fun _ => rfl) (rd_same rfl)
  have G_holds := ok_holds (P := P) (w := w) (base := base) T  (sp := sp_holds) (FSp.len fun _ => rfl) rd_holds
  have G__law_holds := ok__law_holds (P := P) (w := w) (base := base) T  (sp := sp_lholds) (FSp.len fun _ => rfl) rd_lholds
  have G__law_held := ok__law_held (P := P) (w := w) (base := base) T G__law_draw G__law_same G_holds G__law_holds (sp := sp_held) (HSp.len fun _ => rfl) rd_held
  have G_lies_within := ok_lies_within (P := P) (w := w) (base := base) T  (sp := sp_lies_within) (FSp.len fun _ => rfl) rd_lies_within
  have G_lesser := ok_lesser (P := P) (w := w) (base := base) T  (sp := sp_lesser) (FSp.len fun _ => rfl) rd_lesser
  have G_led_through := ok_led_through (P := P) (w := w) (base := base) T G_lesser (sp := sp_led_through) (FSp.len fun _ => rfl) rd_led_through
  have G_closure := ok_closure (P := P) (w := w) (base := base) T G_led_through (sp := sp_closure) (FSp.len fun _ => rfl) rd_closure
  have G_met := ok_met (P := P) (w := w) (base := base) T G_closure (sp := sp_met) (FSp.len fun _ => rfl) rd_met
  have G_joined := ok_joined (P := P) (w := w) (base := base) T  (sp := sp_joined) (FSp.len fun _ => rfl) rd_joined
  have G_greatest_of := ok_greatest_of (P := P) (w := w) (base := base) T  (sp := sp_greatest_of) (FSp.len fun _ => rfl) rd_greatest_of
  have G_least_of := ok_least_of (P := P) (w := w) (base := base) T  (sp := sp_least_of) (FSp.len fun _ => rfl) rd_least_of
  have G_spans := ok_spans (P := P) (w := w) (base := base) T G_greatest_of G_least_of (sp := sp_spans) (FSp.len fun _ => rfl) rd_spans
  have G__law_asked := ok__law_asked (P := P) (w := w) (base := base) T G__law_same G_lies_within G_met G_joined G_greatest_of G_least_of G_spans (sp := sp_asked) (FSp.len fun _ => rfl) rd_asked
  have G__law_table := ok__law_table (P := P) (w := w) (base := base) T  (sp := sp_table) (FSp.len fun _ => rfl) rd_table
  have G__law_keeps := ok__law_keeps (P := P) (w := w) (base := base) T  (sp := sp_keeps) (FSp.len fun _ => rfl) rd_keeps
  have G__law_ties := ok__law_ties (P := P) (w := w) (base := base) T G__law_draw (sp := sp_ties) (HSp.len fun _ => rfl) rd_ties
  have G__law_points := ok__law_points (P := P) (w := w) (base := base) T  (sp := sp_points) (FSp.len fun _ => rfl) rd_points
  have G__law_small := ok__law_small (P := P) (w := w) (base := base) T G__law_held G__law_draw G__law_asked G__law_table G__law_keeps G__law_ties G__law_points (sp := sp_small) (HSp.len fun _ => rfl) rd_small
  have G__law_closing := ok__law_closing (P := P) (w := w) (base := base) T  (sp := sp_lclosing) MSp.len rd_lclosing
  have G__law_wide_table := ok__law_wide_table (P := P) (w := w) (base := base) T G__law_closing G__law_ties G__law_draw (sp := sp_wideTable) (HSp.len fun _ => rfl) rd_wideTable
  have G__law_wide := ok__law_wide (P := P) (w := w) (base := base) T G__law_held G__law_draw G__law_asked G__law_closing G__law_wide_table (sp := sp_wide) (HSp.len fun _ => rfl) rd_wide
  have G__law_hand := ok__law_hand (P := P) (w := w) (base := base) T  (sp := sp_hand K) sp_hand_len (rd_hand rfl)
  have G_law := ok_law (P := P) (w := w) (base := base) T G__law_small G__law_draw G__law_wide G__law_hand (sp := (sp_law K)) sp_law_len rd_law
  exact G_law
theorem all_mk {l : PySem.W.OpenLaw} {w : World} {K : PySem.W.Frag} {h : Heap} {mg : Str → Option Value} {fa f1 f2 f3 f4 f5 f6 f7 f8 f9 f10 f11 f12 f13 f14 f15 f16 f17 f18 f19 f20 f21 f22 f23 f24 f25 : Addr} (X : K.In h) (G : h.Ns mainGlobals mg) (hfa : mg "law" = some (.ref fa))
    {od1 an1 od2 an2 od3 an3 od4 an4 od5 an5 od6 an6 od7 an7 od8 an8 od9 an9 od10 an10 od11 an11 od12 an12 od13 an13 od14 an14 od15 an15 od16 an16 od17 an17 od18 an18 od19 an19 od20 an20 od21 an21 od22 an22 od23 an23 od24 an24 od25 an25 : Option Addr} {sl1 sl2 sl3 sl4 sl5 sl6 sl7 sl8 sl9 sl10 sl11 sl12 sl13 sl14 sl15 sl16 sl17 sl18 sl19 sl20 sl21 sl22 sl23 sl24 sl25 : Array (Option Value)} {oc1 kV1 dc1 pm1 cd1 ct1 oc2 kV2 dc2 pm2 cd2 ct2 oc3 kV3 dc3 pm3 cd3 ct3 oc4 kV4 dc4 pm4 cd4 ct4 oc5 kV5 dc5 pm5 cd5 ct5 oc6 kV6 dc6 pm6 cd6 ct6 oc7 kV7 dc7 pm7 cd7 ct7 oc8 kV8 dc8 pm8 cd8 ct8 oc9 kV9 dc9 pm9 cd9 ct9 oc10 kV10 dc10 pm10 cd10 ct10 oc11 kV11 dc11 pm11 cd11 ct11 oc12 kV12 dc12 pm12 cd12 ct12 oc13 kV13 dc13 pm13 cd13 ct13 oc14 kV14 dc14 pm14 cd14 ct14 oc15 kV15 dc15 pm15 cd15 ct15 oc16 kV16 dc16 pm16 cd16 ct16 oc17 kV17 dc17 pm17 cd17 ct17 oc18 kV18 dc18 pm18 cd18 ct18 oc19 kV19 dc19 pm19 cd19 ct19 oc20 kV20 dc20 pm20 cd20 ct20 oc21 kV21 dc21 pm21 cd21 ct21 oc22 kV22 dc22 pm22 cd22 ct22 oc23 kV23 dc23 pm23 cd23 ct23 oc24 kV24 dc24 pm24 cd24 ct24 oc25 kV25 dc25 pm25 cd25 ct25 : Value}
    (a1 : PySem.W.nsIn K mainGlobals "lesser" = some (some (.ref f1))) (l1 : K.lookup f1 = some ⟨oc1, od1, .func (PySem.W.fnOf "lesser" "lesser" (defArgs s_lesser) (defBody s_lesser) (defScope s_lesser) .none kV1 dc1 pm1 an1 cd1 ct1), sl1⟩) (c1 : PySem.W.codeIn K cd1 "lesser" = true) (k1 : PySem.W.keepIn K (.ref f1) = true)
    (a2 : PySem.W.nsIn K mainGlobals "led_through" = some (some (.ref f2))) (l2 : K.lookup f2 = some ⟨oc2, od2, .func (PySem.W.fnOf "led_through" "led_through" (defArgs s_led_through) (defBody s_led_through) (defScope s_led_through) .none kV2 dc2 pm2 an2 cd2 ct2), sl2⟩) (c2 : PySem.W.codeIn K cd2 "led_through" = true) (k2 : PySem.W.keepIn K (.ref f2) = true)
    (a3 : PySem.W.nsIn K mainGlobals "closure" = some (some (.ref f3))) (l3 : K.lookup f3 = some ⟨oc3, od3, .func (PySem.W.fnOf "closure" "closure" (defArgs s_closure) (defBody s_closure) (defScope s_closure) .none kV3 dc3 pm3 an3 cd3 ct3), sl3⟩) (c3 : PySem.W.codeIn K cd3 "closure" = true) (k3 : PySem.W.keepIn K (.ref f3) = true)
    (a4 : PySem.W.nsIn K mainGlobals "holds" = some (some (.ref f4))) (l4 : K.lookup f4 = some ⟨oc4, od4, .func (PySem.W.fnOf "holds" "holds" (defArgs s_holds) (defBody s_holds) (defScope s_holds) .none kV4 dc4 pm4 an4 cd4 ct4), sl4⟩) (c4 : PySem.W.codeIn K cd4 "holds" = true) (k4 : PySem.W.keepIn K (.ref f4) = true)
    (a5 : PySem.W.nsIn K mainGlobals "met" = some (some (.ref f5))) (l5 : K.lookup f5 = some ⟨oc5, od5, .func (PySem.W.fnOf "met" "met" (defArgs s_met) (defBody s_met) (defScope s_met) .none kV5 dc5 pm5 an5 cd5 ct5), sl5⟩) (c5 : PySem.W.codeIn K cd5 "met" = true) (k5 : PySem.W.keepIn K (.ref f5) = true)
    (a6 : PySem.W.nsIn K mainGlobals "joined" = some (some (.ref f6))) (l6 : K.lookup f6 = some ⟨oc6, od6, .func (PySem.W.fnOf "joined" "joined" (defArgs s_joined) (defBody s_joined) (defScope s_joined) .none kV6 dc6 pm6 an6 cd6 ct6), sl6⟩) (c6 : PySem.W.codeIn K cd6 "joined" = true) (k6 : PySem.W.keepIn K (.ref f6) = true)
    (a7 : PySem.W.nsIn K mainGlobals "lies_within" = some (some (.ref f7))) (l7 : K.lookup f7 = some ⟨oc7, od7, .func (PySem.W.fnOf "lies_within" "lies_within" (defArgs s_lies_within) (defBody s_lies_within) (defScope s_lies_within) .none kV7 dc7 pm7 an7 cd7 ct7), sl7⟩) (c7 : PySem.W.codeIn K cd7 "lies_within" = true) (k7 : PySem.W.keepIn K (.ref f7) = true)
    (a8 : PySem.W.nsIn K mainGlobals "least_of" = some (some (.ref f8))) (l8 : K.lookup f8 = some ⟨oc8, od8, .func (PySem.W.fnOf "least_of" "least_of" (defArgs s_least_of) (defBody s_least_of) (defScope s_least_of) .none kV8 dc8 pm8 an8 cd8 ct8), sl8⟩) (c8 : PySem.W.codeIn K cd8 "least_of" = true) (k8 : PySem.W.keepIn K (.ref f8) = true)
    (a9 : PySem.W.nsIn K mainGlobals "greatest_of" = some (some (.ref f9))) (l9 : K.lookup f9 = some ⟨oc9, od9, .func (PySem.W.fnOf "greatest_of" "greatest_of" (defArgs s_greatest_of) (defBody s_greatest_of) (defScope s_greatest_of) .none kV9 dc9 pm9 an9 cd9 ct9), sl9⟩) (c9 : PySem.W.codeIn K cd9 "greatest_of" = true) (k9 : PySem.W.keepIn K (.ref f9) = true)
    (a10 : PySem.W.nsIn K mainGlobals "spans" = some (some (.ref f10))) (l10 : K.lookup f10 = some ⟨oc10, od10, .func (PySem.W.fnOf "spans" "spans" (defArgs s_spans) (defBody s_spans) (defScope s_spans) .none kV10 dc10 pm10 an10 cd10 ct10), sl10⟩) (c10 : PySem.W.codeIn K cd10 "spans" = true) (k10 : PySem.W.keepIn K (.ref f10) = true)
    (a11 : PySem.W.nsIn K mainGlobals "_law_hand" = some (some (.ref f11))) (l11 : K.lookup f11 = some ⟨oc11, od11, .func (PySem.W.fnOf "_law_hand" "_law_hand" (defArgs s__law_hand) (defBody s__law_hand) (defScope s__law_hand) .none kV11 dc11 pm11 an11 cd11 ct11), sl11⟩) (c11 : PySem.W.codeIn K cd11 "_law_hand" = true) (k11 : PySem.W.keepIn K (.ref f11) = true)
    (a12 : PySem.W.nsIn K mainGlobals "_law_draw" = some (some (.ref f12))) (l12 : K.lookup f12 = some ⟨oc12, od12, .func (PySem.W.fnOf "_law_draw" "_law_draw" (defArgs s__law_draw) (defBody s__law_draw) (defScope s__law_draw) .none kV12 dc12 pm12 an12 cd12 ct12), sl12⟩) (c12 : PySem.W.codeIn K cd12 "_law_draw" = true) (k12 : PySem.W.keepIn K (.ref f12) = true)
    (a13 : PySem.W.nsIn K mainGlobals "_law_same" = some (some (.ref f13))) (l13 : K.lookup f13 = some ⟨oc13, od13, .func (PySem.W.fnOf "_law_same" "_law_same" (defArgs s__law_same) (defBody s__law_same) (defScope s__law_same) .none kV13 dc13 pm13 an13 cd13 ct13), sl13⟩) (c13 : PySem.W.codeIn K cd13 "_law_same" = true) (k13 : PySem.W.keepIn K (.ref f13) = true)
    (a14 : PySem.W.nsIn K mainGlobals "_law_points" = some (some (.ref f14))) (l14 : K.lookup f14 = some ⟨oc14, od14, .func (PySem.W.fnOf "_law_points" "_law_points" (defArgs s__law_points) (defBody s__law_points) (defScope s__law_points) .none kV14 dc14 pm14 an14 cd14 ct14), sl14⟩) (c14 : PySem.W.codeIn K cd14 "_law_points" = true) (k14 : PySem.W.keepIn K (.ref f14) = true)
    (a15 : PySem.W.nsIn K mainGlobals "_law_keeps" = some (some (.ref f15))) (l15 : K.lookup f15 = some ⟨oc15, od15, .func (PySem.W.fnOf "_law_keeps" "_law_keeps" (defArgs s__law_keeps) (defBody s__law_keeps) (defScope s__law_keeps) .none kV15 dc15 pm15 an15 cd15 ct15), sl15⟩) (c15 : PySem.W.codeIn K cd15 "_law_keeps" = true) (k15 : PySem.W.keepIn K (.ref f15) = true)
    (a16 : PySem.W.nsIn K mainGlobals "_law_table" = some (some (.ref f16))) (l16 : K.lookup f16 = some ⟨oc16, od16, .func (PySem.W.fnOf "_law_table" "_law_table" (defArgs s__law_table) (defBody s__law_table) (defScope s__law_table) .none kV16 dc16 pm16 an16 cd16 ct16), sl16⟩) (c16 : PySem.W.codeIn K cd16 "_law_table" = true) (k16 : PySem.W.keepIn K (.ref f16) = true)
    (a17 : PySem.W.nsIn K mainGlobals "_law_holds" = some (some (.ref f17))) (l17 : K.lookup f17 = some ⟨oc17, od17, .func (PySem.W.fnOf "_law_holds" "_law_holds" (defArgs s__law_holds) (defBody s__law_holds) (defScope s__law_holds) .none kV17 dc17 pm17 an17 cd17 ct17), sl17⟩) (c17 : PySem.W.codeIn K cd17 "_law_holds" = true) (k17 : PySem.W.keepIn K (.ref f17) = true)
    (a18 : PySem.W.nsIn K mainGlobals "_law_ties" = some (some (.ref f18))) (l18 : K.lookup f18 = some ⟨oc18, od18, .func (PySem.W.fnOf "_law_ties" "_law_ties" (defArgs s__law_ties) (defBody s__law_ties) (defScope s__law_ties) .none kV18 dc18 pm18 an18 cd18 ct18), sl18⟩) (c18 : PySem.W.codeIn K cd18 "_law_ties" = true) (k18 : PySem.W.keepIn K (.ref f18) = true)
    (a19 : PySem.W.nsIn K mainGlobals "_law_closing" = some (some (.ref f19))) (l19 : K.lookup f19 = some ⟨oc19, od19, .func (PySem.W.fnOf "_law_closing" "_law_closing" (defArgs s__law_closing) (defBody s__law_closing) (defScope s__law_closing) .none kV19 dc19 pm19 an19 cd19 ct19), sl19⟩) (c19 : PySem.W.codeIn K cd19 "_law_closing" = true) (k19 : PySem.W.keepIn K (.ref f19) = true)
    (a20 : PySem.W.nsIn K mainGlobals "_law_wide_table" = some (some (.ref f20))) (l20 : K.lookup f20 = some ⟨oc20, od20, .func (PySem.W.fnOf "_law_wide_table" "_law_wide_table" (defArgs s__law_wide_table) (defBody s__law_wide_table) (defScope s__law_wide_table) .none kV20 dc20 pm20 an20 cd20 ct20), sl20⟩) (c20 : PySem.W.codeIn K cd20 "_law_wide_table" = true) (k20 : PySem.W.keepIn K (.ref f20) = true)
    (a21 : PySem.W.nsIn K mainGlobals "_law_held" = some (some (.ref f21))) (l21 : K.lookup f21 = some ⟨oc21, od21, .func (PySem.W.fnOf "_law_held" "_law_held" (defArgs s__law_held) (defBody s__law_held) (defScope s__law_held) .none kV21 dc21 pm21 an21 cd21 ct21), sl21⟩) (c21 : PySem.W.codeIn K cd21 "_law_held" = true) (k21 : PySem.W.keepIn K (.ref f21) = true)
    (a22 : PySem.W.nsIn K mainGlobals "_law_asked" = some (some (.ref f22))) (l22 : K.lookup f22 = some ⟨oc22, od22, .func (PySem.W.fnOf "_law_asked" "_law_asked" (defArgs s__law_asked) (defBody s__law_asked) (defScope s__law_asked) .none kV22 dc22 pm22 an22 cd22 ct22), sl22⟩) (c22 : PySem.W.codeIn K cd22 "_law_asked" = true) (k22 : PySem.W.keepIn K (.ref f22) = true)
    (a23 : PySem.W.nsIn K mainGlobals "_law_small" = some (some (.ref f23))) (l23 : K.lookup f23 = some ⟨oc23, od23, .func (PySem.W.fnOf "_law_small" "_law_small" (defArgs s__law_small) (defBody s__law_small) (defScope s__law_small) .none kV23 dc23 pm23 an23 cd23 ct23), sl23⟩) (c23 : PySem.W.codeIn K cd23 "_law_small" = true) (k23 : PySem.W.keepIn K (.ref f23) = true)
    (a24 : PySem.W.nsIn K mainGlobals "_law_wide" = some (some (.ref f24))) (l24 : K.lookup f24 = some ⟨oc24, od24, .func (PySem.W.fnOf "_law_wide" "_law_wide" (defArgs s__law_wide) (defBody s__law_wide) (defScope s__law_wide) .none kV24 dc24 pm24 an24 cd24 ct24), sl24⟩) (c24 : PySem.W.codeIn K cd24 "_law_wide" = true) (k24 : PySem.W.keepIn K (.ref f24) = true)
    (a25 : PySem.W.nsIn K mainGlobals "law" = some (some (.ref f25))) (l25 : K.lookup f25 = some ⟨oc25, od25, .func (PySem.W.fnOf "law" "law" (defArgs s_law) (defBody s_law) (defScope s_law) .none kV25 dc25 pm25 an25 cd25 ct25), sl25⟩) (c25 : PySem.W.codeIn K cd25 "law" = true) (k25 : PySem.W.keepIn K (.ref f25) = true)
    (z1 : PySem.W.nsIn K mainGlobals "all" = some none)
    (z2 : PySem.W.nsIn K mainGlobals "bool" = some none)
    (z3 : PySem.W.nsIn K mainGlobals "enumerate" = some none)
    (z4 : PySem.W.nsIn K mainGlobals "int" = some none)
    (z5 : PySem.W.nsIn K mainGlobals "isinstance" = some none)
    (z6 : PySem.W.nsIn K mainGlobals "len" = some none)
    (z7 : PySem.W.nsIn K mainGlobals "list" = some none)
    (z8 : PySem.W.nsIn K mainGlobals "max" = some none)
    (z9 : PySem.W.nsIn K mainGlobals "min" = some none)
    (z10 : PySem.W.nsIn K mainGlobals "range" = some none)
    (z11 : PySem.W.nsIn K mainGlobals "str" = some none)
    (z12 : PySem.W.nsIn K mainGlobals "tuple" = some none)
    (z13 : PySem.W.nsIn K mainGlobals "zip" = some none)
    : ∃ fd : FuncData, (∀ (s : Shared) (v : Value), BindsTo s fd ⟨[v], []⟩ [("script", v)]) ∧ ∀ base : Heap, K.In base → base.Ns mainGlobals mg → FnOk l.prog w K mg base CX0 7 fa fd ["script"] (sp_law K) := by
  have e := hfa.symm.trans (PySem.W.mg_of X G a25)
  cases e
  have F1 := fun_mk (st := s_lesser) l1 c1 k1
  have b1 := F1.binds (ps := ["bound", "left", "right"]) fun _ _ _ _ _ _ us hl => match us, hl with | [_, _, _], _ => rfl
  have F2 := fun_mk (st := s_led_through) l2 c2 k2
  have b2 := F2.binds (ps := ["rows", "middle"]) fun _ _ _ _ _ _ us hl => match us, hl with | [_, _], _ => rfl
  have F3 := fun_mk (st := s_closure) l3 c3 k3
  have b3 := F3.binds (ps := ["bounds"]) fun _ _ _ _ _ _ us hl => match us, hl with | [_], _ => rfl
  have F4 := fun_mk (st := s_holds) l4 c4 k4
  have b4 := F4.binds (ps := ["table", "values"]) fun _ _ _ _ _ _ us hl => match us, hl with | [_, _], _ => rfl
  have F5 := fun_mk (st := s_met) l5 c5 k5
  have b5 := F5.binds (ps := ["one", "other"]) fun _ _ _ _ _ _ us hl => match us, hl with | [_, _], _ => rfl
  have F6 := fun_mk (st := s_joined) l6 c6 k6
  have b6 := F6.binds (ps := ["one", "other"]) fun _ _ _ _ _ _ us hl => match us, hl with | [_, _], _ => rfl
  have F7 := fun_mk (st := s_lies_within) l7 c7 k7
  have b7 := F7.binds (ps := ["one", "other"]) fun _ _ _ _ _ _ us hl => match us, hl with | [_, _], _ => rfl
  have F8 := fun_mk (st := s_least_of) l8 c8 k8
  have b8 := F8.binds (ps := ["table"]) fun _ _ _ _ _ _ us hl => match us, hl with | [_], _ => rfl
  have F9 := fun_mk (st := s_greatest_of) l9 c9 k9
  have b9 := F9.binds (ps := ["table"]) fun _ _ _ _ _ _ us hl => match us, hl with | [_], _ => rfl
  have F10 := fun_mk (st := s_spans) l10 c10 k10
  have b10 := F10.binds (ps := ["table"]) fun _ _ _ _ _ _ us hl => match us, hl with | [_], _ => rfl
  have F11 := fun_mk (st := s__law_hand) l11 c11 k11
  have b11 := F11.binds (ps := ["script"]) fun _ _ _ _ _ _ us hl => match us, hl with | [_], _ => rfl
  have F12 := fun_mk (st := s__law_draw) l12 c12 k12
  have b12 := F12.binds (ps := ["hand", "many"]) fun _ _ _ _ _ _ us hl => match us, hl with | [_, _], _ => rfl
  have F13 := fun_mk (st := s__law_same) l13 c13 k13
  have b13 := F13.binds (ps := ["told", "due"]) fun _ _ _ _ _ _ us hl => match us, hl with | [_, _], _ => rfl
  have F14 := fun_mk (st := s__law_points) l14 c14 k14
  have b14 := F14.binds (ps := ["low", "sizes"]) fun _ _ _ _ _ _ us hl => match us, hl with | [_, _], _ => rfl
  have F15 := fun_mk (st := s__law_keeps) l15 c15 k15
  have b15 := F15.binds (ps := ["point", "ties"]) fun _ _ _ _ _ _ us hl => match us, hl with | [_, _], _ => rfl
  have F16 := fun_mk (st := s__law_table) l16 c16 k16
  have b16 := F16.binds (ps := ["lot"]) fun _ _ _ _ _ _ us hl => match us, hl with | [_], _ => rfl
  have F17 := fun_mk (st := s__law_holds) l17 c17 k17
  have b17 := F17.binds (ps := ["table", "point"]) fun _ _ _ _ _ _ us hl => match us, hl with | [_, _], _ => rfl
  have F18 := fun_mk (st := s__law_ties) l18 c18 k18
  have b18 := F18.binds (ps := ["hand", "witness", "most", "slack"]) fun _ _ _ _ _ _ us hl => match us, hl with | [_, _, _, _], _ => rfl
  have F19 := fun_mk (st := s__law_closing) l19 c19 k19
  have b19 := F19.binds (ps := ["rows"]) fun _ _ _ _ _ _ us hl => match us, hl with | [_], _ => rfl
  have F20 := fun_mk (st := s__law_wide_table) l20 c20 k20
  have b20 := F20.binds (ps := ["hand", "witness"]) fun _ _ _ _ _ _ us hl => match us, hl with | [_, _], _ => rfl
  have F21 := fun_mk (st := s__law_held) l21 c21 k21
  have b21 := F21.binds (ps := ["hand", "table", "points"]) fun _ _ _ _ _ _ us hl => match us, hl with | [_, _, _], _ => rfl
  have F22 := fun_mk (st := s__law_asked) l22 c22 k22
  have b22 := F22.binds (ps := ["first", "second", "dues"]) fun _ _ _ _ _ _ us hl => match us, hl with | [_, _, _], _ => rfl
  have F23 := fun_mk (st := s__law_small) l23 c23 k23
  have b23 := F23.binds (ps := ["hand"]) fun _ _ _ _ _ _ us hl => match us, hl with | [_], _ => rfl
  have F24 := fun_mk (st := s__law_wide) l24 c24 k24
  have b24 := F24.binds (ps := ["hand"]) fun _ _ _ _ _ _ us hl => match us, hl with | [_], _ => rfl
  have F25 := fun_mk (st := s_law) l25 c25 k25
  have b25 := F25.binds (ps := ["script"]) fun _ _ _ _ _ _ us hl => match us, hl with | [_], _ => rfl
  let A : Ads := ⟨f1, f2, f3, f4, f5, f6, f7, f8, f9, f10, f11, f12, f13, f14, f15, f16, f17, f18, f19, f20, f21, f22, f23, f24, fa⟩
  let D : Fds := ⟨PySem.W.fnOf "lesser" "lesser" (defArgs s_lesser) (defBody s_lesser) (defScope s_lesser) .none kV1 dc1 pm1 an1 cd1 ct1, PySem.W.fnOf "led_through" "led_through" (defArgs s_led_through) (defBody s_led_through) (defScope s_led_through) .none kV2 dc2 pm2 an2 cd2 ct2, PySem.W.fnOf "closure" "closure" (defArgs s_closure) (defBody s_closure) (defScope s_closure) .none kV3 dc3 pm3 an3 cd3 ct3, PySem.W.fnOf "holds" "holds" (defArgs s_holds) (defBody s_holds) (defScope s_holds) .none kV4 dc4 pm4 an4 cd4 ct4, PySem.W.fnOf "met" "met" (defArgs s_met) (defBody s_met) (defScope s_met) .none kV5 dc5 pm5 an5 cd5 ct5, PySem.W.fnOf "joined" "joined" (defArgs s_joined) (defBody s_joined) (defScope s_joined) .none kV6 dc6 pm6 an6 cd6 ct6, PySem.W.fnOf "lies_within" "lies_within" (defArgs s_lies_within) (defBody s_lies_within) (defScope s_lies_within) .none kV7 dc7 pm7 an7 cd7 ct7, PySem.W.fnOf "least_of" "least_of" (defArgs s_least_of) (defBody s_least_of) (defScope s_least_of) .none kV8 dc8 pm8 an8 cd8 ct8, PySem.W.fnOf "greatest_of" "greatest_of" (defArgs s_greatest_of) (defBody s_greatest_of) (defScope s_greatest_of) .none kV9 dc9 pm9 an9 cd9 ct9, PySem.W.fnOf "spans" "spans" (defArgs s_spans) (defBody s_spans) (defScope s_spans) .none kV10 dc10 pm10 an10 cd10 ct10, PySem.W.fnOf "_law_hand" "_law_hand" (defArgs s__law_hand) (defBody s__law_hand) (defScope s__law_hand) .none kV11 dc11 pm11 an11 cd11 ct11, PySem.W.fnOf "_law_draw" "_law_draw" (defArgs s__law_draw) (defBody s__law_draw) (defScope s__law_draw) .none kV12 dc12 pm12 an12 cd12 ct12, PySem.W.fnOf "_law_same" "_law_same" (defArgs s__law_same) (defBody s__law_same) (defScope s__law_same) .none kV13 dc13 pm13 an13 cd13 ct13, PySem.W.fnOf "_law_points" "_law_points" (defArgs s__law_points) (defBody s__law_points) (defScope s__law_points) .none kV14 dc14 pm14 an14 cd14 ct14, PySem.W.fnOf "_law_keeps" "_law_keeps" (defArgs s__law_keeps) (defBody s__law_keeps) (defScope s__law_keeps) .none kV15 dc15 pm15 an15 cd15 ct15, PySem.W.fnOf "_law_table" "_law_table" (defArgs s__law_table) (defBody s__law_table) (defScope s__law_table) .none kV16 dc16 pm16 an16 cd16 ct16, PySem.W.fnOf "_law_holds" "_law_holds" (defArgs s__law_holds) (defBody s__law_holds) (defScope s__law_holds) .none kV17 dc17 pm17 an17 cd17 ct17, PySem.W.fnOf "_law_ties" "_law_ties" (defArgs s__law_ties) (defBody s__law_ties) (defScope s__law_ties) .none kV18 dc18 pm18 an18 cd18 ct18, PySem.W.fnOf "_law_closing" "_law_closing" (defArgs s__law_closing) (defBody s__law_closing) (defScope s__law_closing) .none kV19 dc19 pm19 an19 cd19 ct19, PySem.W.fnOf "_law_wide_table" "_law_wide_table" (defArgs s__law_wide_table) (defBody s__law_wide_table) (defScope s__law_wide_table) .none kV20 dc20 pm20 an20 cd20 ct20, PySem.W.fnOf "_law_held" "_law_held" (defArgs s__law_held) (defBody s__law_held) (defScope s__law_held) .none kV21 dc21 pm21 an21 cd21 ct21, PySem.W.fnOf "_law_asked" "_law_asked" (defArgs s__law_asked) (defBody s__law_asked) (defScope s__law_asked) .none kV22 dc22 pm22 an22 cd22 ct22, PySem.W.fnOf "_law_small" "_law_small" (defArgs s__law_small) (defBody s__law_small) (defScope s__law_small) .none kV23 dc23 pm23 an23 cd23 ct23, PySem.W.fnOf "_law_wide" "_law_wide" (defArgs s__law_wide) (defBody s__law_wide) (defScope s__law_wide) .none kV24 dc24 pm24 an24 cd24 ct24, PySem.W.fnOf "law" "law" (defArgs s_law) (defBody s_law) (defScope s_law) .none kV25 dc25 pm25 an25 cd25 ct25⟩
  have T : Txt K mg A D := ⟨F1, (PySem.W.mg_of X G a1), b1, F2, (PySem.W.mg_of X G a2), b2, F3, (PySem.W.mg_of X G a3), b3, F4, (PySem.W.mg_of X G a4), b4, F5, (PySem.W.mg_of X G a5), b5, F6, (PySem.W.mg_of X G a6), b6, F7, (PySem.W.mg_of X G a7), b7, F8, (PySem.W.mg_of X G a8), b8, F9, (PySem.W.mg_of X G a9), b9, F10, (PySem.W.mg_of X G a10), b10, F11, (PySem.W.mg_of X G a11), b11, F12, (PySem.W.mg_of X G a12), b12, F13, (PySem.W.mg_of X G a13), b13, F14, (PySem.W.mg_of X G a14), b14, F15, (PySem.W.mg_of X G a15), b15, F16, (PySem.W.mg_of X G a16), b16, F17, (PySem.W.mg_of X G a17), b17, F18, (PySem.W.mg_of X G a18), b18, F19, (PySem.W.mg_of X G a19), b19, F20, (PySem.W.mg_of X G a20), b20, F21, (PySem.W.mg_of X G a21), b21, F22, (PySem.W.mg_of X G a22), b22, F23, (PySem.W.mg_of X G a23), b23, F24, (PySem.W.mg_of X G a24), b24, F25, (PySem.W.mg_of X G a25), b25, (PySem.W.mg_none_of X G z1), (PySem.W.mg_none_of X G z2), (PySem.W.mg_none_of X G z3), (PySem.W.mg_none_of X G z4), (PySem.W.mg_none_of X G z5), (PySem.W.mg_none_of X G z6), (PySem.W.mg_none_of X G z7), (PySem.W.mg_none_of X G z8), (PySem.W.mg_none_of X G z9), (PySem.W.mg_none_of X G z10), (PySem.W.mg_none_of X G z11), (PySem.W.mg_none_of X G z12), (PySem.W.mg_none_of X G z13)⟩
  exact ⟨D.law, fun s v => .of_eq rfl, fun base _ _ => all_ok T⟩
end K52
open PySem PySem.W PyProof.Rows
set_option maxHeartbeats 0 in
theorem PySem.Challenge.cw_everyinput_k52_whole_lots_by_all_values_holds : PySem.Challenge.rw_everyinput_k52_whole_lots_by_all_values.Holds := by
  w_on; o_law; k_head; (case hw => w_witness2)
  k_fill
  refine L2.walk_of (l := PySem.Challenge.rw_everyinput_k52_whole_lots_by_all_values) (n := 63) (k := 7) (x := "script") (CX := fun _ => L2.CX0) (sp := fun w => DL.sp_law _) rfl (by decide) rfl ⟨rfl, by decide, by decide⟩ (fun w h Y => PySem.W.kIn_of Y) ?F (fun _ _ a ns hl _ hS => ⟨a, ns, rfl, hS, hl, fun _ => rfl⟩) (fun _ _ _ _ _ h => h)
  case F =>
    intro w mg fa h KX G hmg
    refine' K52.all_mk KX G hmg ?a1 ?l1 ?c1 ?k1 ?a2 ?l2 ?c2 ?k2 ?a3 ?l3 ?c3 ?k3 ?a4 ?l4 ?c4 ?k4 ?a5 ?l5 ?c5 ?k5 ?a6 ?l6 ?c6 ?k6 ?a7 ?l7 ?c7 ?k7 ?a8 ?l8 ?c8 ?k8 ?a9 ?l9 ?c9 ?k9 ?a10 ?l10 ?c10 ?k10 ?a11 ?l11 ?c11 ?k11 ?a12 ?l12 ?c12 ?k12 ?a13 ?l13 ?c13 ?k13 ?a14 ?l14 ?c14 ?k14 ?a15 ?l15 ?c15 ?k15 ?a16 ?l16 ?c16 ?k16 ?a17 ?l17 ?c17 ?k17 ?a18 ?l18 ?c18 ?k18 ?a19 ?l19 ?c19 ?k19 ?a20 ?l20 ?c20 ?k20 ?a21 ?l21 ?c21 ?k21 ?a22 ?l22 ?c22 ?k22 ?a23 ?l23 ?c23 ?k23 ?a24 ?l24 ?c24 ?k24 ?a25 ?l25 ?c25 ?k25 ?z1 ?z2 ?z3 ?z4 ?z5 ?z6 ?z7 ?z8 ?z9 ?z10 ?z11 ?z12 ?z13
    (case a1 => k_is); (case l1 => k_is); (case c1 => k_is); (case k1 => k_is); (case a2 => k_is); (case l2 => k_is); (case c2 => k_is); (case k2 => k_is); (case a3 => k_is); (case l3 => k_is); (case c3 => k_is); (case k3 => k_is); (case a4 => k_is); (case l4 => k_is); (case c4 => k_is); (case k4 => k_is); (case a5 => k_is); (case l5 => k_is); (case c5 => k_is); (case k5 => k_is); (case a6 => k_is); (case l6 => k_is); (case c6 => k_is); (case k6 => k_is); (case a7 => k_is); (case l7 => k_is); (case c7 => k_is); (case k7 => k_is); (case a8 => k_is); (case l8 => k_is); (case c8 => k_is); (case k8 => k_is); (case a9 => k_is); (case l9 => k_is); (case c9 => k_is); (case k9 => k_is); (case a10 => k_is); (case l10 => k_is); (case c10 => k_is); (case k10 => k_is); (case a11 => k_is); (case l11 => k_is); (case c11 => k_is); (case k11 => k_is); (case a12 => k_is); (case l12 => k_is); (case c12 => k_is); (case k12 => k_is); (case a13 => k_is); (case l13 => k_is); (case c13 => k_is); (case k13 => k_is); (case a14 => k_is); (case l14 => k_is); (case c14 => k_is); (case k14 => k_is); (case a15 => k_is); (case l15 => k_is); (case c15 => k_is); (case k15 => k_is); (case a16 => k_is); (case l16 => k_is); (case c16 => k_is); (case k16 => k_is); (case a17 => k_is); (case l17 => k_is); (case c17 => k_is); (case k17 => k_is); (case a18 => k_is); (case l18 => k_is); (case c18 => k_is); (case k18 => k_is); (case a19 => k_is); (case l19 => k_is); (case c19 => k_is); (case k19 => k_is); (case a20 => k_is); (case l20 => k_is); (case c20 => k_is); (case k20 => k_is); (case a21 => k_is); (case l21 => k_is); (case c21 => k_is); (case k21 => k_is); (case a22 => k_is); (case l22 => k_is); (case c22 => k_is); (case k22 => k_is); (case a23 => k_is); (case l23 => k_is); (case c23 => k_is); (case k23 => k_is); (case a24 => k_is); (case l24 => k_is); (case c24 => k_is); (case k24 => k_is); (case a25 => k_is); (case l25 => k_is); (case c25 => k_is); (case k25 => k_is); (case z1 => k_is); (case z2 => k_is); (case z3 => k_is); (case z4 => k_is); (case z5 => k_is); (case z6 => k_is); (case z7 => k_is); (case z8 => k_is); (case z9 => k_is); (case z10 => k_is); (case z11 => k_is); (case z12 => k_is); (case z13 => k_is)

